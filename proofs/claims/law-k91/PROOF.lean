import PyProof.Rows.All
import Wide.All
import OpenK.AllK
import Wide.FinOn
import HandS.ForMost
import HandS.ForExc
import HandS.IsInst
import HandS.Wide
import HandS.SetKeys
import HandS.ExcInit
import HandS.Defaults
import HandS.Property
import HandS.Deep
import HandS.FStr
import HandS.TryMany
import HandS.Zip
import HandS.CallSlots
import HandS.Walk
import HandS.Style
import HandS.TupAny
import HandS.RevTup
import HandS.Small
import HandS.More
import KE.KExcIs
import HandS.ExcField
import HandS.EndBits
import PyProof.ReprRoads
import PySem.Challenge.RW_stillmine_k91_errors_by_hand
set_option Elab.async false
set_option linter.all false
set_option maxRecDepth 100000
set_option maxHeartbeats 4000000
/-! ML 1: mirror values, the mirror heap, their relation to the tracked heap, readings of mirrors -/
namespace ML
open PySem PySem.Spec PyProof.Rows L2

/-- a mirror value: tuples stand as they are; ref n: the n-th object of the mirror heap; glb x: what the module's name x holds (a class, a def) -/
inductive D where
  | non | bl (b : Bool) | int (i : Int) | str (s : Str) | ty (n : String)
  | tup (l : List D) | ref (n : Nat) | glb (x : Str)
/-- a mirror object -/
inductive O where
  | lst (l : List D) | rdl (l : List D) | dct (kvs : List (Key × D)) | ins (c : Str) (fs : List (Str × D)) | xc (c : Str) (fs : List (Str × D)) | gone
abbrev MH := List O
abbrev Env := List (Option D)
inductive R (α : Type) where
  | ok (a : α) (h : MH) | exc (c : Str) (fs : List (Str × D)) (h : MH) | bad
inductive S where
  | nx (e : Env) (h : MH) | rt (d : D) (h : MH) | bk (e : Env) (h : MH) | ct (e : Env) (h : MH) | exc (c : Str) (fs : List (Str × D)) (e : Env) (h : MH) | bad
abbrev EM := Env → MH → R D
abbrev TM := Env → MH → R Bool
abbrev AM := Env → MH → R (List D)
abbrev SM := Env → MH → S
abbrev FM := List D → MH → R D
def R.bind {α β : Type} (r : R α) (f : α → MH → R β) : R β := match r with
  | .ok a h => f a h
  | .exc c fs h => .exc c fs h
  | .bad => .bad

structure Gd where
  K : PySem.W.Frag
  mg : Str → Option Value
abbrev gd (X : Cx) : Gd := ⟨X.K, X.mg⟩

section
variable (g : Gd) (ρ : List Addr) (H : Hp)
mutual
def RD : D → V → Prop
  | .non, v => v = .non
  | .bl b, v => v = .bl b
  | .int i, v => v = .int i
  | .str s, v => v = .str s
  | .ty n, v => v = .ty n
  | .tup l, v => ∃ a vs, v = .ref a ∧ SqT g.K H a vs ∧ RDs l vs
  | .ref n, v => ∃ a, ρ[n]? = some a ∧ v = .ref a
  | .glb x, v => ∃ a, g.mg x = some (.ref a) ∧ v = .ref a
def RDs : List D → List V → Prop
  | [], vs => vs = []
  | d :: l, vs => ∃ v r, vs = v :: r ∧ RD d v ∧ RDs l r
end
def RP {α : Type} : List (α × D) → List (α × V) → Prop
  | [], l => l = []
  | (f, d) :: r, l => ∃ v s, l = (f, v) :: s ∧ RD g ρ H d v ∧ RP r s
/-- a list that is read alone: the script, a list of the written part -/
def RdL (K : PySem.W.Frag) (H : Hp) (a : Addr) (vs : List V) : Prop := (∃ o, H a = some (.frz o (.lst vs))) ∨
  ∃ (o : Obj) (its : Array Value) (n : Nat), K.lookup a = some o ∧ o.cls = .type "list" ∧ o.dict = none ∧ o.data = .seq its n ∧ its.size ≤ sizeLine ∧ Vals vs its.toList
def RO : O → Addr → Prop
  | .lst l, a => ∃ vs, H a = some (.lst vs) ∧ RDs g ρ H l vs
  | .rdl l, a => ∃ vs, RdL g.K H a vs ∧ RDs g ρ H l vs
  | .dct kvs, a => ∃ ws, H a = some (.dK ws) ∧ RP g ρ H kvs ws
  | .ins c fs, a => ∃ C dx gs, g.mg c = some (.ref C) ∧ H a = some (.ins C dx gs) ∧ RP g ρ H fs gs
  | .xc c fs, a => ∃ C dx gs, g.mg c = some (.ref C) ∧ H a = some (exo a C (some dx)) ∧ H dx = some (exd dx gs) ∧ RP g ρ H fs gs
  | .gone, _ => True
def O.mut : O → Bool
  | .lst _ => true
  | .dct _ => true
  | .ins _ _ => true
  | _ => false
structure RH (h : MH) : Prop where
  len : ρ.length = h.length
  obj : ∀ (n : Nat) o a, h[n]? = some o → ρ[n]? = some a → RO g ρ H o a
  inj : ∀ (n m : Nat) o o' a, h[n]? = some o → h[m]? = some o' → o.mut = true → o'.mut = true → ρ[n]? = some a → ρ[m]? = some a → n = m
/-- the slots -/
structure RS (e : Env) (σ : L2.St) : Prop where
  len : e.length = σ.length
  get : ∀ (i : Nat) d, e[i]? = some (some d) → ∃ v, σ[i]? = some (some v) ∧ RD g ρ H d v
end
/-- what stays: addresses, tuples, errors' dicts, frozen things -/
structure Lat (g : Gd) (ρ : List Addr) (H : Hp) (ρ' : List Addr) (H' : Hp) : Prop where
  pre : ∃ t, ρ' = ρ ++ t
  tup : ∀ a xs, H a = some (.tup xs) → H' a = some (.tup xs)
  frz : ∀ a o u, H a = some (.frz o u) → H' a = some (.frz o u)
  xd : ∀ a fs, H a = some (.xd fs) → H' a = some (.xd fs)
  ext : ∀ a φ, H a = some (.ext φ) → H' a = some (.ext φ)

section
variable {g : Gd} {ρ ρ' ρ'' : List Addr} {H H' H'' : Hp} {h h' : MH}
theorem Lat.refl : Lat g ρ H ρ H := ⟨⟨[], by simp⟩, fun _ _ e => e, fun _ _ _ e => e, fun _ _ e => e, fun _ _ e => e⟩
theorem Lat.trans (a : Lat g ρ H ρ' H') (b : Lat g ρ' H' ρ'' H'') : Lat g ρ H ρ'' H'' := by
  obtain ⟨t, e⟩ := a.pre
  obtain ⟨u, e'⟩ := b.pre
  exact ⟨⟨t ++ u, by rw [e', e, List.append_assoc]⟩, fun x xs q => b.tup x xs (a.tup x xs q), fun x o u q => b.frz x o u (a.frz x o u q), fun x fs q => b.xd x fs (a.xd x fs q), fun x φ q => b.ext x φ (a.ext x φ q)⟩
theorem Lat.sqT (a : Lat g ρ H ρ' H') {x : Addr} {xs : List V} (q : SqT g.K H x xs) : SqT g.K H' x xs := by
  rcases q with (q | ⟨o, q⟩) | q
  · exact .inl (.inl (a.tup _ _ q))
  · exact .inl (.inr ⟨o, a.frz _ _ _ q⟩)
  · exact .inr q
theorem Lat.at (a : Lat g ρ H ρ' H') {n : Nat} {x : Addr} (q : ρ[n]? = some x) : ρ'[n]? = some x := by
  obtain ⟨t, e⟩ := a.pre
  rw [e]
  rw [List.getElem?_append_left (List.getElem?_eq_some_iff.mp q).1]
  exact q
mutual
theorem Lat.rd (a : Lat g ρ H ρ' H') : ∀ (d : D) {v : V}, RD g ρ H d v → RD g ρ' H' d v
  | .non, _, q => q
  | .bl _, _, q => q
  | .int _, _, q => q
  | .str _, _, q => q
  | .ty _, _, q => q
  | .tup l, _, q => by
    unfold RD at q ⊢
    obtain ⟨x, vs, e, s, r⟩ := q
    exact ⟨x, vs, e, a.sqT s, Lat.rds a l r⟩
  | .ref n, _, q => by
    unfold RD at q ⊢
    obtain ⟨x, e, r⟩ := q
    exact ⟨x, a.at e, r⟩
  | .glb _, _, q => by
    unfold RD at q ⊢
    exact q
theorem Lat.rds (a : Lat g ρ H ρ' H') : ∀ (l : List D) {vs : List V}, RDs g ρ H l vs → RDs g ρ' H' l vs
  | [], _, q => by
    unfold RDs at q ⊢
    exact q
  | d :: l, _, q => by
    unfold RDs at q ⊢
    obtain ⟨v, r, e, q1, q2⟩ := q
    exact ⟨v, r, e, Lat.rd a d q1, Lat.rds a l q2⟩
end
theorem Lat.rp {α : Type} (a : Lat g ρ H ρ' H') : ∀ (l : List (α × D)) {vs : List (α × V)}, RP g ρ H l vs → RP g ρ' H' l vs
  | [], _, q => q
  | (f, d) :: l, _, q => by
    obtain ⟨v, r, e, q1, q2⟩ := q
    exact ⟨v, r, e, a.rd d q1, Lat.rp a l q2⟩
theorem Lat.rs (a : Lat g ρ H ρ' H') {e : Env} {σ : L2.St} (q : RS g ρ H e σ) : RS g ρ' H' e σ := ⟨q.len, fun i d z => by
  obtain ⟨v, z1, z2⟩ := q.get i d z
  exact ⟨v, z1, a.rd d z2⟩⟩
theorem RDs.length : ∀ {l : List D} {vs : List V}, RDs g ρ H l vs → l.length = vs.length
  | [], _, q => by unfold RDs at q; subst q; rfl
  | d :: l, _, q => by
    unfold RDs at q
    obtain ⟨v, r, e, _, q2⟩ := q
    subst e
    simp [RDs.length q2]
theorem RDs.get : ∀ {l : List D} {vs : List V} {i : Nat} {d : D}, RDs g ρ H l vs → l[i]? = some d → ∃ v, vs[i]? = some v ∧ RD g ρ H d v
  | [], _, i, d, q, e => by simp at e
  | x :: l, _, 0, d, q, e => by
    unfold RDs at q
    obtain ⟨v, r, e', q1, q2⟩ := q
    subst e'
    simp at e
    subst e
    exact ⟨v, rfl, q1⟩
  | x :: l, _, i + 1, d, q, e => by
    unfold RDs at q
    obtain ⟨v, r, e', q1, q2⟩ := q
    subst e'
    obtain ⟨w, a, b⟩ := RDs.get (i := i) (d := d) q2 (by simpa using e)
    exact ⟨w, by simpa using a, b⟩
theorem RDs.get' : ∀ {l : List D} {vs : List V} {i : Nat} {v : V}, RDs g ρ H l vs → vs[i]? = some v → ∃ d, l[i]? = some d ∧ RD g ρ H d v := fun {l vs i v} q e => by
  have hi : i < l.length := by rw [q.length]; exact (List.getElem?_eq_some_iff.mp e).1
  obtain ⟨w, e1, r⟩ := RDs.get (d := l[i]) q (List.getElem?_eq_getElem hi)
  rw [e] at e1
  cases e1
  exact ⟨l[i], List.getElem?_eq_getElem hi, r⟩
theorem RDs.append : ∀ {l m : List D} {vs ws : List V}, RDs g ρ H l vs → RDs g ρ H m ws → RDs g ρ H (l ++ m) (vs ++ ws)
  | [], _, _, _, q, r => by unfold RDs at q; subst q; exact r
  | d :: l, m, _, ws, q, r => by
    unfold RDs at q
    obtain ⟨v, s, e, q1, q2⟩ := q
    subst e
    rw [List.cons_append]
    unfold RDs
    exact ⟨v, s ++ ws, rfl, q1, RDs.append q2 r⟩
theorem RDs.nil : RDs g ρ H [] [] := by unfold RDs; rfl
theorem RDs.cons {d : D} {v : V} {l : List D} {vs : List V} (a : RD g ρ H d v) (b : RDs g ρ H l vs) : RDs g ρ H (d :: l) (v :: vs) := by unfold RDs; exact ⟨v, vs, rfl, a, b⟩
theorem RDs.one {d : D} {v : V} (a : RD g ρ H d v) : RDs g ρ H [d] [v] := .cons a .nil
theorem RDs.inv {d : D} {l : List D} {vs : List V} (q : RDs g ρ H (d :: l) vs) : ∃ v r, vs = v :: r ∧ RD g ρ H d v ∧ RDs g ρ H l r := by unfold RDs at q; exact q
theorem RDs.invNil {vs : List V} (q : RDs g ρ H [] vs) : vs = [] := by unfold RDs at q; exact q
theorem RDs.take : ∀ {l : List D} {vs : List V} (n : Nat), RDs g ρ H l vs → RDs g ρ H (l.take n) (vs.take n)
  | _, _, 0, _ => by simp only [List.take_zero]; exact .nil
  | [], _, n + 1, q => by rw [q.invNil]; simp only [List.take_nil]; exact .nil
  | d :: l, _, n + 1, q => by
    obtain ⟨v, r, e, q1, q2⟩ := q.inv
    subst e
    simp only [List.take_succ_cons]
    exact .cons q1 (RDs.take n q2)
theorem RDs.drop : ∀ {l : List D} {vs : List V} (n : Nat), RDs g ρ H l vs → RDs g ρ H (l.drop n) (vs.drop n)
  | _, _, 0, q => q
  | [], _, n + 1, q => by rw [q.invNil]; simp only [List.drop_nil]; exact .nil
  | d :: l, _, n + 1, q => by
    obtain ⟨v, r, e, q1, q2⟩ := q.inv
    subst e
    exact RDs.drop n q2
theorem RDs.set : ∀ {l : List D} {vs : List V} {d : D} {v : V} (n : Nat), RDs g ρ H l vs → RD g ρ H d v → RDs g ρ H (l.set n d) (vs.set n v)
  | [], _, _, _, n, q, _ => by rw [q.invNil]; exact .nil
  | x :: l, _, d, w, 0, q, r => by
    obtain ⟨v, s, e, q1, q2⟩ := q.inv
    subst e
    exact .cons r q2
  | x :: l, _, d, w, n + 1, q, r => by
    obtain ⟨v, s, e, q1, q2⟩ := q.inv
    subst e
    exact .cons q1 (RDs.set n q2 r)
theorem RDs.reverse {l : List D} {vs : List V} (q : RDs g ρ H l vs) : RDs g ρ H l.reverse vs.reverse := by
  induction l generalizing vs with
  | nil => rw [q.invNil]; exact .nil
  | cons d l ih =>
    obtain ⟨v, r, e, q1, q2⟩ := q.inv
    subst e
    rw [List.reverse_cons, List.reverse_cons]
    exact (ih q2).append (.one q1)
theorem RDs.eraseIdx : ∀ {l : List D} {vs : List V} (n : Nat), RDs g ρ H l vs → RDs g ρ H (l.eraseIdx n) (vs.eraseIdx n)
  | [], _, n, q => by rw [q.invNil]; exact .nil
  | d :: l, _, 0, q => by
    obtain ⟨v, s, e, q1, q2⟩ := q.inv
    subst e
    exact q2
  | d :: l, _, n + 1, q => by
    obtain ⟨v, s, e, q1, q2⟩ := q.inv
    subst e
    exact .cons q1 (RDs.eraseIdx n q2)

/-! ### the heap grows, an object changes -/
/-- what may be written over without loss -/
def Soft (H : Hp) (p : Addr) : Prop := ∀ u, H p = some u → (∀ xs, u ≠ .tup xs) ∧ (∀ o w, u ≠ .frz o w) ∧ (∀ fs, u ≠ .xd fs) ∧ (∀ φ, u ≠ .ext φ)
theorem Soft.none {p : Addr} (e : H p = none) : Soft H p := fun u q => by rw [e] at q; cases q
theorem Soft.lst {p : Addr} {xs : List V} (e : H p = some (.lst xs)) : Soft H p := fun u q => by
  rw [e] at q; cases q
  exact ⟨fun _ z => (nomatch z), fun _ _ z => (nomatch z), fun _ z => (nomatch z), fun _ z => (nomatch z)⟩
theorem Soft.dK {p : Addr} {xs : List (Key × V)} (e : H p = some (.dK xs)) : Soft H p := fun u q => by
  rw [e] at q; cases q
  exact ⟨fun _ z => (nomatch z), fun _ _ z => (nomatch z), fun _ z => (nomatch z), fun _ z => (nomatch z)⟩
theorem Soft.ins {p C dx : Addr} {xs : List (Str × V)} (e : H p = some (.ins C dx xs)) : Soft H p := fun u q => by
  rw [e] at q; cases q
  exact ⟨fun _ z => (nomatch z), fun _ _ z => (nomatch z), fun _ z => (nomatch z), fun _ z => (nomatch z)⟩
theorem Lat.upd {p : Addr} {u : HO} (s : Soft H p) : Lat g ρ H ρ (L2.upd H p u) :=
  ⟨⟨[], by simp⟩, fun a xs e => by
      rw [upd_ne]; exact e
      intro z; subst z; exact (s _ e).1 _ rfl,
    fun a o w e => by
      rw [upd_ne]; exact e
      intro z; subst z; exact (s _ e).2.1 _ _ rfl,
    fun a fs e => by
      rw [upd_ne]; exact e
      intro z; subst z; exact (s _ e).2.2.1 _ rfl,
    fun a fs e => by
      rw [upd_ne]; exact e
      intro z; subst z; exact (s _ e).2.2.2 _ rfl⟩
theorem Lat.more {p : Addr} : Lat g ρ H (ρ ++ [p]) H := ⟨⟨[p], rfl⟩, fun _ _ e => e, fun _ _ _ e => e, fun _ _ e => e, fun _ _ e => e⟩
theorem Lat.new {p : Addr} {u : HO} (s : Soft H p) : Lat g ρ H (ρ ++ [p]) (L2.upd H p u) := (Lat.upd s).trans Lat.more
theorem Lat.rdl (a : Lat g ρ H ρ' H') {x : Addr} {vs : List V} (q : RdL g.K H x vs) : RdL g.K H' x vs := by
  rcases q with ⟨o, q⟩ | q
  · exact .inl ⟨o, a.frz _ _ _ q⟩
  · exact .inr q
/-- an object's relation where its own place is kept -/
theorem Lat.ro (a : Lat g ρ H ρ' H') {x : Addr} (hx : ∀ u, H x = some u → H' x = some u) : ∀ (o : O), RO g ρ H o x → RO g ρ' H' o x
  | .lst l, q => by
    obtain ⟨vs, e, r⟩ := q
    exact ⟨vs, hx _ e, a.rds l r⟩
  | .rdl l, q => by
    obtain ⟨vs, e, r⟩ := q
    exact ⟨vs, a.rdl e, a.rds l r⟩
  | .dct l, q => by
    obtain ⟨vs, e, r⟩ := q
    exact ⟨vs, hx _ e, a.rp l r⟩
  | .ins c fs, q => by
    obtain ⟨C, dx, gs, e1, e2, r⟩ := q
    exact ⟨C, dx, gs, e1, hx _ e2, a.rp fs r⟩
  | .xc c fs, q => by
    obtain ⟨C, dx, gs, e1, e2, e3, r⟩ := q
    exact ⟨C, dx, gs, e1, a.ext _ _ e2, a.ext _ _ e3, a.rp fs r⟩
  | .gone, _ => True.intro
theorem Lat.ro' (a : Lat g ρ H ρ' H') {x : Addr} {c : Str} {fs : List (Str × D)} (q : RO g ρ H (.xc c fs) x) : RO g ρ' H' (.xc c fs) x := by
  obtain ⟨C, dx, gs, e1, e2, e3, r⟩ := q
  exact ⟨C, dx, gs, e1, a.ext _ _ e2, a.ext _ _ e3, a.rp fs r⟩
theorem RO.there {o : O} {x : Addr} (q : RO g ρ H o x) (m : o.mut = true) : H x ≠ none := by
  cases o with
  | lst l => obtain ⟨vs, e, _⟩ := q; rw [e]; exact fun z => nomatch z
  | rdl l => cases m
  | dct l => obtain ⟨vs, e, _⟩ := q; rw [e]; exact fun z => nomatch z
  | ins c fs => obtain ⟨C, dx, gs, _, e, _⟩ := q; rw [e]; exact fun z => nomatch z
  | xc c fs => cases m
  | gone => cases m
/-- a heap in which nothing of the mirror's has changed -/
theorem RH.lat (q : RH g ρ H h) (a : Lat g ρ H ρ H') (hx : ∀ (n : Nat) o x u, h[n]? = some o → o.mut = true → ρ[n]? = some x → H x = some u → H' x = some u) : RH g ρ H' h := by
  refine ⟨q.len, fun n o x e1 e2 => ?_, q.inj⟩
  have r := q.obj n o x e1 e2
  by_cases m : o.mut = true
  · exact a.ro (fun u z => hx n o x u e1 m e2 z) o r
  · cases o with
    | lst l => exact absurd rfl m
    | rdl l => obtain ⟨vs, e, r⟩ := r; exact ⟨vs, a.rdl e, a.rds l r⟩
    | dct l => exact absurd rfl m
    | ins c fs => exact absurd rfl m
    | xc c fs => exact a.ro' (by assumption)
    | gone => exact True.intro
/-- a new thing that the mirror does not name (a tuple) -/
theorem RH.upd {p : Addr} {u : HO} (q : RH g ρ H h) (e : H p = none) : RH g ρ (L2.upd H p u) h :=
  q.lat (Lat.upd (Soft.none e)) fun n o x v e1 m e2 z => by rw [upd_ne (ne_of_none z e)]; exact z
/-- a new object -/
theorem RH.new {p : Addr} {u : HO} {o : O} (q : RH g ρ H h) (e : H p = none) (r : RO g (ρ ++ [p]) (L2.upd H p u) o p) : RH g (ρ ++ [p]) (L2.upd H p u) (h ++ [o]) := by
  have q' := q.upd (u := u) e
  have lt : ∀ {n : Nat} {x : Addr}, (ρ ++ [p])[n]? = some x → n < ρ.length ∧ ρ[n]? = some x ∨ n = ρ.length ∧ x = p := fun {n x} z => by
    by_cases hn : n < ρ.length
    · rw [List.getElem?_append_left hn] at z
      exact .inl ⟨hn, z⟩
    · have hn' : n < (ρ ++ [p]).length := (List.getElem?_eq_some_iff.mp z).1
      have : n = ρ.length := by simp at hn'; omega
      subst this
      simp at z
      exact .inr ⟨rfl, z.symm⟩
  have lo : ∀ {n : Nat} {y : O}, n < ρ.length → (h ++ [o])[n]? = some y → h[n]? = some y := fun {n y} hn z => by
    rw [List.getElem?_append_left (by rw [← q.len]; exact hn)] at z
    exact z
  have lo' : ∀ {y : O}, (h ++ [o])[ρ.length]? = some y → y = o := fun {y} z => by
    rw [q.len] at z
    simp at z
    exact z.symm
  refine ⟨by simp [q.len], fun n y x e1 e2 => ?_, fun n m y y' x e1 e2 m1 m2 e3 e4 => ?_⟩
  · rcases lt e2 with ⟨hn, z⟩ | ⟨hn, z⟩
    · exact (Lat.more (g := g) (ρ := ρ) (H := L2.upd H p u) (p := p)).ro (fun _ z => z) y (q'.obj n y x (lo hn e1) z)
    · subst hn z
      rw [lo' e1]
      exact r
  · have old : ∀ {n : Nat} {y : O}, n < ρ.length → (h ++ [o])[n]? = some y → y.mut = true → ρ[n]? = some p → False := fun {n y} hn z m z2 => (q.obj n y p (lo hn z) z2).there m e
    rcases lt e3 with ⟨hn, z⟩ | ⟨hn, z⟩
    · rcases lt e4 with ⟨hm, z'⟩ | ⟨hm, z'⟩
      · exact q.inj n m y y' x (lo hn e1) (lo hm e2) m1 m2 z z'
      · subst z'
        exact (old hn e1 m1 z).elim
    · rcases lt e4 with ⟨hm, z'⟩ | ⟨hm, z'⟩
      · subst z
        exact (old hm e2 m2 z').elim
      · rw [hn, hm]
/-- an object is changed -/
theorem RH.set {n : Nat} {p : Addr} {u : HO} {o o' : O} (q : RH g ρ H h) (e1 : h[n]? = some o) (e2 : ρ[n]? = some p) (m : o.mut = true) (m' : o'.mut = true) (s : Soft H p) (r : RO g ρ (L2.upd H p u) o' p) :
    RH g ρ (L2.upd H p u) (h.set n o') := by
  have hn : n < h.length := (List.getElem?_eq_some_iff.mp e1).1
  have back : ∀ {k : Nat} {y : O}, (h.set n o')[k]? = some y → (k = n ∧ y = o') ∨ (k ≠ n ∧ h[k]? = some y) := fun {k y} z => by
    by_cases hk : k = n
    · subst hk
      rw [List.getElem?_set_self hn] at z
      cases z
      exact .inl ⟨rfl, rfl⟩
    · rw [List.getElem?_set_ne (Ne.symm hk)] at z
      exact .inr ⟨hk, z⟩
  refine ⟨by rw [q.len, List.length_set], fun k y x z1 z2 => ?_, fun k j y y' x z1 z2 w1 w2 z3 z4 => ?_⟩
  · rcases back z1 with ⟨hk, hy⟩ | ⟨hk, z⟩
    · subst hk hy
      rw [e2] at z2
      cases z2
      exact r
    · have ro := q.obj k y x z z2
      have lat : Lat g ρ H ρ (L2.upd H p u) := Lat.upd s
      by_cases my : y.mut = true
      · have hx : x ≠ p := fun w => by
          subst w
          exact hk (q.inj k n y o x z e1 my m z2 e2)
        exact lat.ro (fun v w => by rw [upd_ne hx]; exact w) y ro
      · cases y with
        | lst l => exact absurd rfl my
        | rdl l => obtain ⟨vs, e, r⟩ := ro; exact ⟨vs, lat.rdl e, lat.rds l r⟩
        | dct l => exact absurd rfl my
        | ins c fs => exact absurd rfl my
        | xc c fs => exact lat.ro' ro
        | gone => exact True.intro
  · have key : ∀ {k : Nat} {y : O}, (h.set n o')[k]? = some y → y.mut = true → ∃ w, h[k]? = some w ∧ w.mut = true := fun {k y} z w => by
      rcases back z with ⟨hk, hy⟩ | ⟨hk, z⟩
      · subst hk
        exact ⟨o, e1, m⟩
      · exact ⟨y, z, w⟩
    obtain ⟨a, a1, a2⟩ := key z1 w1
    obtain ⟨b, b1, b2⟩ := key z2 w2
    exact q.inj k j a b x a1 b1 a2 b2 z3 z4
theorem RH.addr (q : RH g ρ H h) {n : Nat} {o : O} (e : h[n]? = some o) : ∃ a, ρ[n]? = some a ∧ RO g ρ H o a := by
  have hn : n < ρ.length := by rw [q.len]; exact (List.getElem?_eq_some_iff.mp e).1
  exact ⟨ρ[n], by simp [hn], q.obj n o _ e (by simp [hn])⟩
theorem RS.set {e : Env} {σ : L2.St} {d : D} {v : V} (q : RS g ρ H e σ) (r : RD g ρ H d v) (i : Nat) : RS g ρ H (e.set i (some d)) (σ.set i (some v)) := by
  refine ⟨by simp [q.len], fun j d' z => ?_⟩
  by_cases hj : j = i
  · subst hj
    have hl : j < e.length := by
      have := (List.getElem?_eq_some_iff.mp z).1
      simpa using this
    rw [List.getElem?_set_self hl] at z
    cases z
    exact ⟨v, by rw [List.getElem?_set_self (by rw [← q.len]; exact hl)], r⟩
  · rw [List.getElem?_set_ne (Ne.symm hj)] at z
    obtain ⟨w, z1, z2⟩ := q.get j d' z
    exact ⟨w, by rw [List.getElem?_set_ne (Ne.symm hj)]; exact z1, z2⟩
theorem RS.start {N : List Str} {ds : List D} {vs : List V} (q : RDs g ρ H ds vs) : RS g ρ H (ds.map some ++ List.replicate (N.length - ds.length) none) (L2.start N vs) := by
  unfold L2.start
  have hl := q.length
  refine ⟨by simp [hl], fun i d z => ?_⟩
  by_cases hi : i < ds.length
  · rw [List.getElem?_append_left (by simpa using hi)] at z
    rw [List.getElem?_map] at z
    cases e : ds[i]? with
    | none => rw [e] at z; cases z
    | some d' =>
      rw [e] at z
      have z' : d' = d := by simpa using z
      subst z'
      obtain ⟨v, e1, r⟩ := q.get e
      refine ⟨v, ?_, r⟩
      rw [List.getElem?_append_left (by simp; omega), List.getElem?_map, e1]
      rfl
  · rw [List.getElem?_append_right (by simpa using Nat.le_of_not_lt hi)] at z
    rw [List.getElem?_replicate] at z
    split at z
    · cases z
    · cases z
end
end ML

/-! ML 2: readings of mirrors; names, operators, tests, arguments, calls of own defs, statements -/
namespace ML
open PySem PySem.Spec PyProof.Rows L2

def Post {α β : Type} (g : Gd) (Rel : List Addr → Hp → α → β → Prop) (Wf : XK) (ρ : List Addr) (H : Hp) (r : R α) (Q : β → Hp → Prop) : Prop := match r with
  | .ok d h' => ∀ ρ' v H', Lat g ρ H ρ' H' → RH g ρ' H' h' → Rel ρ' H' d v → Q v H'
  | .exc c fs h' => ∀ ρ' H' C dd gs, Lat g ρ H ρ' H' → RH g ρ' H' h' → g.mg c = some (.ref C) → H' dd = some (.xd gs) → RP g ρ' H' fs gs → Wf (.ref C) (some dd) H'
  | .bad => False
/-- what is wished of an exception, and what stays true while an expression is evaluated (in an except suite: where the error is) -/
structure Wx where
  W : WX
  J : List Addr → Hp → L2.St → Prop
  per : ∀ (g : Gd) ρ H ρ' H' σ, Lat g ρ H ρ' H' → J ρ H σ → J ρ' H' σ
abbrev pl (W : WX) : Wx := ⟨W, fun _ _ _ => True, fun _ _ _ _ _ _ _ _ => True.intro⟩
abbrev noW : WX := fun _ _ _ _ => False
structure RX (g : Gd) (W : Wx) (ρ : List Addr) (H : Hp) (e : Env) (σ : L2.St) : Prop where
  s : RS g ρ H e σ
  j : W.J ρ H σ
theorem RX.lat {g : Gd} {W : Wx} {ρ ρ' : List Addr} {H H' : Hp} {e : Env} {σ : L2.St} (s : RX g W ρ H e σ) (l : Lat g ρ H ρ' H') : RX g W ρ' H' e σ := ⟨l.rs s.s, W.per g _ _ _ _ _ l s.j⟩
theorem RS.x {g : Gd} {W : WX} {ρ : List Addr} {H : Hp} {e : Env} {σ : L2.St} (s : RS g ρ H e σ) : RX g (pl W) ρ H e σ := ⟨s, True.intro⟩
def tG {α β : Type} (g : Gd) (Rel : List Addr → Hp → α → β → Prop) (W : Wx) (m : Env → MH → R α) : L2.St → Hp → (β → Hp → Prop) → Prop := fun σ H Q =>
  ∃ ρ e h, RX g W ρ H e σ ∧ RH g ρ H h ∧ Post g Rel (fun c d H' => W.W c d σ H') ρ H (m e h) Q
def RB : List Addr → Hp → Bool → Bool → Prop := fun _ _ a b => b = a
abbrev tE (g : Gd) (W : Wx) (m : EM) : TE := tG g (RD g) W m
abbrev tT (g : Gd) (W : Wx) (m : TM) : TT := tG g RB W m
abbrev tA (g : Gd) (W : Wx) (m : AM) : TA := tG g (RDs g) W m
def PostS (g : Gd) (W : WX) (ρ : List Addr) (H : Hp) (s : S) (N : Ends) : Prop := match s with
  | .nx e h' => ∀ ρ' σ' H', Lat g ρ H ρ' H' → RH g ρ' H' h' → RS g ρ' H' e σ' → N.nx σ' H'
  | .bk e h' => ∀ ρ' σ' H', Lat g ρ H ρ' H' → RH g ρ' H' h' → RS g ρ' H' e σ' → N.bk σ' H'
  | .ct e h' => ∀ ρ' σ' H', Lat g ρ H ρ' H' → RH g ρ' H' h' → RS g ρ' H' e σ' → N.ct σ' H'
  | .rt d h' => ∀ ρ' v H', Lat g ρ H ρ' H' → RH g ρ' H' h' → RD g ρ' H' d v → N.rt v H'
  | .exc c fs e h' => ∀ ρ' σ' H' C dd gs, Lat g ρ H ρ' H' → RH g ρ' H' h' → RS g ρ' H' e σ' → g.mg c = some (.ref C) → H' dd = some (.xd gs) → RP g ρ' H' fs gs → W (.ref C) (some dd) σ' H'
  | .bad => False
def tS (g : Gd) (W : WX) (m : SM) : TS := fun N σ H => ∃ ρ e h, RS g ρ H e σ ∧ RH g ρ H h ∧ PostS g W ρ H (m e h) N

section
variable {α β γ δ : Type} {g : Gd} {Rel : List Addr → Hp → α → β → Prop} {Rel2 : List Addr → Hp → γ → δ → Prop} {Wf : XK} {W : Wx} {W0 : WX} {ρ ρ' : List Addr} {H H' : Hp} {Q Q' : β → Hp → Prop} {r : R α} {h : MH} {σ : L2.St} {e : Env}
theorem Post.later (a : Lat g ρ H ρ' H') (p : Post g Rel Wf ρ H r Q) : Post g Rel Wf ρ' H' r Q := by
  cases r with
  | ok d h => exact fun ρ2 v H2 b => p ρ2 v H2 (a.trans b)
  | exc c fs h => exact fun ρ2 H2 C dd gs b => p ρ2 H2 C dd gs (a.trans b)
  | bad => exact p
theorem Post.mono (p : Post g Rel Wf ρ H r Q) (k : ∀ v H, Q v H → Q' v H) : Post g Rel Wf ρ H r Q' := by
  cases r with
  | ok d h => exact fun ρ2 v H2 b c d => k _ _ (p ρ2 v H2 b c d)
  | exc c fs h => exact p
  | bad => exact p
/-- one part ahead of the rest -/
theorem Post.bind {f : α → MH → R γ} {Q : δ → Hp → Prop} (p : Post g Rel2 Wf ρ H (r.bind f) Q) :
    Post g Rel Wf ρ H r (fun v H1 => ∃ ρ1 d h1, Lat g ρ H ρ1 H1 ∧ RH g ρ1 H1 h1 ∧ Rel ρ1 H1 d v ∧ Post g Rel2 Wf ρ1 H1 (f d h1) Q) := by
  cases r with
  | ok d h => exact fun ρ2 v H2 a b c => ⟨ρ2, d, h, a, b, c, Post.later a p⟩
  | exc c fs h => exact p
  | bad => exact p
theorem Post.okk {d : α} {v : β} (p : Post g Rel Wf ρ H (.ok d h) Q) (b : RH g ρ H h) (c : Rel ρ H d v) : Q v H := p ρ v H Lat.refl b c
theorem tG.mono {m : Env → MH → R α} (p : tG g Rel W m σ H Q) (k : ∀ v H, Q v H → Q' v H) : tG g Rel W m σ H Q' := by
  obtain ⟨ρ, e, h, a, b, c⟩ := p
  exact ⟨ρ, e, h, a, b, c.mono k⟩
theorem PostS.later {N : Ends} {s : S} (a : Lat g ρ H ρ' H') (p : PostS g W0 ρ H s N) : PostS g W0 ρ' H' s N := by
  cases s with
  | nx e h => exact fun ρ2 σ2 H2 b => p ρ2 σ2 H2 (a.trans b)
  | bk e h => exact fun ρ2 σ2 H2 b => p ρ2 σ2 H2 (a.trans b)
  | ct e h => exact fun ρ2 σ2 H2 b => p ρ2 σ2 H2 (a.trans b)
  | rt d h => exact fun ρ2 v H2 b => p ρ2 v H2 (a.trans b)
  | exc c fs e h => exact fun ρ2 σ2 H2 C dd gs b => p ρ2 σ2 H2 C dd gs (a.trans b)
  | bad => exact p
end
theorem PE_of {X : Cx} {e : Expr} {t t' : TE} (h : PE X e t) (i : ∀ σ H Q, t' σ H Q → t σ H Q) : PE X e t' := ⟨fun pins s σ H Q I q => h.run pins s σ H Q I (i _ _ _ q)⟩
theorem PT_of {X : Cx} {e : Expr} {t t' : TT} (h : PT X e t) (i : ∀ σ H Q, t' σ H Q → t σ H Q) : PT X e t' := ⟨fun pins s σ H Q I q => h.run pins s σ H Q I (i _ _ _ q)⟩
theorem PA_of {X : Cx} {e : List Expr} {t t' : TA} (h : PA X e t) (i : ∀ σ H Q, t' σ H Q → t σ H Q) : PA X e t' := ⟨fun pos pins s σ H Q I q => h.run pos pins s σ H Q I (i _ _ _ q)⟩
theorem PS_of {X : Cx} {e : Stmt} {t t' : TS} (h : PS X e t) (i : ∀ N σ H, t' N σ H → t N σ H) : PS X e t' := ⟨fun pins s σ H D I q => h.run pins s σ H D I (i _ _ _ q)⟩
theorem PSs_of {X : Cx} {e : List Stmt} {t t' : TS} (h : PSs X e t) (i : ∀ N σ H, t' N σ H → t N σ H) : PSs X e t' := ⟨fun pins s σ H D I q => h.run pins s σ H D I (i _ _ _ q)⟩

/-! ### mirrors of expressions -/
def varE (i : Nat) : EM := fun e h => match e[i]? with
  | some (some d) => .ok d h
  | _ => .bad
def conE (d : D) : EM := fun _ h => .ok d h
def bin (f : D → D → MH → R D) (a b : EM) : EM := fun e h => (a e h).bind fun x h1 => (b e h1).bind fun y h2 => f x y h2
def un (f : D → MH → R D) (a : EM) : EM := fun e h => (a e h).bind fun x h1 => f x h1
def toB : D → MH → R Bool := fun d h => match d with
  | .bl b => .ok b h
  | _ => .bad
def valT (a : EM) : TM := fun e h => (a e h).bind toB
def andT (a b : TM) : TM := fun e h => (a e h).bind fun x h1 => if x then b e h1 else .ok false h1
def orT (a b : TM) : TM := fun e h => (a e h).bind fun x h1 => if x then .ok true h1 else b e h1
def notT (a : TM) : TM := fun e h => (a e h).bind fun x h1 => .ok (!x) h1
/-- and, or, not as values: all but the last a bool -/
def andE (a b : EM) : EM := fun e h => (a e h).bind fun x h1 => (toB x h1).bind fun c h2 => if c then b e h2 else .ok (.bl false) h2
def orE (a b : EM) : EM := fun e h => (a e h).bind fun x h1 => (toB x h1).bind fun c h2 => if c then .ok (.bl true) h2 else b e h2
def notE (a : EM) : EM := fun e h => (a e h).bind fun x h1 => (toB x h1).bind fun c h2 => .ok (.bl (!c)) h2
def ifE (t : TM) (a b : EM) : EM := fun e h => (t e h).bind fun c h1 => if c then a e h1 else b e h1
def nilA : AM := fun _ h => .ok [] h
def consA (a : EM) (r : AM) : AM := fun e h => (a e h).bind fun x h1 => (r e h1).bind fun xs h2 => .ok (x :: xs) h2
def onA (f : List D → MH → R D) (a : AM) : EM := fun e h => (a e h).bind fun xs h1 => f xs h1
def tupF : List D → MH → R D := fun xs h => if xs.length ≤ 1000000 then .ok (.tup xs) h else .bad
def lstF : List D → MH → R D := fun xs h => if xs.length ≤ 1000000 then .ok (.ref h.length) (h ++ [.lst xs]) else .bad
theorem big_le {n : Nat} (h : n ≤ 1000000) : n ≤ sizeLine := by rw [sizeLine_eq]; omega

section
variable {X : Cx} {W : Wx} {a b c : Expr} {ma mb mc : EM} {ta tb : TM} {pos : Pos} {es : List Expr} {mas : AM}
theorem e_var (i : Nat) {x : Str} (h : PE X (.Name x pos) (tVar i)) : PE X (.Name x pos) (tE (gd X) W (varE i)) := PE_of h fun σ H Q q => by
  obtain ⟨ρ, e, m, s, hh, p⟩ := q
  unfold varE at p
  split at p
  · rename_i d hd
    obtain ⟨v, e1, r⟩ := s.s.get i d hd
    exact ⟨v, e1, p.okk hh r⟩
  · exact p.elim
theorem e_con {v : V} {d : D} {e : Expr} (h : PE X e (tC v)) (r : ∀ ρ H, RD (gd X) ρ H d v) : PE X e (tE (gd X) W (conE d)) := PE_of h fun σ H Q q => by
  obtain ⟨ρ, e, m, s, hh, p⟩ := q
  exact p.okk hh (r ρ H)
theorem e_int {i j} : PE X (.Constant (.int i) j pos) (tE (gd X) W (conE (.int i))) := e_con pe_int fun _ _ => by unfold RD; rfl
theorem e_bl {i j} : PE X (.Constant (.bool i) j pos) (tE (gd X) W (conE (.bl i))) := e_con pe_bl fun _ _ => by unfold RD; rfl
theorem e_non {j} : PE X (.Constant .none j pos) (tE (gd X) W (conE .non)) := e_con pe_non fun _ _ => by unfold RD; rfl
theorem e_str {i j} : PE X (.Constant (.str i) j pos) (tE (gd X) W (conE (.str i))) := e_con pe_str fun _ _ => by unfold RD; rfl

/-- two parts, then the rest -/
theorem two {α : Type} {g : Gd} {σ : L2.St} {H : Hp} {Q : α → Hp → Prop} {γ : Type} {Rel : List Addr → Hp → γ → α → Prop} {f : D → D → MH → R γ} {k : V → V → Hp → Prop}
    (p : tG g Rel W (fun e h => (ma e h).bind fun x h1 => (mb e h1).bind fun y h2 => f x y h2) σ H Q)
    (hk : ∀ ρ H h x y vx vy, RH g ρ H h → RD g ρ H x vx → RD g ρ H y vy → Post g Rel (fun c d H' => W.W c d σ H') ρ H (f x y h) Q → k vx vy H) :
    tE g W ma σ H fun vx H1 => tE g W mb σ H1 fun vy H2 => k vx vy H2 := by
  obtain ⟨ρ, e, m, s, hh, p⟩ := p
  refine ⟨ρ, e, m, s, hh, p.bind.mono fun vx H1 q => ?_⟩
  obtain ⟨ρ1, x, h1, l1, hh1, rx, p1⟩ := q
  refine ⟨ρ1, e, h1, s.lat l1, hh1, p1.bind.mono fun vy H2 q => ?_⟩
  obtain ⟨ρ2, y, h2, l2, hh2, ry, p2⟩ := q
  exact hk ρ2 H2 h2 x y vx vy hh2 (l2.rd x rx) ry p2
theorem one {α : Type} {g : Gd} {σ : L2.St} {H : Hp} {Q : α → Hp → Prop} {γ : Type} {Rel : List Addr → Hp → γ → α → Prop} {δ ε : Type} {Rel1 : List Addr → Hp → δ → ε → Prop} {m1 : Env → MH → R δ} {f : Env → δ → MH → R γ} {k : ε → Hp → Prop}
    (p : tG g Rel W (fun e h => (m1 e h).bind fun x h1 => f e x h1) σ H Q)
    (hk : ∀ ρ e H h x vx, RX g W ρ H e σ → RH g ρ H h → Rel1 ρ H x vx → Post g Rel (fun c d H' => W.W c d σ H') ρ H (f e x h) Q → k vx H) :
    tG g Rel1 W m1 σ H k := by
  obtain ⟨ρ, e, m, s, hh, p⟩ := p
  refine ⟨ρ, e, m, s, hh, p.bind.mono fun vx H1 q => ?_⟩
  obtain ⟨ρ1, x, h1, l1, hh1, rx, p1⟩ := q
  exact hk ρ1 e H1 h1 x vx (s.lat l1) hh1 rx p1
/-- an operator's reading against its mirror -/
def RF2 (g : Gd) (f : D → D → MH → R D) (r : R2) : Prop := ∀ (Wf : XK) (Q : VK) ρ H h x y vx vy, RH g ρ H h → RD g ρ H x vx → RD g ρ H y vy → Post g (RD g) Wf ρ H (f x y h) Q → r vx vy H Q
def RF1 (g : Gd) (f : D → MH → R D) (r : V → Hp → VK → Prop) : Prop := ∀ (Wf : XK) (Q : VK) ρ H h x vx, RH g ρ H h → RD g ρ H x vx → Post g (RD g) Wf ρ H (f x h) Q → r vx H Q
def RFs (g : Gd) (f : List D → MH → R D) (r : List V → Hp → VK → Prop) : Prop := ∀ (Wf : XK) (Q : VK) ρ H h xs vs, RH g ρ H h → RDs g ρ H xs vs → Post g (RD g) Wf ρ H (f xs h) Q → r vs H Q
theorem e_bin {op : Operator} {r : R2} {f : D → D → MH → R D} (ho : OpR X (binaryOp op) r) (hf : RF2 (gd X) f r) (ha : PE X a (tE (gd X) W ma)) (hb : PE X b (tE (gd X) W mb)) : PE X (.BinOp a op b pos) (tE (gd X) W (bin f ma mb)) :=
  PE_of (pe_op ho ha hb) fun σ H Q q => two q fun ρ H h x y vx vy hh rx ry p => hf _ _ ρ H h x y vx vy hh rx ry p
theorem e_cmp {op : CmpOp} {r : R2} {f : D → D → MH → R D} (ho : OpR X (compareOp op) r) (hf : RF2 (gd X) f r) (ha : PE X a (tE (gd X) W ma)) (hb : PE X b (tE (gd X) W mb)) (hm : behindInMarks op b = false) : PE X (.Compare a [op] [b] pos) (tE (gd X) W (bin f ma mb)) :=
  PE_of (pe_cmpR ho ha hb hm) fun σ H Q q => two q fun ρ H h x y vx vy hh rx ry p => hf _ _ ρ H h x y vx vy hh rx ry p
theorem e_un {op : UnaryOp} {r : V → Hp → VK → Prop} {f : D → MH → R D} (ho : UnR X (unaryOp op) r) (hf : RF1 (gd X) f r) (ha : PE X a (tE (gd X) W ma)) : PE X (.UnaryOp op a pos) (tE (gd X) W (un f ma)) :=
  PE_of (pe_un ho ha) fun σ H Q q => one q fun ρ e H h x vx s hh rx p => hf _ _ ρ H h x vx hh rx p
theorem RD_bl {g : Gd} {ρ : List Addr} {H : Hp} {d : D} {v : V} {k : Bool} (r : RD g ρ H d v) (e : d = .bl k) : v = .bl k := by subst e; unfold RD at r; exact r
/-- a value that is a bool, as a test -/
theorem testOf {σ : L2.St} {H : Hp} {Q : Bool → Hp → Prop} {g : Gd} (q : tT g W (valT ma) σ H Q) : tE g W ma σ H fun x H' => ∃ k, x = .bl k ∧ Q k H' := by
  refine one q fun ρ e H h x vx s hh rx p => ?_
  cases x <;> first | exact p.elim | skip
  rename_i k
  exact ⟨k, RD_bl rx rfl, p.okk hh rfl⟩
theorem t_val {e : Expr} {m : EM} (h : PE X e (tE (gd X) W m)) (he : ∀ whole, isTrue e X.env whole = (do let v ← whole; standAt e.pos; holding [v] (truthy v)) := by intro _; rfl) : PT X e (tT (gd X) W (valT m)) :=
  PT_of (pt_val h he) fun σ H Q q => testOf q
theorem t_cmp {op : CmpOp} {r : R2} {f : D → D → MH → R D} (ho : OpR X (compareOp op) r) (hf : RF2 (gd X) f r) (ha : PE X a (tE (gd X) W ma)) (hb : PE X b (tE (gd X) W mb)) (hm : behindInMarks op b = false) : PT X (.Compare a [op] [b] pos) (tT (gd X) W (valT (bin f ma mb))) :=
  PT_of (pt_cmpR ho ha hb hm) fun σ H Q q => by
    have q' := testOf q
    exact two q' fun ρ H h x y vx vy hh rx ry p => hf _ _ ρ H h x y vx vy hh rx ry p
theorem t_not (h : PT X a (tT (gd X) W ta)) : PT X (.UnaryOp .Not a pos) (tT (gd X) W (notT ta)) :=
  PT_of (pt_not h) fun σ H Q q => by
    refine one q fun ρ e H h x vx s hh rx p => ?_
    cases rx
    exact p.okk hh rfl
theorem w_and1 (ha : PT X a (tT (gd X) W ta)) : PW X (.BoolOp .And [a] pos) (tT (gd X) W ta) := pw_and1 ha
theorem w_or1 (ha : PT X a (tT (gd X) W ta)) : PW X (.BoolOp .Or [a] pos) (tT (gd X) W ta) := pw_or1 ha
theorem PW_of {e : Expr} {t t' : TT} (h : PW X e t) (i : ∀ σ H Q, t' σ H Q → t σ H Q) : PW X e t' := ⟨fun wh pins s σ H Q I q => h.run wh pins s σ H Q I (i _ _ _ q)⟩
theorem w_and {rest : List Expr} (ha : PT X a (tT (gd X) W ta)) (hb : PW X (.BoolOp .And (b :: rest) pos) (tT (gd X) W tb)) : PW X (.BoolOp .And (a :: b :: rest) pos) (tT (gd X) W (andT ta tb)) :=
  PW_of (pw_and ha hb) fun σ H Q q => by
    refine one q fun ρ e H h x vx s hh rx p => ?_
    cases rx
    cases x with
    | true => exact ⟨ρ, e, h, s, hh, p⟩
    | false => exact p.okk hh rfl
theorem w_or {rest : List Expr} (ha : PT X a (tT (gd X) W ta)) (hb : PW X (.BoolOp .Or (b :: rest) pos) (tT (gd X) W tb)) : PW X (.BoolOp .Or (a :: b :: rest) pos) (tT (gd X) W (orT ta tb)) :=
  PW_of (pw_or ha hb) fun σ H Q q => by
    refine one q fun ρ e H h x vx s hh rx p => ?_
    cases rx
    cases x with
    | false => exact ⟨ρ, e, h, s, hh, p⟩
    | true => exact p.okk hh rfl
theorem toB_ok {g : Gd} {γ δ : Type} {Rel : List Addr → Hp → γ → δ → Prop} {Wf : XK} {ρ : List Addr} {H : Hp} {h : MH} {x : D} {vx : V} {f : Bool → MH → R γ} {Q : δ → Hp → Prop} (rx : RD g ρ H x vx) (p : Post g Rel Wf ρ H ((toB x h).bind f) Q) :
    ∃ k, vx = .bl k ∧ Post g Rel Wf ρ H (f k h) Q := by
  cases x <;> first | exact p.elim | skip
  rename_i k
  exact ⟨k, RD_bl rx rfl, p⟩
theorem e_one {op} (h : PE X a (tE (gd X) W ma)) : PE X (.BoolOp op [a] pos) (tE (gd X) W ma) := pe_one h
theorem e_and {rest : List Expr} (ha : PE X a (tE (gd X) W ma)) (hb : PE X (.BoolOp .And (b :: rest) pos) (tE (gd X) W mb)) : PE X (.BoolOp .And (a :: b :: rest) pos) (tE (gd X) W (andE ma mb)) :=
  PE_of (pe_and ha hb) fun σ H Q q => by
    refine one q fun ρ e H h x vx s hh rx p => ?_
    obtain ⟨k, e1, p⟩ := toB_ok rx p
    refine ⟨k, e1, ?_⟩
    cases k with
    | true => exact ⟨ρ, e, h, s, hh, p⟩
    | false => exact p.okk hh (by unfold RD; rfl)
theorem e_or {rest : List Expr} (ha : PE X a (tE (gd X) W ma)) (hb : PE X (.BoolOp .Or (b :: rest) pos) (tE (gd X) W mb)) : PE X (.BoolOp .Or (a :: b :: rest) pos) (tE (gd X) W (orE ma mb)) :=
  PE_of (pe_or ha hb) fun σ H Q q => by
    refine one q fun ρ e H h x vx s hh rx p => ?_
    obtain ⟨k, e1, p⟩ := toB_ok rx p
    refine ⟨k, e1, ?_⟩
    cases k with
    | false => exact ⟨ρ, e, h, s, hh, p⟩
    | true => exact p.okk hh (by unfold RD; rfl)
theorem e_not (ha : PE X a (tE (gd X) W ma)) : PE X (.UnaryOp .Not a pos) (tE (gd X) W (notE ma)) :=
  PE_of (pe_not ha) fun σ H Q q => by
    refine one q fun ρ e H h x vx s hh rx p => ?_
    obtain ⟨k, e1, p⟩ := toB_ok rx p
    exact ⟨k, e1, p.okk hh (by unfold RD; rfl)⟩
theorem e_if (hc : PT X c (tT (gd X) W ta)) (ha : PE X a (tE (gd X) W ma)) (hb : PE X b (tE (gd X) W mb)) : PE X (.IfExp c a b pos) (tE (gd X) W (ifE ta ma mb)) :=
  PE_of (pe_ifExp hc ha hb) fun σ H Q q => by
    refine one q fun ρ e H h x vx s hh rx p => ?_
    cases rx
    cases x with
    | true => exact ⟨ρ, e, h, s, hh, p⟩
    | false => exact ⟨ρ, e, h, s, hh, p⟩
/-! arguments -/
theorem a_nil : PA X [] (tA (gd X) W nilA) := PA_of pa_nil fun σ H Q q => by
  obtain ⟨ρ, e, m, s, hh, p⟩ := q
  exact p.okk hh .nil
theorem a_cons (ha : PE X a (tE (gd X) W ma)) (hr : PA X es (tA (gd X) W mas)) (hs : starEach (a :: es) X.env = (false, eval a X.env) :: starEach es X.env := by rfl) : PA X (a :: es) (tA (gd X) W (consA ma mas)) :=
  PA_of (pa_cons ha hr hs) fun σ H Q q => by
    refine one q fun ρ e H h x vx s hh rx p => ?_
    refine ⟨ρ, e, h, s, hh, p.bind.mono fun vs H1 q => ?_⟩
    obtain ⟨ρ1, xs, h1, l1, hh1, rxs, p1⟩ := q
    exact p1.okk hh1 (.cons (l1.rd x rx) rxs)
theorem e_tup {k} (h : PA X es (tA (gd X) W mas)) : PE X (.Tuple es k pos) (tE (gd X) W (onA tupF mas)) :=
  PE_of (pe_tup h) fun σ H Q q => by
    refine one q fun ρ e H h x vx s hh rx p => ?_
    unfold tupF at p
    split at p
    · rename_i hl
      refine ⟨big_le (by rw [← rx.length]; exact hl), fun q hq => ?_⟩
      have l := Lat.upd (g := gd X) (ρ := ρ) (u := .tup vx) (Soft.none hq)
      refine p ρ _ _ l (hh.upd hq) ?_
      unfold RD
      exact ⟨q, vx, rfl, .of upd_same, l.rds x rx⟩
    · exact p.elim
theorem RH.newLst {g : Gd} {ρ : List Addr} {H : Hp} {h : MH} {l : List D} {vs : List V} {q : Addr} (hh : RH g ρ H h) (hq : H q = none) (r : RDs g ρ H l vs) :
    Lat g ρ H (ρ ++ [q]) (L2.upd H q (.lst vs)) ∧ RH g (ρ ++ [q]) (L2.upd H q (.lst vs)) (h ++ [.lst l]) ∧ RD g (ρ ++ [q]) (L2.upd H q (.lst vs)) (.ref h.length) (.ref q) := by
  have l1 := Lat.new (g := g) (ρ := ρ) (u := .lst vs) (Soft.none hq)
  refine ⟨l1, hh.new hq ⟨vs, upd_same, l1.rds l r⟩, ?_⟩
  unfold RD
  exact ⟨q, by rw [← hh.len]; simp, rfl⟩
theorem e_lst (h : PA X es (tA (gd X) W mas)) : PE X (.List es pos) (tE (gd X) W (onA lstF mas)) :=
  PE_of (pe_lst h) fun σ H Q q => by
    refine one q fun ρ e H h x vx s hh rx p => ?_
    unfold lstF at p
    split at p
    · rename_i hl
      refine ⟨big_le (by rw [← rx.length]; exact hl), fun q hq => ?_⟩
      obtain ⟨l1, l2, l3⟩ := hh.newLst hq rx
      exact p _ _ _ l1 l2 l3
    · exact p.elim
end

/-! ### own defs -/
def fnM (np n : Nat) (b : SM) : FM := fun ds h => if ds.length = np then (match b (ds.map some ++ List.replicate (n - ds.length) none) h with
    | .nx _ h' => .ok .non h'
    | .rt d h' => .ok d h'
    | .exc c fs _ h' => .exc c fs h'
    | _ => .bad) else .bad
def spM (g : Gd) (np : Nat) (m : FM) : Sp := fun vs H Q E => vs.length = np ∧ ∃ ρ ds h, RDs g ρ H ds vs ∧ RH g ρ H h ∧ Post g (RD g) E ρ H (m ds h) Q
/-- what a caller knows of the def that the module's name x holds -/
structure Cal (P : Program) (w : World) (K : PySem.W.Frag) (mg : Str → Option Value) (base : Heap) (x : Str) (k : Nat) (m : FM) : Prop where
  ex : ∃ f fd ps, mg x = some (.ref f) ∧ PySem.W.keepIn K (.ref f) = true ∧ Binds K fd ps [] ∧ FnOk P w K mg base (L2.CX P w) k f fd ps (spM ⟨K, mg⟩ ps.length m) ∧ ∀ ds h, ds.length ≠ ps.length → m ds h = .bad
section
variable {X : Cx} {W : Wx} {e : Expr} {es : List Expr} {mas : AM} {pos p : Pos} {x : Str} {k : Nat} {m : FM}
theorem e_call (F : Cal X.prog X.w X.K X.mg X.base x k m) (hr : Room k X.A) (tk : Takes X W.W) (hg : Gl X x) (ha : PA X (e :: es) (tA (gd X) W mas)) (hdb : (x == ("__debug__" : Str)) = false := by decide)
    (he : starEach (e :: es) X.env = (false, eval e X.env) :: starEach es X.env := by rfl) (hpl : (backTo pos (starEach es X.env)).any (·.1) = false := by rfl) : PE X (.Call (.Name x p) (e :: es) [] pos) (tE (gd X) W (onA m mas)) := by
  obtain ⟨f, fd, ps, mgf, kp, b, G, hn⟩ := F.ex
  refine PE_of (pe_callS G hr hg mgf kp b (fun σ => passAt tk σ) ha hdb he hpl) fun σ H Q q => ?_
  refine one q fun ρ e H h xs vs s hh rx p => ?_
  refine ⟨?_, ρ, xs, h, rx, hh, p⟩
  by_cases hl : xs.length = ps.length
  · rw [← rx.length]; exact hl
  · rw [hn xs h hl] at p
    exact p.elim
theorem fn_ok {P : Program} {w : World} {K : PySem.W.Frag} {mg : Str → Option Value} {base : Heap} {x qual : Str} {st : Stmt} {f : Addr} {fd : FuncData} {N ps : List Str} {k : Nat} {b : SM} (F : Fun K x qual st f fd) (Sc : FnScope N ps (defScope st))
    (hbody : ∀ (cdv : Value) (A : Around) (outer : List PySem.Env) (s : Shared) (H : Hp) (E : XK), Room k (A.deeper (envOfC qual (defScope st) s.heap.objs.size f cdv)) →
      Takes (cxOf (L2.CX P w) P w K mg base N qual (defScope st) f cdv A outer s H E) (fun cls d _ H => E cls d H) →
      PSs (cxOf (L2.CX P w) P w K mg base N qual (defScope st) f cdv A outer s H E) (defBody st) (tS ⟨K, mg⟩ (fun cls d _ H => E cls d H) b)) :
    FnOk P w K mg base (L2.CX P w) (k + 1) f fd ps (spM ⟨K, mg⟩ ps.length (fnM ps.length N.length b)) := by
  refine F.okX Sc (fun vs H Q E h => h.1) (fun cdv A outer s H vs Q E hr h => ⟨_, hbody cdv A outer s H E hr (takes_of rfl rfl rfl rfl), ?_⟩)
  obtain ⟨hl, ρ, ds, h, rd, hh, p⟩ := h
  have hl' : ds.length = ps.length := by rw [rd.length]; exact hl
  unfold fnM at p
  rw [if_pos hl'] at p
  refine ⟨ρ, _, h, RS.start rd, hh, ?_⟩
  revert p
  generalize b (List.map some ds ++ List.replicate (N.length - ds.length) none) h = r
  intro p
  cases r with
  | nx e h' => exact fun ρ' σ' H' l a _ => p ρ' .non H' l a (by unfold RD; rfl)
  | rt d h' => exact p
  | exc c fs e h' => exact fun ρ' σ' H' C dd gs l a _ => p ρ' H' C dd gs l a
  | bk e h' => exact p.elim
  | ct e h' => exact p.elim
  | bad => exact p.elim
theorem cal_mk {P : Program} {w : World} {K : PySem.W.Frag} {mg : Str → Option Value} {base : Heap} {x qual : Str} {st : Stmt} {f : Addr} {fd : FuncData} {ps : List Str} {k np n : Nat} {b : SM} (F : Fun K x qual st f fd) (hm : mg x = some (.ref f)) (hb : Binds K fd ps [])
    (G : FnOk P w K mg base (L2.CX P w) k f fd ps (spM ⟨K, mg⟩ ps.length (fnM np n b))) (hnp : np = ps.length) : Cal P w K mg base x k (fnM np n b) :=
  ⟨f, fd, ps, hm, F.kp, hb, G, fun ds h hl => by unfold fnM; rw [hnp, if_neg hl]⟩
end

/-! ### statements -/
def ofE (e : Env) (r : R D) (k : D → MH → S) : S := match r with
  | .ok d h => k d h
  | .exc c fs h => .exc c fs e h
  | .bad => .bad
def ofT (e : Env) (r : R Bool) (k : Bool → MH → S) : S := match r with
  | .ok d h => k d h
  | .exc c fs h => .exc c fs e h
  | .bad => .bad
def setS (i : Nat) (a : EM) : SM := fun e h => ofE e (a e h) fun d h1 => .nx (e.set i (some d)) h1
def expS (a : EM) : SM := fun e h => ofE e (a e h) fun _ h1 => .nx e h1
def retS (a : EM) : SM := fun e h => ofE e (a e h) fun d h1 => .rt d h1
def retN : SM := fun e h => .rt .non h
def passS : SM := fun e h => .nx e h
def brkS : SM := fun e h => .bk e h
def ctS : SM := fun e h => .ct e h
def ifS (t : TM) (a b : SM) : SM := fun e h => ofT e (t e h) fun c h1 => if c then a e h1 else b e h1
def seqS (a b : SM) : SM := fun e h => match a e h with
  | .nx e1 h1 => b e1 h1
  | r => r
section
variable {X : Cx} {W : WX} {a : Expr} {ma : EM} {pos : Pos} {st : Stmt} {sts : List Stmt} {m1 m2 : SM}
/-- an expression ahead of a statement's rest -/
theorem stE {g : Gd} {σ : L2.St} {H : Hp} {N : Ends} {f : Env → D → MH → S} {k : V → Hp → Prop} (q : tS g W (fun e h => ofE e (ma e h) (f e)) N σ H)
    (hk : ∀ ρ e H h x vx, RS g ρ H e σ → RH g ρ H h → RD g ρ H x vx → PostS g W ρ H (f e x h) N → k vx H) : tE g (pl W) ma σ H k := by
  obtain ⟨ρ, e, h, s, hh, p⟩ := q
  refine ⟨ρ, e, h, s.x, hh, ?_⟩
  have p : PostS g W ρ H (ofE e (ma e h) (f e)) N := p
  revert p
  generalize ma e h = r
  intro p
  cases r with
  | ok d h1 => exact fun ρ1 v H1 l a b => hk ρ1 e H1 h1 d v (l.rs s) a b (PostS.later l p)
  | exc c fs h1 => exact fun ρ1 H1 C dd gs l a => p ρ1 σ H1 C dd gs l a (l.rs s)
  | bad => exact p.elim
theorem stT {g : Gd} {ta : TM} {σ : L2.St} {H : Hp} {N : Ends} {f : Env → Bool → MH → S} {k : Bool → Hp → Prop} (q : tS g W (fun e h => ofT e (ta e h) (f e)) N σ H)
    (hk : ∀ ρ e H h x, RS g ρ H e σ → RH g ρ H h → PostS g W ρ H (f e x h) N → k x H) : tT g (pl W) ta σ H k := by
  obtain ⟨ρ, e, h, s, hh, p⟩ := q
  refine ⟨ρ, e, h, s.x, hh, ?_⟩
  have p : PostS g W ρ H (ofT e (ta e h) (f e)) N := p
  revert p
  generalize ta e h = r
  intro p
  cases r with
  | ok d h1 =>
    intro ρ1 v H1 l a b
    cases b
    exact hk ρ1 e H1 h1 d (l.rs s) a (PostS.later l p)
  | exc c fs h1 => exact fun ρ1 H1 C dd gs l a => p ρ1 σ H1 C dd gs l a (l.rs s)
  | bad => exact p.elim
theorem s_set (i : Nat) {x : Str} {pos' : Pos} (hN : X.N.Nodup) (hi : X.N[i]? = some x) (hx : Loc X.env.scope x) (ha : PE X a (tE (gd X) (pl W) ma)) (hs : swapsWith a (some (.Name x pos')) pos.line X.env = pure false := by rfl)
    (hf : X.fn x = true ∨ X.env.scope.names.lookup x = some .local := by first | exact .inl rfl | exact .inr rfl | assumption) : PS X (.Assign [.Name x pos'] a pos) (tS (gd X) W (setS i ma)) :=
  PS_of (ps_set hN hi hx ha hs hf) fun N σ H q => stE q fun ρ e H h d v s hh r p => p ρ _ H Lat.refl hh (s.set r i)
theorem s_expr (ha : PE X a (tE (gd X) (pl W) ma)) (hs : swapsWith a none pos.line X.env = pure false := by rfl) : PS X (.Expr a pos) (tS (gd X) W (expS ma)) :=
  PS_of (ps_expr ha hs) fun N σ H q => stE q fun ρ e H h d v s hh r p => p ρ _ H Lat.refl hh s
theorem s_doc {x j pos pos'} : PS X (.Expr (.Constant (.str x) j pos) pos') (tS (gd X) W passS) := PS_of ps_doc fun N σ H q => by
  obtain ⟨ρ, e, h, s, hh, p⟩ := q
  exact p ρ σ H Lat.refl hh s
theorem s_pass : PS X (.Pass pos) (tS (gd X) W passS) := PS_of ps_pass fun N σ H q => by
  obtain ⟨ρ, e, h, s, hh, p⟩ := q
  exact p ρ σ H Lat.refl hh s
theorem s_break : PS X (.Break pos) (tS (gd X) W brkS) := PS_of ps_break fun N σ H q => by
  obtain ⟨ρ, e, h, s, hh, p⟩ := q
  exact p ρ σ H Lat.refl hh s
theorem s_cont : PS X (.Continue pos) (tS (gd X) W ctS) := PS_of ps_continue fun N σ H q => by
  obtain ⟨ρ, e, h, s, hh, p⟩ := q
  exact p ρ σ H Lat.refl hh s
theorem s_ret (ha : PE X a (tE (gd X) (pl W) ma)) : PS X (.Return (some a) pos) (tS (gd X) W (retS ma)) :=
  PS_of (ps_ret ha) fun N σ H q => stE q fun ρ e H h d v s hh r p => p ρ _ H Lat.refl hh r
theorem s_retN : PS X (.Return none pos) (tS (gd X) W retN) := PS_of ps_retN fun N σ H q => by
  obtain ⟨ρ, e, h, s, hh, p⟩ := q
  exact p ρ .non H Lat.refl hh (by unfold RD; rfl)
theorem s_if {c : Expr} {x y : List Stmt} {t : TM} (hc : PT X c (tT (gd X) (pl W) t)) (ha : PSs X x (tS (gd X) W m1)) (hb : PSs X y (tS (gd X) W m2)) : PS X (.If c x y pos) (tS (gd X) W (ifS t m1 m2)) :=
  PS_of (ps_if hc ha hb) fun N σ H q => by
    refine stT q fun ρ e H h x s hh p => ?_
    cases x with
    | true => exact ⟨ρ, e, h, s, hh, p⟩
    | false => exact ⟨ρ, e, h, s, hh, p⟩
theorem ss_nil : PSs X [] (tS (gd X) W passS) := PSs_of pss_nil fun N σ H q => by
  obtain ⟨ρ, e, h, s, hh, p⟩ := q
  exact p ρ σ H Lat.refl hh s
theorem ss_one (h : PS X st (tS (gd X) W m1)) : PSs X [st] (tS (gd X) W m1) := pss_one h
theorem ss_cons (h1 : PS X st (tS (gd X) W m1)) (h2 : PSs X sts (tS (gd X) W m2)) : PSs X (st :: sts) (tS (gd X) W (seqS m1 m2)) :=
  PSs_of (pss_cons h1 h2) fun N σ H q => by
    obtain ⟨ρ, e, h, s, hh, p⟩ := q
    refine ⟨ρ, e, h, s, hh, ?_⟩
    unfold seqS at p
    revert p
    generalize m1 e h = r
    intro p
    cases r with
    | nx e1 h1 => exact fun ρ1 σ1 H1 l a b => ⟨ρ1, e1, h1, b, a, PostS.later l p⟩
    | rt d h1 => exact p
    | bk e1 h1 => exact p
    | ct e1 h1 => exact p
    | exc c fs e1 h1 => exact p
    | bad => exact p
end
end ML

/-! ML 3: equality of mirror values, what is walked, targets, for, while, comprehensions -/
namespace ML
open PySem PySem.Spec PyProof.Rows L2

/-! ### equality of values as terms (a check that something has stayed) -/
mutual
def D.same : D → D → Bool
  | .non, .non => true
  | .bl a, .bl b => a == b
  | .int a, .int b => decide (a = b)
  | .str a, .str b => decide (a = b)
  | .ty a, .ty b => decide (a = b)
  | .tup l, .tup m => D.sames l m
  | .ref a, .ref b => decide (a = b)
  | .glb a, .glb b => decide (a = b)
  | _, _ => false
def D.sames : List D → List D → Bool
  | [], [] => true
  | a :: l, b :: m => D.same a b && D.sames l m
  | _, _ => false
end
mutual
theorem same_eq : ∀ {a b : D}, D.same a b = true → a = b
  | .non, .non, _ => rfl
  | .bl a, .bl b, h => by unfold D.same at h; rw [beq_iff_eq.mp h]
  | .int a, .int b, h => by unfold D.same at h; rw [of_decide_eq_true h]
  | .str a, .str b, h => by unfold D.same at h; rw [of_decide_eq_true h]
  | .ty a, .ty b, h => by unfold D.same at h; rw [of_decide_eq_true h]
  | .tup l, .tup m, h => by unfold D.same at h; rw [sames_eq h]
  | .ref a, .ref b, h => by unfold D.same at h; rw [of_decide_eq_true h]
  | .glb a, .glb b, h => by unfold D.same at h; rw [of_decide_eq_true h]
  | .non, .bl _, h => by unfold D.same at h; cases h
  | .non, .int _, h => by unfold D.same at h; cases h
  | .non, .str _, h => by unfold D.same at h; cases h
  | .non, .ty _, h => by unfold D.same at h; cases h
  | .non, .tup _, h => by unfold D.same at h; cases h
  | .non, .ref _, h => by unfold D.same at h; cases h
  | .non, .glb _, h => by unfold D.same at h; cases h
  | .bl _, .non, h => by unfold D.same at h; cases h
  | .bl _, .int _, h => by unfold D.same at h; cases h
  | .bl _, .str _, h => by unfold D.same at h; cases h
  | .bl _, .ty _, h => by unfold D.same at h; cases h
  | .bl _, .tup _, h => by unfold D.same at h; cases h
  | .bl _, .ref _, h => by unfold D.same at h; cases h
  | .bl _, .glb _, h => by unfold D.same at h; cases h
  | .int _, .non, h => by unfold D.same at h; cases h
  | .int _, .bl _, h => by unfold D.same at h; cases h
  | .int _, .str _, h => by unfold D.same at h; cases h
  | .int _, .ty _, h => by unfold D.same at h; cases h
  | .int _, .tup _, h => by unfold D.same at h; cases h
  | .int _, .ref _, h => by unfold D.same at h; cases h
  | .int _, .glb _, h => by unfold D.same at h; cases h
  | .str _, .non, h => by unfold D.same at h; cases h
  | .str _, .bl _, h => by unfold D.same at h; cases h
  | .str _, .int _, h => by unfold D.same at h; cases h
  | .str _, .ty _, h => by unfold D.same at h; cases h
  | .str _, .tup _, h => by unfold D.same at h; cases h
  | .str _, .ref _, h => by unfold D.same at h; cases h
  | .str _, .glb _, h => by unfold D.same at h; cases h
  | .ty _, .non, h => by unfold D.same at h; cases h
  | .ty _, .bl _, h => by unfold D.same at h; cases h
  | .ty _, .int _, h => by unfold D.same at h; cases h
  | .ty _, .str _, h => by unfold D.same at h; cases h
  | .ty _, .tup _, h => by unfold D.same at h; cases h
  | .ty _, .ref _, h => by unfold D.same at h; cases h
  | .ty _, .glb _, h => by unfold D.same at h; cases h
  | .tup _, .non, h => by unfold D.same at h; cases h
  | .tup _, .bl _, h => by unfold D.same at h; cases h
  | .tup _, .int _, h => by unfold D.same at h; cases h
  | .tup _, .str _, h => by unfold D.same at h; cases h
  | .tup _, .ty _, h => by unfold D.same at h; cases h
  | .tup _, .ref _, h => by unfold D.same at h; cases h
  | .tup _, .glb _, h => by unfold D.same at h; cases h
  | .ref _, .non, h => by unfold D.same at h; cases h
  | .ref _, .bl _, h => by unfold D.same at h; cases h
  | .ref _, .int _, h => by unfold D.same at h; cases h
  | .ref _, .str _, h => by unfold D.same at h; cases h
  | .ref _, .ty _, h => by unfold D.same at h; cases h
  | .ref _, .tup _, h => by unfold D.same at h; cases h
  | .ref _, .glb _, h => by unfold D.same at h; cases h
  | .glb _, .non, h => by unfold D.same at h; cases h
  | .glb _, .bl _, h => by unfold D.same at h; cases h
  | .glb _, .int _, h => by unfold D.same at h; cases h
  | .glb _, .str _, h => by unfold D.same at h; cases h
  | .glb _, .ty _, h => by unfold D.same at h; cases h
  | .glb _, .tup _, h => by unfold D.same at h; cases h
  | .glb _, .ref _, h => by unfold D.same at h; cases h
theorem sames_eq : ∀ {l m : List D}, D.sames l m = true → l = m
  | [], [], _ => rfl
  | a :: l, b :: m, h => by
    unfold D.sames at h
    have h' := Bool.and_eq_true_iff.mp h
    rw [same_eq h'.1, sames_eq h'.2]
  | [], _ :: _, h => by unfold D.sames at h; cases h
  | _ :: _, [], h => by unfold D.sames at h; cases h
end
mutual
theorem same_refl : ∀ (a : D), D.same a a = true
  | .non => by unfold D.same; rfl
  | .bl a => by unfold D.same; simp
  | .int a => by unfold D.same; simp
  | .str a => by unfold D.same; simp
  | .ty a => by unfold D.same; simp
  | .tup l => by unfold D.same; exact sames_refl l
  | .ref a => by unfold D.same; simp
  | .glb a => by unfold D.same; simp
theorem sames_refl : ∀ (l : List D), D.sames l l = true
  | [] => by unfold D.sames; rfl
  | a :: l => by unfold D.sames; rw [same_refl a, sames_refl l]; rfl
end

/-! ### what is walked -/
/-- the items; the lists (by their places) that must stand as they were at each turn -/
structure IT where
  items : List D
  srcs : List (Nat × List D) := []
def stands (h : MH) (p : Nat × List D) : Bool := match h[p.1]? with
  | some (.lst l) => D.sames l p.2
  | _ => false
def IT.ok (h : MH) (srcs : List (Nat × List D)) : Bool := srcs.all (stands h)
theorem stands_eq {h : MH} {p : Nat × List D} (e : stands h p = true) : h[p.1]? = some (.lst p.2) := by
  unfold stands at e
  split at e
  · rename_i l hl
    rw [hl, sames_eq e]
  · cases e
abbrev IM := Env → MH → R IT
/-- J walks these items -/
def WkD (g : Gd) (ρ1 : List Addr) (H1 : Hp) (it : IT) (J : It) : Prop := ∃ (G : Hp → Prop) (Y : Nat → Hp → V → Hp → Prop), Walk J it.items.length G Y ∧
  (∀ ρ2 H2 h2, Lat g ρ1 H1 ρ2 H2 → RH g ρ2 H2 h2 → IT.ok h2 it.srcs = true → G H2) ∧
  ∀ i H2 x H3 ρ2 h2 d, Lat g ρ1 H1 ρ2 H2 → RH g ρ2 H2 h2 → IT.ok h2 it.srcs = true → Y i H2 x H3 → it.items[i]? = some d → Lat g ρ2 H2 ρ2 H3 ∧ RH g ρ2 H3 h2 ∧ RD g ρ2 H3 d x
abbrev iM (g : Gd) (W : Wx) (m : IM) : TI := tG g (WkD g) W m
theorem PI_of {X : Cx} {tg e : Expr} {t t' : TI} (h : PI X tg e t) (i : ∀ σ H Q, t' σ H Q → t σ H Q) : PI X tg e t' := ⟨fun pins s σ H Q I q => h.run pins s σ H Q I (i _ _ _ q)⟩
/-- a list, a tuple, a text -/
def iAny (K : PySem.W.Frag) (tl : TE) : TI := fun σ H R => tl σ H fun x H1 =>
  (∃ a, x = .ref a ∧ (∃ xs, SqL K H1 a xs) ∧ R (Itl K a) H1) ∨ (∃ a, x = .ref a ∧ (∃ xs, SqT K H1 a xs) ∧ R (Itt K a) H1) ∨ ∃ z, x = .str z ∧ R (Its z) H1
theorem pi_any {X : Cx} {tg l : Expr} {tl : TE} (hl : PE X l tl) : PI X tg l (iAny X.K tl) := by
  refine ⟨fun pins s σ H R I h => ?_⟩
  refine thn (hl.run pins s σ H _ I h) fun v s1 ⟨x, H1, I1, r1, q1⟩ => ?_
  rcases q1 with ⟨a, e, ⟨xs, hq⟩, q⟩ | ⟨a, e, ⟨xs, hq⟩, q⟩ | ⟨z, e, q⟩ <;> subst e
  · cases r1
    exact wpAny_pyIter_list (Inv.list I1 hq).choose_spec.2.1.isList (pi_one I1 (tk := s1.toks) _ (turn_list a _) ⟨_, Heap.get?_push_size _ rfl, rfl, rfl⟩ q)
  · cases r1
    exact wpAny_pyIter_tuple (Inv.tuple I1 hq).choose_spec.2.1 (pi_one I1 (tk := s1.toks) _ (turn_tuple a _) ⟨_, Heap.get?_push_size _ rfl, rfl, rfl⟩ q)
  · obtain ⟨t, rfl⟩ := r1
    cases low : z.cps.all (· < 128) with
    | false => exact wpAny_pyIter_wide low (pi_one I1 (tk := s1.toks) _ (turn_str _ z t _ (.inr rfl)) ⟨_, Heap.get?_push_size _ rfl, rfl, rfl⟩ q)
    | true => exact wpAny_pyIter_ascii low (pi_one I1 (tk := s1.toks) _ (turn_str _ z t _ (.inl rfl)) ⟨_, Heap.get?_push_size _ rfl, rfl, rfl⟩ q)

section
variable {g : Gd} {ρ : List Addr} {H : Hp} {a : Addr} {vs : List V} {l : List D} {h : MH}
theorem wk_tup (sq : SqT g.K H a vs) (r : RDs g ρ H l vs) : WkD g ρ H ⟨l, []⟩ (Itt g.K a) := by
  have hl := r.length
  refine ⟨fun H => SqT g.K H a vs, YAt vs, by show Walk _ l.length _ _; rw [hl]; exact walk_tup, fun ρ2 H2 h2 l2 _ _ => l2.sqT sq, fun i H2 x H3 ρ2 h2 d l2 hh _ y e => ?_⟩
  obtain ⟨e1, e2⟩ := y
  subst e1
  obtain ⟨v, e3, r3⟩ := r.get e
  rw [e2] at e3
  cases e3
  exact ⟨Lat.refl, hh, l2.rd d r3⟩
theorem RdL.sq {K : PySem.W.Frag} (h : RdL K H a vs) : SqL K H a vs := by
  rcases h with ⟨o, h⟩ | h
  · exact .inl (.inr ⟨o, h⟩)
  · exact .inr h
theorem wk_rdl (sq : RdL g.K H a vs) (r : RDs g ρ H l vs) : WkD g ρ H ⟨l, []⟩ (Itl g.K a) := by
  have hl := r.length
  refine ⟨fun H => RdL g.K H a vs, YAt vs, by show Walk _ l.length _ _; rw [hl]; exact walk_list.mono (fun _ q => q.sq) (fun _ _ _ _ _ _ y => y), fun ρ2 H2 h2 l2 _ _ => l2.rdl sq, fun i H2 x H3 ρ2 h2 d l2 hh _ y e => ?_⟩
  obtain ⟨e1, e2⟩ := y
  subst e1
  obtain ⟨v, e3, r3⟩ := r.get e
  rw [e2] at e3
  cases e3
  exact ⟨Lat.refl, hh, l2.rd d r3⟩
theorem wk_lst {n : Nat} (en : ρ[n]? = some a) : WkD g ρ H ⟨l, [(n, l)]⟩ (Itl g.K a) := by
  have key : ∀ {ρ2 H2 h2}, Lat g ρ H ρ2 H2 → RH g ρ2 H2 h2 → IT.ok h2 [(n, l)] = true → ∃ vs, H2 a = some (.lst vs) ∧ RDs g ρ2 H2 l vs := fun {ρ2 H2 h2} l2 hh ok => by
    have e := stands_eq (p := (n, l)) (by unfold IT.ok at ok; simpa using ok)
    exact hh.obj n _ a e (l2.at en)
  refine ⟨fun H => ∃ vs, SqL g.K H a vs ∧ vs.length = l.length, (Itl g.K a).yld, ⟨fun i H hi ⟨vs, q, e⟩ => ⟨vs, vs[i]'(by rw [e]; exact hi), q, List.getElem?_eq_getElem _⟩, fun H ⟨vs, q, e⟩ => ⟨vs, q, Nat.le_of_eq e⟩, fun _ _ _ _ _ _ y => y⟩,
    fun ρ2 H2 h2 l2 hh ok => ?_, fun i H2 x H3 ρ2 h2 d l2 hh ok y e => ?_⟩
  · obtain ⟨vs, e, r⟩ := key l2 hh ok
    exact ⟨vs, .of e, r.length.symm⟩
  · obtain ⟨vs, e1, r⟩ := key l2 hh ok
    obtain ⟨e2, y⟩ := y
    subst e2
    have e3 := y vs (.of e1)
    obtain ⟨v, e4, r4⟩ := r.get e
    rw [e3] at e4
    cases e4
    exact ⟨Lat.refl, hh, r4⟩
def chars (z : Str) : List D := z.cps.toList.map fun c => .str ⟨#[c]⟩
theorem wk_str {z : Str} : WkD g ρ H ⟨chars z, []⟩ (Its z) := by
  refine ⟨fun _ => True, fun i H v H' => H' = H ∧ ∃ c, z.cps[i]? = some c ∧ v = .str ⟨#[c]⟩, by show Walk _ (chars z).length _ _; unfold chars; rw [List.length_map, Array.length_toList]; exact walk_str, fun _ _ _ _ _ _ => True.intro, fun i H2 x H3 ρ2 h2 d l2 hh _ y e => ?_⟩
  obtain ⟨e1, c, e2, e3⟩ := y
  subst e1 e3
  unfold chars at e
  rw [List.getElem?_map, Array.getElem?_toList, e2] at e
  cases e
  exact ⟨Lat.refl, hh, by unfold RD; rfl⟩
def rangeD (lo : Int) (n : Nat) : List D := (List.range n).map fun (i : Nat) => .int (lo + i)
theorem wk_range {lo : Int} {n : Nat} : WkD g ρ H ⟨rangeD lo n, []⟩ (Itr lo n) := by
  refine ⟨fun _ => True, YFn fun i => .int (lo + i), by show Walk _ (rangeD lo n).length _ _; unfold rangeD; rw [List.length_map, List.length_range]; exact walk_range, fun _ _ _ _ _ _ => True.intro, fun i H2 x H3 ρ2 h2 d l2 hh _ y e => ?_⟩
  obtain ⟨e1, e2⟩ := y
  subst e1 e2
  unfold rangeD at e
  rw [List.getElem?_map] at e
  cases q : (List.range n)[i]? with
  | none => rw [q] at e; cases e
  | some j =>
    rw [q] at e
    obtain ⟨hj, ej⟩ := List.getElem?_eq_some_iff.mp q
    rw [List.getElem_range] at ej
    subst ej
    cases e
    exact ⟨Lat.refl, hh, by unfold RD; rfl⟩
end
def seqF : D → MH → R IT := fun d h => match d with
  | .tup l => .ok ⟨l, []⟩ h
  | .str z => .ok ⟨chars z, []⟩ h
  | .ref n => (match h[n]? with
    | some (.lst l) => .ok ⟨l, [(n, l)]⟩ h
    | some (.rdl l) => .ok ⟨l, []⟩ h
    | _ => .bad)
  | _ => .bad
def seqI (m : EM) : IM := fun e h => (m e h).bind seqF
def rng1I (m : AM) : IM := fun e h => (m e h).bind fun ds h1 => match ds with
  | [.int j] => if -(2 ^ 62) ≤ j ∧ j < 2 ^ 62 then .ok ⟨rangeD 0 j.toNat, []⟩ h1 else .bad
  | _ => .bad
def rng2I (m : AM) : IM := fun e h => (m e h).bind fun ds h1 => match ds with
  | [.int i, .int j] => if -(2 ^ 62) ≤ i ∧ i < 2 ^ 62 ∧ -(2 ^ 62) ≤ j ∧ j < 2 ^ 62 then .ok ⟨rangeD i (j - i).toNat, []⟩ h1 else .bad
  | _ => .bad
section
variable {X : Cx} {W : Wx} {tg l a b : Expr} {ml : EM} {ma : AM} {p pos : Pos}
theorem RD_int {g : Gd} {ρ : List Addr} {H : Hp} {i : Int} {v : V} (r : RD g ρ H (.int i) v) : v = .int i := by unfold RD at r; exact r
theorem RD_str {g : Gd} {ρ : List Addr} {H : Hp} {i : Str} {v : V} (r : RD g ρ H (.str i) v) : v = .str i := by unfold RD at r; exact r
theorem RD_tup {g : Gd} {ρ : List Addr} {H : Hp} {l : List D} {v : V} (r : RD g ρ H (.tup l) v) : ∃ a vs, v = .ref a ∧ SqT g.K H a vs ∧ RDs g ρ H l vs := by unfold RD at r; exact r
theorem RD_ref {g : Gd} {ρ : List Addr} {H : Hp} {n : Nat} {v : V} (r : RD g ρ H (.ref n) v) : ∃ a, ρ[n]? = some a ∧ v = .ref a := by unfold RD at r; exact r
theorem i_any (h : PE X l (tE (gd X) W ml)) : PI X tg l (iM (gd X) W (seqI ml)) := PI_of (pi_any h) fun σ H Q q => by
  refine one q fun ρ e H h x vx s hh rx p => ?_
  cases x <;> first | exact p.elim | skip
  · rename_i z
    exact .inr (.inr ⟨z, RD_str rx, p.okk hh wk_str⟩)
  · rename_i ds
    obtain ⟨a, vs, e1, sq, r⟩ := RD_tup rx
    exact .inr (.inl ⟨a, e1, ⟨vs, sq⟩, p.okk hh (wk_tup sq r)⟩)
  · rename_i n
    obtain ⟨a, e1, e2⟩ := RD_ref rx
    unfold seqF at p
    dsimp only at p
    split at p
    · rename_i l hl
      obtain ⟨vs, e3, r⟩ := hh.obj n _ a hl e1
      exact .inl ⟨a, e2, ⟨vs, .of e3⟩, p.okk hh (wk_lst e1)⟩
    · rename_i l hl
      obtain ⟨vs, e3, r⟩ := hh.obj n _ a hl e1
      exact .inl ⟨a, e2, ⟨vs, e3.sq⟩, p.okk hh (wk_rdl e3 r)⟩
    · exact p.elim
theorem i_range1 (hg : Gl X "range") (hm : X.mg "range" = none) (ha : PA X [a] (tA (gd X) W ma)) (hs : starEach [a] X.env = [(false, eval a X.env)] := by rfl) : PI X tg (.Call (.Name "range" p) [a] [] pos) (iM (gd X) W (rng1I ma)) :=
  PI_of (pi_range1 hg hm ha hs) fun σ H Q q => by
    refine one q fun ρ e H h x vx s hh rx p => ?_
    try dsimp only at p
    split at p
    · rename_i j
      split at p
      · rename_i hj
        obtain ⟨v, r, e1, r1, r2⟩ := rx.inv
        rw [r2.invNil] at e1
        exact ⟨j, by rw [e1, RD_int r1], hj.1, hj.2, p.okk hh wk_range⟩
      · exact p.elim
    · exact p.elim
theorem i_range2 (hg : Gl X "range") (hm : X.mg "range" = none) (ha : PA X [a, b] (tA (gd X) W ma)) (hs : starEach [a, b] X.env = [(false, eval a X.env), (false, eval b X.env)] := by rfl) (hs2 : starEach [b] X.env = [(false, eval b X.env)] := by rfl) :
    PI X tg (.Call (.Name "range" p) [a, b] [] pos) (iM (gd X) W (rng2I ma)) :=
  PI_of (pi_range2 hg hm ha hs hs2) fun σ H Q q => by
    refine one q fun ρ e H h x vx s hh rx p => ?_
    try dsimp only at p
    split at p
    · rename_i i j
      split at p
      · rename_i hj
        obtain ⟨v, r, e1, r1, r2⟩ := rx.inv
        obtain ⟨v', r', e2, r3, r4⟩ := r2.inv
        rw [r4.invNil] at e2
        rw [e2] at e1
        exact ⟨i, j, by rw [e1, RD_int r1, RD_int r3], hj, p.okk hh wk_range⟩
      · exact p.elim
    · exact p.elim
end

/-! ### targets -/
abbrev GM := D → Env → MH → Option Env
def gnm (i : Nat) : GM := fun d e _ => some (e.set i (some d))
def asgAll : List GM → List D → Env → MH → Option Env
  | [], [], e, _ => some e
  | m :: ms, d :: ds, e, h => (m d e h).bind fun e1 => asgAll ms ds e1 h
  | _, _, _, _ => none
def gtp (ms : List GM) : GM := fun d e h => match d with
  | .tup ds => if ds.length = ms.length then asgAll ms ds e h else none
  | _ => none
/-- only the slots own have changed -/
def But (own : List Nat) (σ σ' : L2.St) : Prop := σ'.length = σ.length ∧ ∀ j, j ∉ own → σ'[j]? = σ[j]?
theorem But.trans {own : List Nat} {a b c : L2.St} (h : But own a b) (k : But own b c) : But own a c := ⟨k.1.trans h.1, fun j hj => (k.2 j hj).trans (h.2 j hj)⟩
theorem But.mono {own own' : List Nat} {a b : L2.St} (h : But own a b) (m : ∀ j ∈ own, j ∈ own') : But own' a b := ⟨h.1, fun j hj => h.2 j fun z => hj (m j z)⟩
def tGm (g : Gd) (own : List Nat) (m : GM) : TG := fun v σ H Q => ∃ ρ e h d e', RS g ρ H e σ ∧ RH g ρ H h ∧ RD g ρ H d v ∧ m d e h = some e' ∧ ∀ σ', RS g ρ H e' σ' → But own σ σ' → Q σ' H
def tGms (g : Gd) (own : List Nat) (ms : List GM) : TGs := fun vs σ H Q => ∃ ρ e h ds e', RS g ρ H e σ ∧ RH g ρ H h ∧ RDs g ρ H ds vs ∧ asgAll ms ds e h = some e' ∧ ∀ σ', RS g ρ H e' σ' → But own σ σ' → Q σ' H
section
variable {X : Cx} {pos : Pos} {own own2 : List Nat} {ms : List GM} {m : GM}
theorem PG_of {X : Cx} {e : Expr} {t t' : TG} (h : PG X e t) (i : ∀ v σ H Q, t' v σ H Q → t v σ H Q) : PG X e t' := ⟨fun pins s σ H v u Q I r q => h.run pins s σ H v u Q I r (i _ _ _ _ q)⟩
theorem PGs_of {X : Cx} {e : List Expr} {t t' : TGs} (h : PGs X e t) (i : ∀ v σ H Q, t' v σ H Q → t v σ H Q) : PGs X e t' := ⟨fun pins s σ H v u Q I r q => h.run pins s σ H v u Q I r (i _ _ _ _ q)⟩
theorem g_name (i : Nat) {x : Str} (hN : X.N.Nodup) (hi : X.N[i]? = some x) (hx : Loc X.env.scope x) (hf : X.fn x = true ∨ X.env.scope.names.lookup x = some .local := by first | exact .inl rfl | exact .inr rfl | assumption) : PG X (.Name x pos) (tGm (gd X) [i] (gnm i)) :=
  PG_of (pg_name hN hi hx hf) fun v σ H Q q => by
    obtain ⟨ρ, e, h, d, e', s, hh, r, em, k⟩ := q
    cases em
    exact k _ (s.set r i) ⟨by simp, fun j hj => by rw [List.getElem?_set_ne]; intro z; exact hj (by simp [z])⟩
theorem gs_nil : PGs X [] (tGms (gd X) [] []) := PGs_of pgs_nil fun vs σ H Q q => by
  obtain ⟨ρ, e, h, d, e', s, hh, r, em, k⟩ := q
  cases d with
  | nil =>
    cases em
    exact ⟨r.invNil, k σ s ⟨rfl, fun _ _ => rfl⟩⟩
  | cons d ds => cases em
theorem gs_cons {e : Expr} {es : List Expr} (h1 : PG X e (tGm (gd X) own m)) (h2 : PGs X es (tGms (gd X) own2 ms)) (hs : (assignEach (e :: es) X.env).map (·.2) = assign e X.env :: (assignEach es X.env).map (·.2) := by rfl) :
    PGs X (e :: es) (tGms (gd X) (own ++ own2) (m :: ms)) := PGs_of (pgs_cons h1 h2 hs) fun vs σ H Q q => by
  obtain ⟨ρ, e, h, ds, e', s, hh, r, em, k⟩ := q
  cases ds with
  | nil => cases em
  | cons d ds =>
    obtain ⟨v, vr, e1, r1, r2⟩ := r.inv
    unfold asgAll at em
    cases q1 : m d e h with
    | none => rw [q1] at em; cases em
    | some e2 =>
      rw [q1] at em
      exact ⟨v, vr, e1, ρ, e, h, d, e2, s, hh, r1, q1, fun σ2 s2 b2 => ⟨ρ, e2, h, ds, e', s2, hh, r2, em, fun σ3 s3 b3 => k σ3 s3 ((b2.mono fun j hj => List.mem_append_left _ hj).trans (b3.mono fun j hj => List.mem_append_right _ hj))⟩⟩
theorem g_tup {es : List Expr} {k n : Nat} (hc : X.calm = true) (h : PGs X es (tGms (gd X) own ms)) (hn : (assignEach es X.env).length = n := by rfl) (hst : (assignEach es X.env).findIdx? (·.1) = none := by rfl) (hl : ms.length = n := by rfl) :
    PG X (.Tuple es k pos) (tGm (gd X) own (gtp ms)) := PG_of (pg_tup hc h hn hst) fun v σ H Q q => by
  obtain ⟨ρ, e, h, d, e', s, hh, r, em, kk⟩ := q
  cases d <;> first | cases em | skip
  rename_i ds
  obtain ⟨a, vs, e1, sq, rs⟩ := RD_tup r
  unfold gtp at em
  dsimp only at em
  split at em
  · rename_i hds
    exact ⟨a, vs, e1, sq, by rw [← rs.length, hds, hl], ρ, e, h, ds, e', s, hh, rs, em, kk⟩
  · cases em
end

/-! ### for -/
def loopS (srcs : List (Nat × List D)) (tg : GM) (body : SM) : List D → Env → MH → S
  | [], e, h => if IT.ok h srcs = true then .nx e h else .bad
  | d :: r, e, h => if IT.ok h srcs = true then (match tg d e h with
    | some e1 => (match body e1 h with
      | .nx e2 h2 => loopS srcs tg body r e2 h2
      | .ct e2 h2 => loopS srcs tg body r e2 h2
      | .bk e2 h2 => .nx e2 h2
      | .rt x h2 => .rt x h2
      | .exc c fs e2 h2 => .exc c fs e2 h2
      | .bad => .bad)
    | none => .bad) else .bad
def forS (it : IM) (tg : GM) (body : SM) : SM := fun e h => match it e h with
  | .ok it h1 => loopS it.srcs tg body it.items e h1
  | .exc c fs h1 => .exc c fs e h1
  | .bad => .bad
def whileS (t : TM) (b : SM) : Nat → SM
  | 0 => fun _ _ => .bad
  | n + 1 => fun e h => ofT e (t e h) fun c h1 => if c then (match b e h1 with
    | .nx e2 h2 => whileS t b n e2 h2
    | .ct e2 h2 => whileS t b n e2 h2
    | .bk e2 h2 => .nx e2 h2
    | .rt x h2 => .rt x h2
    | .exc c fs e2 h2 => .exc c fs e2 h2
    | .bad => .bad) else .nx e h1
section
variable {X : Cx} {W : WX} {tg iter c : Expr} {body : List Stmt} {mi : IM} {mg : GM} {mb : SM} {own : List Nat} {pos : Pos} {mt : TM}
theorem loopS_ok {g : Gd} {ρ : List Addr} {H : Hp} {N : Ends} {srcs : List (Nat × List D)} {l : List D} {e : Env} {h : MH} (p : PostS g W ρ H (loopS srcs mg mb l e h) N) : IT.ok h srcs = true := by
  cases l with
  | nil =>
    unfold loopS at p
    split at p
    · assumption
    · exact p.elim
  | cons d r =>
    unfold loopS at p
    split at p
    · assumption
    · exact p.elim
theorem s_for (hp : PassesOwn (model X.prog X.w) X.A X.env X.xe) (hc : X.calm = true) (hi : PI X tg iter (iM (gd X) (pl W) mi)) (hg : PG X tg (tGm (gd X) own mg)) (hb : PSs X body (tS (gd X) W mb))
    (hs : ∀ x, foldedSetIterable iter X.env x = pure x := by intro _; rfl) : PS X (.For tg iter body [] pos) (tS (gd X) W (forS mi mg mb)) := PS_of (ps_for hp hc hi hg hb hs) fun N σ H q => by
  obtain ⟨ρ, e, h, s, hh, p⟩ := q
  refine ⟨ρ, e, h, s.x, hh, ?_⟩
  unfold forS at p
  revert p
  generalize mi e h = r
  intro p
  cases r with
  | bad => exact p.elim
  | exc c fs h1 => exact fun ρ1 H1 C dd gs l a => p ρ1 σ H1 C dd gs l a (l.rs s)
  | ok it h1 =>
    intro ρ1 J H1 l1 hh1 wk
    obtain ⟨G, Y, wlk, hG, hY⟩ := wk
    refine for_it wlk (fun i σ' H' => ∃ ρ2 e2 h2, Lat (gd X) ρ1 H1 ρ2 H' ∧ RS (gd X) ρ2 H' e2 σ' ∧ RH (gd X) ρ2 H' h2 ∧ PostS (gd X) W ρ2 H' (loopS it.srcs mg mb (it.items.drop i) e2 h2) N)
      ⟨ρ1, e, h1, Lat.refl, l1.rs s, hh1, PostS.later l1 p⟩ (fun i σ' H' _ ⟨ρ2, e2, h2, l2, s2, hh2, p2⟩ => hG ρ2 H' h2 l2 hh2 (loopS_ok p2)) ?_ ?_
    · rintro i x σ' H' H'' hi ⟨ρ2, e2, h2, l2, s2, hh2, p2⟩ y
      have ok := loopS_ok p2
      have ed : it.items.drop i = it.items[i] :: it.items.drop (i + 1) := List.drop_eq_getElem_cons hi
      obtain ⟨l3, hh3, rd⟩ := hY i H' x H'' ρ2 h2 _ l2 hh2 ok y (List.getElem?_eq_getElem hi)
      rw [ed] at p2
      unfold loopS at p2
      rw [if_pos ok] at p2
      cases q1 : mg it.items[i] e2 h2 with
      | none => rw [q1] at p2; exact p2.elim
      | some e3 =>
        rw [q1] at p2
        refine ⟨ρ2, e2, h2, _, e3, l3.rs s2, hh3, rd, q1, fun σ3 s3 _ => ⟨ρ2, e3, h2, s3, hh3, ?_⟩⟩
        have p3 := PostS.later l3 p2
        dsimp only at p3
        revert p3
        generalize mb e3 h2 = r
        intro p3
        cases r with
        | nx e4 h4 => exact fun ρ4 σ4 H4 l4 a b => ⟨ρ4, e4, h4, (l2.trans l3).trans l4, b, a, PostS.later l4 p3⟩
        | ct e4 h4 => exact fun ρ4 σ4 H4 l4 a b => ⟨ρ4, e4, h4, (l2.trans l3).trans l4, b, a, PostS.later l4 p3⟩
        | bk e4 h4 => exact p3
        | rt x h4 => exact p3
        | exc c fs e4 h4 => exact p3
        | bad => exact p3
    · rintro σ' H' ⟨ρ2, e2, h2, l2, s2, hh2, p2⟩
      have ok := loopS_ok p2
      rw [List.drop_length] at p2
      unfold loopS at p2
      rw [if_pos ok] at p2
      exact p2 ρ2 σ' H' Lat.refl hh2 s2
theorem s_while (n : Nat) (hp : PassesOwn (model X.prog X.w) X.A X.env X.xe) (hc : PT X c (tT (gd X) (pl W) mt)) (hb : PSs X body (tS (gd X) W mb)) : PS X (.While c body [] pos) (tS (gd X) W (whileS mt mb n)) := PS_of (ps_while hp hc hb) fun N σ H q => by
  refine ⟨fun m σ' H' => ∃ ρ e h, RS (gd X) ρ H' e σ' ∧ RH (gd X) ρ H' h ∧ PostS (gd X) W ρ H' (whileS mt mb m e h) N, ⟨n, q⟩, ?_⟩
  rintro m σ' H' ⟨ρ, e, h, s, hh, p⟩
  cases m with
  | zero => exact p.elim
  | succ m =>
    unfold whileS at p
    refine stT (f := fun e c h1 => if c then (match mb e h1 with
      | .nx e2 h2 => whileS mt mb m e2 h2
      | .ct e2 h2 => whileS mt mb m e2 h2
      | .bk e2 h2 => .nx e2 h2
      | .rt x h2 => .rt x h2
      | .exc c fs e2 h2 => .exc c fs e2 h2
      | .bad => .bad) else .nx e h1) ⟨ρ, e, h, s, hh, p⟩ fun ρ e H h x s hh p => ?_
    cases x with
    | false => exact p ρ σ' H Lat.refl hh s
    | true =>
      refine ⟨fun σ3 H3 => ∃ ρ e h, RS (gd X) ρ H3 e σ3 ∧ RH (gd X) ρ H3 h ∧ PostS (gd X) W ρ H3 (whileS mt mb m e h) N, fun σ3 H3 z => ⟨m, Nat.lt_succ_self m, z⟩, ρ, e, h, s, hh, ?_⟩
      try dsimp only at p
      rw [if_pos rfl] at p
      revert p
      generalize mb e h = r
      intro p
      cases r with
      | nx e4 h4 => exact fun ρ4 σ4 H4 l4 a b => ⟨ρ4, e4, h4, b, a, PostS.later l4 p⟩
      | ct e4 h4 => exact fun ρ4 σ4 H4 l4 a b => ⟨ρ4, e4, h4, b, a, PostS.later l4 p⟩
      | bk e4 h4 => exact p
      | rt x h4 => exact p
      | exc c fs e4 h4 => exact p
      | bad => exact p
end
end ML

/-! ML 4: comprehensions, several targets at once, items stored, raise and try -/
namespace ML
open PySem PySem.Spec PyProof.Rows L2

/-! ### comprehensions -/
def wipeM (e : Env) : List Nat → Env
  | [] => e
  | v :: vs => (wipeM e vs).set v none
theorem wipeM_length (e : Env) : ∀ vs, (wipeM e vs).length = e.length
  | [] => rfl
  | v :: vs => by unfold wipeM; rw [List.length_set, wipeM_length e vs]
theorem wipeM_get {e : Env} : ∀ {vs : List Nat} {i : Nat} {d : D}, (wipeM e vs)[i]? = some (some d) → i ∉ vs ∧ e[i]? = some (some d)
  | [], i, d, h => ⟨by simp, h⟩
  | v :: vs, i, d, h => by
    unfold wipeM at h
    by_cases hi : v = i
    · subst hi
      by_cases hv : v < (wipeM e vs).length
      · rw [List.getElem?_set_self hv] at h; cases h
      · rw [List.getElem?_eq_none (by simpa using hv)] at h; cases h
    · rw [List.getElem?_set_ne hi] at h
      obtain ⟨h1, h2⟩ := wipeM_get h
      exact ⟨by simp only [List.mem_cons, not_or]; exact ⟨fun e => hi e.symm, h1⟩, h2⟩
theorem wipe_in {σ : L2.St} {i : Nat} : ∀ {vs : List Nat}, i ∈ vs → i < σ.length → (wipe σ vs)[i]? = some none
  | v :: vs, h, hl => by
    unfold wipe
    by_cases hi : v = i
    · subst hi
      exact List.getElem?_set_self (by rw [wipe_length]; exact hl)
    · rw [List.getElem?_set_ne hi]
      rcases List.mem_cons.mp h with e | e
      · exact absurd e.symm hi
      · exact wipe_in e hl
theorem wipe_but {σ σ2 : L2.St} {vs : List Nat} (b : But vs (wipe σ vs) σ2) : wipe σ2 vs = wipe σ vs := by
  obtain ⟨hl, hb⟩ := b
  rw [wipe_length] at hl
  apply List.ext_getElem?
  intro i
  by_cases hi : i ∈ vs
  · by_cases hs : i < σ.length
    · rw [wipe_in hi hs, wipe_in hi (by rw [hl]; exact hs)]
    · rw [List.getElem?_eq_none (by rw [wipe_length, hl]; omega), List.getElem?_eq_none (by rw [wipe_length]; omega)]
  · rw [wipe_out hi, hb i hi]
theorem RS.wipe {g : Gd} {ρ : List Addr} {H : Hp} {e : Env} {σ : L2.St} (s : RS g ρ H e σ) (vs : List Nat) : RS g ρ H (wipeM e vs) (L2.wipe σ vs) :=
  ⟨by rw [wipeM_length, wipe_length, s.len], fun i d h => by
    obtain ⟨h1, h2⟩ := wipeM_get h
    obtain ⟨v, e1, r⟩ := s.get i d h2
    exact ⟨v, by rw [wipe_out h1]; exact e1, r⟩⟩
def lcLoop (srcs : List (Nat × List D)) (tg : GM) (tst : TM) (elt : EM) (n : Nat) (e0 : Env) : List D → MH → R D
  | [], h => if IT.ok h srcs = true then .ok (.ref n) h else .bad
  | d :: r, h => if IT.ok h srcs = true then (match tg d e0 h with
    | some e1 => (match tst e1 h with
      | .ok true h2 => (match elt e1 h2 with
        | .ok y h3 => (match h3[n]? with
          | some (.lst acc) => if acc.length < 1000000 then lcLoop srcs tg tst elt n e0 r (h3.set n (.lst (acc ++ [y]))) else .bad
          | _ => .bad)
        | _ => .bad)
      | .ok false h2 => lcLoop srcs tg tst elt n e0 r h2
      | _ => .bad)
    | none => .bad) else .bad
def lcE (own : List Nat) (it : IM) (tg : GM) (tst : TM) (elt : EM) : EM := fun e h => (it e h).bind fun it h1 => lcLoop it.srcs tg tst elt h1.length (wipeM e own) it.items (h1 ++ [.lst []])
def yesT : TM := fun _ h => .ok true h
section
variable {X : Cx} {W : Wx} {tg iter elt : Expr} {ifs : List Expr} {scope : Scope} {own : List (Str × Nat)} {pos : Pos} {mi : IM} {mg : GM} {mt : TM} {me : EM}
theorem PTs_of {X : Cx} {e : List Expr} {t t' : TT} (h : PTs X e t) (i : ∀ σ H Q, t' σ H Q → t σ H Q) : PTs X e t' := ⟨fun pins s σ H Q I q => h.run pins s σ H Q I (i _ _ _ q)⟩
theorem ts_nil : PTs X [] (tT (gd X) W yesT) := PTs_of pts_nil fun σ H Q q => by
  obtain ⟨ρ, e, h, s, hh, p⟩ := q
  exact p.okk hh rfl
theorem ts_one {c : Expr} (h : PT X c (tT (gd X) W mt)) : PTs X [c] (tT (gd X) W mt) := pts_one h
theorem lc_ok {g : Gd} {ρ : List Addr} {H : Hp} {Wf : XK} {Q : VK} {srcs : List (Nat × List D)} {l : List D} {n : Nat} {e : Env} {h : MH} (p : Post g (RD g) Wf ρ H (lcLoop srcs mg mt me n e l h) Q) : IT.ok h srcs = true := by
  cases l with
  | nil =>
    unfold lcLoop at p
    split at p
    · assumption
    · exact p.elim
  | cons d r =>
    unfold lcLoop at p
    split at p
    · assumption
    · exact p.elim
theorem lc_read (hg : ∀ (s : Shared) (H : Hp) (C : Addr) (cl : List (Str × Addr)) (fp : List Addr), True) {σ : L2.St} {H : Hp} {Q : VK} (q : tE (gd X) W (lcE (own.map (·.2)) mi mg mt me) σ H Q) :
    tLc (iM (gd X) W mi) (tGm (gd X) (own.map (·.2)) mg) (tT (gd X) (pl noW) mt) (tE (gd X) (pl noW) me) (own.map (·.2)) σ H Q := by
  refine one q fun ρ e H h it J s hh wk p => ?_
  intro Dd hD
  generalize hvs : own.map (·.2) = vs at p ⊢
  obtain ⟨G, Y, wlk, hG, hY⟩ := wk
  obtain ⟨l1, hh1, rD⟩ := hh.newLst hD (l := []) (vs := []) .nil
  have s1 : RS (gd X) (ρ ++ [Dd]) (L2.upd H Dd (.lst [])) (wipeM e vs) (L2.wipe σ vs) := (l1.rs s.s).wipe vs
  have rD' : (ρ ++ [Dd])[h.length]? = some Dd := by
    obtain ⟨a, e1, e2⟩ := RD_ref rD
    cases e2
    exact e1
  refine lc_it wlk (fun i H' => ∃ ρ2 h2, Lat (gd X) (ρ ++ [Dd]) (L2.upd H Dd (.lst [])) ρ2 H' ∧ RH (gd X) ρ2 H' h2 ∧ Post (gd X) (RD (gd X)) (fun c d H' => W.W c d σ H') ρ2 H' (lcLoop it.srcs mg mt me h.length (wipeM e vs) (it.items.drop i) h2) Q)
    ⟨_, _, Lat.refl, hh1, Post.later l1 p⟩ (fun i H' _ ⟨ρ2, h2, l2, hh2, p2⟩ => hG ρ2 H' h2 (l1.trans l2) hh2 (lc_ok p2)) ?_ ?_
  · rintro i x H' H'' hi ⟨ρ2, h2, l2, hh2, p2⟩ y
    have ok := lc_ok p2
    have ed : it.items.drop i = it.items[i] :: it.items.drop (i + 1) := List.drop_eq_getElem_cons hi
    obtain ⟨l3, hh3, rd⟩ := hY i H' x H'' ρ2 h2 _ (l1.trans l2) hh2 ok y (List.getElem?_eq_getElem hi)
    rw [ed] at p2
    unfold lcLoop at p2
    rw [if_pos ok] at p2
    cases q1 : mg it.items[i] (wipeM e vs) h2 with
    | none => rw [q1] at p2; exact p2.elim
    | some e3 =>
      rw [q1] at p2
      refine ⟨ρ2, _, h2, _, e3, (l2.trans l3).rs s1, hh3, rd, q1, fun σ3 s3 b3 => ⟨wipe_but b3, ?_⟩⟩
      have p3 := Post.later l3 p2
      dsimp only at p3
      refine ⟨ρ2, e3, h2, s3.x, hh3, ?_⟩
      revert p3
      generalize mt e3 h2 = r
      intro p3
      cases r with
      | bad => exact p3.elim
      | exc c fs h4 => exact p3.elim
      | ok b h4 =>
        intro ρ4 b' H4 l4 hh4 eb
        cases eb
        cases b with
        | false =>
          rw [if_neg (by decide)]
          exact ⟨ρ4, h4, (l2.trans l3).trans l4, hh4, Post.later l4 p3⟩
        | true =>
          rw [if_pos rfl]
          have p4 := Post.later l4 p3
          dsimp only at p4
          refine ⟨ρ4, e3, h4, (l4.rs s3).x, hh4, ?_⟩
          revert p4
          generalize me e3 h4 = r
          intro p4
          cases r with
          | bad => exact p4.elim
          | exc c fs h5 => exact p4.elim
          | ok y h5 =>
            intro ρ5 vy H5 l5 hh5 ry
            have p5 := Post.later l5 p4
            dsimp only at p5
            have lf := ((l2.trans l3).trans l4).trans l5
            split at p5
            · rename_i acc hacc
              split at p5
              · rename_i hlen
                have ea := lf.at rD'
                obtain ⟨ws, e6, r6⟩ := hh5.obj _ _ Dd hacc ea
                refine ⟨ws, e6, Nat.lt_of_lt_of_le (by rw [← r6.length]; exact hlen) (big_le (Nat.le_refl _)), ?_⟩
                have l6 := Lat.upd (g := gd X) (ρ := ρ5) (u := .lst (ws ++ [vy])) (Soft.lst e6)
                have hh6 := hh5.set (u := .lst (ws ++ [vy])) (o' := .lst (acc ++ [y])) hacc ea rfl rfl (Soft.lst e6) ⟨_, upd_same, l6.rds _ (r6.append (.one ry))⟩
                exact ⟨ρ5, _, lf.trans l6, hh6, Post.later l6 p5⟩
              · exact p5.elim
            · exact p5.elim
  · rintro H' ⟨ρ2, h2, l2, hh2, p2⟩
    have ok := lc_ok p2
    rw [List.drop_length] at p2
    unfold lcLoop at p2
    rw [if_pos ok] at p2
    exact p2.okk hh2 (l2.rd (.ref h.length) rD)
theorem e_lc (hc : X.calm = true) (hN : X.N.Nodup) (hi : PI X tg iter (iM (gd X) W mi)) (ok : BlkOk X.N X.env.scope scope own)
    (hg : ∀ (s : Shared) (H : Hp) (C : Addr) (cl : List (Str × Addr)) (fp : List Addr), PG (X.blk s H scope (compEnvC scope cl C X.env) fp) tg (tGm (gd X) (own.map (·.2)) mg))
    (ht : ∀ (s : Shared) (H : Hp) (C : Addr) (cl : List (Str × Addr)) (fp : List Addr), PTs (X.blk s H scope (compEnvC scope cl C X.env) fp) ifs (tT (gd X) (pl noW) mt))
    (he : ∀ (s : Shared) (H : Hp) (C : Addr) (cl : List (Str × Addr)) (fp : List Addr), PE (X.blk s H scope (compEnvC scope cl C X.env) fp) elt (tE (gd X) (pl noW) me)) (hs : ∀ x, foldedSetIterable iter X.env x = pure x := by intro _; rfl) :
    PE X (.ListComp elt [⟨tg, iter, ifs, 0⟩] scope pos) (tE (gd X) W (lcE (own.map (·.2)) mi mg mt me)) :=
  PE_of (pe_lc hc hN hi ok hg ht he hs) fun σ H Q q => lc_read (fun _ _ _ _ _ => True.intro) q
end
section
variable {X : Cx} {W : WX} {tg iter elt : Expr} {ifs : List Expr} {scope : Scope} {own : List (Str × Nat)} {pos : Pos} {mi : IM} {mg : GM} {mt : TM} {me : EM}
theorem s_setLc (i : Nat) {y : Str} {py spos : Pos} (hc : X.calm = true) (hN : X.N.Nodup) (hy : X.N[i]? = some y) (hyl : X.env.scope.names.lookup y = some .local)
    (hsw : swapsWith (.ListComp elt [⟨tg, iter, ifs, 0⟩] scope pos) (some (.Name y py)) spos.line X.env = pure true) (hi : PI X tg iter (iM (gd X) (pl W) mi)) (ok : BlkOk X.N X.env.scope scope own)
    (hg : ∀ (s : Shared) (H : Hp) (C : Addr) (cl : List (Str × Addr)) (fp : List Addr), PG (X.blk s H scope (compEnvC scope cl C X.env) fp) tg (tGm (gd X) (own.map (·.2)) mg))
    (ht : ∀ (s : Shared) (H : Hp) (C : Addr) (cl : List (Str × Addr)) (fp : List Addr), PTs (X.blk s H scope (compEnvC scope cl C X.env) fp) ifs (tT (gd X) (pl noW) mt))
    (he : ∀ (s : Shared) (H : Hp) (C : Addr) (cl : List (Str × Addr)) (fp : List Addr), PE (X.blk s H scope (compEnvC scope cl C X.env) fp) elt (tE (gd X) (pl noW) me)) (hs : ∀ x, foldedSetIterable iter X.env x = pure x := by intro _; rfl) :
    PS X (.Assign [.Name y py] (.ListComp elt [⟨tg, iter, ifs, 0⟩] scope pos) spos) (tS (gd X) W (setS i (lcE (own.map (·.2)) mi mg mt me))) :=
  PS_of (ps_setLc hc hN hy hyl hsw hi ok hg ht he hs) fun N σ H q =>
    lc_read (Q := fun x H1 => gName i x σ H1 N.nx) (fun _ _ _ _ _ => True.intro) (stE q fun ρ e H h d v s hh r p => p ρ _ H Lat.refl hh (s.set r i))
end

/-! ### several names at once: a, b = x, y -/
def ofA (e : Env) (r : R (List D)) (k : List D → MH → S) : S := match r with
  | .ok d h => k d h
  | .exc c fs h => .exc c fs e h
  | .bad => .bad
def setAll : List Nat → List D → Env → Env
  | i :: is, d :: ds, e => setAll is ds (e.set i (some d))
  | _, _, e => e
def parS (is : List Nat) (a : AM) : SM := fun e h => ofA e (a e h) fun ds h1 => if ds.length = is.length then .nx (setAll is ds e) h1 else .bad
theorem stA {g : Gd} {W : WX} {ma : AM} {σ : L2.St} {H : Hp} {N : Ends} {f : Env → List D → MH → S} {k : List V → Hp → Prop} (q : tS g W (fun e h => ofA e (ma e h) (f e)) N σ H)
    (hk : ∀ ρ e H h x vx, RS g ρ H e σ → RH g ρ H h → RDs g ρ H x vx → PostS g W ρ H (f e x h) N → k vx H) : tA g (pl W) ma σ H k := by
  obtain ⟨ρ, e, h, s, hh, p⟩ := q
  refine ⟨ρ, e, h, s.x, hh, ?_⟩
  have p : PostS g W ρ H (ofA e (ma e h) (f e)) N := p
  revert p
  generalize ma e h = r
  intro p
  cases r with
  | ok d h1 => exact fun ρ1 v H1 l a b => hk ρ1 e H1 h1 d v (l.rs s) a b (PostS.later l p)
  | exc c fs h1 => exact fun ρ1 H1 C dd gs l a => p ρ1 σ H1 C dd gs l a (l.rs s)
  | bad => exact p.elim
section
variable {X : Cx} {W : WX} {ma : AM} {pos : Pos}
theorem s_par2 (i j : Nat) {x y : Str} {a b : Expr} {px py pt : Pos} {kt k2 pt2} (hc : X.calm = true) (hN : X.N.Nodup) (hi : X.N[i]? = some x) (hj : X.N[j]? = some y) (hij : i ≠ j)
    (hx : X.env.scope.names.lookup x = some .local) (hy : X.env.scope.names.lookup y = some .local) (ha : PA X [a, b] (tA (gd X) (pl W) ma))
    (hw : swappedStores [.Tuple [.Name x px, .Name y py] kt pt] (.Tuple [a, b] k2 pt2) X.env = pure (some [x, y]))
    (hs : swapsWithSole [.Tuple [.Name x px, .Name y py] kt pt] (.Tuple [a, b] k2 pt2) pos.line X.env = pure false := by rfl) :
    PS X (.Assign [.Tuple [.Name x px, .Name y py] kt pt] (.Tuple [a, b] k2 pt2) pos) (tS (gd X) W (parS [i, j] ma)) :=
  PS_of (ps_par hc hN hi hj hij hx hy ha hw hs) fun N σ H q => stA q fun ρ e H h ds vs s hh r p => by
    match ds, r, p with
    | [d1, d2], r, p =>
      obtain ⟨v, r1, e1, q1, q2⟩ := r.inv
      obtain ⟨w, r2, e2, q3, q4⟩ := q2.inv
      rw [q4.invNil] at e2
      rw [e2] at e1
      exact ⟨v, w, e1, p ρ _ H Lat.refl hh ((s.set q1 i).set q3 j)⟩
    | [], r, p => exact p.elim
    | [_], r, p => exact p.elim
    | _ :: _ :: _ :: _, r, p =>
      rw [if_neg (by simp)] at p
      exact p.elim
end
end ML

/-! ML 5: ==, !=, in, not in -/
namespace ML
open PySem PySem.Spec PyProof.Rows L2

def isScal : D → Bool
  | .non => true
  | .bl _ => true
  | .int _ => true
  | .str _ => true
  | _ => false
def scalEq : D → D → Bool
  | .non, .non => true
  | .bl a, .bl b => a == b
  | .int a, .int b => a == b
  | .str a, .str b => a == b
  | .bl a, .int b => (if a then 1 else 0) == b
  | .int a, .bl b => a == (if b then 1 else 0)
  | _, _ => false
/-- (is it a tuple, its items) -/
def seqOf (h : MH) : D → Option (Bool × List D)
  | .tup l => some (true, l)
  | .ref n => (match h[n]? with
    | some (.lst l) => some (false, l)
    | some (.rdl l) => some (false, l)
    | _ => none)
  | _ => none
def eqZ (f : D → D → Option Bool) : List D → List D → Option Bool
  | x :: l, y :: m => (match f x y with
    | some a => (match eqZ f l m with
      | some b => some (a && b)
      | none => none)
    | none => none)
  | _, _ => some true
/-- two lists, or two tuples -/
def eqSeq (f : D → D → Option Bool) (k : Bool) (l m : List D) : Option Bool :=
  if k = false ∧ l.length ≠ m.length then some false else (match eqZ f l m with
    | some b => some (b && (l.length == m.length))
    | none => none)
def eqTop (h : MH) (f : D → D → Option Bool) (x y : D) : Option Bool :=
  match isScal x, isScal y with
  | true, true => some (scalEq x y)
  | true, false => (match seqOf h y with | some _ => some false | none => none)
  | false, true => (match seqOf h x with | some _ => some false | none => none)
  | false, false => (match seqOf h x, seqOf h y with
    | some (k, l), some (k', m) => if k = k' then eqSeq f k l m else some false
    | _, _ => none)
def idRef : D → D → Bool
  | .ref a, .ref b => decide (a = b)
  | _, _ => false
def eqv (h : MH) : Nat → D → D → Option Bool
  | 0, _, _ => none
  | n + 1, x, y => if idRef x y = true then some true else eqTop h (eqv h n) x y

theorem eqZ_map {f : D → D → Option Bool} : ∀ {l m : List D} {b : Bool}, eqZ f l m = some b → ∃ e : Nat → Bool, (∀ (j : Nat) x y, l[j]? = some x → m[j]? = some y → f x y = some (e j)) ∧ b = (List.range (min l.length m.length)).all e
  | [], m, b, h => ⟨fun _ => true, fun j x y h1 => by simp at h1, by unfold eqZ at h; cases h; simp⟩
  | x :: l, [], b, h => ⟨fun _ => true, fun j x y _ h1 => by simp at h1, by unfold eqZ at h; cases h; simp⟩
  | x :: l, y :: m, b, h => by
    unfold eqZ at h
    cases q : f x y with
    | none => rw [q] at h; cases h
    | some a =>
      rw [q] at h
      dsimp only at h
      cases q2 : eqZ f l m with
      | none => rw [q2] at h; cases h
      | some c =>
        rw [q2] at h
        cases h
        obtain ⟨e, h1, h2⟩ := eqZ_map q2
        refine ⟨fun j => match j with | 0 => a | j + 1 => e j, fun j x' y' e1 e2 => ?_, ?_⟩
        · cases j with
          | zero =>
            simp at e1 e2
            subst e1 e2
            exact q
          | succ j => exact h1 j x' y' (by simpa using e1) (by simpa using e2)
        · rw [List.length_cons, List.length_cons, show min (l.length + 1) (m.length + 1) = min l.length m.length + 1 by omega, List.range_succ_eq_map, List.all_cons, List.all_map, h2]
          rfl

section
variable {X : Cx} {pins : List (Addr × Obj)} {σ : L2.St} {H : Hp} {s : Shared} {ρ : List Addr} {h : MH}
theorem scal_v {g : Gd} {x : D} {v : V} (r : RD g ρ H x v) (hx : isScal x = true) : (x = .non ∧ v = .non) ∨ (∃ b, x = .bl b ∧ v = .bl b) ∨ (∃ b, x = .int b ∧ v = .int b) ∨ ∃ b, x = .str b ∧ v = .str b := by
  cases x <;> first | (cases hx; done) | skip
  · unfold RD at r; exact .inl ⟨rfl, r⟩
  · unfold RD at r; exact .inr (.inl ⟨_, rfl, r⟩)
  · unfold RD at r; exact .inr (.inr (.inl ⟨_, rfl, r⟩))
  · unfold RD at r; exact .inr (.inr (.inr ⟨_, rfl, r⟩))
/-- a list or a tuple of the mirror, in the heap -/
theorem seq_v (hh : RH (gd X) ρ H h) {x : D} {v : V} {k : Bool} {l : List D} (r : RD (gd X) ρ H x v) (e : seqOf h x = some (k, l)) : ∃ a vs, v = .ref a ∧ RDs (gd X) ρ H l vs ∧ ((k = true ∧ SqT X.K H a vs) ∨ (k = false ∧ SqL X.K H a vs)) := by
  cases x <;> first | (cases e; done) | skip
  · cases e
    obtain ⟨a, vs, e1, sq, rs⟩ := RD_tup r
    exact ⟨a, vs, e1, rs, .inl ⟨rfl, sq⟩⟩
  · rename_i n
    obtain ⟨a, e1, e2⟩ := RD_ref r
    unfold seqOf at e
    dsimp only at e
    split at e
    · rename_i l hl
      cases e
      obtain ⟨vs, e3, rs⟩ := hh.obj n _ a hl e1
      exact ⟨a, vs, e2, rs, .inr ⟨rfl, .of e3⟩⟩
    · rename_i l hl
      cases e
      obtain ⟨vs, e3, rs⟩ := hh.obj n _ a hl e1
      exact ⟨a, vs, e2, rs, .inr ⟨rfl, e3.sq⟩⟩
    · cases e
theorem not_both (I : Inv X pins σ H s) {a : Addr} {vs ws : List V} (h1 : SqT X.K H a vs) (h2 : SqL X.K H a ws) : False := by
  obtain ⟨its, _, p, _⟩ := I.tuple h1
  obtain ⟨its', _, q, _⟩ := I.list h2
  obtain ⟨o, e, c, _⟩ := p
  obtain ⟨o', n, e', c', _⟩ := q
  rw [e] at e'
  cases e'
  rw [c] at c'
  injection c' with z
  exact absurd z (by decide)
theorem seq_inj (I : Inv X pins σ H s) {a : Addr} {k k' : Bool} {vs ws : List V} (h1 : (k = true ∧ SqT X.K H a vs) ∨ (k = false ∧ SqL X.K H a vs)) (h2 : (k' = true ∧ SqT X.K H a ws) ∨ (k' = false ∧ SqL X.K H a ws)) : k = k' ∧ vs = ws := by
  rcases h1 with ⟨e1, h1⟩ | ⟨e1, h1⟩ <;> rcases h2 with ⟨e2, h2⟩ | ⟨e2, h2⟩
  · exact ⟨by rw [e1, e2], I.tuple_inj h1 h2⟩
  · exact (not_both I h1 h2).elim
  · exact (not_both I h2 h1).elim
  · exact ⟨by rw [e1, e2], I.list_inj h1 h2⟩
theorem eqZ_all {f : D → D → Option Bool} (hf : ∀ x y v b, RD (gd X) ρ H x v → RD (gd X) ρ H y v → f x y = some b → b = true) : ∀ {l m : List D} {vs : List V} {b : Bool}, RDs (gd X) ρ H l vs → RDs (gd X) ρ H m vs → eqZ f l m = some b → b = true
  | [], m, vs, b, h1, h2, e => by unfold eqZ at e; cases e; rfl
  | x :: l, [], vs, b, h1, h2, e => by unfold eqZ at e; cases e; rfl
  | x :: l, y :: m, vs, b, h1, h2, e => by
    obtain ⟨v, r, e1, q1, q2⟩ := h1.inv
    obtain ⟨w, r', e2, q3, q4⟩ := h2.inv
    subst e1
    cases e2
    unfold eqZ at e
    cases z : f x y with
    | none => rw [z] at e; cases e
    | some a =>
      rw [z] at e
      dsimp only at e
      cases z2 : eqZ f l m with
      | none => rw [z2] at e; cases e
      | some c =>
        rw [z2] at e
        cases e
        rw [hf x y v a q1 q3 z, eqZ_all hf q2 q4 z2]
        rfl
theorem eqTop_same (I : Inv X pins σ H s) (hh : RH (gd X) ρ H h) {f : D → D → Option Bool} (hf : ∀ x y v b, RD (gd X) ρ H x v → RD (gd X) ρ H y v → f x y = some b → b = true) {x y : D} {v : V} {b : Bool}
    (rx : RD (gd X) ρ H x v) (ry : RD (gd X) ρ H y v) (e : eqTop h f x y = some b) : b = true := by
  unfold eqTop at e
  cases sx : isScal x <;> cases sy : isScal y <;> rw [sx, sy] at e <;> dsimp only at e
  · cases qx : seqOf h x with
    | none => rw [qx] at e; cases e
    | some p =>
      cases qy : seqOf h y with
      | none => rw [qx, qy] at e; cases e
      | some p' =>
        obtain ⟨k, l⟩ := p
        obtain ⟨k', m⟩ := p'
        rw [qx, qy] at e
        dsimp only at e
        obtain ⟨a, vs, e1, r1, c1⟩ := seq_v hh rx qx
        obtain ⟨a', vs', e2, r2, c2⟩ := seq_v hh ry qy
        rw [e1] at e2
        cases e2
        obtain ⟨ek, ev⟩ := seq_inj I c1 c2
        subst ek ev
        rw [if_pos rfl] at e
        unfold eqSeq at e
        have hl : l.length = m.length := by rw [r1.length, r2.length]
        rw [if_neg (fun z => z.2 hl)] at e
        cases z : eqZ f l m with
        | none => rw [z] at e; cases e
        | some c =>
          rw [z] at e
          cases e
          rw [eqZ_all hf r1 r2 z, hl]
          simp
  · rcases scal_v ry sy with ⟨_, e2⟩ | ⟨_, _, e2⟩ | ⟨_, _, e2⟩ | ⟨_, _, e2⟩ <;> (subst e2; cases qx : seqOf h x with
      | none => rw [qx] at e; cases e
      | some p => obtain ⟨a, vs, e1, _⟩ := seq_v hh rx qx; cases e1)
  · rcases scal_v rx sx with ⟨_, e2⟩ | ⟨_, _, e2⟩ | ⟨_, _, e2⟩ | ⟨_, _, e2⟩ <;> (subst e2; cases qx : seqOf h y with
      | none => rw [qx] at e; cases e
      | some p => obtain ⟨a, vs, e1, _⟩ := seq_v hh ry qx; cases e1)
  · rcases scal_v rx sx with ⟨e1, e2⟩ | ⟨_, e1, e2⟩ | ⟨_, e1, e2⟩ | ⟨_, e1, e2⟩ <;> rcases scal_v ry sy with ⟨e3, e4⟩ | ⟨_, e3, e4⟩ | ⟨_, e3, e4⟩ | ⟨_, e3, e4⟩ <;> subst e1 e2 e3 <;> cases e4 <;> cases e <;> simp [scalEq]
theorem eqv_same (I : Inv X pins σ H s) (hh : RH (gd X) ρ H h) : ∀ (n : Nat) (x y : D) (v : V) (b : Bool), RD (gd X) ρ H x v → RD (gd X) ρ H y v → eqv h n x y = some b → b = true
  | 0, _, _, _, _, _, _, e => by cases e
  | n + 1, x, y, v, b, rx, ry, e => by
    unfold eqv at e
    split at e
    · cases e; rfl
    · exact eqTop_same I hh (eqv_same I hh n) rx ry e
theorem idRef_eq {x y : D} (e : idRef x y = true) : x = y := by
  cases x <;> cases y <;> first | (cases e; done) | skip
  unfold idRef at e
  rw [of_decide_eq_true e]
theorem vals_at {its : List Value} {vs : List V} (r : Vals vs its) {l : List D} {g : Gd} (q : RDs g ρ H l vs) {j : Nat} (hj : j < its.length) : ∃ x v, l[j]? = some x ∧ RD g ρ H x v ∧ RelV v its[j] := by
  have hj' : j < vs.length := by rw [r.length]; exact hj
  obtain ⟨x, e1, r1⟩ := RDs.get' q (List.getElem?_eq_getElem hj')
  obtain ⟨u, e2, r2⟩ := r.get (List.getElem?_eq_getElem hj')
  rw [List.getElem?_eq_getElem hj] at e2
  cases e2
  exact ⟨x, _, e1, r1, r2⟩
theorem all_congr {n m : Nat} {e : Nat → Bool} (h : n = m) : (List.range n).all e = (List.range m).all e := by rw [h]
/-- what the items answer gives what the sequences answer -/
theorem eqv_at (I : Inv X pins σ H s) (hh : RH (gd X) ρ H h) : ∀ (n : Nat) (A : Around) (x y : D) (v w : V) (u t : Value) (b : Bool), A.units + n < cLine → RD (gd X) ρ H x v → RD (gd X) ρ H y w → RelV v u → RelV w t → eqv h n x y = some b → SeqAt.EqAt A s u t b
  | 0, _, _, _, _, _, _, _, _, _, _, _, _, _, e => by cases e
  | n + 1, A, x, y, v, w, u, t, b, hu, rx, ry, ru, rt, e => by
    have hu0 : A.units < cLine := by omega
    have hu1 : A.in1.units + n < cLine := by show A.units + 1 + n < cLine; omega
    have e0 := e
    unfold eqv at e
    split at e
    · rename_i hi
      cases e
      have := idRef_eq hi
      subst this
      cases x <;> first | (cases hi; done) | skip
      obtain ⟨a, e1, e2⟩ := RD_ref rx
      obtain ⟨a', e3, e4⟩ := RD_ref ry
      rw [e1] at e3
      cases e3
      subst e2 e4
      cases ru
      cases rt
      exact SeqAt.EqAt.same _
    · unfold eqTop at e
      cases sx : isScal x <;> cases sy : isScal y <;> rw [sx, sy] at e <;> dsimp only at e
      · cases qx : seqOf h x with
        | none => rw [qx] at e; cases e
        | some p =>
          cases qy : seqOf h y with
          | none => rw [qx, qy] at e; cases e
          | some p' =>
            obtain ⟨k, l⟩ := p
            obtain ⟨k', m⟩ := p'
            rw [qx, qy] at e
            dsimp only at e
            obtain ⟨a, vs, e1, r1, c1⟩ := seq_v hh rx qx
            obtain ⟨a', vs', e2, r2, c2⟩ := seq_v hh ry qy
            subst e1 e2
            cases ru
            cases rt
            by_cases haa : a = a'
            · subst haa
              rw [eqv_same I hh (n + 1) x y (.ref a) b rx ry e0]
              exact SeqAt.EqAt.same _
            · rcases c1 with ⟨k1, c1⟩ | ⟨k1, c1⟩ <;> rcases c2 with ⟨k2, c2⟩ | ⟨k2, c2⟩ <;> subst k1 k2
              · rw [if_pos rfl] at e
                unfold eqSeq at e
                rw [if_neg (fun z => by cases z.1)] at e
                obtain ⟨its, rv, p, _⟩ := I.tuple c1
                obtain ⟨its', rv', p', _⟩ := I.tuple c2
                cases z : eqZ (eqv h n) l m with
                | none => rw [z] at e; cases e
                | some c =>
                  rw [z] at e
                  cases e
                  obtain ⟨ee, z1, z2⟩ := eqZ_map z
                  have q := SeqAt.RcAt.tuples (e := ee) p p' hu0 fun j h1 h2 => by
                    have h1' : j < its.length := by simpa using h1
                    have h2' : j < its'.length := by simpa using h2
                    obtain ⟨x1, v1, f1, f2, f3⟩ := vals_at rv r1 h1'
                    obtain ⟨y1, w1, g1, g2, g3⟩ := vals_at rv' r2 h2'
                    have := eqv_at I hh n A.in1 x1 y1 v1 w1 _ _ _ hu1 f2 g2 f3 g3 (z1 j x1 y1 f1 g1)
                    simpa using this
                  refine SeqAt.EqAt.of_refs haa ?_
                  have n1 : its.toArray.size = l.length := by rw [List.size_toArray, ← rv.length, r1.length]
                  have n2 : its'.toArray.size = m.length := by rw [List.size_toArray, ← rv'.length, r2.length]
                  rw [n1, n2] at q
                  rw [z2]
                  exact q
              · rw [if_neg (by decide)] at e
                cases e
                obtain ⟨its, rv, p, _⟩ := I.tuple c1
                obtain ⟨its', rv', p', _⟩ := I.list c2
                exact SeqAt.EqAt.tuple_list p p'.isList hu0
              · rw [if_neg (by decide)] at e
                cases e
                obtain ⟨its, rv, p, _⟩ := I.list c1
                obtain ⟨its', rv', p', _⟩ := I.tuple c2
                exact SeqAt.EqAt.list_tuple p.isList p' hu0
              · rw [if_pos rfl] at e
                unfold eqSeq at e
                obtain ⟨its, rv, p, _⟩ := I.list c1
                obtain ⟨its', rv', p', _⟩ := I.list c2
                have n1 : its.toArray.size = l.length := by rw [List.size_toArray, ← rv.length, r1.length]
                have n2 : its'.toArray.size = m.length := by rw [List.size_toArray, ← rv'.length, r2.length]
                by_cases hl : l.length = m.length
                · rw [if_neg (fun z => z.2 hl)] at e
                  cases z : eqZ (eqv h n) l m with
                  | none => rw [z] at e; cases e
                  | some c =>
                    rw [z] at e
                    cases e
                    obtain ⟨ee, z1, z2⟩ := eqZ_map z
                    have q := SeqAt.RcAt.lists (e := ee) p.isList p'.isList (by rw [n1, n2, hl]) hu0 fun j h1 h2 => by
                      have h1' : j < its.length := by simpa using h1
                      have h2' : j < its'.length := by simpa using h2
                      obtain ⟨x1, v1, f1, f2, f3⟩ := vals_at rv r1 h1'
                      obtain ⟨y1, w1, g1, g2, g3⟩ := vals_at rv' r2 h2'
                      have := eqv_at I hh n A.in1 x1 y1 v1 w1 _ _ _ hu1 f2 g2 f3 g3 (z1 j x1 y1 f1 g1)
                      simpa using this
                    refine SeqAt.EqAt.of_refs haa ?_
                    rw [n1] at q
                    rw [z2, ← hl, Nat.min_self]
                    simpa using q
                · rw [if_pos ⟨rfl, hl⟩] at e
                  cases e
                  refine SeqAt.EqAt.of_refs haa (SeqAt.RcAt.lists_lengths p.isList p'.isList ?_ hu0)
                  rw [n1, n2]
                  simpa using hl
      · cases qx : seqOf h x with
        | none => rw [qx] at e; cases e
        | some p =>
          obtain ⟨k, l⟩ := p
          rw [qx] at e
          cases e
          obtain ⟨a, vs, e1, r1, c1⟩ := seq_v hh rx qx
          subst e1
          cases ru
          rcases c1 with ⟨_, c1⟩ | ⟨_, c1⟩
          · obtain ⟨its, rv, p, _⟩ := I.tuple c1
            rcases scal_v ry sy with ⟨_, e2⟩ | ⟨_, _, e2⟩ | ⟨_, _, e2⟩ | ⟨_, _, e2⟩ <;> subst e2
            · cases rt; exact SeqAt.EqAt.tuple_none p hu0
            · cases rt; exact SeqAt.EqAt.tuple_bool _ p hu0
            · obtain ⟨tk, rfl⟩ := rt; exact SeqAt.EqAt.tuple_int _ tk p hu0
            · obtain ⟨tk, rfl⟩ := rt; exact SeqAt.EqAt.tuple_str _ tk p hu0
          · obtain ⟨its, rv, p, _⟩ := I.list c1
            rcases scal_v ry sy with ⟨_, e2⟩ | ⟨_, _, e2⟩ | ⟨_, _, e2⟩ | ⟨_, _, e2⟩ <;> subst e2
            · cases rt; exact SeqAt.EqAt.list_none p.isList hu0
            · cases rt; exact SeqAt.EqAt.list_bool _ p.isList hu0
            · obtain ⟨tk, rfl⟩ := rt; exact SeqAt.EqAt.list_int _ tk p.isList hu0
            · obtain ⟨tk, rfl⟩ := rt; exact SeqAt.EqAt.list_str _ tk p.isList hu0
      · cases qx : seqOf h y with
        | none => rw [qx] at e; cases e
        | some p =>
          obtain ⟨k, l⟩ := p
          rw [qx] at e
          cases e
          obtain ⟨a, vs, e1, r1, c1⟩ := seq_v hh ry qx
          subst e1
          cases rt
          rcases c1 with ⟨_, c1⟩ | ⟨_, c1⟩
          · obtain ⟨its, rv, p, _⟩ := I.tuple c1
            rcases scal_v rx sx with ⟨_, e2⟩ | ⟨_, _, e2⟩ | ⟨_, _, e2⟩ | ⟨_, _, e2⟩ <;> subst e2
            · cases ru; exact SeqAt.EqAt.none_tuple p hu0
            · cases ru; exact SeqAt.EqAt.bool_tuple _ p hu0
            · obtain ⟨tk, rfl⟩ := ru; exact SeqAt.EqAt.int_tuple _ tk p hu0
            · obtain ⟨tk, rfl⟩ := ru; exact SeqAt.EqAt.str_tuple _ tk p hu0
          · obtain ⟨its, rv, p, _⟩ := I.list c1
            rcases scal_v rx sx with ⟨_, e2⟩ | ⟨_, _, e2⟩ | ⟨_, _, e2⟩ | ⟨_, _, e2⟩ <;> subst e2
            · cases ru; exact SeqAt.EqAt.none_list p.isList hu0
            · cases ru; exact SeqAt.EqAt.bool_list _ p.isList hu0
            · obtain ⟨tk, rfl⟩ := ru; exact SeqAt.EqAt.int_list _ tk p.isList hu0
            · obtain ⟨tk, rfl⟩ := ru; exact SeqAt.EqAt.str_list _ tk p.isList hu0
      · rcases scal_v rx sx with ⟨e1, e2⟩ | ⟨i, e1, e2⟩ | ⟨i, e1, e2⟩ | ⟨i, e1, e2⟩ <;> rcases scal_v ry sy with ⟨e3, e4⟩ | ⟨j, e3, e4⟩ | ⟨j, e3, e4⟩ | ⟨j, e3, e4⟩ <;> subst e1 e2 e3 e4 <;> cases e
        · cases ru; cases rt; exact SeqAt.EqAt.same _
        · cases ru; cases rt; exact SeqAt.EqAt.none_bool _
        · obtain ⟨tk, rfl⟩ := rt; cases ru; exact SeqAt.EqAt.none_int _ _
        · obtain ⟨tk, rfl⟩ := rt; cases ru; exact SeqAt.EqAt.none_str _ _
        · cases ru; cases rt; exact SeqAt.EqAt.bool_none _
        · cases ru; cases rt; exact SeqAt.EqAt.bool_bool _ _
        · obtain ⟨tk, rfl⟩ := rt; cases ru; exact SeqAt.EqAt.bool_int _ _ _
        · obtain ⟨tk, rfl⟩ := rt; cases ru; exact SeqAt.EqAt.bool_str _ _ _
        · obtain ⟨tk, rfl⟩ := ru; cases rt; exact SeqAt.EqAt.int_none _ _
        · obtain ⟨tk, rfl⟩ := ru; cases rt; exact SeqAt.EqAt.int_bool _ _ _
        · obtain ⟨tk, rfl⟩ := ru; obtain ⟨tk', rfl⟩ := rt; exact SeqAt.EqAt.int_int _ _ _ _
        · obtain ⟨tk, rfl⟩ := ru; obtain ⟨tk', rfl⟩ := rt; exact SeqAt.EqAt.int_str _ _ _ _
        · obtain ⟨tk, rfl⟩ := ru; cases rt; exact SeqAt.EqAt.str_none _ _
        · obtain ⟨tk, rfl⟩ := ru; cases rt; exact SeqAt.EqAt.str_bool _ _ _
        · obtain ⟨tk, rfl⟩ := ru; obtain ⟨tk', rfl⟩ := rt; exact SeqAt.EqAt.str_int _ _ _ _
        · obtain ⟨tk, rfl⟩ := ru; obtain ⟨tk', rfl⟩ := rt; exact SeqAt.EqAt.str_str _ _ _ _

/-! ### the same values give the same answer -/
theorem eqZ_det {f f' : D → D → Option Bool} (hf : ∀ x x' y y' v w b b', RD (gd X) ρ H x v → RD (gd X) ρ H x' v → RD (gd X) ρ H y w → RD (gd X) ρ H y' w → f x y = some b → f' x' y' = some b' → b = b') :
    ∀ {l l' m m' : List D} {vs ws : List V} {b b' : Bool}, RDs (gd X) ρ H l vs → RDs (gd X) ρ H l' vs → RDs (gd X) ρ H m ws → RDs (gd X) ρ H m' ws → eqZ f l m = some b → eqZ f' l' m' = some b' → b = b'
  | [], l', m, m', vs, ws, b, b', h1, h2, h3, h4, e, e' => by
    rw [h1.invNil] at h2
    have : l' = [] := List.eq_nil_of_length_eq_zero h2.length
    subst this
    unfold eqZ at e e'
    cases e
    cases e'
    rfl
  | x :: l, l', [], m', vs, ws, b, b', h1, h2, h3, h4, e, e' => by
    rw [h3.invNil] at h4
    have : m' = [] := List.eq_nil_of_length_eq_zero h4.length
    subst this
    unfold eqZ at e
    cases e
    cases l' <;> (unfold eqZ at e'; cases e'; rfl)
  | x :: l, l', y :: m, m', vs, ws, b, b', h1, h2, h3, h4, e, e' => by
    obtain ⟨v, r, e1, q1, q2⟩ := h1.inv
    obtain ⟨w, r', e2, q3, q4⟩ := h3.inv
    subst e1 e2
    cases l' with
    | nil => exact absurd h2.length (by simp)
    | cons x' l' =>
      cases m' with
      | nil => exact absurd h4.length (by simp)
      | cons y' m' =>
        obtain ⟨v', s', e3, q5, q6⟩ := h2.inv
        obtain ⟨w', t', e4, q7, q8⟩ := h4.inv
        cases e3
        cases e4
        unfold eqZ at e e'
        cases z : f x y with
        | none => rw [z] at e; cases e
        | some a =>
          cases z' : f' x' y' with
          | none => rw [z'] at e'; cases e'
          | some a' =>
            rw [z] at e
            rw [z'] at e'
            dsimp only at e e'
            cases z2 : eqZ f l m with
            | none => rw [z2] at e; cases e
            | some c =>
              cases z3 : eqZ f' l' m' with
              | none => rw [z3] at e'; cases e'
              | some c' =>
                rw [z2] at e
                rw [z3] at e'
                cases e
                cases e'
                rw [hf x x' y y' v w a a' q1 q5 q3 q7 z z', eqZ_det hf q2 q6 q4 q8 z2 z3]
theorem scal_ref {g : Gd} {x : D} {a : Addr} (r : RD g ρ H x (.ref a)) : isScal x = false := by
  cases e : isScal x with
  | false => rfl
  | true => rcases scal_v r e with ⟨_, e2⟩ | ⟨_, _, e2⟩ | ⟨_, _, e2⟩ | ⟨_, _, e2⟩ <;> cases e2
theorem scal_inj {g : Gd} {x x' : D} {v : V} (r : RD g ρ H x v) (r' : RD g ρ H x' v) (e : isScal x = true) (e' : isScal x' = true) : x = x' := by
  rcases scal_v r e with ⟨e1, e2⟩ | ⟨_, e1, e2⟩ | ⟨_, e1, e2⟩ | ⟨_, e1, e2⟩ <;> rcases scal_v r' e' with ⟨e3, e4⟩ | ⟨_, e3, e4⟩ | ⟨_, e3, e4⟩ | ⟨_, e3, e4⟩ <;> subst e1 e2 e3 <;> cases e4 <;> rfl
theorem eqTop_det (I : Inv X pins σ H s) (hh : RH (gd X) ρ H h) {f f' : D → D → Option Bool} (hf : ∀ x x' y y' v w b b', RD (gd X) ρ H x v → RD (gd X) ρ H x' v → RD (gd X) ρ H y w → RD (gd X) ρ H y' w → f x y = some b → f' x' y' = some b' → b = b')
    {x x' y y' : D} {v w : V} {b b' : Bool} (r1 : RD (gd X) ρ H x v) (r2 : RD (gd X) ρ H x' v) (r3 : RD (gd X) ρ H y w) (r4 : RD (gd X) ρ H y' w) (e : eqTop h f x y = some b) (e' : eqTop h f' x' y' = some b') : b = b' := by
  -- a scalar or a sequence, by the value alone
  have kind : ∀ {x : D} {v : V}, RD (gd X) ρ H x v → (isScal x = true) ∨ (isScal x = false ∧ ∀ p, seqOf h x = some p → ∃ a, v = .ref a) := fun {x v} r => by
    cases z : isScal x with
    | true => exact .inl rfl
    | false =>
      refine .inr ⟨rfl, fun p q => ?_⟩
      obtain ⟨k, l⟩ := p
      obtain ⟨a, vs, e1, _⟩ := seq_v hh r q
      exact ⟨a, e1⟩
  unfold eqTop at e e'
  cases sx : isScal x <;> cases sy : isScal y <;> rw [sx, sy] at e <;> dsimp only at e
  · cases qx : seqOf h x with
    | none => rw [qx] at e; cases e
    | some p =>
      cases qy : seqOf h y with
      | none => rw [qx, qy] at e; cases e
      | some p' =>
        obtain ⟨k, l⟩ := p
        obtain ⟨k', m⟩ := p'
        rw [qx, qy] at e
        dsimp only at e
        obtain ⟨a, vs, e1, q1, c1⟩ := seq_v hh r1 qx
        obtain ⟨a', ws, e2, q2, c2⟩ := seq_v hh r3 qy
        subst e1 e2
        rw [scal_ref r2, scal_ref r4] at e'
        dsimp only at e'
        cases qx' : seqOf h x' with
        | none => rw [qx'] at e'; cases e'
        | some p2 =>
          cases qy' : seqOf h y' with
          | none => rw [qx', qy'] at e'; cases e'
          | some p3 =>
            obtain ⟨k2, l2⟩ := p2
            obtain ⟨k3, m2⟩ := p3
            rw [qx', qy'] at e'
            dsimp only at e'
            obtain ⟨a2, vs2, f1, q3, c3⟩ := seq_v hh r2 qx'
            obtain ⟨a3, ws2, f2, q4, c4⟩ := seq_v hh r4 qy'
            cases f1
            cases f2
            obtain ⟨g1, g2⟩ := seq_inj I c1 c3
            obtain ⟨g3, g4⟩ := seq_inj I c2 c4
            subst g1 g2 g3 g4
            by_cases hk : k = k'
            · rw [if_pos hk] at e e'
              unfold eqSeq at e e'
              have n1 : l.length = l2.length := by rw [q1.length, q3.length]
              have n2 : m.length = m2.length := by rw [q2.length, q4.length]
              rw [← n1, ← n2] at e'
              split at e
              · rename_i hc
                rw [if_pos hc] at e'
                cases e
                cases e'
                rfl
              · rename_i hc
                rw [if_neg hc] at e'
                cases z : eqZ f l m with
                | none => rw [z] at e; cases e
                | some c =>
                  cases z' : eqZ f' l2 m2 with
                  | none => rw [z'] at e'; cases e'
                  | some c' =>
                    rw [z] at e
                    rw [z'] at e'
                    cases e
                    cases e'
                    rw [eqZ_det hf q1 q3 q2 q4 z z']
            · rw [if_neg hk] at e e'
              cases e
              cases e'
              rfl
  · cases qx : seqOf h x with
    | none => rw [qx] at e; cases e
    | some p =>
      rw [qx] at e
      cases e
      obtain ⟨a, vs, e1, _⟩ := seq_v hh r1 (show seqOf h x = some (p.1, p.2) from qx)
      subst e1
      rw [scal_ref r2] at e'
      cases sy' : isScal y' with
      | true =>
        rw [sy'] at e'
        dsimp only at e'
        cases qx' : seqOf h x' with
        | none => rw [qx'] at e'; cases e'
        | some p' => rw [qx'] at e'; cases e'; rfl
      | false =>
        rw [sy'] at e'
        dsimp only at e'
        cases qx' : seqOf h x' with
        | none => rw [qx'] at e'; cases e'
        | some p' =>
          cases qy' : seqOf h y' with
          | none => rw [qx', qy'] at e'; cases e'
          | some p2 =>
            obtain ⟨a', vs', e2, _⟩ := seq_v hh r4 (show seqOf h y' = some (p2.1, p2.2) from qy')
            subst e2
            rw [scal_ref r3] at sy
            cases sy
  · cases qy : seqOf h y with
    | none => rw [qy] at e; cases e
    | some p =>
      rw [qy] at e
      cases e
      obtain ⟨a, vs, e1, _⟩ := seq_v hh r3 (show seqOf h y = some (p.1, p.2) from qy)
      subst e1
      rw [scal_ref r4] at e'
      cases sx' : isScal x' with
      | true =>
        rw [sx'] at e'
        dsimp only at e'
        cases qy' : seqOf h y' with
        | none => rw [qy'] at e'; cases e'
        | some p' => rw [qy'] at e'; cases e'; rfl
      | false =>
        rw [sx'] at e'
        dsimp only at e'
        cases qx' : seqOf h x' with
        | none => rw [qx'] at e'; cases e'
        | some p' =>
          obtain ⟨a', vs', e2, _⟩ := seq_v hh r2 (show seqOf h x' = some (p'.1, p'.2) from qx')
          subst e2
          rw [scal_ref r1] at sx
          cases sx
  · cases e
    cases sx' : isScal x' with
    | false =>
      rw [sx'] at e'
      rcases kind r2 with k | ⟨_, k⟩
      · rw [sx'] at k; cases k
      · have nx : ∀ p, seqOf h x' = some p → False := fun p q => by
          obtain ⟨a, e1⟩ := k p q
          subst e1
          rw [scal_ref r1] at sx
          cases sx
        cases qx' : seqOf h x' with
        | some p => exact (nx p qx').elim
        | none => rw [qx'] at e'; cases z : isScal y' <;> (rw [z] at e'; cases e')
    | true =>
      cases sy' : isScal y' with
      | false =>
        rw [sx', sy'] at e'
        rcases kind r4 with k | ⟨_, k⟩
        · rw [sy'] at k; cases k
        · cases qy' : seqOf h y' with
          | none => rw [qy'] at e'; cases e'
          | some p =>
            obtain ⟨a, e1⟩ := k p qy'
            subst e1
            rw [scal_ref r3] at sy
            cases sy
      | true =>
        rw [sx', sy'] at e'
        cases e'
        rw [scal_inj r1 r2 sx sx', scal_inj r3 r4 sy sy']
theorem eqv_det (I : Inv X pins σ H s) (hh : RH (gd X) ρ H h) : ∀ (n n' : Nat) (x x' y y' : D) (v w : V) (b b' : Bool), RD (gd X) ρ H x v → RD (gd X) ρ H x' v → RD (gd X) ρ H y w → RD (gd X) ρ H y' w → eqv h n x y = some b → eqv h n' x' y' = some b' → b = b'
  | 0, _, _, _, _, _, _, _, _, _, _, _, _, _, e, _ => by cases e
  | _, 0, _, _, _, _, _, _, _, _, _, _, _, _, _, e => by cases e
  | n + 1, n' + 1, x, x', y, y', v, w, b, b', r1, r2, r3, r4, e, e' => by
    have s0 := e
    have s1 := e'
    unfold eqv at e e'
    split at e
    · rename_i hi
      cases e
      have := idRef_eq hi
      subst this
      have hv : v = w := by
        cases x <;> first | (cases hi; done) | skip
        obtain ⟨a, e1, e2⟩ := RD_ref r1
        obtain ⟨a', e3, e4⟩ := RD_ref r3
        rw [e1] at e3
        cases e3
        rw [e2, e4]
      subst hv
      exact (eqv_same I hh (n' + 1) x' y' v b' r2 r4 s1).symm
    · split at e'
      · rename_i hi
        cases e'
        have := idRef_eq hi
        subst this
        have hv : v = w := by
          cases x' <;> first | (cases hi; done) | skip
          obtain ⟨a, e1, e2⟩ := RD_ref r2
          obtain ⟨a', e3, e4⟩ := RD_ref r4
          rw [e1] at e3
          cases e3
          rw [e2, e4]
        subst hv
        exact eqv_same I hh (n + 1) x y v b r1 r3 s0
      · exact eqTop_det I hh (fun x x' y y' v w b b' => eqv_det I hh n n' x x' y y' v w b b') r1 r2 r3 r4 e e'
end

/-! ### == and != of two values (data at any depth), in, not in -/
def deep : Nat := 12
def eqT (h : MH) (x y : D) : Option Bool := eqTop h (eqv h deep) x y
def eqF : D → D → MH → R D := fun x y h => match eqT h x y with
  | some b => .ok (.bl b) h
  | none => .bad
def neF : D → D → MH → R D := fun x y h => match eqT h x y with
  | some b => .ok (.bl (!b)) h
  | none => .bad
/-- x in a list or a tuple -/
def anyF (f : D → Option Bool) : List D → Option Bool
  | [] => some false
  | y :: l => (match f y with
    | some a => (match anyF f l with
      | some b => some (a || b)
      | none => none)
    | none => none)
def memT (h : MH) (x y : D) : Option Bool := match seqOf h y with
  | some (_, l) => anyF (fun z => eqv h deep z x) l
  | none => none
/-- a mirror's answer, as an operator's reading -/
def rM (g : Gd) (f : MH → D → D → Option Bool) (neg : Bool) : R2 := fun vx vy H Q => ∃ ρ h x y b, RH g ρ H h ∧ RD g ρ H x vx ∧ RD g ρ H y vy ∧ f h x y = some b ∧ Q (.bl (if neg then !b else b)) H
theorem rf_eq {g : Gd} : RF2 g eqF (rM g eqT false) := fun Wf Q ρ H h x y vx vy hh rx ry p => by
  unfold eqF at p
  split at p
  · rename_i b hb
    exact ⟨ρ, h, x, y, b, hh, rx, ry, hb, p.okk hh (by unfold RD; rfl)⟩
  · exact p.elim
theorem rf_ne {g : Gd} : RF2 g neF (rM g eqT true) := fun Wf Q ρ H h x y vx vy hh rx ry p => by
  unfold neF at p
  split at p
  · rename_i b hb
    exact ⟨ρ, h, x, y, b, hh, rx, ry, hb, p.okk hh (by unfold RD; rfl)⟩
  · exact p.elim
section
variable {X : Cx}
theorem op_eqM (hu : X.A.units + 64 < cLine) : OpR X (compareOp .Eq) (rM (gd X) eqT false) := by
  intro pins s σ H vx vy u t Q I ru rt hq
  obtain ⟨ρ, h, x, y, b, hh, rx, ry, e, q⟩ := hq
  have hu0 : X.A.units < cLine := by omega
  have hu1 : X.A.in1.units + deep < cLine := by show X.A.units + 1 + 12 < cLine; omega
  have fin : EP X pins σ Q (.bool b) s := ⟨.bl b, H, I, rfl, q⟩
  suffices hs : SeqAt.RcAt X.A s u t b from hs X.prog X.w X.xe _ fin
  unfold eqT eqTop at e
  cases sx : isScal x <;> cases sy : isScal y <;> rw [sx, sy] at e <;> dsimp only at e
  · cases qx : seqOf h x with
    | none => rw [qx] at e; cases e
    | some p =>
      cases qy : seqOf h y with
      | none => rw [qx, qy] at e; cases e
      | some p' =>
        obtain ⟨k, l⟩ := p
        obtain ⟨k', m⟩ := p'
        rw [qx, qy] at e
        dsimp only at e
        obtain ⟨a, vs, e1, r1, c1⟩ := seq_v hh rx qx
        obtain ⟨a', vs', e2, r2, c2⟩ := seq_v hh ry qy
        subst e1 e2
        cases ru
        cases rt
        rcases c1 with ⟨k1, c1⟩ | ⟨k1, c1⟩ <;> rcases c2 with ⟨k2, c2⟩ | ⟨k2, c2⟩ <;> subst k1 k2
        · rw [if_pos rfl] at e
          unfold eqSeq at e
          rw [if_neg (fun z => by cases z.1)] at e
          obtain ⟨its, rv, p, _⟩ := I.tuple c1
          obtain ⟨its', rv', p', _⟩ := I.tuple c2
          cases z : eqZ (eqv h deep) l m with
          | none => rw [z] at e; cases e
          | some c =>
            rw [z] at e
            cases e
            obtain ⟨ee, z1, z2⟩ := eqZ_map z
            have q := SeqAt.RcAt.tuples (e := ee) p p' hu0 fun j h1 h2 => by
              have h1' : j < its.length := by simpa using h1
              have h2' : j < its'.length := by simpa using h2
              obtain ⟨x1, v1, f1, f2, f3⟩ := vals_at rv r1 h1'
              obtain ⟨y1, w1, g1, g2, g3⟩ := vals_at rv' r2 h2'
              have := eqv_at I hh deep X.A.in1 x1 y1 v1 w1 _ _ _ hu1 f2 g2 f3 g3 (z1 j x1 y1 f1 g1)
              simpa using this
            have n1 : its.toArray.size = l.length := by rw [List.size_toArray, ← rv.length, r1.length]
            have n2 : its'.toArray.size = m.length := by rw [List.size_toArray, ← rv'.length, r2.length]
            rw [n1, n2] at q
            rw [z2]
            exact q
        · rw [if_neg (by decide)] at e
          cases e
          obtain ⟨its, rv, p, _⟩ := I.tuple c1
          obtain ⟨its', rv', p', _⟩ := I.list c2
          exact SeqAt.RcAt.tuple_list p p'.isList hu0
        · rw [if_neg (by decide)] at e
          cases e
          obtain ⟨its, rv, p, _⟩ := I.list c1
          obtain ⟨its', rv', p', _⟩ := I.tuple c2
          exact SeqAt.RcAt.list_tuple p.isList p' hu0
        · rw [if_pos rfl] at e
          unfold eqSeq at e
          obtain ⟨its, rv, p, _⟩ := I.list c1
          obtain ⟨its', rv', p', _⟩ := I.list c2
          have n1 : its.toArray.size = l.length := by rw [List.size_toArray, ← rv.length, r1.length]
          have n2 : its'.toArray.size = m.length := by rw [List.size_toArray, ← rv'.length, r2.length]
          by_cases hl : l.length = m.length
          · rw [if_neg (fun z => z.2 hl)] at e
            cases z : eqZ (eqv h deep) l m with
            | none => rw [z] at e; cases e
            | some c =>
              rw [z] at e
              cases e
              obtain ⟨ee, z1, z2⟩ := eqZ_map z
              have q := SeqAt.RcAt.lists (e := ee) p.isList p'.isList (by rw [n1, n2, hl]) hu0 fun j h1 h2 => by
                have h1' : j < its.length := by simpa using h1
                have h2' : j < its'.length := by simpa using h2
                obtain ⟨x1, v1, f1, f2, f3⟩ := vals_at rv r1 h1'
                obtain ⟨y1, w1, g1, g2, g3⟩ := vals_at rv' r2 h2'
                have := eqv_at I hh deep X.A.in1 x1 y1 v1 w1 _ _ _ hu1 f2 g2 f3 g3 (z1 j x1 y1 f1 g1)
                simpa using this
              rw [n1] at q
              rw [z2, ← hl, Nat.min_self]
              simpa using q
          · rw [if_pos ⟨rfl, hl⟩] at e
            cases e
            refine SeqAt.RcAt.lists_lengths p.isList p'.isList ?_ hu0
            rw [n1, n2]
            simpa using hl
  · cases qx : seqOf h x with
    | none => rw [qx] at e; cases e
    | some p =>
      obtain ⟨k, l⟩ := p
      rw [qx] at e
      cases e
      obtain ⟨a, vs, e1, r1, c1⟩ := seq_v hh rx qx
      subst e1
      cases ru
      rcases c1 with ⟨_, c1⟩ | ⟨_, c1⟩
      · obtain ⟨its, rv, p, _⟩ := I.tuple c1
        rcases scal_v ry sy with ⟨_, e2⟩ | ⟨_, _, e2⟩ | ⟨_, _, e2⟩ | ⟨_, _, e2⟩ <;> subst e2
        · cases rt; exact SeqAt.RcAt.tuple_none p hu0
        · cases rt; exact SeqAt.RcAt.tuple_bool _ p hu0
        · obtain ⟨tk, rfl⟩ := rt; exact SeqAt.RcAt.tuple_int _ tk p hu0
        · obtain ⟨tk, rfl⟩ := rt; exact SeqAt.RcAt.tuple_str _ tk p hu0
      · obtain ⟨its, rv, p, _⟩ := I.list c1
        rcases scal_v ry sy with ⟨_, e2⟩ | ⟨_, _, e2⟩ | ⟨_, _, e2⟩ | ⟨_, _, e2⟩ <;> subst e2
        · cases rt; exact SeqAt.RcAt.list_none p.isList hu0
        · cases rt; exact SeqAt.RcAt.list_bool _ p.isList hu0
        · obtain ⟨tk, rfl⟩ := rt; exact SeqAt.RcAt.list_int _ tk p.isList hu0
        · obtain ⟨tk, rfl⟩ := rt; exact SeqAt.RcAt.list_str _ tk p.isList hu0
  · cases qx : seqOf h y with
    | none => rw [qx] at e; cases e
    | some p =>
      obtain ⟨k, l⟩ := p
      rw [qx] at e
      cases e
      obtain ⟨a, vs, e1, r1, c1⟩ := seq_v hh ry qx
      subst e1
      cases rt
      rcases c1 with ⟨_, c1⟩ | ⟨_, c1⟩
      · obtain ⟨its, rv, p, _⟩ := I.tuple c1
        rcases scal_v rx sx with ⟨_, e2⟩ | ⟨_, _, e2⟩ | ⟨_, _, e2⟩ | ⟨_, _, e2⟩ <;> subst e2
        · cases ru; exact SeqAt.RcAt.none_tuple p hu0
        · cases ru; exact SeqAt.RcAt.bool_tuple _ p hu0
        · obtain ⟨tk, rfl⟩ := ru; exact SeqAt.RcAt.int_tuple _ tk p hu0
        · obtain ⟨tk, rfl⟩ := ru; exact SeqAt.RcAt.str_tuple _ tk p hu0
      · obtain ⟨its, rv, p, _⟩ := I.list c1
        rcases scal_v rx sx with ⟨_, e2⟩ | ⟨_, _, e2⟩ | ⟨_, _, e2⟩ | ⟨_, _, e2⟩ <;> subst e2
        · cases ru; exact SeqAt.RcAt.none_list p.isList hu0
        · cases ru; exact SeqAt.RcAt.bool_list _ p.isList hu0
        · obtain ⟨tk, rfl⟩ := ru; exact SeqAt.RcAt.int_list _ tk p.isList hu0
        · obtain ⟨tk, rfl⟩ := ru; exact SeqAt.RcAt.str_list _ tk p.isList hu0
  · rcases scal_v rx sx with ⟨e1, e2⟩ | ⟨i, e1, e2⟩ | ⟨i, e1, e2⟩ | ⟨i, e1, e2⟩ <;> rcases scal_v ry sy with ⟨e3, e4⟩ | ⟨j, e3, e4⟩ | ⟨j, e3, e4⟩ | ⟨j, e3, e4⟩ <;> subst e1 e2 e3 e4 <;> cases e
    · cases ru; cases rt; exact SeqAt.RcAt.none_none
    · cases ru; cases rt; exact SeqAt.RcAt.none_bool _
    · obtain ⟨tk, rfl⟩ := rt; cases ru; exact SeqAt.RcAt.none_int _ _
    · obtain ⟨tk, rfl⟩ := rt; cases ru; exact SeqAt.RcAt.none_str _ _
    · cases ru; cases rt; exact SeqAt.RcAt.bool_none _
    · cases ru; cases rt; exact SeqAt.RcAt.bool_bool _ _
    · obtain ⟨tk, rfl⟩ := rt; cases ru; exact SeqAt.RcAt.bool_int _ _ _
    · obtain ⟨tk, rfl⟩ := rt; cases ru; exact SeqAt.RcAt.bool_str _ _ _
    · obtain ⟨tk, rfl⟩ := ru; cases rt; exact SeqAt.RcAt.int_none _ _
    · obtain ⟨tk, rfl⟩ := ru; cases rt; exact SeqAt.RcAt.int_bool _ _ _
    · obtain ⟨tk, rfl⟩ := ru; obtain ⟨tk', rfl⟩ := rt; exact SeqAt.RcAt.int_int _ _ _ _
    · obtain ⟨tk, rfl⟩ := ru; obtain ⟨tk', rfl⟩ := rt; exact SeqAt.RcAt.int_str _ _ _ _
    · obtain ⟨tk, rfl⟩ := ru; cases rt; exact SeqAt.RcAt.str_none _ _
    · obtain ⟨tk, rfl⟩ := ru; cases rt; exact SeqAt.RcAt.str_bool _ _ _
    · obtain ⟨tk, rfl⟩ := ru; obtain ⟨tk', rfl⟩ := rt; exact SeqAt.RcAt.str_int _ _ _ _
    · obtain ⟨tk, rfl⟩ := ru; obtain ⟨tk', rfl⟩ := rt; exact SeqAt.RcAt.str_str _ _ _ _
theorem op_neM (hu : X.A.units + 64 < cLine) : OpR X (compareOp .NotEq) (rM (gd X) eqT true) := by
  intro pins s σ H vx vy u t Q I ru rt hq
  obtain ⟨ρ, h, x, y, b, hh, rx, ry, e, q⟩ := hq
  have hu0 : X.A.units < cLine := by omega
  have hu1 : X.A.in1.units + deep < cLine := by show X.A.units + 1 + 12 < cLine; omega
  have fin : EP X pins σ Q (.bool (!b)) s := ⟨.bl (!b), H, I, rfl, q⟩
  suffices hs : SeqAt.RcNeAt X.A s u t (!b) from hs X.prog X.w X.xe _ fin
  unfold eqT eqTop at e
  cases sx : isScal x <;> cases sy : isScal y <;> rw [sx, sy] at e <;> dsimp only at e
  · cases qx : seqOf h x with
    | none => rw [qx] at e; cases e
    | some p =>
      cases qy : seqOf h y with
      | none => rw [qx, qy] at e; cases e
      | some p' =>
        obtain ⟨k, l⟩ := p
        obtain ⟨k', m⟩ := p'
        rw [qx, qy] at e
        dsimp only at e
        obtain ⟨a, vs, e1, r1, c1⟩ := seq_v hh rx qx
        obtain ⟨a', vs', e2, r2, c2⟩ := seq_v hh ry qy
        subst e1 e2
        cases ru
        cases rt
        rcases c1 with ⟨k1, c1⟩ | ⟨k1, c1⟩ <;> rcases c2 with ⟨k2, c2⟩ | ⟨k2, c2⟩ <;> subst k1 k2
        · rw [if_pos rfl] at e
          unfold eqSeq at e
          rw [if_neg (fun z => by cases z.1)] at e
          obtain ⟨its, rv, p, _⟩ := I.tuple c1
          obtain ⟨its', rv', p', _⟩ := I.tuple c2
          cases z : eqZ (eqv h deep) l m with
          | none => rw [z] at e; cases e
          | some c =>
            rw [z] at e
            cases e
            obtain ⟨ee, z1, z2⟩ := eqZ_map z
            have q := SeqAt.RcNeAt.tuples (e := ee) p p' hu0 fun j h1 h2 => by
              have h1' : j < its.length := by simpa using h1
              have h2' : j < its'.length := by simpa using h2
              obtain ⟨x1, v1, f1, f2, f3⟩ := vals_at rv r1 h1'
              obtain ⟨y1, w1, g1, g2, g3⟩ := vals_at rv' r2 h2'
              have := eqv_at I hh deep X.A.in1 x1 y1 v1 w1 _ _ _ hu1 f2 g2 f3 g3 (z1 j x1 y1 f1 g1)
              simpa using this
            have n1 : its.toArray.size = l.length := by rw [List.size_toArray, ← rv.length, r1.length]
            have n2 : its'.toArray.size = m.length := by rw [List.size_toArray, ← rv'.length, r2.length]
            rw [n1, n2] at q
            rw [z2]
            exact q
        · rw [if_neg (by decide)] at e
          cases e
          obtain ⟨its, rv, p, _⟩ := I.tuple c1
          obtain ⟨its', rv', p', _⟩ := I.list c2
          exact SeqAt.RcNeAt.tuple_list p p'.isList hu0
        · rw [if_neg (by decide)] at e
          cases e
          obtain ⟨its, rv, p, _⟩ := I.list c1
          obtain ⟨its', rv', p', _⟩ := I.tuple c2
          exact SeqAt.RcNeAt.list_tuple p.isList p' hu0
        · rw [if_pos rfl] at e
          unfold eqSeq at e
          obtain ⟨its, rv, p, _⟩ := I.list c1
          obtain ⟨its', rv', p', _⟩ := I.list c2
          have n1 : its.toArray.size = l.length := by rw [List.size_toArray, ← rv.length, r1.length]
          have n2 : its'.toArray.size = m.length := by rw [List.size_toArray, ← rv'.length, r2.length]
          by_cases hl : l.length = m.length
          · rw [if_neg (fun z => z.2 hl)] at e
            cases z : eqZ (eqv h deep) l m with
            | none => rw [z] at e; cases e
            | some c =>
              rw [z] at e
              cases e
              obtain ⟨ee, z1, z2⟩ := eqZ_map z
              have q := SeqAt.RcNeAt.lists (e := ee) p.isList p'.isList (by rw [n1, n2, hl]) hu0 fun j h1 h2 => by
                have h1' : j < its.length := by simpa using h1
                have h2' : j < its'.length := by simpa using h2
                obtain ⟨x1, v1, f1, f2, f3⟩ := vals_at rv r1 h1'
                obtain ⟨y1, w1, g1, g2, g3⟩ := vals_at rv' r2 h2'
                have := eqv_at I hh deep X.A.in1 x1 y1 v1 w1 _ _ _ hu1 f2 g2 f3 g3 (z1 j x1 y1 f1 g1)
                simpa using this
              rw [n1] at q
              rw [z2, ← hl, Nat.min_self]
              simpa using q
          · rw [if_pos ⟨rfl, hl⟩] at e
            cases e
            refine SeqAt.RcNeAt.lists_lengths p.isList p'.isList ?_ hu0
            rw [n1, n2]
            simpa using hl
  · cases qx : seqOf h x with
    | none => rw [qx] at e; cases e
    | some p =>
      obtain ⟨k, l⟩ := p
      rw [qx] at e
      cases e
      obtain ⟨a, vs, e1, r1, c1⟩ := seq_v hh rx qx
      subst e1
      cases ru
      rcases c1 with ⟨_, c1⟩ | ⟨_, c1⟩
      · obtain ⟨its, rv, p, _⟩ := I.tuple c1
        rcases scal_v ry sy with ⟨_, e2⟩ | ⟨_, _, e2⟩ | ⟨_, _, e2⟩ | ⟨_, _, e2⟩ <;> subst e2
        · cases rt; exact SeqAt.RcNeAt.tuple_none p hu0
        · cases rt; exact SeqAt.RcNeAt.tuple_bool _ p hu0
        · obtain ⟨tk, rfl⟩ := rt; exact SeqAt.RcNeAt.tuple_int _ tk p hu0
        · obtain ⟨tk, rfl⟩ := rt; exact SeqAt.RcNeAt.tuple_str _ tk p hu0
      · obtain ⟨its, rv, p, _⟩ := I.list c1
        rcases scal_v ry sy with ⟨_, e2⟩ | ⟨_, _, e2⟩ | ⟨_, _, e2⟩ | ⟨_, _, e2⟩ <;> subst e2
        · cases rt; exact SeqAt.RcNeAt.list_none p.isList hu0
        · cases rt; exact SeqAt.RcNeAt.list_bool _ p.isList hu0
        · obtain ⟨tk, rfl⟩ := rt; exact SeqAt.RcNeAt.list_int _ tk p.isList hu0
        · obtain ⟨tk, rfl⟩ := rt; exact SeqAt.RcNeAt.list_str _ tk p.isList hu0
  · cases qx : seqOf h y with
    | none => rw [qx] at e; cases e
    | some p =>
      obtain ⟨k, l⟩ := p
      rw [qx] at e
      cases e
      obtain ⟨a, vs, e1, r1, c1⟩ := seq_v hh ry qx
      subst e1
      cases rt
      rcases c1 with ⟨_, c1⟩ | ⟨_, c1⟩
      · obtain ⟨its, rv, p, _⟩ := I.tuple c1
        rcases scal_v rx sx with ⟨_, e2⟩ | ⟨_, _, e2⟩ | ⟨_, _, e2⟩ | ⟨_, _, e2⟩ <;> subst e2
        · cases ru; exact SeqAt.RcNeAt.none_tuple p hu0
        · cases ru; exact SeqAt.RcNeAt.bool_tuple _ p hu0
        · obtain ⟨tk, rfl⟩ := ru; exact SeqAt.RcNeAt.int_tuple _ tk p hu0
        · obtain ⟨tk, rfl⟩ := ru; exact SeqAt.RcNeAt.str_tuple _ tk p hu0
      · obtain ⟨its, rv, p, _⟩ := I.list c1
        rcases scal_v rx sx with ⟨_, e2⟩ | ⟨_, _, e2⟩ | ⟨_, _, e2⟩ | ⟨_, _, e2⟩ <;> subst e2
        · cases ru; exact SeqAt.RcNeAt.none_list p.isList hu0
        · cases ru; exact SeqAt.RcNeAt.bool_list _ p.isList hu0
        · obtain ⟨tk, rfl⟩ := ru; exact SeqAt.RcNeAt.int_list _ tk p.isList hu0
        · obtain ⟨tk, rfl⟩ := ru; exact SeqAt.RcNeAt.str_list _ tk p.isList hu0
  · rcases scal_v rx sx with ⟨e1, e2⟩ | ⟨i, e1, e2⟩ | ⟨i, e1, e2⟩ | ⟨i, e1, e2⟩ <;> rcases scal_v ry sy with ⟨e3, e4⟩ | ⟨j, e3, e4⟩ | ⟨j, e3, e4⟩ | ⟨j, e3, e4⟩ <;> subst e1 e2 e3 e4 <;> cases e
    · cases ru; cases rt; exact SeqAt.RcNeAt.none_none
    · cases ru; cases rt; exact SeqAt.RcNeAt.none_bool _
    · obtain ⟨tk, rfl⟩ := rt; cases ru; exact SeqAt.RcNeAt.none_int _ _
    · obtain ⟨tk, rfl⟩ := rt; cases ru; exact SeqAt.RcNeAt.none_str _ _
    · cases ru; cases rt; exact SeqAt.RcNeAt.bool_none _
    · cases ru; cases rt; exact SeqAt.RcNeAt.bool_bool _ _
    · obtain ⟨tk, rfl⟩ := rt; cases ru; exact SeqAt.RcNeAt.bool_int _ _ _
    · obtain ⟨tk, rfl⟩ := rt; cases ru; exact SeqAt.RcNeAt.bool_str _ _ _
    · obtain ⟨tk, rfl⟩ := ru; cases rt; exact SeqAt.RcNeAt.int_none _ _
    · obtain ⟨tk, rfl⟩ := ru; cases rt; exact SeqAt.RcNeAt.int_bool _ _ _
    · obtain ⟨tk, rfl⟩ := ru; obtain ⟨tk', rfl⟩ := rt; exact SeqAt.RcNeAt.int_int _ _ _ _
    · obtain ⟨tk, rfl⟩ := ru; obtain ⟨tk', rfl⟩ := rt; exact SeqAt.RcNeAt.int_str _ _ _ _
    · obtain ⟨tk, rfl⟩ := ru; cases rt; exact SeqAt.RcNeAt.str_none _ _
    · obtain ⟨tk, rfl⟩ := ru; cases rt; exact SeqAt.RcNeAt.str_bool _ _ _
    · obtain ⟨tk, rfl⟩ := ru; obtain ⟨tk', rfl⟩ := rt; exact SeqAt.RcNeAt.str_int _ _ _ _
    · obtain ⟨tk, rfl⟩ := ru; obtain ⟨tk', rfl⟩ := rt; exact SeqAt.RcNeAt.str_str _ _ _ _
end
end ML

/-! ML 6: arithmetic, order, in, is None, built-in calls, items, slices, methods of lists -/
namespace ML
open PySem PySem.Spec PyProof.Rows L2

/-! ### + - * // % ** -/
def lstOf (h : MH) : D → Option (List D)
  | .ref n => (match h[n]? with
    | some (.lst l) => some l
    | _ => none)
  | _ => none
def addF : D → D → MH → R D := fun x y h => match x, y with
  | .int i, .int j => .ok (.int (i + j)) h
  | .str a, .str b => if a.length + b.length ≤ 1000000 then .ok (.str (a ++ b)) h else .bad
  | .tup l, .tup m => if l.length + m.length ≤ 1000000 then .ok (.tup (l ++ m)) h else .bad
  | .ref a, .ref b => (match lstOf h (.ref a), lstOf h (.ref b) with
    | some l, some m => if l.length + m.length ≤ 1000000 then .ok (.ref h.length) (h ++ [.lst (l ++ m)]) else .bad
    | _, _ => .bad)
  | _, _ => .bad
def subF : D → D → MH → R D := fun x y h => match x, y with
  | .int i, .int j => .ok (.int (i - j)) h
  | _, _ => .bad
def mulF : D → D → MH → R D := fun x y h => match x, y with
  | .int i, .int j => if i.natAbs.log2 + j.natAbs.log2 < 100000000 then .ok (.int (i * j)) h else .bad
  | .ref a, .int k => (match lstOf h (.ref a) with
    | some l => if -1000 ≤ k ∧ k ≤ 1000 ∧ l.length ≤ 1000 then .ok (.ref h.length) (h ++ [.lst (List.replicate k.toNat l).flatten]) else .bad
    | none => .bad)
  | _, _ => .bad
def modF : D → D → MH → R D := fun x y h => match x, y with
  | .int i, .int j => if 0 < j then .ok (.int (i % j)) h else .bad
  | _, _ => .bad
def fdivF : D → D → MH → R D := fun x y h => match x, y with
  | .int i, .int j => if 0 < j ∧ j.natAbs.log2 < 9000 then .ok (.int (i / j)) h else .bad
  | _, _ => .bad
def powF : D → D → MH → R D := fun x y h => match x, y with
  | .int i, .int j => if 0 ≤ j ∧ ((i.natAbs.log2 + 1 : Nat) : Int) * j ≤ 2 ^ 27 then .ok (.int (i ^ j.toNat)) h else .bad
  | _, _ => .bad
section
variable {X : Cx} {g : Gd} {ρ : List Addr} {H : Hp} {h : MH}
theorem OpR.or3 {f : Value → Value → Sem Value} {r r' : R2} (h : OpR X f r) (h' : OpR X f r') : OpR X f (fun x y H Q => r x y H Q ∨ r' x y H Q) := OpR.or h h'
theorem lst_v (hh : RH g ρ H h) {x : D} {v : V} {l : List D} (r : RD g ρ H x v) (e : lstOf h x = some l) : ∃ n a vs, x = .ref n ∧ h[n]? = some (.lst l) ∧ ρ[n]? = some a ∧ v = .ref a ∧ H a = some (.lst vs) ∧ RDs g ρ H l vs := by
  cases x <;> first | (cases e; done) | skip
  rename_i n
  obtain ⟨a, e1, e2⟩ := RD_ref r
  unfold lstOf at e
  dsimp only at e
  split at e
  · rename_i m hm
    cases e
    obtain ⟨vs, e3, rs⟩ := hh.obj n _ a hm e1
    exact ⟨n, a, vs, rfl, hm, e1, e2, e3, rs⟩
  · cases e
def rAddM (K : PySem.W.Frag) : R2 := fun x y H Q => (rI0 fun i j => .int (i + j)) x y H Q ∨ (∃ i j, x = .str i ∧ y = .str j ∧ i.length + j.length ≤ sizeLine ∧ Q (.str (i ++ j)) H) ∨ rCatA K x y H Q ∨ rCat x y H Q
theorem op_addM : OpR X (binaryOp .Add) (rAddM X.K) := OpR.or op_add (OpR.or op_add_str (OpR.or op_catA op_cat))
theorem RD.tupN {l : List D} {a : Addr} {vs : List V} (sq : SqT g.K H a vs) (r : RDs g ρ H l vs) : RD g ρ H (.tup l) (.ref a) := by unfold RD; exact ⟨a, vs, rfl, sq, r⟩
theorem RD.intN {i : Int} : RD g ρ H (.int i) (.int i) := by unfold RD; rfl
theorem RD.strN {i : Str} : RD g ρ H (.str i) (.str i) := by unfold RD; rfl
theorem RD.blN {i : Bool} : RD g ρ H (.bl i) (.bl i) := by unfold RD; rfl
theorem RD.nonN : RD g ρ H .non .non := by unfold RD; rfl
/-- a new tuple -/
theorem Post.newTup {Wf : XK} {Q : VK} {l : List D} {vs : List V} {q : Addr} (p : Post g (RD g) Wf ρ H (.ok (.tup l) h) Q) (hh : RH g ρ H h) (hq : H q = none) (r : RDs g ρ H l vs) : Q (.ref q) (L2.upd H q (.tup vs)) := by
  have l1 := Lat.upd (g := g) (ρ := ρ) (u := .tup vs) (Soft.none hq)
  exact p ρ _ _ l1 (hh.upd hq) (.tupN (.of upd_same) (l1.rds l r))
/-- a new list -/
theorem Post.newLst {Wf : XK} {Q : VK} {l : List D} {vs : List V} {q : Addr} (p : Post g (RD g) Wf ρ H (.ok (.ref h.length) (h ++ [.lst l])) Q) (hh : RH g ρ H h) (hq : H q = none) (r : RDs g ρ H l vs) : Q (.ref q) (L2.upd H q (.lst vs)) := by
  obtain ⟨l1, l2, l3⟩ := hh.newLst hq r
  exact p _ _ _ l1 l2 l3
theorem rf_add : RF2 (gd X) addF (rAddM X.K) := fun Wf Q ρ H h x y vx vy hh rx ry p => by
  unfold addF at p
  split at p
  · exact .inl ⟨_, _, RD_int rx, RD_int ry, p.okk hh .intN⟩
  · split at p
    · rename_i hl
      exact .inr (.inl ⟨_, _, RD_str rx, RD_str ry, big_le hl, p.okk hh .strN⟩)
    · exact p.elim
  · split at p
    · rename_i l m hl
      obtain ⟨a, vs, e1, s1, r1⟩ := RD_tup rx
      obtain ⟨b, ws, e2, s2, r2⟩ := RD_tup ry
      refine .inr (.inr (.inl ⟨a, b, vs, ws, e1, e2, s1, s2, big_le (by rw [← r1.length, ← r2.length]; exact hl), fun z => ?_, fun _ z => ?_, fun _ _ q hq => p.newTup hh hq (r1.append r2)⟩))
      · subst z
        have : l = [] := List.eq_nil_of_length_eq_zero r1.length
        subst this
        exact p.okk hh (.tupN s2 r2)
      · subst z
        have : m = [] := List.eq_nil_of_length_eq_zero r2.length
        subst this
        rw [List.append_nil] at p
        exact p.okk hh (.tupN s1 r1)
    · exact p.elim
  · split at p
    · rename_i l m hl hm
      split at p
      · rename_i hz
        obtain ⟨n, a, vs, _, _, _, e1, e2, r1⟩ := lst_v hh rx hl
        obtain ⟨n', b, ws, _, _, _, e3, e4, r2⟩ := lst_v hh ry hm
        exact .inr (.inr (.inr ⟨a, b, vs, ws, e1, e3, e2, e4, big_le (by rw [← r1.length, ← r2.length]; exact hz), fun q hq => p.newLst hh hq (r1.append r2)⟩))
      · exact p.elim
    · exact p.elim
  · exact p.elim
theorem rf_sub : RF2 (gd X) subF (rI0 fun i j => .int (i - j)) := fun Wf Q ρ H h x y vx vy hh rx ry p => by
  unfold subF at p
  split at p
  · exact ⟨_, _, RD_int rx, RD_int ry, p.okk hh .intN⟩
  · exact p.elim
def CMulM (i j : Int) : Prop := i.natAbs.log2 + j.natAbs.log2 < 100000000
theorem CMulM.ok {i j : Int} (c : CMulM i j) : IntMulOk i j := fun z => by
  have bits : ∀ x : Int, Builtin.Int.intBits x ≤ x.natAbs.log2 + 1 := fun x => by unfold Builtin.Int.intBits; split <;> omega
  have b1 := bits i
  have b2 := bits j
  have c' : i.natAbs.log2 + j.natAbs.log2 < 100000000 := c
  have line : bitsLine = 134217728 := by decide
  have z2 := (Bool.and_eq_true_iff.mp z).2
  unfold Builtin.Int.intTooBig at z2
  have z3 := of_decide_eq_true z2
  rw [line] at z3
  omega
theorem op_mulM : OpR X (binaryOp .Mult) (rI CMulM fun i j => .int (i * j)) := opI fun _ _ _ _ _ _ _ c q => mul_int q c.ok
theorem rf_mul : RF2 (gd X) mulF (fun x y H Q => (rI CMulM fun i j => .int (i * j)) x y H Q ∨ rRep x y H Q) := fun Wf Q ρ H h x y vx vy hh rx ry p => by
  unfold mulF at p
  split at p
  · split at p
    · rename_i c
      exact .inl ⟨_, _, RD_int rx, RD_int ry, c, p.okk hh .intN⟩
    · exact p.elim
  · rename_i ra k
    split at p
    · rename_i l hl
      split at p
      · rename_i hk
        obtain ⟨n, a, vs, _, _, _, e1, e2, r1⟩ := lst_v hh rx hl
        obtain ⟨k1, k2, k3⟩ := hk
        have kn : k.toNat ≤ 1000 := by omega
        have sz : vs.length * k.toNat ≤ 1000 * 1000 := Nat.mul_le_mul (by rw [← r1.length]; exact k3) kn
        refine .inr ⟨a, k, vs, e1, RD_int ry, e2, by omega, by omega, big_le sz, fun q hq => p.newLst hh hq ?_⟩
        generalize k.toNat = j
        induction j with
        | zero => exact .nil
        | succ j ih =>
          rw [List.replicate_succ, List.replicate_succ, List.flatten_cons, List.flatten_cons]
          exact r1.append ih
      · exact p.elim
    · exact p.elim
  · exact p.elim
theorem rf_mod : RF2 (gd X) modF (rI (fun _ j => 0 < j) fun i j => .int (i % j)) := fun Wf Q ρ H h x y vx vy hh rx ry p => by
  unfold modF at p
  split at p
  · split at p
    · rename_i c
      exact ⟨_, _, RD_int rx, RD_int ry, c, p.okk hh .intN⟩
    · exact p.elim
  · exact p.elim
theorem rf_fdiv : RF2 (gd X) fdivF (rI CDivW fun i j => .int (i / j)) := fun Wf Q ρ H h x y vx vy hh rx ry p => by
  unfold fdivF at p
  split at p
  · split at p
    · rename_i c
      exact ⟨_, _, RD_int rx, RD_int ry, c, p.okk hh .intN⟩
    · exact p.elim
  · exact p.elim
def CPowM (i j : Int) : Prop := 0 ≤ j ∧ ((i.natAbs.log2 + 1 : Nat) : Int) * j ≤ 2 ^ 27
theorem op_powM : OpR X (binaryOp .Pow) (rI CPowM fun i j => .int (i ^ j.toNat)) := opI fun i j _ _ _ _ _ c q => by
  refine pow_int c.1 ?_ q
  have b : Builtin.Int.intBits i ≤ i.natAbs.log2 + 1 := by unfold Builtin.Int.intBits; split <;> omega
  have c2 : ((i.natAbs.log2 + 1 : Nat) : Int) * j ≤ 2 ^ 27 := c.2
  exact Int.le_trans (Int.mul_le_mul_of_nonneg_right (by omega) c.1) c2
theorem rf_pow : RF2 (gd X) powF (rI CPowM fun i j => .int (i ^ j.toNat)) := fun Wf Q ρ H h x y vx vy hh rx ry p => by
  unfold powF at p
  split at p
  · split at p
    · rename_i c
      exact ⟨_, _, RD_int rx, RD_int ry, c, p.okk hh .intN⟩
    · exact p.elim
  · exact p.elim
end

/-! ### order, in, is None -/
def ordF (fi : Int → Int → Bool) (fs : List Nat → List Nat → Bool) : D → D → MH → R D := fun x y h => match x, y with
  | .int i, .int j => .ok (.bl (fi i j)) h
  | .str a, .str b => .ok (.bl (fs a.cps.toList b.cps.toList)) h
  | _, _ => .bad
def ltF := ordF (fun i j => decide (i < j)) fun a b => decide (a < b)
def leF := ordF (fun i j => decide (i ≤ j)) fun a b => !decide (b < a)
def gtF := ordF (fun i j => decide (j < i)) fun a b => decide (b < a)
def geF := ordF (fun i j => decide (j ≤ i)) fun a b => !decide (a < b)
def keyOf : D → Option Key
  | .int i => some (.inl i)
  | .str s => some (.inr s)
  | _ => none
def dctOf (h : MH) : D → Option (List (Key × D))
  | .ref n => (match h[n]? with
    | some (.dct l) => some l
    | _ => none)
  | _ => none
def findK (l : List (Key × D)) (k : Key) : Option D := (l.find? fun kv => decide (kv.1 = k)).map (·.2)
/-- a text of one sign in a text; a text in a text; a thing in a list or tuple; a key in a dict -/
def inT (h : MH) (x y : D) : Option Bool := match y with
  | .str b => (match x with
    | .str a => some (match a.cps.toList with
      | [c] => decide (c ∈ b.cps.toList)
      | _ => !(Builtin.Str.occurrences b a 0 b.length 1).isEmpty)
    | _ => none)
  | _ => (match dctOf h y with
    | some l => (match keyOf x with
      | some k => some (findK l k).isSome
      | none => none)
    | none => memT h x y)
def inF : D → D → MH → R D := fun x y h => match inT h x y with
  | some b => .ok (.bl b) h
  | none => .bad
def ninF : D → D → MH → R D := fun x y h => match inT h x y with
  | some b => .ok (.bl (!b)) h
  | none => .bad
def isNF : D → D → MH → R D := fun x y h => match x, y with
  | .non, .non => .ok (.bl true) h
  | _, .non => .ok (.bl false) h
  | _, _ => .bad
def isntNF : D → D → MH → R D := fun x y h => match x, y with
  | .non, .non => .ok (.bl false) h
  | _, .non => .ok (.bl true) h
  | _, _ => .bad
section
variable {X : Cx} {g : Gd} {ρ : List Addr} {H : Hp} {h : MH}
theorem rf_ord {fi : Int → Int → Bool} {fs : List Nat → List Nat → Bool} {r1 r2 : R2} (h1 : ∀ i j H Q, Q (.bl (fi i j)) H → r1 (.int i) (.int j) H Q) (h2 : ∀ (i j : Str) H Q, Q (.bl (fs i.cps.toList j.cps.toList)) H → r2 (.str i) (.str j) H Q) :
    RF2 (gd X) (ordF fi fs) (fun x y H Q => r1 x y H Q ∨ r2 x y H Q) := fun Wf Q ρ H h x y vx vy hh rx ry p => by
  unfold ordF at p
  split at p
  · rw [RD_int rx, RD_int ry]
    exact .inl (h1 _ _ _ _ (p.okk hh .blN))
  · rw [RD_str rx, RD_str ry]
    exact .inr (h2 _ _ _ _ (p.okk hh .blN))
  · exact p.elim
theorem op_ltM : OpR X (compareOp .Lt) (fun x y H Q => (rI0 fun i j => .bl (decide (i < j))) x y H Q ∨ ∃ i j, x = .str i ∧ y = .str j ∧ Q (.bl (decide (i.cps.toList < j.cps.toList))) H) := OpR.or op_lt op_lt_str
theorem op_leM : OpR X (compareOp .LtE) (fun x y H Q => (rI0 fun i j => .bl (decide (i ≤ j))) x y H Q ∨ ∃ i j, x = .str i ∧ y = .str j ∧ Q (.bl (!decide (j.cps.toList < i.cps.toList))) H) := OpR.or op_le op_le_str
theorem op_gtM : OpR X (compareOp .Gt) (fun x y H Q => (rI0 fun i j => .bl (decide (j < i))) x y H Q ∨ ∃ i j, x = .str i ∧ y = .str j ∧ Q (.bl (decide (j.cps.toList < i.cps.toList))) H) := OpR.or op_gt op_gt_str
theorem op_geM : OpR X (compareOp .GtE) (fun x y H Q => (rI0 fun i j => .bl (decide (j ≤ i))) x y H Q ∨ ∃ i j, x = .str i ∧ y = .str j ∧ Q (.bl (!decide (i.cps.toList < j.cps.toList))) H) := OpR.or op_ge op_ge_str
theorem rf_lt : RF2 (gd X) ltF (fun x y H Q => (rI0 fun i j => .bl (decide (i < j))) x y H Q ∨ ∃ i j, x = .str i ∧ y = .str j ∧ Q (.bl (decide (i.cps.toList < j.cps.toList))) H) := rf_ord (fun i j H Q q => ⟨i, j, rfl, rfl, q⟩) fun i j H Q q => ⟨i, j, rfl, rfl, q⟩
theorem rf_le : RF2 (gd X) leF (fun x y H Q => (rI0 fun i j => .bl (decide (i ≤ j))) x y H Q ∨ ∃ i j, x = .str i ∧ y = .str j ∧ Q (.bl (!decide (j.cps.toList < i.cps.toList))) H) := rf_ord (fun i j H Q q => ⟨i, j, rfl, rfl, q⟩) fun i j H Q q => ⟨i, j, rfl, rfl, q⟩
theorem rf_gt : RF2 (gd X) gtF (fun x y H Q => (rI0 fun i j => .bl (decide (j < i))) x y H Q ∨ ∃ i j, x = .str i ∧ y = .str j ∧ Q (.bl (decide (j.cps.toList < i.cps.toList))) H) := rf_ord (fun i j H Q q => ⟨i, j, rfl, rfl, q⟩) fun i j H Q q => ⟨i, j, rfl, rfl, q⟩
theorem rf_ge : RF2 (gd X) geF (fun x y H Q => (rI0 fun i j => .bl (decide (j ≤ i))) x y H Q ∨ ∃ i j, x = .str i ∧ y = .str j ∧ Q (.bl (!decide (i.cps.toList < j.cps.toList))) H) := rf_ord (fun i j H Q q => ⟨i, j, rfl, rfl, q⟩) fun i j H Q q => ⟨i, j, rfl, rfl, q⟩
theorem rf_in : RF2 g inF (rM g inT false) := fun Wf Q ρ H h x y vx vy hh rx ry p => by
  unfold inF at p
  split at p
  · rename_i b hb
    exact ⟨ρ, h, x, y, b, hh, rx, ry, hb, p.okk hh .blN⟩
  · exact p.elim
theorem rf_nin : RF2 g ninF (rM g inT true) := fun Wf Q ρ H h x y vx vy hh rx ry p => by
  unfold ninF at p
  split at p
  · rename_i b hb
    exact ⟨ρ, h, x, y, b, hh, rx, ry, hb, p.okk hh .blN⟩
  · exact p.elim
theorem keyOf_v {x : D} {v : V} {k : Key} (r : RD g ρ H x v) (e : keyOf x = some k) : v = kV k := by
  cases x <;> first | (cases e; done) | skip
  · cases e; exact RD_int r
  · cases e; exact RD_str r
theorem dct_v (hh : RH g ρ H h) {x : D} {v : V} {l : List (Key × D)} (r : RD g ρ H x v) (e : dctOf h x = some l) : ∃ n a ws, x = .ref n ∧ h[n]? = some (.dct l) ∧ ρ[n]? = some a ∧ v = .ref a ∧ H a = some (.dK ws) ∧ RP g ρ H l ws := by
  cases x <;> first | (cases e; done) | skip
  rename_i n
  obtain ⟨a, e1, e2⟩ := RD_ref r
  unfold dctOf at e
  dsimp only at e
  split at e
  · rename_i m hm
    cases e
    obtain ⟨ws, e3, rs⟩ := hh.obj n _ a hm e1
    exact ⟨n, a, ws, rfl, hm, e1, e2, e3, rs⟩
  · cases e
theorem RP.find {k : Key} : ∀ {l : List (Key × D)} {ws : List (Key × V)}, RP g ρ H l ws → (∃ d v, findK l k = some d ∧ valV ws k = some v ∧ RD g ρ H d v) ∨ (findK l k = none ∧ valV ws k = none)
  | [], ws, q => .inr ⟨rfl, by have q' : ws = [] := q; subst q'; rfl⟩
  | (f, d) :: l, ws, q => by
    obtain ⟨v, r, e, q1, q2⟩ := q
    subst e
    by_cases hf : f = k
    · exact .inl ⟨d, v, by unfold findK; simp [List.find?_cons, hf], valV_pos (p := (f, v)) hf, q1⟩
    · rw [valV_neg (p := (f, v)) hf, show findK ((f, d) :: l) k = findK l k by unfold findK; simp [List.find?_cons, hf]]
      exact RP.find q2
theorem anyF_map {f : D → Option Bool} : ∀ {l : List D} {b : Bool}, anyF f l = some b → (∀ (j : Nat) x, l[j]? = some x → ∃ c, f x = some c) ∧ (b = true ↔ ∃ (j : Nat) (x : D), l[j]? = some x ∧ f x = some true)
  | [], b, e => by
    unfold anyF at e
    cases e
    exact ⟨fun j x h => by simp at h, by simp⟩
  | y :: l, b, e => by
    unfold anyF at e
    cases q : f y with
    | none => rw [q] at e; cases e
    | some a =>
      rw [q] at e
      dsimp only at e
      cases q2 : anyF f l with
      | none => rw [q2] at e; cases e
      | some c =>
        rw [q2] at e
        cases e
        obtain ⟨h1, h2⟩ := anyF_map q2
        refine ⟨fun j x hj => ?_, ?_⟩
        · cases j with
          | zero => simp at hj; subst hj; exact ⟨a, q⟩
          | succ j => exact h1 j x (by simpa using hj)
        · constructor
          · intro z
            rcases Bool.or_eq_true_iff.mp z with z | z
            · subst z; exact ⟨0, y, rfl, q⟩
            · obtain ⟨j, x, e1, e2⟩ := h2.mp z
              exact ⟨j + 1, x, by simpa using e1, e2⟩
          · rintro ⟨j, x, e1, e2⟩
            cases j with
            | zero =>
              simp at e1
              subst e1
              rw [q] at e2
              cases e2
              rfl
            | succ j => rw [h2.mpr ⟨j, x, by simpa using e1, e2⟩, Bool.or_true]
end
section
variable {X : Cx}
/-- the answer for the items' values, and that it is the answer for each of them -/
theorem mem_vals {pins : List (Addr × Obj)} {σ : L2.St} {H : Hp} {s : Shared} {ρ : List Addr} {h : MH} (I : Inv X pins σ H s) (hh : RH (gd X) ρ H h) {A : Around} (hu : A.units + deep < cLine) {x : D} {v : V} {t : Value} (rx : RD (gd X) ρ H x v) (rt : RelV v t)
    {l : List D} {vs : List V} {its : List Value} {b : Bool} (rs : RDs (gd X) ρ H l vs) (ri : Vals vs its) (e : anyF (fun z => eqv h deep z x) l = some b) : ∃ f : Value → Bool, (∀ w, w ∈ its → SeqAt.EqAt A s w t (f w)) ∧ its.any f = b := by
  classical
  obtain ⟨h1, h2⟩ := anyF_map e
  have at_ : ∀ {w : Value}, w ∈ its → ∃ (j : Nat) (y : D) (u : V), l[j]? = some y ∧ RD (gd X) ρ H y u ∧ RelV u w := fun {w} hw => by
    obtain ⟨j, hj, ej⟩ := List.getElem_of_mem hw
    obtain ⟨y, u, e1, e2, e3⟩ := vals_at ri rs hj
    exact ⟨j, y, u, e1, e2, by rw [← ej]; exact e3⟩
  refine ⟨fun w => decide (∃ (j : Nat) (y : D) (u : V), l[j]? = some y ∧ RD (gd X) ρ H y u ∧ RelV u w ∧ eqv h deep y x = some true), fun w hw => ?_, ?_⟩
  · obtain ⟨j, y, u, e1, e2, e3⟩ := at_ hw
    obtain ⟨c, ec⟩ := h1 j y e1
    have q := eqv_at I hh deep A y x u v w t c hu e2 rx e3 rt ec
    suffices hc : decide (∃ (j : Nat) (y : D) (u : V), l[j]? = some y ∧ RD (gd X) ρ H y u ∧ RelV u w ∧ eqv h deep y x = some true) = c by show SeqAt.EqAt A s w t (decide _); rw [hc]; exact q
    cases c with
    | true => exact decide_eq_true ⟨j, y, u, e1, e2, e3, ec⟩
    | false =>
      refine decide_eq_false ?_
      rintro ⟨j', y', u', f1, f2, f3, f4⟩
      have : u' = u := f3.inj e3
      subst this
      have := eqv_det I hh deep deep y y' x x u' v false true e2 f2 rx rx ec f4
      cases this
  · rw [Bool.eq_iff_iff, List.any_eq_true, h2]
    constructor
    · rintro ⟨w, hw, z⟩
      obtain ⟨j, y, u, f1, f2, f3, f4⟩ := of_decide_eq_true z
      exact ⟨j, y, f1, f4⟩
    · rintro ⟨j, y, f1, f4⟩
      obtain ⟨u, g1, g2⟩ := rs.get f1
      obtain ⟨w, g3, g4⟩ := ri.get g1
      exact ⟨w, List.mem_of_getElem? g3, decide_eq_true ⟨j, y, u, f1, g2, g4, f4⟩⟩
theorem op_inM (hu : X.A.units + 64 < cLine) : OpR X (compareOp .In) (rM (gd X) inT false) := by
  intro pins s σ H vx vy u t Q I ru rt hq
  obtain ⟨ρ, h, x, y, b, hh, rx, ry, e, q⟩ := hq
  have fin : ∀ {s' : Shared}, Inv X pins σ H s' → EP X pins σ Q (.bool b) s' := fun I' => ⟨.bl b, H, I', rfl, q⟩
  have hu1 : X.A.in1.units + deep < cLine := by show X.A.units + 1 + 12 < cLine; omega
  unfold inT at e
  split at e
  · rename_i z
    cases x <;> first | (cases e; done) | skip
    rename_i a
    rw [RD_str ry] at rt
    rw [RD_str rx] at ru
    simp only [Option.some.injEq] at e
    split at e
    · rename_i c hc
      have ha : a = ⟨#[c]⟩ := by
        obtain ⟨arr⟩ := a
        have : arr = #[c] := by
          apply Array.ext'
          simpa using hc
        rw [this]
      subst ha
      refine op_in_sign pins s σ H _ _ u t Q I ru rt ⟨c, z, rfl, rfl, ?_⟩
      rw [e]
      exact q
    · refine op_in_str pins s σ H _ _ u t Q I ru rt ⟨a, z, rfl, rfl, ?_⟩
      rw [e]
      exact q
  · rename_i hns
    split at e
    · rename_i l hl
      split at e
      · rename_i k hk
        cases e
        obtain ⟨n, a, ws, _, _, _, e1, e2, rp⟩ := dct_v hh ry hl
        subst e1
        cases rt
        rw [keyOf_v rx hk] at ru
        refine d_in (by omega) I (DGet.k e2) ru fun s' I' => ?_
        have eb : (valV ws k).isSome = (findK l k).isSome := by
          rcases RP.find (k := k) rp with ⟨d, v, f1, f2, _⟩ | ⟨f1, f2⟩ <;> rw [f1, f2] <;> rfl
        rw [eb]
        exact fin I'
      · cases e
    · unfold memT at e
      split at e
      · rename_i k l hl
        obtain ⟨a, vs, e1, rs, c1⟩ := seq_v hh ry hl
        subst e1
        cases rt
        rcases c1 with ⟨_, c1⟩ | ⟨_, c1⟩
        · obtain ⟨its, rv, pl, _⟩ := I.tuple c1
          obtain ⟨f, g1, g2⟩ := mem_vals I hh hu1 rx ru rs rv e
          refine SeqAt.in_tupleAt f pl (fun w hw => g1 w (by simpa using hw)) ?_
          rw [show its.toArray.any f = its.any f by simp, g2]
          exact fin I
        · obtain ⟨its, rv, pl, _⟩ := I.list c1
          obtain ⟨f, g1, g2⟩ := mem_vals I hh hu1 rx ru rs rv e
          refine SeqAt.in_listAt f pl.isList (fun w hw => g1 w (by simpa using hw)) ?_
          rw [show its.toArray.any f = its.any f by simp, g2]
          exact fin I
      · cases e
theorem op_ninM (hu : X.A.units + 64 < cLine) : OpR X (compareOp .NotIn) (rM (gd X) inT true) := by
  intro pins s σ H vx vy u t Q I ru rt hq
  obtain ⟨ρ, h, x, y, b, hh, rx, ry, e, q⟩ := hq
  have fin : ∀ {s' : Shared}, Inv X pins σ H s' → EP X pins σ Q (.bool (!b)) s' := fun I' => ⟨.bl (!b), H, I', rfl, q⟩
  have hu1 : X.A.in1.units + deep < cLine := by show X.A.units + 1 + 12 < cLine; omega
  unfold inT at e
  split at e
  · rename_i z
    cases x <;> first | (cases e; done) | skip
    rename_i a
    rw [RD_str ry] at rt
    rw [RD_str rx] at ru
    simp only [Option.some.injEq] at e
    split at e
    · rename_i c hc
      have ha : a = ⟨#[c]⟩ := by
        obtain ⟨arr⟩ := a
        have : arr = #[c] := by
          apply Array.ext'
          simpa using hc
        rw [this]
      subst ha
      refine op_notIn_sign pins s σ H _ _ u t Q I ru rt ⟨c, z, rfl, rfl, ?_⟩
      rw [e]
      exact q
    · refine L2.op_notIn_str pins s σ H _ _ u t Q I ru rt ⟨a, z, rfl, rfl, ?_⟩
      rw [e]
      exact q
  · rename_i hns
    split at e
    · rename_i l hl
      split at e
      · rename_i k hk
        cases e
        obtain ⟨n, a, ws, _, _, _, e1, e2, rp⟩ := dct_v hh ry hl
        subst e1
        cases rt
        rw [keyOf_v rx hk] at ru
        refine d_notIn (by omega) I (DGet.k e2) ru fun s' I' => ?_
        have eb : (valV ws k).isSome = (findK l k).isSome := by
          rcases RP.find (k := k) rp with ⟨d, v, f1, f2, _⟩ | ⟨f1, f2⟩ <;> rw [f1, f2] <;> rfl
        rw [eb]
        exact fin I'
      · cases e
    · unfold memT at e
      split at e
      · rename_i k l hl
        obtain ⟨a, vs, e1, rs, c1⟩ := seq_v hh ry hl
        subst e1
        cases rt
        rcases c1 with ⟨_, c1⟩ | ⟨_, c1⟩
        · obtain ⟨its, rv, pl, _⟩ := I.tuple c1
          obtain ⟨f, g1, g2⟩ := mem_vals I hh hu1 rx ru rs rv e
          refine SeqAt.notIn_tupleAt f pl (fun w hw => g1 w (by simpa using hw)) ?_
          rw [show its.toArray.any f = its.any f by simp, g2]
          exact fin I
        · obtain ⟨its, rv, pl, _⟩ := I.list c1
          obtain ⟨f, g1, g2⟩ := mem_vals I hh hu1 rx ru rs rv e
          refine SeqAt.notIn_listAt f pl.isList (fun w hw => g1 w (by simpa using hw)) ?_
          rw [show its.toArray.any f = its.any f by simp, g2]
          exact fin I
      · cases e
theorem nonV {g : Gd} {ρ : List Addr} {H : Hp} {x : D} {v : V} (r : RD g ρ H x v) : decide (v = .non) = (match x with | .non => true | _ => false) := by
  cases x with
  | non => unfold RD at r; subst r; rfl
  | bl b => unfold RD at r; subst r; rfl
  | int b => unfold RD at r; subst r; rfl
  | str b => unfold RD at r; subst r; exact decide_eq_false (fun z => nomatch z)
  | ty b => unfold RD at r; subst r; exact decide_eq_false (fun z => nomatch z)
  | tup l => obtain ⟨a, vs, e, _⟩ := RD_tup r; subst e; rfl
  | ref n => obtain ⟨a, _, e⟩ := RD_ref r; subst e; rfl
  | glb n => unfold RD at r; obtain ⟨a, _, e⟩ := r; subst e; rfl
theorem rf_isN {g : Gd} : RF2 g isNF (fun x y H Q => y = .non ∧ Q (.bl (decide (x = .non))) H) := fun Wf Q ρ H h x y vx vy hh rx ry p => by
  show vy = .non ∧ Q (.bl (decide (vx = .non))) H
  rw [nonV rx]
  unfold isNF at p
  cases y <;> first | (cases x <;> exact p.elim) | skip
  unfold RD at ry
  refine ⟨ry, ?_⟩
  cases x <;> exact p.okk hh .blN
theorem rf_isntN {g : Gd} : RF2 g isntNF (fun x y H Q => y = .non ∧ Q (.bl (!decide (x = .non))) H) := fun Wf Q ρ H h x y vx vy hh rx ry p => by
  show vy = .non ∧ Q (.bl (!decide (vx = .non))) H
  rw [nonV rx]
  unfold isntNF at p
  cases y <;> first | (cases x <;> exact p.elim) | skip
  unfold RD at ry
  refine ⟨ry, ?_⟩
  cases x <;> exact p.okk hh .blN
end
end ML

/-! ML 7: built-in calls, isinstance, items, slices, methods of lists -/
namespace ML
open PySem PySem.Spec PyProof.Rows L2

section
variable {X : Cx} {W : Wx} {x : Str} {p pos : Pos} {e : Expr} {es : List Expr} {mas : AM} {id T : String} {r : List V → Hp → VK → Prop} {f : List D → MH → R D}
theorem e_callB (hc : CallR X (.builtin id) r) (hf : RFs (gd X) f r) (hg : Gl X x) (hm : X.mg x = none) (hv : bootBuiltins x = some (.builtin id)) (ha : PA X (e :: es) (tA (gd X) W mas)) (hn : x ≠ "__name__" := by decide) (hdb : (x == ("__debug__" : Str)) = false := by decide)
    (he : starEach (e :: es) X.env = (false, eval e X.env) :: starEach es X.env := by rfl) (hpl : (backTo pos (starEach es X.env)).any (·.1) = false := by rfl) : PE X (.Call (.Name x p) (e :: es) [] pos) (tE (gd X) W (onA f mas)) :=
  PE_of (pe_callB hc hg hm hv ha hn hdb he hpl) fun σ H Q q => one q fun ρ e H h xs vs s hh rx p => hf _ _ ρ H h xs vs hh rx p
theorem e_callTy (hc : CallR X (.type T) r) (hf : RFs (gd X) f r) (hg : Gl X x) (hm : X.mg x = none) (hv : bootBuiltins x = some (.type T)) (ha : PA X (e :: es) (tA (gd X) W mas)) (hn : x ≠ "__name__" := by decide) (hdb : (x == ("__debug__" : Str)) = false := by decide)
    (he : starEach (e :: es) X.env = (false, eval e X.env) :: starEach es X.env := by rfl) (hpl : (backTo pos (starEach es X.env)).any (·.1) = false := by rfl) : PE X (.Call (.Name x p) (e :: es) [] pos) (tE (gd X) W (onA f mas)) :=
  PE_of (pe_callTy hc hg hm hv ha hn hdb he hpl) fun σ H Q q => one q fun ρ e H h xs vs s hh rx p => hf _ _ ρ H h xs vs hh rx p
end

/-! ### len, list, tuple, int, all, any, max, min -/
def lenF : List D → MH → R D := fun ds h => match ds with
  | [.str z] => if z.length ≤ 1000000 then .ok (.int z.length) h else .bad
  | [x] => (match seqOf h x with
    | some (_, l) => .ok (.int l.length) h
    | none => (match dctOf h x with
      | some l => .ok (.int l.length) h
      | none => .bad))
  | _ => .bad
def listF : List D → MH → R D := fun ds h => match ds with
  | [x] => (match seqOf h x with
    | some (_, l) => .ok (.ref h.length) (h ++ [.lst l])
    | none => .bad)
  | _ => .bad
def tupleF : List D → MH → R D := fun ds h => match ds with
  | [x] => (match seqOf h x with
    | some (_, l) => .ok (.tup l) h
    | none => .bad)
  | _ => .bad
def intF : List D → MH → R D := fun ds h => match ds with
  | [.int i] => .ok (.int i) h
  | [.bl b] => .ok (.int (if b then 1 else 0)) h
  | _ => .bad
def bools : List D → Option (List Bool)
  | [] => some []
  | .bl b :: r => (match bools r with
    | some l => some (b :: l)
    | none => none)
  | _ => none
def allF : List D → MH → R D := fun ds h => match ds with
  | [x] => (match lstOf h x with
    | some l => (match bools l with
      | some bs => .ok (.bl (bs.all fun b => b)) h
      | none => .bad)
    | none => .bad)
  | _ => .bad
def anyBF : List D → MH → R D := fun ds h => match ds with
  | [x] => (match lstOf h x with
    | some l => (match bools l with
      | some bs => .ok (.bl (bs.any fun b => b)) h
      | none => .bad)
    | none => .bad)
  | _ => .bad
def max2F : List D → MH → R D := fun ds h => match ds with
  | [.int i, .int j] => .ok (.int (if j > i then j else i)) h
  | _ => .bad
def min2F : List D → MH → R D := fun ds h => match ds with
  | [.int i, .int j] => .ok (.int (if j < i then j else i)) h
  | _ => .bad
section
variable {X : Cx} {g : Gd} {ρ : List Addr} {H : Hp} {h : MH}
theorem RDs.inv1 {d : D} {vs : List V} (q : RDs g ρ H [d] vs) : ∃ v, vs = [v] ∧ RD g ρ H d v := by
  obtain ⟨v, r, e, a, b⟩ := q.inv
  rw [b.invNil] at e
  exact ⟨v, e, a⟩
theorem RDs.inv2 {d d2 : D} {vs : List V} (q : RDs g ρ H [d, d2] vs) : ∃ v w, vs = [v, w] ∧ RD g ρ H d v ∧ RD g ρ H d2 w := by
  obtain ⟨v, r, e, a, b⟩ := q.inv
  obtain ⟨w, e', c⟩ := b.inv1
  rw [e'] at e
  exact ⟨v, w, e, a, c⟩
def rLenD : List V → Hp → VK → Prop := fun xs H Q => ∃ a kvs, xs = [.ref a] ∧ H a = some (.dK kvs) ∧ Q (.int kvs.length) H
theorem call_lenDM : CallR X (.builtin "len") rLenD := by
  intro pins s σ H xs us Q I rr hq
  obtain ⟨a, kvs, rfl, e, q⟩ := hq
  obtain ⟨u, rfl, ru⟩ := vals1 rr
  cases ru
  exact d_len I (.inl e) fun t s' I' => ⟨.int kvs.length, H, I', ⟨t, rfl⟩, q⟩
theorem call_lenM : CallR X (.builtin "len") (fun xs H Q => (∃ x n, xs = [x] ∧ LenV X.K x H n ∧ Q (.int n) H) ∨ rLenD xs H Q) := CallR.or call_len call_lenDM
theorem RP.length {α : Type} : ∀ {l : List (α × D)} {ws : List (α × V)}, RP g ρ H l ws → l.length = ws.length
  | [], ws, q => by have q' : ws = [] := q; subst q'; rfl
  | (f, d) :: l, ws, q => by
    obtain ⟨v, r, e, _, q2⟩ := q
    subst e
    simp [RP.length q2]
theorem rf_len : RFs (gd X) lenF (fun xs H Q => (∃ x n, xs = [x] ∧ LenV X.K x H n ∧ Q (.int n) H) ∨ rLenD xs H Q) := fun Wf Q ρ H h xs vs hh rx p => by
  unfold lenF at p
  split at p
  · split at p
    · rename_i z hz
      obtain ⟨v, e, r⟩ := rx.inv1
      rw [RD_str r] at e
      exact .inl ⟨.str z, z.length, e, ⟨big_le hz, rfl⟩, p.okk hh .intN⟩
    · exact p.elim
  · obtain ⟨v, e, r⟩ := rx.inv1
    split at p
    · rename_i k l hl
      obtain ⟨a, ws, e1, rs, c⟩ := seq_v hh r hl
      subst e1
      refine .inl ⟨.ref a, l.length, e, ?_, p.okk hh .intN⟩
      rcases c with ⟨_, c⟩ | ⟨_, c⟩
      · exact .inr ⟨ws, c, rs.length⟩
      · exact .inl ⟨ws, c, rs.length⟩
    · split at p
      · rename_i l hl
        obtain ⟨n, a, ws, _, _, _, e1, e2, rp⟩ := dct_v hh r hl
        subst e1
        exact .inr ⟨a, ws, e, e2, by rw [← rp.length]; exact p.okk hh .intN⟩
      · exact p.elim
  · exact p.elim
theorem rf_list : RFs (gd X) listF (fun xs H Q => ∃ p ys, xs = [.ref p] ∧ (SqL X.K H p ys ∨ SqT X.K H p ys) ∧ ∀ l, H l = none → Q (.ref l) (L2.upd H l (.lst ys))) := fun Wf Q ρ H h xs vs hh rx p => by
  unfold listF at p
  split at p
  · obtain ⟨v, e, r⟩ := rx.inv1
    split at p
    · rename_i k l hl
      obtain ⟨a, ws, e1, rs, c⟩ := seq_v hh r hl
      subst e1
      refine ⟨a, ws, e, ?_, fun q hq => p.newLst hh hq rs⟩
      rcases c with ⟨_, c⟩ | ⟨_, c⟩
      · exact .inr c
      · exact .inl c
    · exact p.elim
  · exact p.elim
theorem rf_tuple : RFs (gd X) tupleF (fun xs H Q => ∃ p ys, xs = [.ref p] ∧ ((SqL X.K H p ys ∧ ∀ l, H l = none → Q (.ref l) (L2.upd H l (.tup ys))) ∨ (SqT X.K H p ys ∧ Q (.ref p) H))) := fun Wf Q ρ H h xs vs hh rx p => by
  unfold tupleF at p
  split at p
  · obtain ⟨v, e, r⟩ := rx.inv1
    split at p
    · rename_i k l hl
      obtain ⟨a, ws, e1, rs, c⟩ := seq_v hh r hl
      subst e1
      refine ⟨a, ws, e, ?_⟩
      rcases c with ⟨_, c⟩ | ⟨_, c⟩
      · exact .inr ⟨c, p.okk hh (.tupN c rs)⟩
      · exact .inl ⟨c, fun q hq => p.newTup hh hq rs⟩
    · exact p.elim
  · exact p.elim
theorem rf_int : RFs (gd X) intF (fun xs H Q => (∃ i, xs = [.int i] ∧ Q (.int i) H) ∨ ∃ k, xs = [.bl k] ∧ Q (.int (if k then 1 else 0)) H) := fun Wf Q ρ H h xs vs hh rx p => by
  unfold intF at p
  split at p
  · obtain ⟨v, e, r⟩ := rx.inv1
    rw [RD_int r] at e
    exact .inl ⟨_, e, p.okk hh .intN⟩
  · obtain ⟨v, e, r⟩ := rx.inv1
    rw [RD_bl r rfl] at e
    exact .inr ⟨_, e, p.okk hh .intN⟩
  · exact p.elim
theorem bools_v : ∀ {l : List D} {bs : List Bool} {vs : List V}, RDs g ρ H l vs → bools l = some bs → vs = bs.map V.bl
  | [], bs, vs, q, e => by unfold bools at e; cases e; exact q.invNil
  | d :: l, bs, vs, q, e => by
    obtain ⟨v, r, e1, q1, q2⟩ := q.inv
    cases d <;> first | (unfold bools at e; cases e; done) | skip
    unfold bools at e
    split at e
    · rename_i bs' hb
      cases e
      rw [e1, bools_v q2 hb, RD_bl q1 rfl]
      rfl
    · cases e
theorem rf_all : RFs (gd X) allF (rAll X.K) := fun Wf Q ρ H h xs vs hh rx p => by
  unfold allF at p
  split at p
  · obtain ⟨v, e, r⟩ := rx.inv1
    split at p
    · rename_i l hl
      split at p
      · rename_i bs hb
        obtain ⟨n, a, ws, _, _, _, e1, e2, rs⟩ := lst_v hh r hl
        subst e1
        rw [bools_v rs hb] at e2
        exact ⟨a, bs, e, .of e2, p.okk hh .blN⟩
      · exact p.elim
    · exact p.elim
  · exact p.elim
theorem rf_any : RFs (gd X) anyBF (rAny X.K) := fun Wf Q ρ H h xs vs hh rx p => by
  unfold anyBF at p
  split at p
  · obtain ⟨v, e, r⟩ := rx.inv1
    split at p
    · rename_i l hl
      split at p
      · rename_i bs hb
        obtain ⟨n, a, ws, _, _, _, e1, e2, rs⟩ := lst_v hh r hl
        subst e1
        rw [bools_v rs hb] at e2
        exact ⟨a, bs, e, .of e2, p.okk hh .blN⟩
      · exact p.elim
    · exact p.elim
  · exact p.elim
theorem rf_max2 : RFs (gd X) max2F (fun xs H Q => ∃ i j, xs = [.int i, .int j] ∧ Q (.int (if j > i then j else i)) H) := fun Wf Q ρ H h xs vs hh rx p => by
  unfold max2F at p
  split at p
  · obtain ⟨v, w, e, r1, r2⟩ := rx.inv2
    rw [RD_int r1, RD_int r2] at e
    exact ⟨_, _, e, p.okk hh .intN⟩
  · exact p.elim
theorem rf_min2 : RFs (gd X) min2F (fun xs H Q => ∃ i j, xs = [.int i, .int j] ∧ Q (.int (if j < i then j else i)) H) := fun Wf Q ρ H h xs vs hh rx p => by
  unfold min2F at p
  split at p
  · obtain ⟨v, w, e, r1, r2⟩ := rx.inv2
    rw [RD_int r1, RD_int r2] at e
    exact ⟨_, _, e, p.okk hh .intN⟩
  · exact p.elim
end

/-! ### isinstance against built-in classes -/
def tyD (h : MH) : D → Option String
  | .non => some "NoneType"
  | .bl _ => some "bool"
  | .int _ => some "int"
  | .str _ => some "str"
  | .tup _ => some "tuple"
  | .ref n => (match h[n]? with
    | some (.lst _) => some "list"
    | some (.rdl _) => some "list"
    | some (.dct _) => some "dict"
    | _ => none)
  | _ => none
def kinds : List String := ["NoneType", "bool", "int", "str", "tuple", "list", "dict"]
def isB (T c : String) : Bool := T == c || (T == "bool" && c == "int")
theorem isB_ok : (kinds.all fun T => ["bool", "int", "str", "tuple", "list", "dict"].all fun c => decide (kitB T c = some (isB T c))) = true := by decide +kernel
theorem kit_of_isB {K : PySem.W.Frag} {T c : String} (hT : T ∈ kinds) (hc : c ∈ ["bool", "int", "str", "tuple", "list", "dict"]) : PySem.W.kitOne K (.type T) (.type c) = some (isB T c) :=
  kit_ty (of_decide_eq_true (List.all_eq_true.mp (List.all_eq_true.mp isB_ok T hT) c hc))
def isiF (c : String) : List D → MH → R D := fun ds h => match ds with
  | [x, .ty n] => if n = c then (match tyD h x with
    | some T => .ok (.bl (isB T c)) h
    | none => .bad) else .bad
  | _ => .bad
def isiT (cs : List String) : D → MH → R D := fun x h => match tyD h x with
  | some T => .ok (.bl (cs.any fun c => isB T c)) h
  | none => .bad
section
variable {X : Cx} {g : Gd} {ρ : List Addr} {H : Hp} {h : MH}
theorem RdL.ty {K : PySem.W.Frag} {a : Addr} {vs : List V} (q : RdL K H a vs) : TyX K H (.ref a) (.type "list") := by
  rcases q with ⟨o, q⟩ | ⟨o, its, n, e, c, _⟩
  · exact .base (.frz q)
  · exact .kList e c
theorem tyD_v (hh : RH g ρ H h) {x : D} {v : V} {T : String} (r : RD g ρ H x v) (e : tyD h x = some T) : TyX g.K H v (.type T) ∧ T ∈ kinds := by
  cases x <;> first | (cases e; done) | skip
  · cases e; unfold RD at r; subst r; exact ⟨.base .non, by decide⟩
  · cases e; unfold RD at r; subst r; exact ⟨.base (.bl _), by decide⟩
  · cases e; unfold RD at r; subst r; exact ⟨.base (.int _), by decide⟩
  · cases e; unfold RD at r; subst r; exact ⟨.base (.str _), by decide⟩
  · cases e
    obtain ⟨a, vs, e1, sq, _⟩ := RD_tup r
    subst e1
    rcases sq with (sq | ⟨o, sq⟩) | ⟨o, its, n, k, c, _⟩
    · exact ⟨.base (.tup sq), by decide⟩
    · exact ⟨.fTuple sq, by decide⟩
    · exact ⟨.kTuple k c, by decide⟩
  · rename_i n
    obtain ⟨a, e1, e2⟩ := RD_ref r
    subst e2
    unfold tyD at e
    dsimp only at e
    split at e
    · rename_i l hl
      cases e
      obtain ⟨vs, e3, _⟩ := hh.obj n _ a hl e1
      exact ⟨.base (.lst e3), by decide⟩
    · rename_i l hl
      cases e
      obtain ⟨vs, e3, _⟩ := hh.obj n _ a hl e1
      exact ⟨e3.ty, by decide⟩
    · rename_i l hl
      cases e
      obtain ⟨vs, e3, _⟩ := hh.obj n _ a hl e1
      exact ⟨.base (.dK e3), by decide⟩
    · cases e
theorem rf_isi {c : String} (hc : c ∈ ["bool", "int", "str", "tuple", "list", "dict"]) : RFs (gd X) (isiF c) (rIsi X.K) := fun Wf Q ρ H h xs vs hh rx p => by
  unfold isiF at p
  split at p
  · rename_i x n
    split at p
    · rename_i hn
      subst hn
      split at p
      · rename_i T hT
        obtain ⟨v, w, e, r1, r2⟩ := rx.inv2
        unfold RD at r2
        subst r2
        obtain ⟨t1, t2⟩ := tyD_v hh r1 hT
        exact ⟨v, .ty n, _, _, _, e, .ty n, t1, kit_of_isB t2 hc, p.okk hh .blN⟩
      · exact p.elim
    · exact p.elim
  · exact p.elim
theorem kitAny_of {K : PySem.W.Frag} {T : String} (hT : T ∈ kinds) : ∀ (cs : List String), (∀ c ∈ cs, c ∈ ["bool", "int", "str", "tuple", "list", "dict"]) → PySem.W.kitAny K (.type T) (cs.map Value.type) = some (cs.any fun c => isB T c)
  | [], _ => rfl
  | c :: cs, hc => by
    rw [List.map_cons, List.any_cons]
    refine kitAny_cons (kit_of_isB hT (hc c List.mem_cons_self)) (fun e => ?_) (fun e => by rw [e]; rfl)
    rw [e, Bool.false_or]
    exact kitAny_of hT cs fun c' h' => hc c' (List.mem_cons_of_mem _ h')
end
section
variable {X : Cx} {W : Wx} {a c1 c2 : Expr} {ma : EM} {p pos tp : Pos} {k : Nat} {n1 n2 : String}
/-- isinstance(x, (A, B)), A and B built-in -/
theorem e_isi2 (hg : Gl X "isinstance") (hm : X.mg "isinstance" = none) (ha : PE X a (tE (gd X) W ma)) (h1 : PE X c1 (tC (.ty n1))) (h2 : PE X c2 (tC (.ty n2))) (m1 : n1 ∈ ["bool", "int", "str", "tuple", "list", "dict"] := by decide) (m2 : n2 ∈ ["bool", "int", "str", "tuple", "list", "dict"] := by decide)
    (s1 : starEach [c1, c2] X.env = (false, eval c1 X.env) :: starEach [c2] X.env := by rfl) (s2 : starEach [c2] X.env = (false, eval c2 X.env) :: starEach [] X.env := by rfl) (s3 : starEach [a, .Tuple [c1, c2] k tp] X.env = (false, eval a X.env) :: starEach [.Tuple [c1, c2] k tp] X.env := by rfl) (s4 : starEach [.Tuple [c1, c2] k tp] X.env = (false, eval (.Tuple [c1, c2] k tp) X.env) :: starEach [] X.env := by rfl)
    (hpl : (backTo pos (starEach [.Tuple [c1, c2] k tp] X.env)).any (·.1) = false := by rfl) :
    PE X (.Call (.Name "isinstance" p) [a, .Tuple [c1, c2] k tp] [] pos) (tE (gd X) W (un (isiT [n1, n2]) ma)) :=
  PE_of (pe_callB call_isiT hg hm (by decide +kernel) (pa_cons ha (pa_cons (pe_tup (pa_cons h1 (pa_cons h2 pa_nil s2) s1)) pa_nil s4) s3) (by decide) (by decide) s3 hpl) fun σ H Q q => by
    refine one q fun ρ e H h x vx s hh rx p => ?_
    refine ⟨by show 2 ≤ sizeLine; decide, fun t ht => ?_⟩
    unfold isiT at p
    split at p
    · rename_i T hT
      obtain ⟨t1, t2⟩ := tyD_v hh rx hT
      have l1 := Lat.upd (g := gd X) (ρ := ρ) (u := .tup [V.ty n1, V.ty n2]) (Soft.none ht)
      have t3 := tyD_v (hh.upd (u := .tup [V.ty n1, V.ty n2]) ht) (l1.rd x rx) hT
      exact ⟨vx, t, [.ty n1, .ty n2], _, [.type n1, .type n2], _, rfl, upd_same, .cons (.ty _) (.cons (.ty _) .nil), t3.1, kitAny_of t2 [n1, n2] (fun c hc => by
        rcases List.mem_cons.mp hc with e | hc
        · rw [e]; exact m1
        · rcases List.mem_cons.mp hc with e | hc
          · rw [e]; exact m2
          · cases hc), p ρ _ _ l1 (hh.upd ht) .blN⟩
    · exact p.elim
end

/-! ### items and slices -/
def ixF : D → D → MH → R D := fun x y h => match x, y with
  | .str z, .int i => if z.length ≤ 1000000 then (match atI z.cps.toList i with
    | some c => .ok (.str ⟨#[c]⟩) h
    | none => .bad) else .bad
  | x, y => (match seqOf h x, y with
    | some (_, l), .int i => (match atI l i with
      | some d => .ok d h
      | none => .bad)
    | none, y => (match dctOf h x, keyOf y with
      | some l, some k => (match findK l k with
        | some d => .ok d h
        | none => .bad)
      | _, _ => .bad)
    | _, _ => .bad)
def cutD (l : List D) (lo hi : Option Int) : List D := (l.drop (HT.sIx l.length 0 lo)).take (HT.sIx l.length l.length hi - HT.sIx l.length 0 lo)
def slF : D → Option Int → Option Int → MH → R D := fun x lo hi h => match x with
  | .str z => if z.length ≤ 1000000 then .ok (.str (cutS z lo hi)) h else .bad
  | .tup l => .ok (.tup (cutD l lo hi)) h
  | x => (match seqOf h x with
    | some (_, l) => .ok (.ref h.length) (h ++ [.lst (cutD l lo hi)])
    | none => .bad)
/-- xs[::-1] of a list, of a tuple, of a text -/
def revF : D → MH → R D := fun x h => match x with
  | .tup l => .ok (.tup l.reverse) h
  | .str z => .ok (.str ⟨z.cps.reverse⟩) h
  | x => (match lstOf h x with
    | some l => .ok (.ref h.length) (h ++ [.lst l.reverse])
    | none => .bad)
abbrev OM := Env → MH → R (Option Int)
def noO : OM := fun _ h => .ok none h
def someO (m : EM) : OM := fun e h => (m e h).bind fun d h1 => match d with
  | .int i => .ok (some i) h1
  | _ => .bad
def slE (a : EM) (lo hi : OM) : EM := fun e h => (a e h).bind fun x h1 => (lo e h1).bind fun l h2 => (hi e h2).bind fun u h3 => slF x l u h3
def RO_ : List Addr → Hp → Option Int → Option Int → Prop := fun _ _ a b => b = a
abbrev tO (g : Gd) (W : Wx) (m : OM) : TO := tG g RO_ W m
section
variable {X : Cx} {W : Wx} {a b : Expr} {ma mb : EM} {lo hi : Option Expr} {ml mh : OM} {pos p2 : Pos} {g : Gd} {ρ : List Addr} {H : Hp} {h : MH}
def rIxD : R2 := fun x y H Q => ∃ a kvs k v, x = .ref a ∧ y = kV k ∧ H a = some (.dK kvs) ∧ valV kvs k = some v ∧ Q v H
theorem ix_dictM (hu : X.A.units + 1 < cLine) : IxR X rIxD := by
  intro value slice pins s σ H x y v u Q I rx ry hq hs
  obtain ⟨a, kvs, k, w, rfl, rfl, e, l, q⟩ := hq
  have gd' : DGet H a (kV k) (some w) := by rw [← l]; exact DGet.k e
  cases rx
  have dd := dict_noDict I gd'
  have ty := dict_typeIs I gd'
  exact tail_any (ops := [.ref a, u]) ty PySem.slot_dict_getitem.lookup (d_getItem hu I gd' ry fun w' s' I' r' => ⟨w, H, I', r', q⟩) hs
end
end ML

/-! ML 8: subscripts, slices, stores, methods of lists and dicts -/
namespace ML
open PySem PySem.Spec PyProof.Rows L2

section
variable {X : Cx} {W : Wx} {W0 : WX} {a b : Expr} {ma mb : EM} {lo hi : Option Expr} {ml mh : OM} {pos p2 : Pos} {g : Gd} {ρ : List Addr} {H : Hp} {h : MH}
theorem RDs.at {l : List D} {vs : List V} {i : Int} {d : D} (r : RDs g ρ H l vs) (e : atI l i = some d) : ∃ v, atI vs i = some v ∧ RD g ρ H d v := by
  unfold atI at e ⊢
  rw [← r.length]
  cases q : ixN l.length i with
  | none => rw [q] at e; cases e
  | some j =>
    rw [q] at e
    obtain ⟨v, e1, r1⟩ := r.get (i := j) (d := d) e
    exact ⟨v, e1, r1⟩
def rIxM (K : PySem.W.Frag) : R2 := fun x y H Q => rIx K x y H Q ∨ rIxD x y H Q
theorem ix_M (hu : X.A.units + 1 < cLine) : IxR X (rIxM X.K) := IxR.or ix_seq (ix_dictM hu)
theorem rf_ix : RF2 (gd X) ixF (rIxM X.K) := fun Wf Q ρ H h x y vx vy hh rx ry p => by
  unfold ixF at p
  split at p
  · rename_i z i
    split at p
    · rename_i hz
      split at p
      · rename_i c hc
        exact .inl (.inr (.inr ⟨z, i, c, RD_str rx, RD_int ry, big_le hz, hc, p.okk hh .strN⟩))
      · exact p.elim
    · exact p.elim
  · split at p
    · rename_i x2 y2 k l i hl hn
      split at p
      · rename_i d hd
        obtain ⟨a, vs, e1, rs, c⟩ := seq_v hh rx hl
        obtain ⟨v, e2, r2⟩ := rs.at hd
        rcases c with ⟨_, c⟩ | ⟨_, c⟩
        · exact .inl (.inr (.inl ⟨a, vs, i, v, e1, RD_int ry, c, e2, p.okk hh r2⟩))
        · exact .inl (.inl ⟨a, vs, i, v, e1, RD_int ry, c, e2, p.okk hh r2⟩)
      · exact p.elim
    · split at p
      · rename_i l k hl hk
        split at p
        · rename_i d hd
          obtain ⟨n, a, ws, _, _, _, e1, e2, rp⟩ := dct_v hh rx hl
          rcases rp.find (k := k) with ⟨d', v, f1, f2, f3⟩ | ⟨f1, _⟩
          · rw [hd] at f1
            cases f1
            exact .inr ⟨a, ws, k, v, e1, keyOf_v ry hk, e2, f2, p.okk hh f3⟩
          · rw [hd] at f1
            cases f1
        · exact p.elim
      · exact p.elim
    · exact p.elim
theorem e_ix (hu : X.A.units + 64 < cLine) (ha : PE X a (tE (gd X) W ma)) (hb : PE X b (tE (gd X) W mb)) (hs : PlainIx b) : PE X (.Subscript a b pos) (tE (gd X) W (bin ixF ma mb)) :=
  PE_of (pe_ix (ix_M (by omega)) ha hb hs) fun σ H Q q => two q fun ρ H h x y vx vy hh rx ry p => rf_ix _ _ ρ H h x y vx vy hh rx ry p

/-! ### slices -/
theorem PO_of {e : Option Expr} {t t' : TO} (h : PO X e t) (i : ∀ σ H Q, t' σ H Q → t σ H Q) : PO X e t' := ⟨fun pins s σ H Q I q => h.run pins s σ H Q I (i _ _ _ q)⟩
theorem o_no : PO X none (tO (gd X) W noO) := PO_of po_none fun σ H Q q => by
  obtain ⟨ρ, e, m, s, hh, p⟩ := q
  exact p.okk hh rfl
theorem o_some (ha : PE X a (tE (gd X) W ma)) : PO X (some a) (tO (gd X) W (someO ma)) := PO_of (po_some ha) fun σ H Q q => by
  refine one q fun ρ e H h x vx s hh rx p => ?_
  split at p
  · rename_i i
    exact ⟨i, RD_int rx, p.okk hh rfl⟩
  · exact p.elim
def rSlM (K : PySem.W.Frag) : V → Option Int → Option Int → Hp → VK → Prop := fun x lo hi H Q => rSlL K x lo hi H Q ∨ rSlA K x lo hi H Q ∨ rSlS x lo hi H Q
theorem sl_M : SlR X (rSlM X.K) := SlR.or sl_list (SlR.or sl_tupA sl_str)
theorem RDs.cut {l : List D} {vs : List V} (r : RDs g ρ H l vs) (lo hi : Option Int) : RDs g ρ H (cutD l lo hi) (cutV vs lo hi) := by
  unfold cutD cutV
  rw [← r.length]
  exact (r.drop _).take _
theorem cutV_whole {vs : List V} {lo hi : Option Int} (w : HT.sIx vs.length 0 lo = 0 ∧ HT.sIx vs.length vs.length hi = vs.length) : cutV vs lo hi = vs := by
  unfold cutV
  rw [w.1, w.2, List.drop_zero, Nat.sub_zero, List.take_length]
theorem rf_sl {Wf : XK} {Q : VK} {x : D} {lo hi : Option Int} {vx : V} (hh : RH (gd X) ρ H h) (rx : RD (gd X) ρ H x vx) (p : Post (gd X) (RD (gd X)) Wf ρ H (slF x lo hi h) Q) : rSlM X.K vx lo hi H Q := by
  unfold slF at p
  split at p
  · split at p
    · rename_i z hz
      exact .inr (.inr ⟨z, RD_str rx, big_le hz, p.okk hh .strN⟩)
    · exact p.elim
  · rename_i l
    obtain ⟨a, vs, e1, sq, rs⟩ := RD_tup rx
    refine .inr (.inl ⟨a, vs, e1, sq, fun w => p.okk hh (.tupN sq ?_), fun _ q hq => p.newTup hh hq (rs.cut lo hi)⟩)
    have := rs.cut lo hi
    rw [cutV_whole w] at this
    exact this
  · split at p
    · rename_i n1 n2 k l hl
      obtain ⟨a, vs, e1, rs, c⟩ := seq_v hh rx hl
      rcases c with ⟨k1, c⟩ | ⟨_, c⟩
      · exfalso
        subst k1
        cases x <;> first | exact n2 _ rfl | skip
        all_goals first | cases hl; done | skip
        · exact n1 _ rfl
        · unfold seqOf at hl
          dsimp only at hl
          split at hl <;> cases hl
      · exact .inl ⟨a, vs, e1, c, fun q hq => p.newLst hh hq (rs.cut lo hi)⟩
    · exact p.elim
theorem e_sl (ha : PE X a (tE (gd X) W ma)) (hl : PO X lo (tO (gd X) W ml)) (hh' : PO X hi (tO (gd X) W mh)) : PE X (.Subscript a (.Slice lo hi none p2) pos) (tE (gd X) W (slE ma ml mh)) :=
  PE_of (pe_slice sl_M ha hl hh') fun σ H Q q => by
    refine one q fun ρ e H h x vx s hh rx p => ?_
    refine ⟨ρ, e, h, s, hh, p.bind.mono fun o1 H1 q => ?_⟩
    obtain ⟨ρ1, l1, h1, t1, hh1, r1, p1⟩ := q
    cases r1
    refine ⟨ρ1, e, h1, s.lat t1, hh1, p1.bind.mono fun o2 H2 q => ?_⟩
    obtain ⟨ρ2, l2, h2, t2, hh2, r2, p2⟩ := q
    cases r2
    exact rf_sl hh2 (t2.rd x (t1.rd x rx)) p2

/-! ### stores -/
def putKD (l : List (Key × D)) (k : Key) (d : D) : List (Key × D) := if (l.any fun kv => decide (kv.1 = k)) = true then l.map (fun kv => if kv.1 = k then (kv.1, d) else kv) else l ++ [(k, d)]
def stF : D → D → D → MH → Option MH := fun o i v h => match o with
  | .ref n => (match h[n]? with
    | some (.lst l) => (match i with
      | .int k => (match ixN l.length k with
        | some j => some (h.set n (.lst (l.set j v)))
        | none => none)
      | _ => none)
    | some (.dct l) => (match keyOf i with
      | some k => if l.length < 1000000 then some (h.set n (.dct (putKD l k v))) else none
      | none => none)
    | _ => none)
  | _ => none
def setX (o i a : EM) : SM := fun e h => ofE e (a e h) fun v h1 => ofE e (o e h1) fun x h2 => ofE e (i e h2) fun y h3 => match stF x y v h3 with
  | some h4 => .nx e h4
  | none => .bad
theorem RP.any {k : Key} : ∀ {l : List (Key × D)} {ws : List (Key × V)}, RP g ρ H l ws → (l.any fun kv => decide (kv.1 = k)) = (ws.any fun kv => decide (kv.1 = k))
  | [], ws, q => by have q' : ws = [] := q; subst q'; rfl
  | (f, d) :: l, ws, q => by
    obtain ⟨v, r, e, _, q2⟩ := q
    subst e
    rw [List.any_cons, List.any_cons, RP.any q2]
theorem RP.mapPut {k : Key} {d : D} {v : V} (r : RD g ρ H d v) : ∀ {l : List (Key × D)} {ws : List (Key × V)}, RP g ρ H l ws → RP g ρ H (l.map (fun kv => if kv.1 = k then (kv.1, d) else kv)) (ws.map (fun kv => if kv.1 = k then (kv.1, v) else kv))
  | [], ws, q => by have q' : ws = [] := q; subst q'; exact q
  | (f, x) :: l, ws, q => by
    obtain ⟨w, t, e, q1, q2⟩ := q
    subst e
    rw [List.map_cons, List.map_cons]
    by_cases hk : f = k
    · simp only [hk, if_true]
      exact ⟨v, _, rfl, r, RP.mapPut r q2⟩
    · simp only [hk, if_false]
      exact ⟨w, _, rfl, q1, RP.mapPut r q2⟩
theorem RP.app {α : Type} : ∀ {l m : List (α × D)} {vs ws : List (α × V)}, RP g ρ H l vs → RP g ρ H m ws → RP g ρ H (l ++ m) (vs ++ ws)
  | [], m, vs, ws, q, r => by have q' : vs = [] := q; subst q'; exact r
  | (f, x) :: l, m, vs, ws, q, r => by
    obtain ⟨w, t, e, q1, q2⟩ := q
    subst e
    exact ⟨w, t ++ ws, rfl, q1, RP.app q2 r⟩
theorem RP.one {α : Type} {k : α} {d : D} {v : V} (r : RD g ρ H d v) : RP g ρ H [(k, d)] [(k, v)] := ⟨v, [], rfl, r, rfl⟩
theorem RP.put {k : Key} {d : D} {v : V} {l : List (Key × D)} {ws : List (Key × V)} (q : RP g ρ H l ws) (r : RD g ρ H d v) : RP g ρ H (putKD l k d) (putK ws k v) := by
  unfold putKD putK
  rw [q.any (k := k)]
  split
  · exact q.mapPut r
  · exact q.app (.one r)
def rSetM : TSet := fun o i v H Q => rSetL o i v H Q ∨ rSetD o i v H Q
theorem set_M (hu : X.A.units + 1 < cLine) : PSet X rSetM := by
  intro pins s σ H o i v ov iv u Q I ro ri rv q
  rcases q with q | q
  · exact set_list pins s σ H o i v ov iv u Q I ro ri rv q
  · exact set_dict hu pins s σ H o i v ov iv u Q I ro ri rv q
theorem RH.setLst {n : Nat} {a : Addr} {l l' : List D} {vs vs' : List V} (hh : RH g ρ H h) (e : h[n]? = some (.lst l)) (ea : ρ[n]? = some a) (ev : H a = some (.lst vs)) (r : RDs g ρ H l' vs') :
    Lat g ρ H ρ (L2.upd H a (.lst vs')) ∧ RH g ρ (L2.upd H a (.lst vs')) (h.set n (.lst l')) := by
  have l1 := Lat.upd (g := g) (ρ := ρ) (u := .lst vs') (Soft.lst ev)
  exact ⟨l1, hh.set e ea rfl rfl (Soft.lst ev) ⟨vs', upd_same, l1.rds _ r⟩⟩
theorem RH.setDct {n : Nat} {a : Addr} {l l' : List (Key × D)} {vs vs' : List (Key × V)} (hh : RH g ρ H h) (e : h[n]? = some (.dct l)) (ea : ρ[n]? = some a) (ev : H a = some (.dK vs)) (r : RP g ρ H l' vs') :
    Lat g ρ H ρ (L2.upd H a (.dK vs')) ∧ RH g ρ (L2.upd H a (.dK vs')) (h.set n (.dct l')) := by
  have l1 := Lat.upd (g := g) (ρ := ρ) (u := .dK vs') (Soft.dK ev)
  exact ⟨l1, hh.set e ea rfl rfl (Soft.dK ev) ⟨vs', upd_same, l1.rp _ r⟩⟩
theorem st_ok {o i v : D} {vo vi vv : V} {h' : MH} {Q : Hp → Prop} (hh : RH g ρ H h) (ro : RD g ρ H o vo) (ri : RD g ρ H i vi) (rv : RD g ρ H v vv) (e : stF o i v h = some h') (k : ∀ H', Lat g ρ H ρ H' → RH g ρ H' h' → Q H') : rSetM vo vi vv H Q := by
  unfold stF at e
  split at e
  · rename_i n
    obtain ⟨a, e1, e2⟩ := RD_ref ro
    split at e
    · rename_i l hl
      obtain ⟨vs, e3, rs⟩ := hh.obj n _ a hl e1
      split at e
      · rename_i kk
        split at e
        · rename_i j hj
          cases e
          obtain ⟨l1, l2⟩ := hh.setLst (l' := l.set j v) (vs' := vs.set j vv) hl e1 e3 (rs.set j rv)
          exact .inl ⟨a, vs, kk, j, e2, RD_int ri, e3, by rw [← rs.length]; exact hj, k _ l1 l2⟩
        · cases e
      · cases e
    · rename_i l hl
      obtain ⟨ws, e3, rp⟩ := hh.obj n _ a hl e1
      split at e
      · rename_i kk hk
        split at e
        · rename_i hn
          cases e
          obtain ⟨l1, l2⟩ := hh.setDct hl e1 e3 (rp.put (k := kk) rv)
          refine .inr ⟨a, _, e2, ?_, k _ l1 l2⟩
          rw [keyOf_v ri hk]
          exact DPut.k e3 (by have := RP.length rp; have := sizeLine_eq; omega)
        · cases e
      · cases e
    · cases e
  · cases e
theorem s_setX {mo mi : EM} {c : Expr} {spos : Pos} (hu : X.A.units + 64 < cLine) (ha : PE X a (tE (gd X) (pl W0) ma)) (ho : PE X b (tE (gd X) (pl W0) mo)) (hi : PE X c (tE (gd X) (pl W0) mi))
    (hs : swapsWithSole [.Subscript b c pos] a spos.line X.env = pure false := by rfl) (hw : swappedStores [.Subscript b c pos] a X.env = pure none := by rfl)
    (h1 : (assignEach [.Subscript b c pos] X.env).map (·.2) = [assign (.Subscript b c pos) X.env] := by rfl)
    (hx : ∀ v, assign (.Subscript b c pos) X.env v = (do
      let ov ← holding [v] (eval b X.env)
      let iv ← holding [v, ov] (eval c X.env)
      standAt pos
      holding [v, ov, iv] (setItem ov iv v)
      release [v, ov, iv] []) := by intro _; rfl) : PS X (.Assign [.Subscript b c pos] a spos) (tS (gd X) W0 (setX mo mi ma)) :=
  PS_of (ps_asg ha (pg_sub ho hi (set_M (by omega)) hx) hs hw h1) fun N σ H q => by
    refine stE q fun ρ e H h v vv s hh rv p => ?_
    have q2 : tS (gd X) W0 (fun e h => ofE e (mo e h) fun x h2 => ofE e (mi e h2) fun y h3 => match stF x y v h3 with | some h4 => .nx e h4 | none => .bad) N σ H := ⟨ρ, e, h, s, hh, p⟩
    refine ⟨ρ, e, h, s.x, hh, ?_⟩
    revert p
    generalize mo e h = r
    intro p
    cases r with
    | bad => exact p.elim
    | exc c fs h1 => exact fun ρ1 H1 C dd gs l a => p ρ1 σ H1 C dd gs l a (l.rs s)
    | ok x h1 =>
      intro ρ1 vo H1 l1 hh1 r1
      have p : PostS (gd X) W0 ρ H (ofE e (mi e h1) fun y h3 => match stF x y v h3 with | some h4 => .nx e h4 | none => .bad) N := p
      refine ⟨ρ1, e, h1, (l1.rs s).x, hh1, ?_⟩
      revert p
      generalize mi e h1 = r
      intro p
      cases r with
      | bad => exact p.elim
      | exc c fs h2 => exact fun ρ2 H2 C dd gs l a => p ρ2 σ H2 C dd gs (l1.trans l) a ((l1.trans l).rs s)
      | ok y h2 =>
        intro ρ2 vi H2 l2 hh2 r2
        have p : PostS (gd X) W0 ρ H (match stF x y v h2 with | some h4 => .nx e h4 | none => .bad) N := p
        cases z : stF x y v h2 with
        | none => rw [z] at p; exact p.elim
        | some h4 =>
          rw [z] at p
          exact st_ok hh2 (l2.rd x r1) r2 ((l1.trans l2).rd v rv) z fun H3 l3 hh3 => p ρ2 σ H3 ((l1.trans l2).trans l3) hh3 (((l1.trans l2).trans l3).rs s)
end
end ML

/-! ML 9: methods of built-in things -/
namespace ML
open PySem PySem.Spec PyProof.Rows L2

/-- a method's reading against its mirror -/
def RFm (g : Gd) (f : D → List D → MH → R D) (r : V → List V → Hp → VK → Prop) : Prop := ∀ (Wf : XK) (Q : VK) ρ H h x xs vx vs, RH g ρ H h → RD g ρ H x vx → RDs g ρ H xs vs → Post g (RD g) Wf ρ H (f x xs h) Q → r vx vs H Q
def bmE (T : String) (f : D → List D → MH → R D) (o : EM) (a : AM) : EM := fun e h => (o e h).bind fun x h1 => if tyD h1 x = some T then (a e h1).bind fun xs h2 => f x xs h2 else .bad
section
variable {X : Cx} {g : Gd} {ρ : List Addr} {H : Hp} {h : MH}
theorem tyV_of (hh : RH g ρ H h) {x : D} {v : V} {T : String} (r : RD g ρ H x v) (e : tyD h x = some T) (hT : T ∈ ["list", "dict", "str"]) : tyV g.K T v H := by
  cases x <;> first | (cases e; done) | skip
  · cases e; exact absurd hT (by decide)
  · cases e; exact absurd hT (by decide)
  · cases e; exact absurd hT (by decide)
  · cases e; unfold RD at r; subst r; rfl
  · cases e; exact absurd hT (by decide)
  · rename_i n
    obtain ⟨a, e1, e2⟩ := RD_ref r
    subst e2
    unfold tyD at e
    dsimp only at e
    split at e
    · rename_i l hl
      cases e
      obtain ⟨vs, e3, _⟩ := hh.obj n _ a hl e1
      exact .inl ⟨rfl, vs, .of e3⟩
    · rename_i l hl
      cases e
      obtain ⟨vs, e3, _⟩ := hh.obj n _ a hl e1
      exact .inl ⟨rfl, vs, e3.sq⟩
    · rename_i l hl
      cases e
      obtain ⟨vs, e3, _⟩ := hh.obj n _ a hl e1
      exact .inr (.inr (.inl ⟨rfl, .inl ⟨vs, e3⟩⟩))
    · cases e
end
section
variable {X : Cx} {W : Wx} {o e : Expr} {es : List Expr} {mo : EM} {ma : AM} {name : Str} {apos cpos : Pos} {T id : String} {r : V → List V → Hp → VK → Prop} {f : D → List D → MH → R D}
theorem e_bm (pa : PlainAttrs T) (slot : Slot T name id) (hty : typeOf (.builtin id) = pure (.type "method_descriptor")) (hm : MtR X id r) (hf : RFm (gd X) f r) (ho : PE X o (tE (gd X) W mo)) (ha : PA X (e :: es) (tA (gd X) W ma)) (hT : T ∈ ["list", "dict", "str"] := by decide)
    (hbase : attributeBase o name X.env (eval o X.env) = eval o X.env := by rfl)
    (hfew : ((backTo cpos (starEach (e :: es) X.env)).all (fun x => !x.1) && (backToKw cpos (keywordEach [] X.env)).all (fun x => x.1.isSome)
      && decide ((e :: es).length + ([] : List Keyword).length + (if ([] : List Keyword).isEmpty then 0 else 1) < 30)) = true := by rfl)
    (hline : (apos.endLine == cpos.line) = true := by rfl) (hs : starEach (e :: es) X.env = (false, eval e X.env) :: starEach es X.env := by rfl) (hplain : (backTo cpos (starEach es X.env)).any (·.1) = false := by rfl) :
    PE X (.Call (.Attribute o name apos) (e :: es) [] cpos) (tE (gd X) W (bmE T f mo ma)) :=
  PE_of (pe_bm pa slot hty hm ho ha hbase hfew hline hs hplain) fun σ H Q q => by
    refine one q fun ρ e H h x vx s hh rx p => ?_
    split at p
    · rename_i ht
      refine ⟨tyV_of hh rx ht hT, ρ, e, h, s, hh, p.bind.mono fun vs H1 q => ?_⟩
      obtain ⟨ρ1, xs, h1, l1, hh1, rxs, p1⟩ := q
      exact hf _ _ ρ1 H1 h1 x xs vx vs hh1 (l1.rd x rx) rxs p1
    · exact p.elim
theorem e_bm0 (pa : PlainAttrs T) (slot : Slot T name id) (hty : typeOf (.builtin id) = pure (.type "method_descriptor")) (hm : MtR X id r) (hf : RFm (gd X) f r) (ho : PE X o (tE (gd X) W mo)) (hT : T ∈ ["list", "dict", "str"] := by decide)
    (hbase : attributeBase o name X.env (eval o X.env) = eval o X.env := by rfl) (hline : (apos.endLine == cpos.line) = true := by rfl) : PE X (.Call (.Attribute o name apos) [] [] cpos) (tE (gd X) W (bmE T f mo nilA)) :=
  PE_of (pe_bm0 pa slot hty hm ho hbase hline) fun σ H Q q => by
    refine one q fun ρ e H h x vx s hh rx p => ?_
    split at p
    · rename_i ht
      exact ⟨tyV_of hh rx ht hT, hf _ _ ρ H h x [] vx [] hh rx .nil p⟩
    · exact p.elim
end

/-! ### lists -/
def appF : D → List D → MH → R D := fun x xs h => match x, xs with
  | .ref n, [y] => (match h[n]? with
    | some (.lst l) => if l.length < 1000000 then .ok .non (h.set n (.lst (l ++ [y]))) else .bad
    | _ => .bad)
  | _, _ => .bad
def extF : D → List D → MH → R D := fun x xs h => match x, xs with
  | .ref n, [.ref m] => (match h[n]?, h[m]? with
    | some (.lst l), some (.lst k) => if l.length + k.length ≤ 1000000 then .ok .non (h.set n (.lst (l ++ k))) else .bad
    | _, _ => .bad)
  | _, _ => .bad
def popF : D → List D → MH → R D := fun x xs h => match x, xs with
  | .ref n, [] => (match h[n]? with
    | some (.lst l) => (match l[l.length - 1]? with
      | some y => .ok y (h.set n (.lst l.dropLast))
      | none => .bad)
    | _ => .bad)
  | .ref n, [.int i] => (match h[n]? with
    | some (.lst l) => if -(2 ^ 63) ≤ i ∧ i < 2 ^ 63 then (match seqIndex? i l.length with
      | some k => (match l[k]? with
        | some y => .ok y (h.set n (.lst (l.eraseIdx k)))
        | none => .bad)
      | none => .bad) else .bad
    | _ => .bad)
  | _, _ => .bad
section
variable {X : Cx} {g : Gd} {ρ : List Addr} {H : Hp} {h : MH}
theorem RDs.dropLast {l : List D} {vs : List V} (r : RDs g ρ H l vs) : RDs g ρ H l.dropLast vs.dropLast := by
  rw [List.dropLast_eq_take, List.dropLast_eq_take, ← r.length]
  exact r.take _
theorem rf_append : RFm g appF rAppend := fun Wf Q ρ H h x xs vx vs hh rx rxs p => by
  unfold appF at p
  split at p
  · rename_i n y
    split at p
    · rename_i l hl
      split at p
      · rename_i hz
        obtain ⟨a, e1, e2⟩ := RD_ref rx
        obtain ⟨ws, e3, rs⟩ := hh.obj n _ a hl e1
        obtain ⟨v, e4, r4⟩ := rxs.inv1
        obtain ⟨l1, l2⟩ := hh.setLst hl e1 e3 (rs.append (.one r4))
        exact ⟨a, ws, v, e2, e4, e3, by rw [← rs.length, sizeLine_eq]; omega, p ρ _ _ l1 l2 .nonN⟩
      · exact p.elim
    · exact p.elim
  · exact p.elim
theorem rf_extend : RFm g extF rExtend := fun Wf Q ρ H h x xs vx vs hh rx rxs p => by
  unfold extF at p
  split at p
  · rename_i n m
    split at p
    · rename_i l k hl hk
      split at p
      · rename_i hz
        obtain ⟨a, e1, e2⟩ := RD_ref rx
        obtain ⟨ws, e3, rs⟩ := hh.obj n _ a hl e1
        obtain ⟨v, e4, r4⟩ := rxs.inv1
        obtain ⟨b, f1, f2⟩ := RD_ref r4
        obtain ⟨zs, f3, rz⟩ := hh.obj m _ b hk f1
        obtain ⟨l1, l2⟩ := hh.setLst hl e1 e3 (rs.append rz)
        exact ⟨a, b, ws, zs, e2, by rw [e4, f2], e3, f3, by rw [← rs.length, ← rz.length, sizeLine_eq]; omega, p ρ _ _ l1 l2 .nonN⟩
      · exact p.elim
    · exact p.elim
  · exact p.elim
def rPopM : V → List V → Hp → VK → Prop := fun x vs H Q => rPop x vs H Q ∨ rPopAt x vs H Q
theorem mt_popM : MtR X "list.pop" rPopM := MtR.or mt_pop mt_popAt
theorem rf_pop : RFm g popF rPopM := fun Wf Q ρ H h x xs vx vs hh rx rxs p => by
  unfold popF at p
  split at p
  · rename_i n
    split at p
    · rename_i l hl
      split at p
      · rename_i y hy
        obtain ⟨a, e1, e2⟩ := RD_ref rx
        obtain ⟨ws, e3, rs⟩ := hh.obj n _ a hl e1
        obtain ⟨v, e4, r4⟩ := rs.get hy
        rw [rs.length] at e4
        obtain ⟨l1, l2⟩ := hh.setLst hl e1 e3 rs.dropLast
        exact .inl ⟨a, ws, v, e2, rxs.invNil, e3, e4, p ρ _ _ l1 l2 (l1.rd y r4)⟩
      · exact p.elim
    · exact p.elim
  · rename_i n i
    split at p
    · rename_i l hl
      split at p
      · rename_i hz
        split at p
        · rename_i k hk
          split at p
          · rename_i y hy
            obtain ⟨a, e1, e2⟩ := RD_ref rx
            obtain ⟨ws, e3, rs⟩ := hh.obj n _ a hl e1
            obtain ⟨v, e4, r4⟩ := rs.get hy
            obtain ⟨w, e5, r5⟩ := rxs.inv1
            rw [RD_int r5] at e5
            obtain ⟨l1, l2⟩ := hh.setLst hl e1 e3 (rs.eraseIdx k)
            exact .inr ⟨a, ws, i, k, v, e2, e5, e3, hz.1, hz.2, by rw [← rs.length]; exact hk, e4, p ρ _ _ l1 l2 (l1.rd y r4)⟩
          · exact p.elim
        · exact p.elim
      · exact p.elim
    · exact p.elim
  · exact p.elim
end
end ML

/-! ML 10: errors as values: made by place or by name, their fields, isinstance -/
namespace PySem
namespace HandSPX
open PySem.W PySem.Calls PyProof.Rows
section
variable {P : Program} {w : World} {A : Around} {E : Value → Shared → Prop} {R : Result → Shared → Prop} {h : Heap} {g : Array GenState} {d : Drawn} {tk : Nat} {os : OsState} {K : PySem.W.Frag} {C f : Addr} {us : List Value} {kw : List (Str × Value)}
/-- what stands at an error class that has ValueError's maker -/
theorem oex_at (T : L2.OexC K C) (X : K.In h) : ∃ nm q N bs bm sn sub ab col dd k0 k1 k2 k3 k5, h.get? C = some (excClassObj nm q C N bs bm true sn sub ab col dd k0 k1 k2 k3 k5 "ValueError.__new__") ∧
    (∀ Y : String, (Value.ref C :: bm).contains (.type Y) = ([Value.type "ValueError", .type "Exception", .type "BaseException", .type "object"] : List Value).contains (.type Y)) := by
  obtain ⟨nm, q, N, bs, bm, sn, sub, ab, col, dd, k0, k1, k2, k3, k5, hC, hb⟩ := T.cls
  refine ⟨nm, q, N, bs, bm, sn, sub, ab, col, dd, k0, k1, k2, k3, k5, X _ _ hC, fun Y => ?_⟩
  rw [List.contains_cons, refsVE_contains Y bm hb]
  rfl
/-- the maker of such a class looks at no keyword -/
theorem xk_check (T : L2.OexC K C) (X : K.In h) {Q : Unit → Shared → Prop} (q : Q () ⟨h, g, d, tk, os⟩) : wpAny (model P w) A (checkBuiltinCall "ValueError.__new__" ⟨.ref C :: us, kw⟩) Q E ⟨h, g, d, tk, os⟩ := by
  obtain ⟨nm, qn, N, bs, bm, sn, sub, ab, col, dd, k0, k1, k2, k3, k5, hC, hb⟩ := oex_at T X
  have F := F.excBase_ValueError
  have hv : (Value.ref C :: bm).contains (.type "ValueError") = true := (hb _).trans (by decide +kernel)
  have hs := F.noStar
  simp only [checkBuiltinCall, F.newKind, F.newSplit, F.newRow]
  repeat (first | refine wpAny_loadPart_at hC ?_ | (refine wpAny_isSubtype_exc hC ?_; rw [hv]) | refine wpAny_staticBase_exc hC ?_ | refine wpAny_madeBy_exc hC ?_ | simp only [bne_self_eq_false, Bool.false_eq_true, if_false] | wp_step)
  exact q
theorem xk_new (T : L2.OexC K C) (X : K.In h) (hl : us.length ≤ sizeLine) (q : R (.ok (.ret (.ref (h.objs.size + 1)))) ⟨(h.push (PySem.W.kdv_tup us)).push (excO C h.objs.size), g, d, tk, os⟩) :
    codeAny (model P w) A (.builtin "ValueError.__new__" ⟨.ref C :: us, kw⟩) R ⟨h, g, d, tk, os⟩ := by
  obtain ⟨nm, qn, N, bs, bm, sn, sub, ab, col, dd, k0, k1, k2, k3, k5, hC, hb⟩ := oex_at T X
  have F := F.excBase_ValueError
  have he := F.ends
  have c1 : (Value.ref C :: bm).contains (.type "ValueError") = true := (hb _).trans (by decide +kernel)
  have c2 : (Value.ref C :: bm).contains (.type "AttributeError") = false := (hb _).trans (by decide +kernel)
  have c3 : (Value.ref C :: bm).contains (.type "NameError") = false := (hb _).trans (by decide +kernel)
  refine codeAny_builtinAt F.entry ?_
  unfold Builtin.«BaseException.__new__»
  refine wpAt_bind ?_
  show wpAt _ _ _ (stack >>= _) _ _ _
  refine wpAt_bind (wpAt_stack fun p below => wpAt_of_wpAny ?_)
  wp_walk
  refine wpAt_of_wpAny ?_
  rw [F.owner]
  repeat (first | with_reducible refine wpAny_madeHere_exc F.canon hC ?_ | with_reducible refine wpAny_loadPart_at hC ?_ | (with_reducible refine wpAny_isSubtype_exc hC ?_; first | rw [c1] | rw [c2] | rw [c3]) | wp_step)
  show R _ _
  rw [Heap.size_push]
  exact q
theorem two_keep {o1 o2 : Obj} {b : Addr} {o : Obj} (e : h.get? b = some o) : ((h.push o1).push o2).get? b = some o := Heap.get?_push_of_some _ (Heap.get?_push_of_some _ e)
/-- type's own call of it -/
theorem xk_type (T : L2.OexC K C) (X : K.In h) (iC : PySem.W.findIn K (.ref C) "__init__" = some (some (.ref f))) (tI : PySem.W.typeIn K (.ref f) = some (.type "function")) (hl : us.length ≤ sizeLine) {Q : Fin → Shared → Prop}
    (q : codeAny (model P w) A (.call (.ref f) ⟨.ref (h.objs.size + 1) :: us, kw⟩)
      (fun r s' => match r with | .ok (.ret v) => v = .none ∧ Q (.done (.ret (.ref (h.objs.size + 1)))) s' | .ok _ => False | .error e => E e s') ⟨(h.push (PySem.W.kdv_tup us)).push (excO C h.objs.size), g, d, tk, os⟩) :
    wpAny (model P w) A (Builtin.«type.__call__» ⟨.ref C :: us, kw⟩) Q E ⟨h, g, d, tk, os⟩ := by
  have hlook := PySem.W.looks_findIn (M := model P w) X iC
  obtain ⟨nm, qn, N, bs, bm, sn, sub, ab, col, dd, k0, k1, k2, k3, k5, hC, hb⟩ := oex_at T X
  repeat (first | with_reducible refine wpAny_loadPart_at hC ?_ | with_reducible refine wpAny_madeBy_exc hC ?_ | wp_step)
  refine codeAny_call_builtin_code (Code.quiet_builtin _ F.excBase_ValueError.quiet) (xk_check T X (xk_new T X hl ?_))
  show wpAny _ _ _ _ _ _
  have hC' := two_keep (o1 := PySem.W.kdv_tup us) (o2 := excO C h.objs.size) hC
  have hnew : ((h.push (PySem.W.kdv_tup us)).push (excO C h.objs.size)).get? (h.objs.size + 1) = some (excO C h.objs.size) := by heap_get
  have hself : (Value.ref C :: bm).contains (.ref C) = true := by simp
  have i1 := hlook.keeps fun b o e => two_keep (o1 := PySem.W.kdv_tup us) (o2 := excO C h.objs.size) e
  have b1 := (PySem.W.bind_fn (M := model P w) X (.ref (h.objs.size + 1)) tI).keeps fun b o e => two_keep (o1 := PySem.W.kdv_tup us) (o2 := excO C h.objs.size) e
  unfold isInstance
  repeat (first | with_reducible refine wpAny_loadPart_at hnew ?_ | (with_reducible refine wpAny_isSubtype_exc hC' ?_; rw [hself]) | wp_step)
  show wpAny _ _ (typeLookup (.ref C) _) _ _ _
  refine i1.at (wpAny_holding (wpAny_bind (b1.at (wpAny_bind (wpAny_call (codeAny_mono q fun r s' z => ?_))))))
  cases r with
  | error e => exact z
  | ok fl =>
    cases fl with
    | ret v =>
      obtain ⟨rfl, z⟩ := z
      first
        | exact wpAny_pure (wpAny_pure z)
        | (wp_walk; exact z)
    | next => exact z.elim
    | brk => exact z.elim
    | cont => exact z.elim
/-- C(.., k=..) for such a class with an own __init__ -/
theorem xk_call (T : L2.OexC K C) (X : K.In h) (iC : PySem.W.findIn K (.ref C) "__init__" = some (some (.ref f))) (tI : PySem.W.typeIn K (.ref f) = some (.type "function")) (hl : us.length ≤ sizeLine)
    (q : codeAny (model P w) (A.under (.builtin "type.__call__" ⟨.ref C :: us, kw⟩)) (.call (.ref f) ⟨.ref (h.objs.size + 1) :: us, kw⟩) (PySem.W.InitBack (h.objs.size + 1) R) ⟨(h.push (PySem.W.kdv_tup us)).push (excO C h.objs.size), g, d, tk, os⟩) :
    codeAny (model P w) A (.call (.ref C) ⟨us, kw⟩) R ⟨h, g, d, tk, os⟩ := by
  obtain ⟨nm, qn, N, bs, bm, sn, sub, ab, col, dd, k0, k1, k2, k3, k5, hC, hb⟩ := oex_at T X
  have f1 := tc_lookup
  have f2 := tc_bind (.ref C)
  have hTy : (⟨h, g, d, tk, os⟩ : Shared).TypeIs (.ref C) "type" := ⟨_, hC, rfl⟩
  refine codeAny_of_tree ?_
  show wpAny _ _ (callAny (.ref C) _) _ _ _
  repeat (any_goals (first | assumption | with_reducible refine wpAny_loadPart_at hC ?_ | wp_step))
  refine ⟨rfl, codeAny_call_builtin_at (Code.quiet_builtin _ (by decide +kernel)) entry_typeCall (wpAny_check_type_call_sub hC (xk_type T X iC tI hl (codeAny_mono q fun r s' z => ?_)))⟩
  rcases r with e | (v | _ | _ | _) <;> exact z
end
end HandSPX
end PySem

/-! ML 11: errors as values in the mirror -/
namespace ML
open PySem PySem.Spec PyProof.Rows L2

theorem cx_no {P : Program} {w : World} {st : List PySem.Env} {H : Hp} {s : Shared} {e : Value} {s' : Shared} (h : L2.CX P w st H s (fun _ _ _ => False) e s') : False := by
  obtain ⟨_, _, _, _, _, _, _, _, _, _, _, _, z⟩ := h
  exact z
/-- __init__ of an error class with one field f -/
def spXi (C : Addr) (f : Str) : Sp := fun vs H Q _ => ∃ a y, vs = [.ref a, y] ∧ H a = some (exo a C none) ∧ ∀ dx, H dx = none → dx ≠ a → Q .non (L2.upd (L2.upd H dx (exd dx [(f, y)])) a (exo a C (some dx)))
theorem xi_ok {P : Program} {w : World} {K : PySem.W.Frag} {mg : Str → Option Value} {base : Heap} {qual f : Str} {st : Stmt} {fI C : Addr} {fd : FuncData} {p1 p2 p3 p4 : Pos} (F : Fun K "__init__" qual st fI fd) (Sc : FnScope ["self", f] ["self", f] (defScope st))
    (hb : defBody st = [.Assign [.Attribute (.Name "self" p1) f p2] (.Name f p3) p4]) (T : OexC K C) (hno : PySem.W.findIn K (.ref C) f = some none) 
    (l1 : Vis (defScope st) ("self" : Str)) (l2 : Vis (defScope st) f) (d1 : (f == ("__debug__" : Str)) = false) (d2 : (f == ("__classdict__" : Str)) = false) : FnOk P w K mg base (L2.CX P w) 1 fI fd ["self", f] (spXi C f) := by
  refine F.okX Sc (fun vs H Q E h => ?_) (fun cdv A outer s H vs Q E hr h => ?_)
  · obtain ⟨a, y, rfl, _⟩ := h
    rfl
  · obtain ⟨a, y, rfl, ea, k⟩ := h
    rw [hb]
    refine ⟨_, pss_one (ps_ost (pe_var (i := 0) rfl l1 (by decide) (by decide)) (pe_var (i := 1) rfl l2 d1 d2)), ?_⟩
    refine ⟨y, rfl, .ref a, rfl, a, C, rfl, T, hno, .inl ⟨ea, fun dx n ne => k dx n ne⟩⟩
/-- an error class of one field, as its callers know it -/
structure XcC (P : Program) (w : World) (K : PySem.W.Frag) (mg : Str → Option Value) (base : Heap) (c f : Str) : Prop where
  ex : ∃ C fI fd, mg c = some (.ref C) ∧ OexC K C ∧ PySem.W.findIn K (.ref C) "__init__" = some (some (.ref fI)) ∧ PySem.W.typeIn K (.ref fI) = some (.type "function") ∧
    FnOk P w K mg base (L2.CX P w) 1 fI fd ["self", f] (spXi C f) ∧ Binds K fd ["self", f] [] ∧ ∀ (s : Shared) (x y : Value), K.In s.heap → BindsTo s fd ⟨[x], [(f, y)]⟩ (([("self" : Str), f] : List Str).zip [x, y])
def xcH (H : Hp) (a dx C : Addr) (f : Str) (y : V) : Hp := L2.upd (L2.upd (L2.upd H a (exo a C none)) dx (exd dx [(f, y)])) a (exo a C (some dx))
section
variable {X : Cx} {pins : List (Addr × Obj)} {σ : L2.St} {H : Hp} {s : Shared} {Q : VK} {us : List Value} {kw : List (Str × Value)} {C fI : Addr} {fd : FuncData} {f : Str} {y : V} {u : Value}
theorem run_xc (T : OexC X.K C) (iC : PySem.W.findIn X.K (.ref C) "__init__" = some (some (.ref fI))) (tI : PySem.W.typeIn X.K (.ref fI) = some (.type "function")) (G : FnOk X.prog X.w X.K X.mg X.base (L2.CX X.prog X.w) 1 fI fd ["self", f] (spXi C f)) (hr : Room 2 X.A)
    (I : Inv X pins σ H s) (ry : RelV y u) (hl : us.length ≤ 1) (hk : kw.length ≤ 1) (hb : ∀ (s : Shared) (e : Addr), X.K.In s.heap → BindsTo s fd ⟨.ref e :: us, kw⟩ (([("self" : Str), f] : List Str).zip [.ref e, u]))
    (h : ∀ a dx, H a = none → H dx = none → dx ≠ a → Q (.ref a) (xcH H a dx C f y)) : wpAny (model X.prog X.w) X.A (call (.ref C) us kw) (EP X pins σ Q) X.xe s := by
  obtain ⟨hp, g, dr, tk, os⟩ := s
  have hsz : hp.objs.size ≤ hp.objs.size + 1 := Nat.le_succ _
  have hn : H (hp.objs.size + 1) = none := I.hok.fresh hsz
  have kk : ∀ b o, hp.get? b = some o → ((hp.push (PySem.W.kdv_tup us)).push (PySem.HandSPX.excO C hp.objs.size)).get? b = some o := fun b o e => PySem.HandSPX.two_keep e
  have hget : ((hp.push (PySem.W.kdv_tup us)).push (PySem.HandSPX.excO C hp.objs.size)).get? (hp.objs.size + 1) = some (PySem.HandSPX.excO C hp.objs.size) := by heap_get
  have I2 : Inv X pins σ (L2.upd H (hp.objs.size + 1) (exo (hp.objs.size + 1) C none)) ⟨(hp.push (PySem.W.kdv_tup us)).push (PySem.HandSPX.excO C hp.objs.size), g, dr, tk, os⟩ :=
    I.laid (t' := tk) (a := hp.objs.size + 1) (o := exo (hp.objs.size + 1) C none) (h' := (hp.push (PySem.W.kdv_tup us)).push (PySem.HandSPX.excO C hp.objs.size)) kk hsz (exo_ok hget)
  have hsp : spXi C f [.ref (hp.objs.size + 1), y] (L2.upd H (hp.objs.size + 1) (exo (hp.objs.size + 1) C none)) (fun v H2 => v = .non ∧ Q (.ref (hp.objs.size + 1)) H2) (fun _ _ _ => False) :=
    ⟨_, y, rfl, upd_same, fun dx n ne => ⟨rfl, h _ dx hn (by rw [upd_ne ne] at n; exact n) ne⟩⟩
  refine wpAny_call (PySem.HandSPX.xk_call T I.kIn iC tI (Nat.le_trans hl (by decide)) (codeAny_mono (G.run _ X.stack _ _ ⟨Value.ref (hp.objs.size + 1) :: us, kw⟩ [Value.ref (hp.objs.size + 1), u] _ _ (fun _ _ _ => False) (hr.make C us kw) (I2.env0.make C us kw) (hb _ _ I2.kIn) (.cons (show RelV (V.ref (hp.objs.size + 1)) (Value.ref (hp.objs.size + 1)) from rfl) (.cons ry .nil)) hsp) fun r s' hq => ?_))
  cases r with
  | error er => exact (cx_no hq).elim
  | ok fl =>
    cases fl with
    | ret v =>
      obtain ⟨x, H3, I3, rx, ex, q⟩ := I2.after hq
      subst ex
      exact ⟨rx, V.ref (hp.objs.size + 1), H3, I3, rfl, q⟩
    | next => exact False.elim hq
    | brk => exact False.elim hq
    | cont => exact False.elim hq
end
theorem xcH_lat {g : Gd} {ρ : List Addr} {H : Hp} {a dx C : Addr} {f : Str} {y : V} (h1 : H a = none) (h2 : H dx = none) (h3 : dx ≠ a) : Lat g ρ H ρ (xcH H a dx C f y) := by
  have key : ∀ {b : Addr} {o : HO}, H b = some o → xcH H a dx C f y b = some o := fun {b o} e => by
    unfold xcH
    rw [upd_ne (ne_of_none e h1), upd_ne (ne_of_none e h2), upd_ne (ne_of_none e h1)]
    exact e
  exact ⟨⟨[], by simp⟩, fun _ _ e => key e, fun _ _ _ e => key e, fun _ _ e => key e, fun _ _ e => key e⟩
theorem RH.newXc {g : Gd} {ρ : List Addr} {H : Hp} {h : MH} {a dx C : Addr} {c f : Str} {d : D} {y : V} (hh : RH g ρ H h) (h1 : H a = none) (h2 : H dx = none) (h3 : dx ≠ a) (hm : g.mg c = some (.ref C)) (r : RD g ρ H d y) :
    Lat g ρ H (ρ ++ [a]) (xcH H a dx C f y) ∧ RH g (ρ ++ [a]) (xcH H a dx C f y) (h ++ [.xc c [(f, d)]]) ∧ RD g (ρ ++ [a]) (xcH H a dx C f y) (.ref h.length) (.ref a) := by
  have l := xcH_lat (g := g) (ρ := ρ) (C := C) (f := f) (y := y) h1 h2 h3
  have l2 : Lat g ρ H (ρ ++ [a]) (xcH H a dx C f y) := l.trans Lat.more
  have hd : xcH H a dx C f y dx = some (exd dx [(f, y)]) := by
    unfold xcH
    rw [upd_ne h3, upd_same]
  have ha : xcH H a dx C f y a = some (exo a C (some dx)) := by
    unfold xcH
    rw [upd_same]
  refine ⟨l2, ?_, by unfold RD; exact ⟨a, by rw [← hh.len]; simp, rfl⟩⟩
  -- two new things of the tracked heap, then one of the mirror's
  have q1 : RH g ρ (L2.upd H dx (exd dx [(f, y)])) h := hh.upd h2
  have e0 : L2.upd H dx (exd dx [(f, y)]) a = none := by rw [upd_ne (Ne.symm h3)]; exact h1
  have e1 : L2.upd (L2.upd H dx (exd dx [(f, y)])) a (exo a C (some dx)) = xcH H a dx C f y := by
    funext b
    unfold xcH
    by_cases hb : b = a
    · subst hb; rw [upd_same, upd_same]
    · rw [upd_ne hb, upd_ne hb]
      by_cases hb2 : b = dx
      · subst hb2; rw [upd_same, upd_same]
      · rw [upd_ne hb2, upd_ne hb2, upd_ne hb]
  have q2 := q1.new (u := exo a C (some dx)) (o := .xc c [(f, d)]) e0 (by
    rw [e1]
    exact ⟨C, dx, [(f, y)], hm, ha, hd, y, [], rfl, l2.rd d r, rfl⟩)
  rw [e1] at q2
  exact q2
def mkXF (c f : Str) : List D → MH → R D := fun ds h => match ds with
  | [d] => .ok (.ref h.length) (h ++ [.xc c [(f, d)]])
  | _ => .bad
section
variable {X : Cx} {W : Wx} {e : Expr} {es : List Expr} {mas : AM} {pos p : Pos} {c f : Str} {kws : List Keyword}
theorem e_xc (F : XcC X.prog X.w X.K X.mg X.base c f) (hr : Room 2 X.A) (hg : Gl X c) (ha : PA X (e :: es) (tA (gd X) W mas)) (hdb : (c == ("__debug__" : Str)) = false := by decide)
    (he : starEach (e :: es) X.env = (false, eval e X.env) :: starEach es X.env := by rfl) (hpl : (backTo pos (starEach es X.env)).any (·.1) = false := by rfl) : PE X (.Call (.Name c p) (e :: es) [] pos) (tE (gd X) W (onA (mkXF c f) mas)) := by
  obtain ⟨C, fI, fd, mgC, T, iC, tI, G, hb, hk⟩ := F.ex
  refine ⟨fun pins s σ H Q I h => ?_⟩
  refine wpAny_Call_Name_kw (ld_glob I hg mgC ?_ hdb)
  have q : tA (gd X) W mas σ H fun vs H1 => ∃ y, vs = [y] ∧ ∀ a dx, H1 a = none → H1 dx = none → dx ≠ a → Q (.ref a) (xcH H1 a dx C f y) := by
    refine one h fun ρ e H h x vx s hh rx p => ?_
    unfold mkXF at p
    split at p
    · obtain ⟨y, ey, ry⟩ := rx.inv1
      refine ⟨y, ey, fun a dx h1 h2 h3 => ?_⟩
      obtain ⟨l1, l2, l3⟩ := RH.newXc (f := f) hh h1 h2 h3 mgC ry
      exact p _ _ _ l1 l2 l3
    · exact p.elim
  refine PySem.W.callWith_K (h₀ := X.base) I.ok.mod.kin T.kC (thn (ha.run pos pins s σ H _ I q) fun us s1 ⟨vs, H1, I1, r1, y, ey, q1⟩ => ⟨I1.kIn, ?_⟩) he hpl
  subst ey
  obtain ⟨u, rfl, ru⟩ := Vals.one r1
  exact run_xc T iC tI G hr I1 ru (by simp) (by simp) (fun s e hK => hb s [.ref e, u] hK rfl) q1
theorem PK_of {X : Cx} {e : List Keyword} {t t' : TA} (h : PK X e t) (i : ∀ σ H Q, t' σ H Q → t σ H Q) : PK X e t' := ⟨fun pos pins s σ H Q I q => h.run pos pins s σ H Q I (i _ _ _ q)⟩
theorem k_nil : PK X [] (tA (gd X) W nilA) := PK_of pk_nil fun σ H Q q => by
  obtain ⟨ρ, e, m, s, hh, p⟩ := q
  exact p.okk hh .nil
theorem k_cons {nm : Option Str} {kpos : Pos} {ma : EM} (ha : PE X e (tE (gd X) W ma)) (hr : PK X kws (tA (gd X) W mas)) : PK X (⟨nm, e, kpos⟩ :: kws) (tA (gd X) W (consA ma mas)) :=
  PK_of (pk_cons ha hr) fun σ H Q q => by
    refine one q fun ρ e H h x vx s hh rx p => ?_
    refine ⟨ρ, e, h, s, hh, p.bind.mono fun vs H1 q => ?_⟩
    obtain ⟨ρ1, xs, h1, l1, hh1, rxs, p1⟩ := q
    exact p1.okk hh1 (.cons (l1.rd x rx) rxs)
theorem e_xck (F : XcC X.prog X.w X.K X.mg X.base c f) (hr : Room 2 X.A) (hg : Gl X c) (ha : PK X kws (tA (gd X) W mas)) (hall : (backToKw pos (keywordEach kws X.env)).all (·.1.isSome) = true := by rfl) (hks : (backToKw pos (keywordEach kws X.env)).filterMap (·.1) = [f] := by rfl)
    (hpl : ((backTo pos (starEach [] X.env)).any (·.1) || (backToKw pos (keywordEach kws X.env)).any (·.1.isNone)) = false := by rfl) (hdb : (c == ("__debug__" : Str)) = false := by decide) :
    PE X (.Call (.Name c p) [] kws pos) (tE (gd X) W (onA (mkXF c f) mas)) := by
  obtain ⟨C, fI, fd, mgC, T, iC, tI, G, hb, hk⟩ := F.ex
  refine ⟨fun pins s σ H Q I h => ?_⟩
  refine wpAny_Call_Name_kw (ld_glob I hg mgC ?_ hdb)
  have q : tA (gd X) W mas σ H fun vs H1 => ∃ y, vs = [y] ∧ ∀ a dx, H1 a = none → H1 dx = none → dx ≠ a → Q (.ref a) (xcH H1 a dx C f y) := by
    refine one h fun ρ e H h x vx s hh rx p => ?_
    unfold mkXF at p
    split at p
    · obtain ⟨y, ey, ry⟩ := rx.inv1
      refine ⟨y, ey, fun a dx h1 h2 h3 => ?_⟩
      obtain ⟨l1, l2, l3⟩ := RH.newXc (f := f) hh h1 h2 h3 mgC ry
      exact p _ _ _ l1 l2 l3
    · exact p.elim
  refine PySem.W.callWith_KW0 (h₀ := X.base) I.ok.mod.kin T.kC hall (thn (ha.run pos pins s σ H _ I q) fun us s1 ⟨vs, H1, I1, r1, y, ey, q1⟩ => ⟨I1.kIn, ?_⟩) hpl
  rw [hks]
  subst ey
  obtain ⟨u, rfl, ru⟩ := Vals.one r1
  exact run_xc T iC tI G hr I1 ru (by simp) (by simp) (fun s e hK => hk s (.ref e) u hK) q1
end
end ML

/-! ML 12: fields, isinstance against own classes -/
namespace ML
open PySem PySem.Spec PyProof.Rows L2

theorem RP.lookup {g : Gd} {ρ : List Addr} {H : Hp} {f : Str} : ∀ {fs : List (Str × D)} {gs : List (Str × V)} {d : D}, RP g ρ H fs gs → fs.lookup f = some d → ∃ v, gs.lookup f = some v ∧ RD g ρ H d v
  | [], _, _, _, e => by cases e
  | (k, x) :: fs, gs, d, q, e => by
    obtain ⟨v, r, e1, q1, q2⟩ := q
    subst e1
    unfold List.lookup at e ⊢
    split at e
    · cases e
      exact ⟨v, rfl, q1⟩
    · exact RP.lookup q2 e
/-- what the written part says of the classes whose instances (ci), of the error classes whose errors (cx) have the field f -/
def FldOk (K : PySem.W.Frag) (mg : Str → Option Value) (ci cx : List Str) (f : Str) : Prop :=
  (∀ c ∈ ci, ∀ C, mg c = some (.ref C) → Cls K C ∧ NoAttr K C f) ∧ ∀ c ∈ cx, ∀ C, mg c = some (.ref C) → XfC K C ∧ PySem.W.findIn K (.ref C) f = some none
def fldF (ci cx : List Str) (f : Str) : D → MH → R D := fun x h => match x with
  | .ref n => (match h[n]? with
    | some (.ins c fs) => if c ∈ ci then (match fs.lookup f with
      | some d => .ok d h
      | none => .bad) else .bad
    | some (.xc c fs) => if c ∈ cx then (match fs.lookup f with
      | some d => .ok d h
      | none => .bad) else .bad
    | _ => .bad)
  | _ => .bad
section
variable {X : Cx} {W : Wx} {e : Expr} {m : EM} {pos : Pos} {f : Str} {ci cx : List Str}
theorem e_fld (F : FldOk X.K X.mg ci cx f) (he : PE X e (tE (gd X) W m)) (hb : attributeBase e f X.env (eval e X.env) = eval e X.env := by rfl) : PE X (.Attribute e f pos) (tE (gd X) W (un (fldF ci cx f) m)) := by
  refine ⟨fun pins s σ H Q I h => ?_⟩
  have q : tE (gd X) W m σ H fun x H1 => ∃ a C v, x = .ref a ∧ Q v H1 ∧ ((∃ dx gs, H1 a = some (.ins C dx gs) ∧ Cls X.K C ∧ NoAttr X.K C f ∧ gs.lookup f = some v) ∨
      ∃ dx gs, H1 a = some (exo a C (some dx)) ∧ H1 dx = some (exd dx gs) ∧ XfC X.K C ∧ PySem.W.findIn X.K (.ref C) f = some none ∧ gs.lookup f = some v) := by
    refine one h fun ρ e H h x vx s hh rx p => ?_
    unfold fldF at p
    split at p
    · rename_i n
      obtain ⟨a, e1, e2⟩ := RD_ref rx
      split at p
      · rename_i c fs hc
        split at p
        · rename_i hm
          split at p
          · rename_i d hd
            obtain ⟨C, dx, gs, mgC, e3, rp⟩ := hh.obj n _ a hc e1
            obtain ⟨v, e4, r4⟩ := rp.lookup hd
            obtain ⟨c1, c2⟩ := F.1 c hm C mgC
            exact ⟨a, C, v, e2, p.okk hh r4, .inl ⟨dx, gs, e3, c1, c2, e4⟩⟩
          · exact p.elim
        · exact p.elim
      · rename_i c fs hc
        split at p
        · rename_i hm
          split at p
          · rename_i d hd
            obtain ⟨C, dx, gs, mgC, e3, e5, rp⟩ := hh.obj n _ a hc e1
            obtain ⟨v, e4, r4⟩ := rp.lookup hd
            obtain ⟨c1, c2⟩ := F.2 c hm C mgC
            exact ⟨a, C, v, e2, p.okk hh r4, .inr ⟨dx, gs, e3, e5, c1, c2, e4⟩⟩
          · exact p.elim
        · exact p.elim
      · exact p.elim
    · exact p.elim
  refine attr_of hb (thn (he.run pins s σ H _ I q) fun u s1 ⟨x, H1, I1, rx, a, C, v, ex, q1, alt⟩ => ?_)
  subst ex
  obtain rfl : u = Value.ref a := rx
  rcases alt with ⟨dx, gs, ea, c, n, l⟩ | ⟨dx, gs, ea, ed, T, hno, l⟩
  · exact getattr_ok I1 ea c n l fun u' s2 I2 ru => ⟨v, H1, I2, ru, q1⟩
  · obtain ⟨t1, ho⟩ := exo_at I1.hok ea
    obtain ⟨mA, hns, hr⟩ := exd_at I1.hok ed
    obtain ⟨od, hod, hl⟩ := lookIn_ns hns
    obtain ⟨u, hu, ru⟩ := RelO.some_of (v := v) (o := mA f) (by rw [← l]; exact hr f)
    have J : PySem.W.InstAt s1.heap a _ C (some od) := ⟨ho, rfl, rfl, hod⟩
    exact HandSPX.exc_get I1.kIn J T.ga T.gg T.exC (PySem.W.findObj_own T.hdC hno rfl (by rw [hl, hu])) (handed_of ru) ⟨v, H1, I1.tok _, ru, q1⟩
end

/-! ### isinstance(x, C), C a class of the module or a built-in error class -/
/-- what isinstance asks of the classes of x: own ones (ci), error classes (cx) -/
structure IsC (K : PySem.W.Frag) (C : Addr) : Prop where
  hdC : (PySem.W.clsIn K C).isSome = true
  ga : PySem.W.findIn K (.ref C) "__getattribute__" = some (some (.builtin "BaseException.__getattribute__"))
  gg : PySem.W.findIn K (.ref C) "__getattr__" = some none
  sub : PySem.W.subIn K (.ref C) (.type "BaseException") = some true
  ha : PySem.W.findIn K (.ref C) "__class__" = some (some (.builtin "object.__class__"))
  hn : PySem.W.specialIn K (.builtin "object.__class__") "__get__" = some (some (.builtin "getset_descriptor.__get__"))
  ht : PySem.W.takesIn K (.builtin "object.__class__") = some true
  hm : PySem.W.mroIn K C (.type "object") = some true
/-- an own class's instances are asked for their class -/
structure IsI (K : PySem.W.Frag) (C : Addr) : Prop where
  cl : Cls K C
  ha : PySem.W.findIn K (.ref C) "__class__" = some (some (.builtin "object.__class__"))
  hn : PySem.W.specialIn K (.builtin "object.__class__") "__get__" = some (some (.builtin "getset_descriptor.__get__"))
  ht : PySem.W.takesIn K (.builtin "object.__class__") = some true
  hm : PySem.W.mroIn K C (.type "object") = some true
/-- the answers of isinstance(x, c), cv what c is: by the type of a built-in x (tb), by the class of an instance (ti), of an error (tx) -/
structure IsTab (K : PySem.W.Frag) (mg : Str → Option Value) (cv : Value) (tb : List (String × Bool)) (ti tx : List (Str × Bool)) : Prop where
  b : ∀ T r, tb.lookup T = some r → PySem.W.kitOne K (.type T) cv = some r
  i : ∀ c r, ti.lookup c = some r → ∀ C, mg c = some (.ref C) → IsI K C ∧ PySem.W.kitOne K (.ref C) cv = some r
  x : ∀ c r, tx.lookup c = some r → ∀ C, mg c = some (.ref C) → IsC K C ∧ PySem.W.kitOne K (.ref C) cv = some r
def isxF (tb : List (String × Bool)) (ti tx : List (Str × Bool)) : D → MH → R D := fun x h => match tyD h x with
  | some T => (match tb.lookup T with
    | some r => .ok (.bl r) h
    | none => .bad)
  | none => (match x with
    | .ref n => (match h[n]? with
      | some (.ins c _) => (match ti.lookup c with
        | some r => .ok (.bl r) h
        | none => .bad)
      | some (.xc c _) => (match tx.lookup c with
        | some r => .ok (.bl r) h
        | none => .bad)
      | _ => .bad)
    | _ => .bad)
section
variable {X : Cx} {pins : List (Addr × Obj)} {σ : L2.St} {H : Hp} {s : Shared}
/-- isinstance of an error that stands as a value -/
def rIsX (K : PySem.W.Frag) : List V → Hp → VK → Prop := fun xs H Q => ∃ (a C : Addr) (dx : Addr) (gs : List (Str × V)) (c : V) (cv : Value) (b : Bool), xs = [.ref a, c] ∧ ClsV c cv ∧ H a = some (exo a C (some dx)) ∧ H dx = some (exd dx gs) ∧ IsC K C ∧ PySem.W.kitOne K (.ref C) cv = some b ∧ Q (.bl b) H
theorem call_isX : CallR X (.builtin "isinstance") (rIsX X.K) := by
  intro pins s σ H xs us Q I r h
  obtain ⟨a, C, dx, gs, c, cv, b, rfl, k, ea, ed, F, e, q⟩ := h
  obtain ⟨u1, u2, rfl, r1, r2⟩ := vals2 r
  have e2 := k.eq r2
  subst e2
  obtain rfl : u1 = Value.ref a := r1
  obtain ⟨t1, ho⟩ := exo_at I.hok ea
  obtain ⟨mA, hns, hr⟩ := exd_at I.hok ed
  obtain ⟨od, hod, hl⟩ := lookIn_ns hns
  have J : PySem.W.InstAt s.heap a _ C (some od) := ⟨ho, rfl, rfl, hod⟩
  exact PySem.W.kia_one (PySem.W.kitx_exc F.hdC F.ga F.gg F.sub F.ha F.hn F.ht F.hm) I.kIn J e (fun z => nomatch z) fun tk => ⟨.bl b, H, I.tok tk, rfl, q⟩
end
section
variable {X : Cx} {W : Wx} {a c : Expr} {m : EM} {p pos : Pos} {v : V} {cv : Value} {tb : List (String × Bool)} {ti tx : List (Str × Bool)}
theorem e_isx (F : IsTab X.K X.mg cv tb ti tx) (k : ClsV v cv) (hg : Gl X "isinstance") (hm : X.mg "isinstance" = none) (ha : PE X a (tE (gd X) W m)) (hc : PE X c (tC v))
    (s1 : starEach [a, c] X.env = (false, eval a X.env) :: starEach [c] X.env := by rfl) (s2 : starEach [c] X.env = (false, eval c X.env) :: starEach [] X.env := by rfl) (hpl : (backTo pos (starEach [c] X.env)).any (·.1) = false := by rfl) :
    PE X (.Call (.Name "isinstance" p) [a, c] [] pos) (tE (gd X) W (un (isxF tb ti tx) m)) :=
  PE_of (pe_callB (CallR.or call_isi call_isX) hg hm (by decide +kernel) (pa_cons ha (pa_cons hc pa_nil s2) s1) (by decide) (by decide) s1 hpl) fun σ H Q q => by
    refine one q fun ρ e H h x vx s hh rx p => ?_
    unfold isxF at p
    split at p
    · rename_i T hT
      split at p
      · rename_i r hr
        obtain ⟨t1, _⟩ := tyD_v hh rx hT
        exact .inl ⟨vx, v, .type T, cv, r, rfl, k, t1, F.b T r hr, p.okk hh .blN⟩
      · exact p.elim
    · split at p
      · rename_i n _
        obtain ⟨b, e1, e2⟩ := RD_ref rx
        split at p
        · rename_i c0 fs hn
          obtain ⟨C, dx, gs, mgC, e3, rp⟩ := hh.obj n _ b hn e1
          split at p
          · rename_i r hr
            obtain ⟨i1, i2⟩ := F.i c0 r hr C mgC
            subst e2
            exact .inl ⟨.ref b, v, .ref C, cv, r, rfl, k, .base (.ins e3 i1.cl i1.ha i1.hn i1.ht i1.hm), i2, p.okk hh .blN⟩
          · exact p.elim
        · rename_i c0 fs hn
          obtain ⟨C, dx, gs, mgC, e3, e4, rp⟩ := hh.obj n _ b hn e1
          split at p
          · rename_i r hr
            obtain ⟨i1, i2⟩ := F.x c0 r hr C mgC
            subst e2
            exact .inr ⟨b, C, dx, gs, v, cv, r, rfl, k, e3, e4, i1, i2, p.okk hh .blN⟩
          · exact p.elim
        · exact p.elim
      · exact p.elim
end
end ML

/-! ML 13: enumerate of a list, displays of dicts -/
namespace ML
open PySem PySem.Spec PyProof.Rows L2

def enumD (l : List D) : List D := l.zipIdx.map fun p => .tup [.int (p.2 : Nat), p.1]
def enumF : List D → MH → R IT := fun ds h => match ds with
  | [.ref n] => (match h[n]? with
    | some (.lst l) => .ok ⟨enumD l, [(n, l)]⟩ h
    | some (.rdl l) => .ok ⟨enumD l, []⟩ h
    | _ => .bad)
  | _ => .bad
def enumI (m : AM) : IM := fun e h => (m e h).bind enumF
theorem enumD_len (l : List D) : (enumD l).length = l.length := by unfold enumD; simp
theorem enumD_at {l : List D} {i : Nat} {d : D} (e : (enumD l)[i]? = some d) : ∃ x, l[i]? = some x ∧ d = .tup [.int (i : Nat), x] := by
  unfold enumD at e
  rw [List.getElem?_map, List.getElem?_zipIdx] at e
  cases q : l[i]? with
  | none => rw [q] at e; cases e
  | some x =>
    rw [q] at e
    refine ⟨x, rfl, ?_⟩
    have e' := Option.some.inj e
    rw [← e']
    simp
section
variable {X : Cx} {W : Wx} {g : Gd} {ρ : List Addr} {H : Hp} {h : MH}
theorem enum_step {ρ2 : List Addr} {H2 H3 : Hp} {h2 : MH} {T : Addr} {i : Nat} {x : D} {v : V} (hh : RH g ρ2 H2 h2) (hT : H2 T = none) (e : H3 = L2.upd H2 T (.tup [.int (i : Nat), v])) (r : RD g ρ2 H2 x v) :
    Lat g ρ2 H2 ρ2 H3 ∧ RH g ρ2 H3 h2 ∧ RD g ρ2 H3 (.tup [.int (i : Nat), x]) (.ref T) := by
  subst e
  have l := Lat.upd (g := g) (ρ := ρ2) (u := .tup [V.int (i : Nat), v]) (Soft.none hT)
  exact ⟨l, hh.upd hT, .tupN (.of upd_same) (.cons .intN (.one (l.rd x r)))⟩
theorem wk_enumL {a : Addr} {l : List D} {n : Nat} (en : ρ[n]? = some a) : WkD g ρ H ⟨enumD l, [(n, l)]⟩ (Ite g.K a) := by
  have key : ∀ {ρ2 H2 h2}, Lat g ρ H ρ2 H2 → RH g ρ2 H2 h2 → IT.ok h2 [(n, l)] = true → ∃ vs, H2 a = some (.lst vs) ∧ RDs g ρ2 H2 l vs := fun {ρ2 H2 h2} l2 hh ok => by
    have e := stands_eq (p := (n, l)) (by unfold IT.ok at ok; simpa using ok)
    exact hh.obj n _ a e (l2.at en)
  refine ⟨fun H => ∃ vs, SqL g.K H a vs ∧ vs.length = l.length, (Ite g.K a).yld, ⟨fun i H hi ⟨vs, q, e⟩ => ⟨vs, vs[i]'(by rw [e]; rw [enumD_len] at hi; exact hi), q, List.getElem?_eq_getElem _⟩, fun H ⟨vs, q, e⟩ => ⟨vs, q, Nat.le_of_eq (by show vs.length = (enumD l).length; rw [enumD_len, e])⟩, fun _ _ _ _ _ _ y => y⟩,
    fun ρ2 H2 h2 l2 hh ok => ?_, fun i H2 x H3 ρ2 h2 d l2 hh ok y e => ?_⟩
  · obtain ⟨vs, e, r⟩ := key l2 hh ok
    exact ⟨vs, .of e, r.length.symm⟩
  · obtain ⟨vs, e1, r⟩ := key l2 hh ok
    obtain ⟨T, z, e2, e3, e4, y⟩ := y
    obtain ⟨d', e5, e6⟩ := enumD_at e
    obtain ⟨v, e7, r7⟩ := r.get e5
    have e8 := y vs (.of e1)
    rw [e7] at e8
    cases e8
    subst e2 e6
    exact enum_step hh e3 e4 r7
theorem wk_enumR {a : Addr} {l : List D} {vs : List V} (sq : RdL g.K H a vs) (r : RDs g ρ H l vs) : WkD g ρ H ⟨enumD l, []⟩ (Ite g.K a) := by
  refine ⟨fun H => RdL g.K H a vs, (Ite g.K a).yld, ⟨fun i H hi q => ⟨vs, vs[i]'(by rw [enumD_len] at hi; rw [← r.length]; exact hi), q.sq, List.getElem?_eq_getElem _⟩, fun H q => ⟨vs, q.sq, Nat.le_of_eq (by show vs.length = (enumD l).length; rw [enumD_len, r.length])⟩, fun _ _ _ _ _ _ y => y⟩,
    fun ρ2 H2 h2 l2 hh ok => l2.rdl sq, fun i H2 x H3 ρ2 h2 d l2 hh ok y e => ?_⟩
  obtain ⟨T, z, e2, e3, e4, y⟩ := y
  obtain ⟨d', e5, e6⟩ := enumD_at e
  obtain ⟨v, e7, r7⟩ := r.get e5
  have e8 := y vs (l2.rdl sq).sq
  rw [e7] at e8
  cases e8
  subst e2 e6
  exact enum_step hh e3 e4 (l2.rd d' r7)
theorem i_enum {e : Expr} {ma : AM} {p pos tpos : Pos} {elts : List Expr} {kk : Nat} (hg : Gl X "enumerate") (hm : X.mg "enumerate" = none) (ha : PA X [e] (tA (gd X) W ma)) (hs : starEach [e] X.env = [(false, eval e X.env)] := by rfl) :
    PI X (.Tuple elts kk tpos) (.Call (.Name "enumerate" p) [e] [] pos) (iM (gd X) W (enumI ma)) := PI_of (pi_enum hg hm ha hs) fun σ H Q q => by
  refine one q fun ρ e H h xs vs s hh rx p => ?_
  unfold enumF at p
  split at p
  · rename_i n
    obtain ⟨v, e1, r1⟩ := rx.inv1
    obtain ⟨a, e2, e3⟩ := RD_ref r1
    subst e3
    split at p
    · rename_i l hl
      obtain ⟨ws, e4, r⟩ := hh.obj n _ a hl e2
      exact ⟨a, ws, e1, .of e4, p.okk hh (wk_enumL e2)⟩
    · rename_i l hl
      obtain ⟨ws, e4, r⟩ := hh.obj n _ a hl e2
      exact ⟨a, ws, e1, e4.sq, p.okk hh (wk_enumR e4 r)⟩
    · exact p.elim
  · exact p.elim
end

/-! ### displays of dicts -/
/-- the pairs of a display, from the left -/
abbrev PM := List (EM × EM)
def pairsM : PM → Env → MH → R (List (Key × D))
  | [], _, h => .ok [] h
  | (k, v) :: r, e, h => (k e h).bind fun x h1 => match keyOf x with
    | some kx => (v e h1).bind fun y h2 => (pairsM r e h2).bind fun ps h3 => .ok ((kx, y) :: ps) h3
    | none => .bad
def mergeD (kvs more : List (Key × D)) : List (Key × D) := more.foldl (fun acc kv => putKD acc kv.1 kv.2) kvs
def dctE (ps : PM) : EM := fun e h => (pairsM ps e (h ++ [.dct []])).bind fun kvs h2 => match h2[h.length]? with
  | some (.dct []) => if kvs.length ≤ 15 then .ok (.ref h.length) (h2.set h.length (.dct (mergeD [] kvs))) else .bad
  | _ => .bad
section
variable {X : Cx} {W : Wx} {pos : Pos} {g : Gd} {ρ : List Addr} {H : Hp} {h : MH}
theorem RP.merge : ∀ {kvs : List (Key × D)} {ws : List (Key × V)} {acc : List (Key × D)} {bs : List (Key × V)}, RP g ρ H kvs ws → RP g ρ H acc bs → RP g ρ H (mergeD acc kvs) (mergeK bs ws)
  | [], ws, acc, bs, q, r => by have q' : ws = [] := q; subst q'; exact r
  | (k, d) :: kvs, ws, acc, bs, q, r => by
    obtain ⟨v, t, e, q1, q2⟩ := q
    subst e
    show RP g ρ H (mergeD (putKD acc k d) kvs) (mergeK (putK bs k v) t)
    exact RP.merge q2 (r.put q1)
def RPk (g : Gd) : List Addr → Hp → List (Key × D) → List (Key × V) → Prop := fun ρ H => RP g ρ H
theorem pairs_read : ∀ (ps : PM) {σ : L2.St} {H : Hp} {Q : List (V × V) → Hp → Prop},
    tG g (RPk g) W (pairsM ps) σ H (fun ws H' => Q (ws.map fun kv => (kV kv.1, kv.2)) H') → tPairs (ps.map fun p => (tE g W p.1, tE g W p.2)) σ H Q
  | [], σ, H, Q, q => by
    obtain ⟨ρ, e, h, s, hh, p⟩ := q
    exact p ρ [] H Lat.refl hh rfl
  | (k, v) :: r, σ, H, Q, q => by
    show tE g W k σ H fun x H1 => tE g W v σ H1 fun y H2 => tPairs _ σ H2 fun ps H3 => Q ((x, y) :: ps) H3
    refine one q fun ρ e H h x vx s hh rx p => ?_
    split at p
    · rename_i kx hk
      refine ⟨ρ, e, h, s, hh, p.bind.mono fun vy H1 q1 => ?_⟩
      obtain ⟨ρ1, y, h1, l1, hh1, ry, p1⟩ := q1
      refine pairs_read r ⟨ρ1, e, h1, s.lat l1, hh1, p1.bind.mono fun ws H2 q2 => ?_⟩
      obtain ⟨ρ2, kvs, h2, l2, hh2, rk, p2⟩ := q2
      have z := p2.okk (v := (kx, vy) :: ws) hh2 ⟨vy, ws, rfl, l2.rd y ry, rk⟩
      rw [List.map_cons] at z
      rw [keyOf_v rx hk]
      exact z
    · exact p.elim
theorem e_dct {keys : List (Option Expr)} {values : List Expr} (ps : PM) (h : PPs X pos keys values (ps.map fun p => (tE (gd X) W p.1, tE (gd X) W p.2))) (hall : keys.all (·.isSome) = true := by rfl) (hl : keys.length = values.length := by rfl) (h0 : keys ≠ [] := by decide)
    (h15 : keys.length ≤ 15 := by decide) : PE X (.Dict keys values pos) (tE (gd X) W (dctE ps)) :=
  PE_of (pe_disp h hall hl h0 h15) fun σ H Q q => by
    intro a ha
    obtain ⟨ρ, e, m, s, hh, p⟩ := q
    have l1 := Lat.new (g := gd X) (ρ := ρ) (u := .dK []) (Soft.none ha)
    have hh1 : RH (gd X) (ρ ++ [a]) (L2.upd H a (.dK [])) (m ++ [.dct []]) := hh.new ha ⟨[], upd_same, rfl⟩
    have p := Post.later l1 p
    refine pairs_read ps ⟨_, e, _, s.lat l1, hh1, p.bind.mono fun ws H2 q2 => ?_⟩
    obtain ⟨ρ2, kvs, h2, l2, hh2, rk, p2⟩ := q2
    split at p2
    · rename_i hd
      split at p2
      case isFalse => exact p2.elim
      rename_i h15
      have ea : ρ2[m.length]? = some a := l2.at (by rw [← hh.len]; simp)
      obtain ⟨bs, e3, r3⟩ := hh2.obj _ _ a hd ea
      have e0 : bs = [] := r3
      subst e0
      refine ⟨e3, ws, rfl, ?_, ?_⟩
      · have := RP.length rk; omega
      · obtain ⟨l3, hh3⟩ := hh2.setDct hd ea e3 (RP.merge (acc := []) (bs := []) rk rfl)
        exact p2 _ _ _ l3 hh3 (by unfold RD; exact ⟨a, ea, rfl⟩)
    · exact p2.elim
end
end ML

/-! ML 14: assignment to any target, names of built-ins, small things for printed derivations -/
namespace ML
open PySem PySem.Spec PyProof.Rows L2

def asgS (g : GM) (a : EM) : SM := fun e h => ofE e (a e h) fun d h1 => match g d e h1 with
  | some e1 => .nx e1 h1
  | none => .bad
section
variable {X : Cx} {W : WX} {tg a : Expr} {ma : EM} {mg : GM} {own : List Nat} {pos : Pos}
theorem s_asg (ha : PE X a (tE (gd X) (pl W) ma)) (hg : PG X tg (tGm (gd X) own mg)) (hs : swapsWithSole [tg] a pos.line X.env = pure false := by rfl) (hw : swappedStores [tg] a X.env = pure none := by rfl)
    (h1 : (assignEach [tg] X.env).map (·.2) = [assign tg X.env] := by rfl) : PS X (.Assign [tg] a pos) (tS (gd X) W (asgS mg ma)) :=
  PS_of (ps_asg ha hg hs hw h1) fun N σ H q => stE q fun ρ e H h d v s hh r p => by
    cases z : mg d e h with
    | none => rw [z] at p; exact p.elim
    | some e1 =>
      rw [z] at p
      exact ⟨ρ, e, h, d, e1, s, hh, r, z, fun σ2 s2 _ => p ρ σ2 H Lat.refl hh s2⟩
theorem takes_no {X : Cx} : Takes X noW := fun u s' x => by
  obtain ⟨_, _, _, _, _, _, _, _, _, _, _, _, _, _, _, _, z⟩ := x
  exact z.elim
end
theorem Post.cyc : True := True.intro
/-! names -/
theorem bb_len : bootBuiltins "len" = some (.builtin "len") := by decide +kernel
theorem bb_all : bootBuiltins "all" = some (.builtin "all") := by decide +kernel
theorem bb_any : bootBuiltins "any" = some (.builtin "any") := by decide +kernel
theorem bb_max : bootBuiltins "max" = some (.builtin "max") := by decide +kernel
theorem bb_min : bootBuiltins "min" = some (.builtin "min") := by decide +kernel
theorem bb_isinstance : bootBuiltins "isinstance" = some (.builtin "isinstance") := by decide +kernel
theorem bb_int : bootBuiltins "int" = some (.type "int") := by decide +kernel
theorem bb_str : bootBuiltins "str" = some (.type "str") := by decide +kernel
theorem bb_bool : bootBuiltins "bool" = some (.type "bool") := by decide +kernel
theorem bb_list : bootBuiltins "list" = some (.type "list") := by decide +kernel
theorem bb_tuple : bootBuiltins "tuple" = some (.type "tuple") := by decide +kernel
theorem bb_dict : bootBuiltins "dict" = some (.type "dict") := by decide +kernel
theorem bb_VE : bootBuiltins "ValueError" = some (.type "ValueError") := by decide +kernel
end ML

/-! ML 15: repr of a list of the mirror, where no other repr is under way -/
namespace ML
open PySem PySem.Spec PyProof.Rows L2

def allO (f : D → Option PyData) : List D → Option (List PyData)
  | [] => some []
  | d :: r => match f d with
    | some p => (match allO f r with
      | some ps => some (p :: ps)
      | none => none)
    | none => none
def keyP : Key → PyData
  | .inl i => .int i
  | .inr x => .str x
def kvO (f : D → Option PyData) : List (Key × D) → Option (List (PyData × PyData))
  | [] => some []
  | (k, d) :: r => match f d with
    | some p => (match kvO f r with
      | some ps => some ((keyP k, p) :: ps)
      | none => none)
    | none => none
def small (p : PyData) : Option PyData := if p.showable = true ∧ p.shown.length ≤ 1000000 ∧ p.depth ≤ 40 then some p else none
def smalls : List PyData → Bool
  | [] => true
  | p :: ps => (small p).isSome && smalls ps
/-- what stands at d, as a tree -/
def toP (h : MH) : Nat → D → Option PyData
  | 0, _ => none
  | _ + 1, .non => some .none
  | _ + 1, .bl b => some (.bool b)
  | _ + 1, .int i => small (.int i)
  | _ + 1, .str x => small (.str x)
  | n + 1, .tup l => match allO (toP h n) l with
    | some ps => small (.tuple ps)
    | none => none
  | n + 1, .ref k => match h[k]? with
    | some (.lst l) => (match allO (toP h n) l with
      | some ps => small (.list ps)
      | none => none)
    | some (.dct kvs) => (match kvO (toP h n) kvs with
      | some ps => if ps.all (fun p => (small p.1).isSome) then small (.dict ps) else none
      | none => none)
    | _ => none
  | _ + 1, _ => none
theorem small_eq {p q : PyData} (e : small p = some q) : q = p ∧ p.showable = true ∧ p.shown.length ≤ 1000000 ∧ p.depth ≤ 40 := by
  unfold small at e
  split at e
  · rename_i h
    cases e
    exact ⟨rfl, h⟩
  · cases e
/-- all that the library asks of a value whose text is wanted -/
structure Shw (P : Program) (w : World) (h : Heap) (u : Value) (p : PyData) : Prop where
  len : p.shown.length ≤ sizeLine
  rd : ∃ as, Reads h u p as
  rp : ∃ bs, ReadAtMost h p.depth bs ∧ ReprK P w bs h p.depth u p.shown
structure ShwAll (P : Program) (w : World) (h : Heap) (us : List Value) (ps : List PyData) : Prop where
  rd : ∃ as, ReadsAll h us ps as
  rp : ∃ bs, ReadAtMost h (PyData.depthAll ps) bs ∧ ReprAllK P w bs h (PyData.depthAll ps) us (PyData.shownAll ps)
section
variable {P : Program} {w : World} {h : Heap}
theorem ShwAll.nil : ShwAll P w h [] [] := ⟨⟨[], .nil⟩, [], fun _ z => (nomatch z), by simp only [PyData.shownAll]; exact .nil⟩
theorem ShwAll.cons {u : Value} {us : List Value} {p : PyData} {ps : List PyData} (a : Shw P w h u p) (b : ShwAll P w h us ps) : ShwAll P w h (u :: us) (p :: ps) := by
  obtain ⟨x1, r1⟩ := a.rd
  obtain ⟨x2, r2⟩ := b.rd
  obtain ⟨b1, m1, k1⟩ := a.rp
  obtain ⟨b2, m2, k2⟩ := b.rp
  refine ⟨⟨_, .cons r1 r2⟩, b1 ++ b2, ?_, ?_⟩
  · simp only [PyData.depthAll]
    exact (m1.mono (Nat.le_max_left _ _)).append (m2.mono (Nat.le_max_right _ _))
  · simp only [PyData.depthAll, PyData.shownAll]
    exact .cons ((k1.more fun b hb => List.mem_append_left _ hb).level_le (Nat.le_max_left _ _)) (k2.more_le (fun b hb => List.mem_append_right _ hb) (Nat.le_max_right _ _))
theorem shw_leaf {u : Value} {p : PyData} (r : Reads h u p []) (k : ReprIs P w u p.shown) (l : p.shown.length ≤ sizeLine) : Shw P w h u p := ⟨l, ⟨_, r⟩, [], fun _ z => (nomatch z), .of_is k _ _ _⟩
theorem line_of {n : Nat} (h : n ≤ 1000000) : n ≤ sizeLine := big_le h
theorem shw_list {a : Addr} {o : Obj} {its : List Value} {n : Nat} {ps : List PyData} (e : h.get? a = some o) (c : o.cls = .type "list") (d : o.data = .seq its.toArray n) (k : ShwAll P w h its ps) (l : (PyData.list ps).shown.length ≤ sizeLine) : Shw P w h (.ref a) (.list ps) := by
  obtain ⟨x1, r1⟩ := k.rd
  obtain ⟨bs, m, rk⟩ := k.rp
  have r : Reads h (.ref a) (.list ps) (a :: x1) := .list e c d (by simpa using r1)
  have hna : a ∉ bs := not_mem_of_deeper r (by simp only [PyData.depth]; omega) m
  cases its with
  | nil =>
    cases r1
    refine ⟨l, ⟨_, r⟩, [], fun _ z => (nomatch z), ?_⟩
    simp only [PyData.shown, PyData.shownAll, listText_nil]
    exact ReprK.listEmpty e c (by simpa using d)
  | cons x xs =>
    refine ⟨l, ⟨_, r⟩, a :: bs, ReadAtMost.cons r (by simp only [PyData.depth]; omega) m, ?_⟩
    simp only [PyData.shown, PyData.depth]
    exact ReprK.list e c d hna (by simpa using rk.length_eq) fun i y q => rk.item i y (by simpa using q)
theorem shw_tup {a : Addr} {o : Obj} {its : Array Value} {n : Nat} {ps : List PyData} (e : h.get? a = some o) (c : o.cls = .type "tuple") (d : o.data = .seq its n) (k : ShwAll P w h its.toList ps) (l : (PyData.tuple ps).shown.length ≤ sizeLine) : Shw P w h (.ref a) (.tuple ps) := by
  obtain ⟨x1, r1⟩ := k.rd
  obtain ⟨bs, m, rk⟩ := k.rp
  have r : Reads h (.ref a) (.tuple ps) x1 := .tuple e c d r1
  have hna : a ∉ bs := not_mem_of_deeper r (by simp only [PyData.depth]; omega) m
  refine ⟨l, ⟨_, r⟩, a :: bs, ReadAtMost.cons r (by simp only [PyData.depth]; omega) m, ?_⟩
  simp only [PyData.shown, PyData.depth]
  exact ReprK.tuple e c d hna rk
theorem shw_dict {a : Addr} {o : Obj} {es : Array DictEntry} {n : Nat} {ps : List (PyData × PyData)} (e : h.get? a = some o) (c : o.cls = .type "dict") (d : o.data = .dict es n) (hs : (a == sysModules) = false) (k1 : ShwAll P w h (es.toList.map (·.key)) (ps.map (·.1))) (k2 : ShwAll P w h (es.toList.map (·.val)) (ps.map (·.2)))
    (l : (PyData.dict ps).shown.length ≤ sizeLine) : Shw P w h (.ref a) (.dict ps) := by
  obtain ⟨x1, r1⟩ := k1.rd
  obtain ⟨x2, r2⟩ := k2.rd
  obtain ⟨b1, m1, rk1⟩ := k1.rp
  obtain ⟨b2, m2, rk2⟩ := k2.rp
  have r : Reads h (.ref a) (.dict ps) (a :: x1 ++ x2) := .dict e c d r1 r2
  have m : ReadAtMost h (PyData.depthKv ps) (b1 ++ b2) := (m1.mono (PyData.depthAll_keys_le ps)).append (m2.mono (PyData.depthAll_vals_le ps))
  have hna : a ∉ b1 ++ b2 := not_mem_of_deeper r (by simp only [PyData.depth]; omega) m
  refine ⟨l, ⟨_, r⟩, a :: (b1 ++ b2), ReadAtMost.cons r (by simp only [PyData.depth]; omega) m, ?_⟩
  simp only [PyData.shown, PyData.depth, PyData.shownKv_eq]
  exact ReprK.dict e c d hs hna (ReprEntriesK.of_two es.toList _ _ (rk1.more_le (fun b hb => List.mem_append_left _ hb) (PyData.depthAll_keys_le ps)) (rk2.more_le (fun b hb => List.mem_append_right _ hb) (PyData.depthAll_vals_le ps)))
end
section
variable {X : Cx} {pins : List (Addr × Obj)} {σ : L2.St} {H : Hp} {s : Shared} {ρ : List Addr} {h : MH}
theorem shw_all (f : D → Option PyData) (hf : ∀ d v u p, RD (gd X) ρ H d v → RelV v u → f d = some p → Shw X.prog X.w s.heap u p) : ∀ {l : List D} {vs : List V} {us : List Value} {ps : List PyData}, RDs (gd X) ρ H l vs → Vals vs us → allO f l = some ps → ShwAll X.prog X.w s.heap us ps
  | [], vs, us, ps, q, r, e => by
    have := q.invNil
    subst this
    cases r
    cases e
    exact .nil
  | d :: l, vs, us, ps, q, r, e => by
    obtain ⟨v, t, e1, q1, q2⟩ := q.inv
    subst e1
    cases r with
    | cons r1 r2 =>
      unfold allO at e
      split at e
      · rename_i p hp
        split at e
        · rename_i ps' hps
          cases e
          exact .cons (hf _ _ _ _ q1 r1 hp) (shw_all f hf q2 r2 hps)
        · cases e
      · cases e
theorem shw_small {u : Value} {x : PyData} (hx : (small x).isSome = true) (k : ∀ p, small x = some p → Shw X.prog X.w s.heap u p) : Shw X.prog X.w s.heap u x := by
  obtain ⟨p, hp⟩ := Option.isSome_iff_exists.mp hx
  have := (small_eq hp).1
  subst this
  exact k _ hp
theorem shw_int {i : Int} {u : Value} {p : PyData} (r : RelV (.int i) u) (e : small (.int i) = some p) : Shw X.prog X.w s.heap u p := by
  obtain ⟨e1, e2, e3, _⟩ := small_eq e
  subst e1
  obtain ⟨t, rfl⟩ := r
  have hs : i.natAbs.log2 < 1920 := by simpa [PyData.showable] using e2
  exact shw_leaf (.int i t) (by simp only [PyData.shown]; exact ReprIs.int t hs) (line_of e3)
theorem shw_str {x : Str} {u : Value} {p : PyData} (r : RelV (.str x) u) (e : small (.str x) = some p) : Shw X.prog X.w s.heap u p := by
  obtain ⟨e1, e2, e3, _⟩ := small_eq e
  subst e1
  obtain ⟨t, rfl⟩ := r
  exact shw_leaf (.str x t) (by simp only [PyData.shown] at e3 ⊢; exact ReprIs.str x t (line_of e3)) (line_of e3)
theorem shw_key {k : Key} {u : Value} (r : keyIs k u = true) (e : (small (keyP k)).isSome = true) : Shw X.prog X.w s.heap u (keyP k) := by
  obtain ⟨p, hp⟩ := Option.isSome_iff_exists.mp e
  have e1 := (small_eq hp).1
  rw [← e1]
  cases k with
  | inl i =>
    cases u <;> first | (cases r; done) | skip
    rename_i j t
    have : j = i := by simpa [keyIs, Value.isInt] using r
    subst this
    exact shw_int ⟨t, rfl⟩ hp
  | inr x =>
    cases u <;> first | (cases r; done) | skip
    rename_i y t
    have : y = x := by simpa [keyIs, Value.isStrOf] using r
    subst this
    exact shw_str ⟨t, rfl⟩ hp
theorem shw_kv (f : D → Option PyData) (hf : ∀ d v u p, RD (gd X) ρ H d v → RelV v u → f d = some p → Shw X.prog X.w s.heap u p) : ∀ {l : List (Key × D)} {ws : List (Key × V)} {rs : List (Key × Value)} {es : List DictEntry} {ps : List (PyData × PyData)},
    RP (gd X) ρ H l ws → KV ws rs → Pairs (mixKind X.prog X.w) es rs → kvO f l = some ps → ps.all (fun p => (small p.1).isSome) = true → ShwAll X.prog X.w s.heap (es.map (·.key)) (ps.map (·.1)) ∧ ShwAll X.prog X.w s.heap (es.map (·.val)) (ps.map (·.2))
  | [], ws, rs, es, ps, q, r, t, e, z => by
    have q' : ws = [] := q
    subst q'
    cases r
    cases t
    cases e
    exact ⟨.nil, .nil⟩
  | (k, d) :: l, ws, rs, es, ps, q, r, t, e, z => by
    obtain ⟨v, ws', e1, q1, q2⟩ := q
    subst e1
    cases r with
    | cons r1 r2 =>
      cases t with
      | cons t1 t2 t3 =>
        unfold kvO at e
        split at e
        · rename_i p hp
          split at e
          · rename_i ps' hps
            cases e
            rw [List.all_cons, Bool.and_eq_true] at z
            obtain ⟨i1, i2⟩ := shw_kv f hf q2 r2 t3 hps z.2
            obtain ⟨r3, r4⟩ := r1
            have r3' : k = _ := r3
            refine ⟨.cons (shw_key (by rw [r3']; exact t1) z.1) i1, .cons ?_ i2⟩
            have q3 := hf _ _ _ _ q1 r4 hp
            rw [← t2] at q3
            exact q3
          · cases e
        · cases e
theorem shw_of (I : Inv X pins σ H s) (hh : RH (gd X) ρ H h) : ∀ (n : Nat) (d : D) (v : V) (u : Value) (p : PyData), RD (gd X) ρ H d v → RelV v u → toP h n d = some p → Shw X.prog X.w s.heap u p
  | 0, _, _, _, _, _, _, e => by cases e
  | n + 1, d, v, u, p, r, ru, e => by
    have ih := shw_of I hh n
    cases d with
    | non =>
      cases e
      unfold RD at r
      subst r
      obtain rfl : u = Value.none := ru
      exact shw_leaf .none (by simp only [PyData.shown]; exact ReprIs.none) (by decide +kernel)
    | bl b =>
      cases e
      unfold RD at r
      subst r
      obtain rfl : u = Value.bool b := ru
      exact shw_leaf (.bool b) (by simp only [PyData.shown]; exact ReprIs.bool b) (by cases b <;> decide +kernel)
    | int i => rw [RD_int r] at ru; exact shw_int ru e
    | str x => rw [RD_str r] at ru; exact shw_str ru e
    | ty _ => cases e
    | glb _ => cases e
    | tup l =>
      unfold toP at e
      split at e
      · rename_i ps hps
        obtain ⟨e1, e2, e3, _⟩ := small_eq e
        subst e1
        obtain ⟨a, vs, ev, sq, rs⟩ := RD_tup r
        subst ev
        obtain rfl : u = Value.ref a := ru
        obtain ⟨its, rv, ⟨o, ho, hc, m, hd⟩, _⟩ := I.tuple sq
        exact shw_tup ho hc hd (shw_all _ ih rs rv hps) (line_of e3)
      · cases e
    | ref k =>
      obtain ⟨a, ea, ev⟩ := RD_ref r
      subst ev
      obtain rfl : u = Value.ref a := ru
      unfold toP at e
      split at e
      · rename_i l hl
        split at e
        · rename_i ps hps
          obtain ⟨e1, e2, e3, _⟩ := small_eq e
          subst e1
          obtain ⟨vs, e4, rs⟩ := hh.obj k _ a hl ea
          obtain ⟨z, its, m, rv, _, ho⟩ := I.lstM e4
          exact shw_list ho rfl rfl (shw_all _ ih rs rv hps) (line_of e3)
        · cases e
      · rename_i kvs hl
        split at e
        · rename_i ps hps
          split at e
          · rename_i hk
            obtain ⟨e1, e2, e3, _⟩ := small_eq e
            subst e1
            obtain ⟨ws, e4, rp⟩ := hh.obj k _ a hl ea
            obtain ⟨_, hsys, rs, rk, o, es, ep, ho, hx, hd, _, hp, _⟩ := dk_of I.hok e4
            obtain ⟨i1, i2⟩ := shw_kv _ ih rp rk hp hps hk
            exact shw_dict ho hx.1 hd hsys i1 i2 (line_of e3)
          · cases e
        · cases e
      · cases e
end
def reprF : D → MH → R D := fun x h => match x with
  | .ref n => (match h[n]? with
    | some (.lst (d :: l)) => (match toP h 12 x with
      | some p => .ok (.str p.shown) h
      | none => .bad)
    | _ => .bad)
  | _ => .bad
def rRp (g : Gd) : List V → Hp → VK → Prop := fun xs H Q => ∃ ρ h n d l p a, RH g ρ H h ∧ xs = [.ref a] ∧ ρ[n]? = some a ∧ h[n]? = some (.lst (d :: l)) ∧ toP h 12 (.ref n) = some p ∧ Q (.str p.shown) H
section
variable {X : Cx} {W : Wx} {a : Expr} {m : EM} {p pos : Pos}
theorem call_reprM (hg : X.A.guards = some []) (hu : X.A.units + 64 < cLine) : CallR X (.builtin "repr") (rRp (gd X)) := by
  intro pins s σ H xs us Q I r h
  obtain ⟨ρ, h, n, d, l, p, a, hh, rfl, ea, hl, hp, q⟩ := h
  obtain ⟨u, rfl, ru⟩ := vals1 r
  obtain rfl : u = Value.ref a := ru
  unfold toP at hp
  simp only [hl] at hp
  split at hp
  · rename_i ps hps
    obtain ⟨e1, e2, e3, e4⟩ := small_eq hp
    subst e1
    obtain ⟨vs, ev, rs⟩ := hh.obj n _ a hl ea
    obtain ⟨z, its, k, rv, _, ho⟩ := I.lstM ev
    have sa := shw_all _ (shw_of I hh 11) rs rv hps
    obtain ⟨x1, r1⟩ := sa.rd
    obtain ⟨bs, mm, rk⟩ := sa.rp
    have rd : Reads s.heap (.ref a) (.list ps) (a :: x1) := .list ho rfl rfl (by simpa using r1)
    have hna : a ∉ bs := not_mem_of_deeper rd (by simp only [PyData.depth]; omega) mm
    simp only [PyData.depth] at e4
    cases its with
    | nil =>
      cases rv
      have := rs.length
      simp at this
    | cons y ys =>
      refine call_repr_slot (by omega) ⟨_, ho, rfl⟩ F.slot_list_repr.toG (call_list_reprK ho rfl rfl hna (by simpa using rk.length_eq) (fun i y e => rk.item i y (by simpa using e)) hg (fun b _ => Clear.nil b) (by show X.A.units + 1 + _ < cLine; omega) (fun _ _ e => e) (fun h' u tk hk => ⟨_, _, rfl, ?_⟩) (by simpa only [PyData.shown] using line_of e3))
      simp only [PyData.shown] at q
      exact ⟨V.str (listText (PyData.shownAll ps)), H, I.kept (t' := tk) hk, ⟨u, rfl⟩, q⟩
  · cases hp
theorem e_repr (hgd : X.A.guards = some []) (hu : X.A.units + 64 < cLine) (hg : Gl X "repr") (hm : X.mg "repr" = none) (ha : PE X a (tE (gd X) W m)) (hs : starEach [a] X.env = (false, eval a X.env) :: starEach [] X.env := by rfl) :
    PE X (.Call (.Name "repr" p) [a] [] pos) (tE (gd X) W (un reprF m)) :=
  PE_of (pe_callB (call_reprM hgd hu) hg hm (by decide +kernel) (pa_cons ha pa_nil hs) (by decide) (by decide) hs rfl) fun σ H Q q => by
    refine one q fun ρ e H h x vx s hh rx p => ?_
    unfold reprF at p
    split at p
    · rename_i n
      obtain ⟨a, e1, e2⟩ := RD_ref rx
      split at p
      · rename_i d l hl
        split at p
        · rename_i pd hp
          subst e2
          exact ⟨ρ, h, n, d, l, pd, a, hh, rfl, e1, hl, hp, p.okk hh .strN⟩
        · exact p.elim
      · exact p.elim
    · exact p.elim
end
end ML

/-! ML 16: the law's own def, run where no repr is under way -/
namespace ML
open PySem PySem.Spec PyProof.Rows L2

section
variable {P : Program} {w : World} {K : PySem.W.Frag} {mg : Str → Option Value} {base : Heap}
/-- one call of a def, at one place of the stack -/
theorem fn_run {x qual : Str} {st : Stmt} {f : Addr} {fd : FuncData} {N ps : List Str} {k : Nat} {A : Around} {outer : List PySem.Env} {s : Shared} {H : Hp} {args : Args} {us : List Value} {vs : List V} {Q : VK} {E : XK} {t : TS} (F : Fun K x qual st f fd) (S : FnScope N ps (defScope st))
    (hr : Room (k + 1) A) (e0 : Env0 P w K mg base A outer s H) (hb : BindsTo s fd args (ps.zip us)) (r : Vals vs us) (hl : vs.length = ps.length)
    (ht : ∀ cdv, Room k (A.deeper (envOfC qual (defScope st) s.heap.objs.size f cdv)) → PSs (cxOf (L2.CX P w) P w K mg base N qual (defScope st) f cdv A outer s H E) (defBody st) t) (q : t { nx := fun _ H' => Q .non H', rt := Q } (start N vs) H) :
    codeAny (model P w) A (.call (.ref f) args) (CR (L2.CX P w) outer P w H s Q E) s := by
  obtain ⟨oc, od, kV, doc, pm, an, cdv, ct, osl, rfl, lk, hcd⟩ := F.ex
  have stay := fun b o (e : base.get? b = some o) => (e0.bs b o e).1
  have KX : K.In s.heap := e0.mod.kin.keeps stay
  refine codeAny_call_function hr.depth (KX _ _ lk) rfl S.co S.gen rfl (PySem.W.codeRec_of KX hcd) (hb _ _ _ _ (wpAny_newFunctionEnv_cells S.kind (fun y hy => ?_) fun env he s1 i => ?_))
  · obtain ⟨n, v⟩ := y
    exact (S.par n (List.of_mem_zip hy).1).imp id fun z => ⟨z, PySem.W.cellsFrom_some _ _ _ (.inl z)⟩
  · subst he
    have I : Inv (cxOf (L2.CX P w) P w K mg base N qual (defScope st) f cdv A outer s H E) [] (start N vs) H s1 := inv_start S hr.hd e0 hl r i
    refine ⟨(e0.mod.nolimit.keeps stay).keeps i.toInCall.keep, codeAny_func (wpAny_mono ((ht cdv (hr.deeper _)).run [] s1 (start N vs) H _ I q) (fun fl s' hs => ?_) fun _ _ hs => hs)⟩
    cases fl with
    | ret u =>
      obtain ⟨v, _, H', J, rv, hq⟩ := hs
      exact ⟨v, H', J.os, J.bare, J.base, J.hok, rv, hq⟩
    | next =>
      obtain ⟨_, H', J, hq⟩ := hs
      exact ⟨V.non, H', J.os, J.bare, J.base, J.hok, rfl, hq⟩
    | brk =>
      obtain ⟨_, _, _, z⟩ := hs
      exact z.elim
    | cont =>
      obtain ⟨_, _, _, z⟩ := hs
      exact z.elim
/-- the tracked heap ahead of the law: the script alone, where the written part does not hold it -/
def scH (o : Option Obj) (a : Addr) (vs : List Value) (ns : List Int) : Hp := match o with
  | some _ => fun _ => none
  | none => fun b => if b = a then some (.frz { cls := .type "list", data := .seq vs.toArray } (.lst (ns.map V.int))) else none
/-- the call of the law, from what its body does at the caller's own place -/
theorem law_top {mb : Str → Option Value} {fa a : Addr} {s₁ : Shared} {vs : List Value} {ns : List Int} (KX : K.In s₁.heap) (hns : s₁.heap.Ns mainGlobals mg) (hb : s₁.heap.Ns builtinsNs mb) (hbb : ∀ x : Str, x ≠ "__name__" → mb x = bootBuiltins x) (hlim : s₁.heap.NoLimit)
    (hg : s₁.gens = #[]) (ha : s₁.heap.get? a = some { cls := .type "list", data := .seq vs.toArray }) (hi : IntsAre vs ns) (hl : ns.length ≤ sizeLine)
    (go : ∀ (base : Heap) (H : Hp), Env0 P w K mg base callerA [] s₁ H → RdL K H a (ns.map V.int) → codeAny (model P w) callerA (.call (.ref fa) ⟨[.ref a], []⟩) (CR (L2.CX P w) [] P w H s₁ (fun v _ => v = .bl true) fun _ _ _ => False) s₁) :
    codeAny (model P w) callerA (.call (.ref fa) ⟨[.ref a], []⟩) (fun r s' => r = .ok (.ret (.bool true)) ∧ OldK s₁.heap s'.heap ∧ s'.os = s₁.os ∧ AllBare s'.gens) s₁ := by
  have rv := vals_ints hi
  -- what is tracked: nothing, or the script that nobody writes
  have only : ∀ {b : Addr} {u : HO}, scH (K.lookup a) a vs ns b = some u → b = a ∧ K.lookup a = none ∧ u = .frz { cls := .type "list", data := .seq vs.toArray } (.lst (ns.map V.int)) := fun {b u} z => by
    cases hk : K.lookup a with
    | some o =>
      rw [hk] at z
      cases (show (none : Option HO) = some u from z)
    | none =>
      rw [hk] at z
      have z' : (if b = a then some (HO.frz { cls := .type "list", data := .seq vs.toArray } (.lst (ns.map V.int))) else none) = some u := z
      by_cases hb : b = a
      · rw [if_pos hb] at z'
        cases z'
        exact ⟨hb, rfl, rfl⟩
      · rw [if_neg hb] at z'
        cases z'
  have hS : RdL K (scH (K.lookup a) a vs ns) a (ns.map V.int) := by
    cases hk : K.lookup a with
    | none => exact .inl ⟨_, if_pos rfl⟩
    | some o =>
      have e := KX a o hk
      rw [ha] at e
      cases e
      exact .inr ⟨_, vs.toArray, _, hk, rfl, rfl, rfl, by rw [List.size_toArray, hi.length]; exact hl, by simpa using rv⟩
  have free : ∀ {b : Addr} {o : Obj}, s₁.heap.get? b = some o → (b = a → K.lookup a ≠ none ∨ False) → scH (K.lookup a) a vs ns b = none := fun {b o} e hn => by
    cases q : scH (K.lookup a) a vs ns b with
    | none => rfl
    | some u =>
      obtain ⟨h1, h2, _⟩ := only q
      rcases hn h1 with h | h
      · exact absurd h2 h
      · exact h.elim
  have dict : ∀ {b : Addr} {m : Str → Option Value}, s₁.heap.Ns b m → (hidT s₁.heap (scH (K.lookup a) a vs ns)).Ns b m := fun {b m} ⟨o, es, ep, e, d, r⟩ =>
    ⟨o, es, ep, hidT_get e (free e fun hb => by
      subst hb
      rw [ha] at e
      cases e
      cases d), d, r⟩
  have hK : K.In (hidT s₁.heap (scH (K.lookup a) a vs ns)) := fun b o e => hidT_get (KX b o e) (free (KX b o e) fun hb => .inl (by subst hb; rw [e]; simp))
  have hok : HOk P w (scH (K.lookup a) a vs ns) s₁.heap := fun b u q => by
    obtain ⟨h1, _, h3⟩ := only q
    subst h1 h3
    exact ⟨ha, by rw [List.length_map]; exact hl, vs, _, rv, ha⟩
  obtain ⟨mc, l1, l2⟩ := hlim
  have e0 : Env0 P w K mg (hidT s₁.heap (scH (K.lookup a) a vs ns)) callerA [] s₁ (scH (K.lookup a) a vs ns) :=
    ⟨rfl, ⟨hK, dict hns, ⟨mb, dict hb, hbb⟩, ⟨mc, dict l1, l2⟩⟩, fun b o e => of_hidT e, Nat.le_of_eq (hidT_size _ _), trivial, fun b z => absurd (show b ∈ ([] : List Addr) from z) (by simp), hok, .of_eq hg⟩
  refine codeAny_mono (go _ _ e0 hS) fun r s' h => ?_
  cases r with
  | error e => exact (cx_no h).elim
  | ok fl =>
    cases fl with
    | next => exact False.elim h
    | brk => exact False.elim h
    | cont => exact False.elim h
    | ret u =>
      obtain ⟨v, H', os, bare, un, hok', r', q⟩ := h
      have q' : v = .bl true := q
      subst q'
      obtain rfl : u = Value.bool true := r'
      refine ⟨rfl, OldK.of_keep fun b o e => ?_, os, bare⟩
      cases z : scH (K.lookup a) a vs ns b with
      | none => exact un.keep b o e z (by intro y; exact absurd (show b ∈ ([] : List Addr) from y) (by simp)) (by simp)
      | some u =>
        obtain ⟨h1, _, h3⟩ := only z
        subst h3
        obtain ⟨e1, _⟩ := hok b _ z
        obtain ⟨e2, _⟩ := hok' b _ (un.frzs b _ _ z)
        rw [e] at e1
        cases e1
        exact e2
end
end ML

/-! ML 17: the head of a law: classes of the written part, the law from its mirror -/
namespace ML
open PySem PySem.Spec PyProof.Rows L2

/-! ### error classes -/
def xcB (K : PySem.W.Frag) (C fI : Addr) (f : Str) : Bool :=
  decide (PySem.W.findIn K (.ref C) "__setattr__" = some (some (.builtin "object.__setattr__"))) && (decide (PySem.W.subIn K (.ref C) (.type "BaseException") = some true) && (decide (PySem.W.typeIn K (.ref C) = some (.type "type")) && (PySem.W.keepIn K (.ref C) &&
  (decide (PySem.W.findIn K (.ref C) "__init__" = some (some (.ref fI))) && (decide (PySem.W.typeIn K (.ref fI) = some (.type "function")) && (decide (PySem.W.findIn K (.ref C) f = some none) && (xfB K C && ((PySem.W.clsIn K C).isSome &&
  (decide (PySem.W.findIn K (.ref C) "__class__" = some (some (.builtin "object.__class__"))) && (decide (PySem.W.specialIn K (.builtin "object.__class__") "__get__" = some (some (.builtin "getset_descriptor.__get__"))) &&
  (decide (PySem.W.takesIn K (.builtin "object.__class__") = some true) && decide (PySem.W.mroIn K C (.type "object") = some true))))))))))))
structure XcB (K : PySem.W.Frag) (C fI : Addr) (f : Str) : Prop where
  sa : PySem.W.findIn K (.ref C) "__setattr__" = some (some (.builtin "object.__setattr__"))
  exC : PySem.W.subIn K (.ref C) (.type "BaseException") = some true
  tyC : PySem.W.typeIn K (.ref C) = some (.type "type")
  kC : PySem.W.keepIn K (.ref C) = true
  iC : PySem.W.findIn K (.ref C) "__init__" = some (some (.ref fI))
  tI : PySem.W.typeIn K (.ref fI) = some (.type "function")
  no : PySem.W.findIn K (.ref C) f = some none
  xf : XfC K C
  is : IsC K C
theorem xcB_ok {K : PySem.W.Frag} {C fI : Addr} {f : Str} (h : xcB K C fI f = true) : XcB K C fI f := by
  unfold xcB at h
  simp only [Bool.and_eq_true, decide_eq_true_eq] at h
  obtain ⟨h1, h2, h3, h4, h5, h6, h7, h8, h9, h10, h11, h12, h13⟩ := h
  have x := xfB_ok h8
  exact ⟨h1, h2, h3, h4, h5, h6, h7, x, ⟨h9, x.ga, x.gg, h2, h10, h11, h12, h13⟩⟩
section
variable {P : Program} {w : World} {K : PySem.W.Frag} {mg : Str → Option Value} {base : Heap}
/-- the class object of such a class -/
def XcO (K : PySem.W.Frag) (C : Addr) : Prop := ∃ nm q N bs bm sn sub ab col dd k0 k1 k2 k3 k5, K.lookup C = some (excClassObj nm q C N bs bm true sn sub ab col dd k0 k1 k2 k3 k5 "ValueError.__new__") ∧ PySem.HandSPX.refsVE bm = true
theorem xco_mk {C N : Addr} {nm q : Str} {bs bm sub : List Value} {sn : List Str} {ab : Bool} {col : Option Bool} {dd : Option Addr} {k0 k1 k2 k3 k5 : Option Value} (h1 : K.lookup C = some (excClassObj nm q C N bs bm true sn sub ab col dd k0 k1 k2 k3 k5 "ValueError.__new__"))
    (h2 : PySem.HandSPX.refsVE bm = true) : XcO K C := ⟨nm, q, N, bs, bm, sn, sub, ab, col, dd, k0, k1, k2, k3, k5, h1, h2⟩
theorem fun_ex {x qual : Str} {st : Stmt} {f : Addr} {oc : Value} {od an : Option Addr} {osl : Array (Option Value)} {kV doc pm cdv ct : Value} (l : K.lookup f = some ⟨oc, od, .func (PySem.W.fnOf x qual (defArgs st) (defBody st) (defScope st) .none kV doc pm an cdv ct), osl⟩)
    (c : PySem.W.codeIn K cdv qual = true) (k : PySem.W.keepIn K (.ref f) = true) : ∃ fd, Fun K x qual st f fd := ⟨_, fun_mk l c k⟩
theorem xc_mk {c f qual : Str} {st : Stmt} {C fI : Addr} {fd : FuncData} {p1 p2 p3 p4 : Pos} (hm : mg c = some (.ref C)) (oC : XcO K C) (F : Fun K "__init__" qual st fI fd) (B : XcB K C fI f)
    (Sc : FnScope ["self", f] ["self", f] (defScope st)) (hb : defBody st = [.Assign [.Attribute (.Name "self" p1) f p2] (.Name f p3) p4]) (v1 : Vis (defScope st) ("self" : Str)) (v2 : Vis (defScope st) f) (d1 : (f == ("__debug__" : Str)) = false) (d2 : (f == ("__classdict__" : Str)) = false)
    (bd : ∀ (kV doc pm : Value) (an : Option Addr) (cdv ct : Value) (us : List Value), us.length = 2 → bindArgs (PySem.W.fnOf "__init__" qual (defArgs st) (defBody st) (defScope st) .none kV doc pm an cdv ct) ⟨us, []⟩ = pure (([("self" : Str), f] : List Str).zip us))
    (bk : ∀ (kV doc pm : Value) (an : Option Addr) (cdv ct : Value) (x y : Value), bindArgs (PySem.W.fnOf "__init__" qual (defArgs st) (defBody st) (defScope st) .none kV doc pm an cdv ct) ⟨[x], [(f, y)]⟩ = pure (([("self" : Str), f] : List Str).zip [x, y])) : XcC P w K mg base c f := by
  have T : OexC K C := ⟨oC, B.sa, B.exC, B.tyC, B.kC⟩
  refine ⟨C, fI, _, hm, T, B.iC, B.tI, xi_ok F Sc hb T B.no v1 v2 d1 d2, F.binds bd, fun s x y _ => ?_⟩
  obtain ⟨oc, od, kV, doc, pm, an, cdv, ct, osl, rfl, _, _⟩ := F.ex
  exact .of_eq (bk _ _ _ _ _ _ x y)
/-! ### isinstance among the error classes -/
def kindB (K : PySem.W.Frag) (cs : List (Str × Addr)) (U : Addr) : Bool := cs.all fun p => decide (PySem.W.kitOne K (.ref p.2) (.ref U) = some true) && (decide (PySem.W.kitOne K (.ref p.2) (.type "ValueError") = some true) &&
  cs.all fun q => decide (PySem.W.kitOne K (.ref p.2) (.ref q.2) = some (decide (p.1 = q.1))))
def tabOf (ns : List Str) (g : Str → Bool) : List (Str × Bool) := ns.map fun n => (n, g n)
theorem tabOf_at {ns : List Str} {g : Str → Bool} {c : Str} {r : Bool} (e : (tabOf ns g).lookup c = some r) : c ∈ ns ∧ r = g c := by
  induction ns with
  | nil => cases e
  | cons n ns ih =>
    unfold tabOf at e
    rw [List.map_cons] at e
    unfold List.lookup at e
    split at e
    · rename_i h
      cases e
      have h' : c = n := by simpa using h
      subst h'
      exact ⟨List.mem_cons_self, rfl⟩
    · obtain ⟨a, b⟩ := ih e
      exact ⟨List.mem_cons_of_mem _ a, b⟩
theorem isTab_mk {cs : List (Str × Addr)} {cv : Value} {g : Str → Bool} (hm : ∀ p ∈ cs, mg p.1 = some (.ref p.2)) (hx : ∀ p ∈ cs, IsC K p.2) (hk : ∀ p ∈ cs, PySem.W.kitOne K (.ref p.2) cv = some (g p.1)) : IsTab K mg cv [] [] (tabOf (cs.map (·.1)) g) := by
  refine ⟨fun T r e => (by cases e), fun c r e => (by cases e), fun c r e C hC => ?_⟩
  obtain ⟨h1, h2⟩ := tabOf_at e
  subst h2
  obtain ⟨p, hp, e1⟩ := List.mem_map.mp h1
  subst e1
  have := hm p hp
  rw [hC] at this
  cases this
  exact ⟨hx p hp, hk p hp⟩
theorem kind_U {cs : List (Str × Addr)} {U : Addr} (h : kindB K cs U = true) : ∀ p ∈ cs, PySem.W.kitOne K (.ref p.2) (.ref U) = some true := fun p hp => by
  have := List.all_eq_true.mp h p hp
  simp only [Bool.and_eq_true, decide_eq_true_eq] at this
  exact this.1
theorem kind_V {cs : List (Str × Addr)} {U : Addr} (h : kindB K cs U = true) : ∀ p ∈ cs, PySem.W.kitOne K (.ref p.2) (.type "ValueError") = some true := fun p hp => by
  have := List.all_eq_true.mp h p hp
  simp only [Bool.and_eq_true, decide_eq_true_eq] at this
  exact this.2.1
theorem kind_C {cs : List (Str × Addr)} {U : Addr} (h : kindB K cs U = true) {q : Str × Addr} (hq : q ∈ cs) : ∀ p ∈ cs, PySem.W.kitOne K (.ref p.2) (.ref q.2) = some (decide (p.1 = q.1)) := fun p hp => by
  have := List.all_eq_true.mp h p hp
  simp only [Bool.and_eq_true, decide_eq_true_eq] at this
  exact of_decide_eq_true (List.all_eq_true.mp this.2.2 q hq)
/-- the fields of the error classes -/
theorem fld_mk {cs : List (Str × Addr)} {f : Str} (hm : ∀ p ∈ cs, mg p.1 = some (.ref p.2)) (hx : ∀ p ∈ cs, XfC K p.2 ∧ PySem.W.findIn K (.ref p.2) f = some none) : FldOk K mg [] (cs.map (·.1)) f := by
  refine ⟨fun c h => (by cases h), fun c h C hC => ?_⟩
  obtain ⟨p, hp, e1⟩ := List.mem_map.mp h
  subst e1
  have := hm p hp
  rw [hC] at this
  cases this
  exact hx p hp
def adr (mg : Str → Option Value) (x : Str) : Addr := match mg x with
  | some (.ref a) => a
  | _ => 0
theorem adr_of {x : Str} {a : Addr} (h : mg x = some (.ref a)) : mg x = some (.ref (adr mg x)) := by
  unfold adr
  rw [h]
theorem adr_is {x : Str} {a : Addr} (h : mg x = some (.ref a)) : adr mg x = a := by
  unfold adr
  rw [h]

/-! ### the law, from its mirror -/
def scriptM (ns : List Int) : MH := [.rdl (ns.map .int)]
theorem RDs.ints {g : Gd} {ρ : List Addr} {H : Hp} : ∀ (ns : List Int), RDs g ρ H (ns.map .int) (ns.map V.int)
  | [] => .nil
  | n :: ns => .cons .intN (RDs.ints ns)
theorem law_run {st : Stmt} {fa a : Addr} {fd : FuncData} {N : List Str} {k : Nat} {s : Shared} {H : Hp} {ns : List Int} {b : SM} (F : Fun K "law" "law" st fa fd) (S : FnScope N ["script"] (defScope st)) (hr : Room (k + 1) callerA) (e0 : Env0 P w K mg base callerA [] s H)
    (hb : Binds K fd ["script"] []) (hS : RdL K H a (ns.map V.int))
    (hbody : ∀ cdv, Room k (callerA.deeper (envOfC "law" (defScope st) s.heap.objs.size fa cdv)) → PSs (cxOf (L2.CX P w) P w K mg base N "law" (defScope st) fa cdv callerA [] s H (fun _ _ _ => False)) (defBody st) (tS ⟨K, mg⟩ (fun cls d _ H => (fun _ _ _ => False : XK) cls d H) b))
    (hm : ∃ h', b ([some (.ref 0)] ++ List.replicate (N.length - 1) none) (scriptM ns) = .rt (.bl true) h') : codeAny (model P w) callerA (.call (.ref fa) ⟨[.ref a], []⟩) (CR (L2.CX P w) [] P w H s (fun v _ => v = .bl true) fun _ _ _ => False) s := by
  obtain ⟨h', hm⟩ := hm
  have hh : RH ⟨K, mg⟩ [a] H (scriptM ns) := by
    have one : ∀ {n : Nat} {o : O} {x : Addr}, (scriptM ns)[n]? = some o → ([a] : List Addr)[n]? = some x → o = .rdl (ns.map .int) ∧ x = a := fun {n o x} e1 e2 => by
      cases n with
      | zero => cases e1; cases e2; exact ⟨rfl, rfl⟩
      | succ n => simp at e2
    refine ⟨rfl, fun n o x e1 e2 => ?_, fun n m o o' x e1 e2 m1 m2 e3 e4 => ?_⟩
    · obtain ⟨h1, h2⟩ := one e1 e2
      subst h1 h2
      exact ⟨_, hS, RDs.ints ns⟩
    · obtain ⟨h1, _⟩ := one e1 e3
      subst h1
      cases m1
  have rd : RDs ⟨K, mg⟩ [a] H [D.ref 0] [V.ref a] := .one (by unfold RD; exact ⟨a, rfl, rfl⟩)
  refine fn_run F S hr e0 (hb s [.ref a] (e0.mod.kin.keeps fun b o e => (e0.bs b o e).1) rfl) (us := [.ref a]) (vs := [.ref a]) (.cons rfl .nil) rfl hbody ⟨[a], _, _, RS.start rd, hh, ?_⟩
  show PostS _ _ _ _ (b ([some (.ref 0)] ++ List.replicate (N.length - 1) none) (scriptM ns)) _
  rw [hm]
  intro ρ' v H' l _ r
  exact RD_bl r rfl
end
theorem walk {l : PySem.W.OpenLaw} {q : Program} {loose : List Str} {XP : (Str → Option Value) → Heap → Prop} {YP : World → Heap → Prop} {d : DefRec} {K : Params → PySem.W.Frag} (hn : l.most = some 63) (hdf : d.params.defaults = []) (hY : ∀ (w : World) (h : Heap), YP w h → (K w.params).In h)
    (F : ∀ (w : World) (mg : Str → Option Value) (fa : Addr) (h : Heap), (K w.params).In h → h.Ns mainGlobals mg → mg d.name = some (.ref fa) →
      ∀ (base : Heap) (s : Shared) (H : Hp) (a : Addr) (ns : List Int), ns.length ≤ 63 → (∀ z ∈ ns, Builtin.Int.intBits z ≤ 1048576) → Env0 l.prog w (K w.params) mg base callerA [] s H → RdL (K w.params) H a (ns.map V.int) →
        codeAny (model l.prog w) callerA (.call (.ref fa) ⟨[.ref a], []⟩) (CR (L2.CX l.prog w) [] l.prog w H s (fun v _ => v = .bl true) fun _ _ _ => False) s) :
    PySem.W.WalkO q loose XP YP l.row.toRowW d [] (fun f vs => PySem.call f vs) := by
  refine Att.attach_callB hn hdf fun w s₀ s₁ mg mb fa o pm cd doc a vs ns G Y ho hd hcd hmg hobj hints hlen hbits hg => ?_
  exact law_top (hY w _ Y) G.T.g G.T.b G.T.builtins G.T.nolimit hg hobj hints (Nat.le_trans hlen (by decide)) fun base H e0 hS => F w mg fa _ (hY w _ Y) G.T.g hmg base s₁ H a ns hlen hbits e0 hS
end ML

/-! Mp: running mirrors step by step (no program in sight) -/
namespace ML
open PySem PySem.Spec PyProof.Rows L2
section
variable {α β : Type} {e e1 e2 : Env} {h h1 h2 h3 h4 : MH} {x y z d : D} {xs : List D} {a b c : EM} {as : AM} {t t2 : TM} {m m2 : SM} {i n : Nat} {v : Bool} {r : R D} {s : S}
theorem ev_var (p : e[i]? = some (some d)) : varE i e h = .ok d h := by unfold varE; rw [p]
theorem ev_con : conE d e h = .ok d h := rfl
theorem ev_bin {f : D → D → MH → R D} (p : a e h = .ok x h1) (q : b e h1 = .ok y h2) (k : f x y h2 = r) : bin f a b e h = r := by unfold bin; rw [p]; show R.bind (b e h1) _ = r; rw [q]; exact k
theorem ev_un {f : D → MH → R D} (p : a e h = .ok x h1) (k : f x h1 = r) : un f a e h = r := by unfold un; rw [p]; exact k
theorem ev_nil : nilA e h = .ok [] h := rfl
theorem ev_cons (p : a e h = .ok x h1) (q : as e h1 = .ok xs h2) : consA a as e h = .ok (x :: xs) h2 := by unfold consA; rw [p]; show R.bind (as e h1) _ = _; rw [q]; rfl
theorem ev_on {f : List D → MH → R D} (p : as e h = .ok xs h1) (k : f xs h1 = r) : onA f as e h = r := by unfold onA; rw [p]; exact k
theorem ev_bm {T : String} {f : D → List D → MH → R D} (p : a e h = .ok x h1) (ty : tyD h1 x = some T) (q : as e h1 = .ok xs h2) (k : f x xs h2 = r) : bmE T f a as e h = r := by
  unfold bmE
  rw [p]
  show (if tyD h1 x = some T then (as e h1).bind (fun xs h2 => f x xs h2) else .bad) = r
  rw [if_pos ty, q]
  exact k
theorem ev_val (p : a e h = .ok (.bl v) h1) : valT a e h = .ok v h1 := by unfold valT; rw [p]; rfl
theorem ev_not (p : t e h = .ok v h1) : notT t e h = .ok (!v) h1 := by unfold notT; rw [p]; rfl
theorem ev_andF (p : t e h = .ok false h1) : andT t t2 e h = .ok false h1 := by unfold andT; rw [p]; rfl
theorem ev_andT (p : t e h = .ok true h1) (q : t2 e h1 = .ok v h2) : andT t t2 e h = .ok v h2 := by unfold andT; rw [p]; exact q
theorem ev_orT (p : t e h = .ok true h1) : orT t t2 e h = .ok true h1 := by unfold orT; rw [p]; rfl
theorem ev_orF (p : t e h = .ok false h1) (q : t2 e h1 = .ok v h2) : orT t t2 e h = .ok v h2 := by unfold orT; rw [p]; exact q
theorem ev_ifT (p : t e h = .ok true h1) (q : a e h1 = r) : ifE t a b e h = r := by unfold ifE; rw [p]; exact q
theorem ev_ifF (p : t e h = .ok false h1) (q : b e h1 = r) : ifE t a b e h = r := by unfold ifE; rw [p]; exact q
/-! statements -/
theorem es_set (p : a e h = .ok d h1) : setS i a e h = .nx (e.set i (some d)) h1 := by unfold setS ofE; rw [p]
theorem es_set' (p : a e h = .ok d h1) (q : e.set i (some d) = e1) : setS i a e h = .nx e1 h1 := by rw [← q]; exact es_set p
theorem es_exp (p : a e h = .ok d h1) : expS a e h = .nx e h1 := by unfold expS ofE; rw [p]
theorem es_ret (p : a e h = .ok d h1) : retS a e h = .rt d h1 := by unfold retS ofE; rw [p]
theorem es_pass : passS e h = .nx e h := rfl
theorem es_seq (p : m e h = .nx e1 h1) (q : m2 e1 h1 = s) : seqS m m2 e h = s := by unfold seqS; rw [p]; exact q
theorem es_seqR (p : m e h = .rt d h1) : seqS m m2 e h = .rt d h1 := by unfold seqS; rw [p]
theorem es_ifT (p : t e h = .ok true h1) (q : m e h1 = s) : ifS t m m2 e h = s := by unfold ifS ofT; rw [p]; exact q
theorem es_ifF (p : t e h = .ok false h1) (q : m2 e h1 = s) : ifS t m m2 e h = s := by unfold ifS ofT; rw [p]; exact q
theorem es_setX (p : c e h = .ok z h1) (q : a e h1 = .ok x h2) (k : b e h2 = .ok y h3) (w : stF x y z h3 = some h4) : setX a b c e h = .nx e h4 := by
  unfold setX ofE
  rw [p]
  dsimp only
  rw [q]
  dsimp only
  rw [k]
  dsimp only
  rw [w]
theorem es_par2 {j : Nat} (p : as e h = .ok [x, y] h1) : parS [i, j] as e h = .nx ((e.set i (some x)).set j (some y)) h1 := by unfold parS ofA; rw [p]; rfl
theorem ef_rt {np n : Nat} {ds : List D} {b : SM} (hl : ds.length = np) (p : b (ds.map some ++ List.replicate (n - ds.length) none) h = .rt d h1) : fnM np n b ds h = .ok d h1 := by unfold fnM; rw [if_pos hl, p]
/-! numbers -/
variable {l : List D} {k j : Int}
theorem set_get {k : Nat} {o o' : O} (e : h[k]? = some o) : (h.set k o')[k]? = some o' := by
  rw [List.getElem?_set_self (List.getElem?_eq_some_iff.mp e).1]
theorem ix0 {x : D} {r : List D} (e : h[n]? = some (.lst (x :: r))) : ixF (.ref n) (.int 0) h = .ok x h := by
  simp [ixF, seqOf, e, atI, ixN]
theorem ix1 {x y : D} {r : List D} (e : h[n]? = some (.lst (x :: y :: r))) : ixF (.ref n) (.int 1) h = .ok y h := by
  have : (1 : Int) < (r.length : Int) + 1 + 1 := by omega
  simp [ixF, seqOf, e, atI, ixN, this]
theorem int_i : intF [.int k] h = .ok (.int k) h := rfl
theorem add_i : addF (.int k) (.int j) h = .ok (.int (k + j)) h := rfl
theorem sub_i : subF (.int k) (.int j) h = .ok (.int (k - j)) h := rfl
theorem mod_i (p : 0 < j) : modF (.int k) (.int j) h = .ok (.int (k % j)) h := by unfold modF; dsimp only; rw [if_pos p]
theorem div_i (p : 0 < j) (q : j.natAbs.log2 < 9000) : fdivF (.int k) (.int j) h = .ok (.int (k / j)) h := by unfold fdivF; dsimp only; rw [if_pos ⟨p, q⟩]
theorem mul_i (p : k.natAbs.log2 + j.natAbs.log2 < 100000000) : mulF (.int k) (.int j) h = .ok (.int (k * j)) h := by unfold mulF; dsimp only; rw [if_pos p]
theorem pow_i (p : 0 ≤ j) (q : ((k.natAbs.log2 + 1 : Nat) : Int) * j ≤ 2 ^ 27) : powF (.int k) (.int j) h = .ok (.int (k ^ j.toNat)) h := by unfold powF; dsimp only; rw [if_pos ⟨p, q⟩]
theorem ge_T (p : j ≤ k) : geF (.int k) (.int j) h = .ok (.bl true) h := by unfold geF ordF; dsimp only; rw [decide_eq_true p]
theorem ge_F (p : ¬ j ≤ k) : geF (.int k) (.int j) h = .ok (.bl false) h := by unfold geF ordF; dsimp only; rw [decide_eq_false p]
theorem lt_T (p : k < j) : ltF (.int k) (.int j) h = .ok (.bl true) h := by unfold ltF ordF; dsimp only; rw [decide_eq_true p]
theorem lt_F (p : ¬ k < j) : ltF (.int k) (.int j) h = .ok (.bl false) h := by unfold ltF ordF; dsimp only; rw [decide_eq_false p]
theorem log_lt {k : Nat} {z : Int} (hk : 0 < k) (p : z.natAbs < 2 ^ k) : z.natAbs.log2 < k := by
  rcases Nat.eq_zero_or_pos z.natAbs with e | e
  · rw [e]; simpa using hk
  · exact (Nat.log2_lt (by omega)).mpr p
theorem st0 {a b v : D} (e : h[n]? = some (.lst [a, b])) : stF (.ref n) (.int 0) v h = some (h.set n (.lst [v, b])) := by simp [stF, e, ixN]
theorem st1 {a b v : D} (e : h[n]? = some (.lst [a, b])) : stF (.ref n) (.int 1) v h = some (h.set n (.lst [a, v])) := by simp [stF, e, ixN]
theorem lst_new (hl : xs.length ≤ 1000000) : lstF xs h = .ok (.ref h.length) (h ++ [.lst xs]) := by unfold lstF; rw [if_pos hl]
theorem tup_new (hl : xs.length ≤ 1000000) : tupF xs h = .ok (.tup xs) h := by unfold tupF; rw [if_pos hl]
/-! walks -/
theorem loop_nil {srcs : List (Nat × List D)} {g : GM} (ok : IT.ok h srcs = true) : loopS srcs g m [] e h = .nx e h := by unfold loopS; rw [if_pos ok]
theorem loop_cons {srcs : List (Nat × List D)} {g : GM} (ok : IT.ok h srcs = true) (p : g d e h = some e1) (q : m e1 h = .nx e2 h2) : loopS srcs g m (d :: xs) e h = loopS srcs g m xs e2 h2 := by
  rw [loopS, if_pos ok, p]
  dsimp only
  rw [q]
theorem es_for {it : IM} {g : GM} {I : IT} (p : it e h = .ok I h1) (q : loopS I.srcs g m I.items e h1 = s) : forS it g m e h = s := by unfold forS; rw [p]; exact q
theorem ei_rdl {l : List D} (p : a e h = .ok (.ref n) h1) (q : h1[n]? = some (.rdl l)) : seqI a e h = .ok ⟨l, []⟩ h1 := by
  unfold seqI
  rw [p]
  show seqF (.ref n) h1 = _
  unfold seqF
  dsimp only
  rw [q]
theorem ei_lst {l : List D} (p : a e h = .ok (.ref n) h1) (q : h1[n]? = some (.lst l)) : seqI a e h = .ok ⟨l, [(n, l)]⟩ h1 := by
  unfold seqI
  rw [p]
  show seqF (.ref n) h1 = _
  unfold seqF
  dsimp only
  rw [q]
theorem ei_rng {j : Int} (p : as e h = .ok [.int j] h1) (c : -(2 ^ 62) ≤ j ∧ j < 2 ^ 62) : rng1I as e h = .ok ⟨rangeD 0 j.toNat, []⟩ h1 := by
  unfold rng1I
  rw [p]
  show (if -(2 ^ 62) ≤ j ∧ j < 2 ^ 62 then _ else _) = _
  rw [if_pos c]
theorem len_rdl {l : List D} (q : h[n]? = some (.rdl l)) : lenF [.ref n] h = .ok (.int l.length) h := by simp [lenF, seqOf, q]
theorem len_lst {l : List D} (q : h[n]? = some (.lst l)) : lenF [.ref n] h = .ok (.int l.length) h := by simp [lenF, seqOf, q]
theorem len_tup {l : List D} : lenF [.tup l] h = .ok (.int l.length) h := by simp [lenF, seqOf]
theorem ixN_ok {n : Nat} {i : Int} (h0 : 0 ≤ i) (h1 : i < n) : ixN n i = some i.toNat := by unfold ixN; rw [if_pos h0, if_pos h1]
theorem ix_rdl {l : List D} {i : Int} {d : D} (q : h[n]? = some (.rdl l)) (h0 : 0 ≤ i) (h1 : l[i.toNat]? = some d) : ixF (.ref n) (.int i) h = .ok d h := by
  have hl : i.toNat < l.length := (List.getElem?_eq_some_iff.mp h1).1
  have : atI l i = some d := by unfold atI; rw [ixN_ok h0 (by omega)]; exact h1
  simp [ixF, seqOf, q, this]
theorem ix_lst {l : List D} {i : Int} {d : D} (q : h[n]? = some (.lst l)) (h0 : 0 ≤ i) (h1 : l[i.toNat]? = some d) : ixF (.ref n) (.int i) h = .ok d h := by
  have hl : i.toNat < l.length := (List.getElem?_eq_some_iff.mp h1).1
  have : atI l i = some d := by unfold atI; rw [ixN_ok h0 (by omega)]; exact h1
  simp [ixF, seqOf, q, this]
theorem ix_tup {l : List D} {i : Int} {d : D} (h0 : 0 ≤ i) (h1 : l[i.toNat]? = some d) : ixF (.tup l) (.int i) h = .ok d h := by
  have hl : i.toNat < l.length := (List.getElem?_eq_some_iff.mp h1).1
  have : atI l i = some d := by unfold atI; rw [ixN_ok h0 (by omega)]; exact h1
  simp [ixF, seqOf, this]
/-! numbers of any size -/
theorem bits_lt (z : Int) : z.natAbs < 2 ^ (Builtin.Int.intBits z) := by
  unfold Builtin.Int.intBits
  split
  · rename_i hz
    have : z = 0 := by simpa using hz
    subst this
    decide
  · exact Nat.lt_log2_self
theorem log_add {x y : Int} {k : Nat} (hx : x.natAbs < 2 ^ k) (hy : y.natAbs < 2 ^ k) : (x + y).natAbs.log2 ≤ k := by
  have h1 : (x + y).natAbs < 2 ^ (k + 1) := by
    have := Int.natAbs_add_le x y
    rw [Nat.pow_succ]
    omega
  have := log_lt (Nat.succ_pos k) h1
  omega
theorem pow_up {k j : Nat} {x : Nat} (h : x < 2 ^ k) (hk : k ≤ j) : x < 2 ^ j := Nat.lt_of_lt_of_le h (Nat.pow_le_pow_right (by decide) hk)
end
end ML

namespace ML
open PySem PySem.Spec PyProof.Rows L2
abbrev xnames : List Str := ["BadRegisters", "BadLines", "BadLine", "BadContent", "StillAmid", "Unanswered", "BadAnswer", "BadStop", "NoPlace", "BadTrouble", "OtherPlaces", "BadName", "NoFile", "Taken", "TooFar", "BadText", "BadBridge"]
abbrev N_law_source : List Str := ["script", "start", "mixed", "cell", "rest"]
def b_law_source : SM := seqS (setS 2 (bin addF (conE (.int 43)) (varE 1))) (seqS (forS (seqI (varE 0)) (gnm 3) (setS 2 (bin addF (bin modF (onA intF (consA (bin powF (onA intF (consA (bin addF (bin mulF (varE 2) (conE (.int 50021))) (onA intF (consA (varE 3) (nilA)))) (nilA))) (conE (.int 3))) (nilA))) (conE (.int 2147483563))) (conE (.int 1))))) (seqS (setS 4 (conE (.int 0))) (seqS (ifS (andT (valT (bin ltF (varE 1) (onA lenF (consA (varE 0) (nilA))))) (valT (bin geF (bin ixF (varE 0) (varE 1)) (bin powF (conE (.int 10)) (conE (.int 18)))))) (setS 4 (bin subF (bin ixF (varE 0) (varE 1)) (bin powF (conE (.int 10)) (conE (.int 18))))) (passS)) (retS (onA lstF (consA (varE 4) (consA (varE 2) (nilA))))))))
def m_law_source : FM := fnM 2 5 b_law_source
abbrev N_law_draw : List Str := ["source", "span", "found"]
def b_law_draw : SM := seqS (ifS (valT (bin geF (bin ixF (varE 0) (conE (.int 0))) (varE 1))) (seqS (setS 2 (bin modF (onA intF (consA (bin ixF (varE 0) (conE (.int 0))) (nilA))) (varE 1))) (seqS (setX (varE 0) (conE (.int 0)) (bin fdivF (bin ixF (varE 0) (conE (.int 0))) (varE 1))) (retS (varE 2)))) (passS)) (seqS (setX (varE 0) (conE (.int 1)) (bin modF (onA intF (consA (bin addF (bin mulF (bin ixF (varE 0) (conE (.int 1))) (conE (.int 69621))) (conE (.int 3571))) (nilA))) (conE (.int 2147483647)))) (retS (bin modF (onA intF (consA (bin fdivF (bin modF (onA intF (consA (bin powF (onA intF (consA (bin ixF (varE 0) (conE (.int 1))) (nilA))) (conE (.int 5))) (nilA))) (conE (.int 1000000007))) (conE (.int 13))) (nilA))) (varE 1))))
def m_law_draw : FM := fnM 2 3 b_law_draw
abbrev N_law_pick : List Str := ["source", "things"]
def b_law_pick : SM := retS (bin ixF (varE 1) (onA m_law_draw (consA (varE 0) (consA (onA lenF (consA (varE 1) (nilA))) (nilA)))))
def m_law_pick : FM := fnM 2 2 b_law_pick
abbrev N_law_kinds : List Str := ["error", "found"]
def b_law_kinds : SM := seqS (setS 1 (onA lstF (consA (un (isxF [] [] (tabOf xnames fun n => decide (n = "BadRegisters"))) (varE 0)) (consA (un (isxF [] [] (tabOf xnames fun n => decide (n = "BadLines"))) (varE 0)) (consA (un (isxF [] [] (tabOf xnames fun n => decide (n = "BadContent"))) (varE 0)) (nilA)))))) (seqS (setS 1 (bin addF (varE 1) (onA lstF (consA (un (isxF [] [] (tabOf xnames fun n => decide (n = "BadAnswer"))) (varE 0)) (consA (un (isxF [] [] (tabOf xnames fun n => decide (n = "BadStop"))) (varE 0)) (consA (un (isxF [] [] (tabOf xnames fun n => decide (n = "BadTrouble"))) (varE 0)) (nilA))))))) (seqS (setS 1 (bin addF (varE 1) (onA lstF (consA (un (isxF [] [] (tabOf xnames fun n => decide (n = "OtherPlaces"))) (varE 0)) (consA (un (isxF [] [] (tabOf xnames fun n => decide (n = "BadName"))) (varE 0)) (consA (un (isxF [] [] (tabOf xnames fun n => decide (n = "BadBridge"))) (varE 0)) (nilA))))))) (seqS (setS 1 (bin addF (varE 1) (onA lstF (consA (un (isxF [] [] (tabOf xnames fun n => decide (n = "StillAmid"))) (varE 0)) (consA (un (isxF [] [] (tabOf xnames fun n => decide (n = "NoPlace"))) (varE 0)) (consA (un (isxF [] [] (tabOf xnames fun n => decide (n = "NoFile"))) (varE 0)) (nilA))))))) (seqS (setS 1 (bin addF (varE 1) (onA lstF (consA (un (isxF [] [] (tabOf xnames fun n => decide (n = "Taken"))) (varE 0)) (consA (un (isxF [] [] (tabOf xnames fun n => decide (n = "BadLine"))) (varE 0)) (consA (un (isxF [] [] (tabOf xnames fun n => decide (n = "Unanswered"))) (varE 0)) (nilA))))))) (retS (bin addF (varE 1) (onA lstF (consA (un (isxF [] [] (tabOf xnames fun n => decide (n = "TooFar"))) (varE 0)) (consA (un (isxF [] [] (tabOf xnames fun n => decide (n = "BadText"))) (varE 0)) (nilA))))))))))
def m_law_kinds : FM := fnM 1 2 b_law_kinds
abbrev N_law_by_place : List Str := ["thing", "word", "many", "found"]
def b_law_by_place : SM := seqS (setS 3 (onA lstF (consA (onA (mkXF "BadRegisters" "value") (consA (varE 0) (nilA))) (consA (onA (mkXF "BadLines" "value") (consA (varE 0) (nilA))) (consA (onA (mkXF "BadContent" "value") (consA (varE 0) (nilA))) (consA (onA (mkXF "BadAnswer" "value") (consA (varE 0) (nilA))) (consA (onA (mkXF "BadStop" "value") (consA (varE 0) (nilA))) (nilA)))))))) (seqS (setS 3 (bin addF (varE 3) (onA lstF (consA (onA (mkXF "BadTrouble" "value") (consA (varE 0) (nilA))) (consA (onA (mkXF "OtherPlaces" "value") (consA (onA tupF (consA (varE 1) (nilA))) (nilA))) (consA (onA (mkXF "BadName" "value") (consA (varE 0) (nilA))) (consA (onA (mkXF "BadBridge" "value") (consA (varE 0) (nilA))) (nilA)))))))) (seqS (setS 3 (bin addF (varE 3) (onA lstF (consA (onA (mkXF "StillAmid" "content") (consA (varE 1) (nilA))) (consA (onA (mkXF "NoPlace" "place") (consA (varE 0) (nilA))) (nilA)))))) (retS (bin addF (varE 3) (onA lstF (consA (onA (mkXF "NoFile" "name") (consA (varE 0) (nilA))) (consA (onA (mkXF "Taken" "name") (consA (varE 1) (nilA))) (consA (onA (mkXF "BadLine" "position") (consA (varE 2) (nilA))) (consA (onA (mkXF "Unanswered" "position") (consA (varE 2) (nilA))) (consA (onA (mkXF "TooFar" "count") (consA (varE 2) (nilA))) (consA (onA (mkXF "BadText" "line") (consA (varE 2) (nilA))) (nilA))))))))))))
def m_law_by_place : FM := fnM 3 4 b_law_by_place
abbrev N_law_by_name : List Str := ["thing", "word", "many", "found"]
def b_law_by_name : SM := seqS (setS 3 (onA lstF (consA (onA (mkXF "BadRegisters" "value") (consA (varE 0) (nilA))) (consA (onA (mkXF "BadLines" "value") (consA (varE 0) (nilA))) (consA (onA (mkXF "BadContent" "value") (consA (varE 0) (nilA))) (consA (onA (mkXF "BadAnswer" "value") (consA (varE 0) (nilA))) (nilA))))))) (seqS (setS 3 (bin addF (varE 3) (onA lstF (consA (onA (mkXF "BadStop" "value") (consA (varE 0) (nilA))) (consA (onA (mkXF "BadTrouble" "value") (consA (varE 0) (nilA))) (consA (onA (mkXF "OtherPlaces" "value") (consA (onA tupF (consA (varE 1) (nilA))) (nilA))) (consA (onA (mkXF "BadName" "value") (consA (varE 0) (nilA))) (nilA)))))))) (seqS (setS 3 (bin addF (varE 3) (onA lstF (consA (onA (mkXF "BadBridge" "value") (consA (varE 0) (nilA))) (consA (onA (mkXF "StillAmid" "content") (consA (varE 1) (nilA))) (consA (onA (mkXF "NoPlace" "place") (consA (varE 0) (nilA))) (consA (onA (mkXF "NoFile" "name") (consA (varE 0) (nilA))) (nilA)))))))) (seqS (expS (bmE "list" appF (varE 3) (consA (onA (mkXF "Taken" "name") (consA (varE 1) (nilA))) (nilA)))) (retS (bin addF (varE 3) (onA lstF (consA (onA (mkXF "BadLine" "position") (consA (varE 2) (nilA))) (consA (onA (mkXF "Unanswered" "position") (consA (varE 2) (nilA))) (consA (onA (mkXF "TooFar" "count") (consA (varE 2) (nilA))) (consA (onA (mkXF "BadText" "line") (consA (varE 2) (nilA))) (nilA)))))))))))
def m_law_by_name : FM := fnM 3 4 b_law_by_name
abbrev N_law_stored : List Str := ["errors", "found", "error"]
def b_law_stored : SM := seqS (setS 1 (bin addF (lcE [2] (seqI (slE (varE 0) (noO) (someO (conE (.int 9))))) (gnm 2) (yesT) (un (fldF [] ["BadRegisters", "BadLines", "BadContent", "BadAnswer", "BadStop", "BadTrouble", "OtherPlaces", "BadName", "BadBridge"] "value") (varE 2))) (onA lstF (consA (un (fldF [] ["StillAmid"] "content") (bin ixF (varE 0) (conE (.int 9)))) (consA (un (fldF [] ["NoPlace"] "place") (bin ixF (varE 0) (conE (.int 10)))) (consA (un (fldF [] ["NoFile", "Taken"] "name") (bin ixF (varE 0) (conE (.int 11)))) (nilA))))))) (retS (bin addF (varE 1) (onA lstF (consA (un (fldF [] ["NoFile", "Taken"] "name") (bin ixF (varE 0) (conE (.int 12)))) (consA (un (fldF [] ["BadLine", "Unanswered"] "position") (bin ixF (varE 0) (conE (.int 13)))) (consA (un (fldF [] ["BadLine", "Unanswered"] "position") (bin ixF (varE 0) (conE (.int 14)))) (consA (un (fldF [] ["TooFar"] "count") (bin ixF (varE 0) (conE (.int 15)))) (consA (un (fldF [] ["BadText"] "line") (bin ixF (varE 0) (conE (.int 16)))) (nilA)))))))))
def m_law_stored : FM := fnM 1 3 b_law_stored
abbrev N_law : List Str := ["script", "start", "source", "word", "errors", "thing", "many", "due", "at", "error", "spot"]
def b_law : SM := seqS (forS (rng1I (consA (onA max2F (consA (conE (.int 1)) (consA (onA min2F (consA (conE (.int 4)) (consA (onA lenF (consA (varE 0) (nilA))) (nilA)))) (nilA)))) (nilA))) (gnm 1) (seqS (setS 2 (onA m_law_source (consA (varE 0) (consA (varE 1) (nilA))))) (seqS (parS [5, 6] (consA (onA m_law_pick (consA (varE 2) (consA (onA lstF (consA (onA lstF (consA (conE (.int 5)) (nilA))) (consA (onA lstF (consA (conE (.str "a")) (consA (conE .non) (nilA)))) (consA (onA lstF (consA (onA lstF (nilA)) (nilA))) (consA (dctE [(conE (.str "a"), conE (.int 1))]) (nilA)))))) (nilA)))) (consA (onA m_law_draw (consA (varE 2) (consA (conE (.int 60)) (nilA)))) (nilA)))) (seqS (setS 3 (onA m_law_pick (consA (varE 2) (consA (onA lstF (consA (conE (.str "beside")) (consA (conE (.str "elder")) (consA (conE (.str "a")) (consA (conE (.str "conf")) (nilA)))))) (nilA))))) (forS (seqI (onA lstF (consA (onA m_law_by_place (consA (varE 5) (consA (varE 3) (consA (varE 6) (nilA))))) (consA (onA m_law_by_name (consA (varE 5) (consA (varE 3) (consA (varE 6) (nilA))))) (nilA))))) (gnm 4) (seqS (forS (enumI (consA (varE 4) (nilA))) (gtp [gnm 8, gnm 9]) (seqS (ifS (orT (notT (valT (un (isxF [] [] (tabOf xnames fun _ => true)) (varE 9)))) (notT (valT (un (isxF [] [] (tabOf xnames fun _ => true)) (varE 9))))) (retS (conE (.bl false))) (passS)) (ifS (valT (bin neF (onA m_law_kinds (consA (varE 9) (nilA))) (lcE [10] (rng1I (consA (conE (.int 17)) (nilA))) (gnm 10) (yesT) (bin eqF (varE 10) (varE 8))))) (retS (conE (.bl false))) (passS)))) (seqS (ifS (valT (onA (isiF "list") (consA (varE 5) (consA (conE (.ty "list")) nilA)))) (expS (bmE "list" appF (varE 5) (consA (conE (.int 0)) (nilA)))) (passS)) (seqS (setS 7 (bin addF (bin addF (bin mulF (onA lstF (consA (varE 5) (nilA))) (conE (.int 6))) (onA lstF (consA (onA tupF (consA (varE 3) (nilA))) (consA (varE 5) (consA (varE 5) (consA (varE 3) (consA (varE 5) (consA (varE 5) (consA (varE 3) (nilA)))))))))) (bin mulF (onA lstF (consA (varE 6) (nilA))) (conE (.int 4))))) (ifS (valT (bin neF (un reprF (onA m_law_stored (consA (varE 4) (nilA)))) (un reprF (varE 7)))) (retS (conE (.bl false))) (passS)))))))))) (retS (conE (.bl true)))
end ML

namespace ML
open PySem PySem.Spec PyProof.Rows L2
def top (i : Nat) : Stmt := PySem.Challenge.pw_stillmine_k91_errors_by_hand.main.body.getD i (.Pass ⟨0, 0, 0, 0⟩)
/-- what the module's names hold -/
structure Txt (P : Program) (w : World) (K : PySem.W.Frag) (mg : Str → Option Value) (base : Heap) : Prop where
  n_ValueError : mg "ValueError" = none
  n_enumerate : mg "enumerate" = none
  n_int : mg "int" = none
  n_isinstance : mg "isinstance" = none
  n_len : mg "len" = none
  n_list : mg "list" = none
  n_max : mg "max" = none
  n_min : mg "min" = none
  n_range : mg "range" = none
  n_repr : mg "repr" = none
  x_BadRegisters : XcC P w K mg base "BadRegisters" "value"
  x_BadLines : XcC P w K mg base "BadLines" "value"
  x_BadLine : XcC P w K mg base "BadLine" "position"
  x_BadContent : XcC P w K mg base "BadContent" "value"
  x_StillAmid : XcC P w K mg base "StillAmid" "content"
  x_Unanswered : XcC P w K mg base "Unanswered" "position"
  x_BadAnswer : XcC P w K mg base "BadAnswer" "value"
  x_BadStop : XcC P w K mg base "BadStop" "value"
  x_NoPlace : XcC P w K mg base "NoPlace" "place"
  x_BadTrouble : XcC P w K mg base "BadTrouble" "value"
  x_OtherPlaces : XcC P w K mg base "OtherPlaces" "value"
  x_BadName : XcC P w K mg base "BadName" "value"
  x_NoFile : XcC P w K mg base "NoFile" "name"
  x_Taken : XcC P w K mg base "Taken" "name"
  x_TooFar : XcC P w K mg base "TooFar" "count"
  x_BadText : XcC P w K mg base "BadText" "line"
  x_BadBridge : XcC P w K mg base "BadBridge" "value"
  m_BadAnswer : mg "BadAnswer" = some (.ref (adr mg "BadAnswer"))
  i_BadAnswer : IsTab K mg (.ref (adr mg "BadAnswer")) [] [] (tabOf xnames fun n => decide (n = "BadAnswer"))
  m_BadBridge : mg "BadBridge" = some (.ref (adr mg "BadBridge"))
  i_BadBridge : IsTab K mg (.ref (adr mg "BadBridge")) [] [] (tabOf xnames fun n => decide (n = "BadBridge"))
  m_BadContent : mg "BadContent" = some (.ref (adr mg "BadContent"))
  i_BadContent : IsTab K mg (.ref (adr mg "BadContent")) [] [] (tabOf xnames fun n => decide (n = "BadContent"))
  m_BadLine : mg "BadLine" = some (.ref (adr mg "BadLine"))
  i_BadLine : IsTab K mg (.ref (adr mg "BadLine")) [] [] (tabOf xnames fun n => decide (n = "BadLine"))
  m_BadLines : mg "BadLines" = some (.ref (adr mg "BadLines"))
  i_BadLines : IsTab K mg (.ref (adr mg "BadLines")) [] [] (tabOf xnames fun n => decide (n = "BadLines"))
  m_BadName : mg "BadName" = some (.ref (adr mg "BadName"))
  i_BadName : IsTab K mg (.ref (adr mg "BadName")) [] [] (tabOf xnames fun n => decide (n = "BadName"))
  m_BadRegisters : mg "BadRegisters" = some (.ref (adr mg "BadRegisters"))
  i_BadRegisters : IsTab K mg (.ref (adr mg "BadRegisters")) [] [] (tabOf xnames fun n => decide (n = "BadRegisters"))
  m_BadStop : mg "BadStop" = some (.ref (adr mg "BadStop"))
  i_BadStop : IsTab K mg (.ref (adr mg "BadStop")) [] [] (tabOf xnames fun n => decide (n = "BadStop"))
  m_BadText : mg "BadText" = some (.ref (adr mg "BadText"))
  i_BadText : IsTab K mg (.ref (adr mg "BadText")) [] [] (tabOf xnames fun n => decide (n = "BadText"))
  m_BadTrouble : mg "BadTrouble" = some (.ref (adr mg "BadTrouble"))
  i_BadTrouble : IsTab K mg (.ref (adr mg "BadTrouble")) [] [] (tabOf xnames fun n => decide (n = "BadTrouble"))
  m_NoFile : mg "NoFile" = some (.ref (adr mg "NoFile"))
  i_NoFile : IsTab K mg (.ref (adr mg "NoFile")) [] [] (tabOf xnames fun n => decide (n = "NoFile"))
  m_NoPlace : mg "NoPlace" = some (.ref (adr mg "NoPlace"))
  i_NoPlace : IsTab K mg (.ref (adr mg "NoPlace")) [] [] (tabOf xnames fun n => decide (n = "NoPlace"))
  m_OtherPlaces : mg "OtherPlaces" = some (.ref (adr mg "OtherPlaces"))
  i_OtherPlaces : IsTab K mg (.ref (adr mg "OtherPlaces")) [] [] (tabOf xnames fun n => decide (n = "OtherPlaces"))
  m_StillAmid : mg "StillAmid" = some (.ref (adr mg "StillAmid"))
  i_StillAmid : IsTab K mg (.ref (adr mg "StillAmid")) [] [] (tabOf xnames fun n => decide (n = "StillAmid"))
  m_Taken : mg "Taken" = some (.ref (adr mg "Taken"))
  i_Taken : IsTab K mg (.ref (adr mg "Taken")) [] [] (tabOf xnames fun n => decide (n = "Taken"))
  m_TooFar : mg "TooFar" = some (.ref (adr mg "TooFar"))
  i_TooFar : IsTab K mg (.ref (adr mg "TooFar")) [] [] (tabOf xnames fun n => decide (n = "TooFar"))
  m_Unanswered : mg "Unanswered" = some (.ref (adr mg "Unanswered"))
  i_Unanswered : IsTab K mg (.ref (adr mg "Unanswered")) [] [] (tabOf xnames fun n => decide (n = "Unanswered"))
  m_UpgradeError : mg "UpgradeError" = some (.ref (adr mg "UpgradeError"))
  i_UpgradeError : IsTab K mg (.ref (adr mg "UpgradeError")) [] [] (tabOf xnames fun _ => true)
  i_ValueError : IsTab K mg (.type "ValueError") [] [] (tabOf xnames fun _ => true)
  f_value : FldOk K mg [] ["BadRegisters", "BadLines", "BadContent", "BadAnswer", "BadStop", "BadTrouble", "OtherPlaces", "BadName", "BadBridge"] "value"
  f_position : FldOk K mg [] ["BadLine", "Unanswered"] "position"
  f_content : FldOk K mg [] ["StillAmid"] "content"
  f_place : FldOk K mg [] ["NoPlace"] "place"
  f_name : FldOk K mg [] ["NoFile", "Taken"] "name"
  f_count : FldOk K mg [] ["TooFar"] "count"
  f_line : FldOk K mg [] ["BadText"] "line"
section
variable {P : Program} {w : World} {K : PySem.W.Frag} {mg : Str → Option Value} {base : Heap}
abbrev s_law_source : Stmt := top 20
theorem sc_law_source : FnScope N_law_source ["script", "start"] (defScope s_law_source) := ⟨rfl, rfl, rfl, by decide +kernel, rfl, by decide +kernel, by decide +kernel⟩
theorem ok_law_source {f : Addr} {fd : FuncData} (F : Fun K "_law_source" "_law_source" s_law_source f fd) (T : Txt P w K mg base)  : FnOk P w K mg base (L2.CX P w) 1 f fd ["script", "start"] (spM ⟨K, mg⟩ 2 m_law_source) :=
  fn_ok F sc_law_source fun cdv A outer s H E hr tk => by
    have hu := hr.units
    exact ss_cons (s_set 2 sc_law_source.nd rfl (by first | exact Or.inl rfl | exact Or.inr rfl) (e_bin op_addM rf_add (e_int) (e_var 1 (pv 1)))) (ss_cons (s_for (passes_of rfl) rfl (i_any (e_var 0 (pv 0))) (g_name 3 sc_law_source.nd rfl (by first | exact Or.inl rfl | exact Or.inr rfl)) (ss_one (s_set 2 sc_law_source.nd rfl (by first | exact Or.inl rfl | exact Or.inr rfl) (e_bin op_addM rf_add (e_bin op_mod rf_mod (e_callTy call_int1 rf_int (by rfl) T.n_int bb_int (a_cons (e_bin op_powM rf_pow (e_callTy call_int1 rf_int (by rfl) T.n_int bb_int (a_cons (e_bin op_addM rf_add (e_bin (OpR.or op_mulM op_rep) rf_mul (e_var 2 (pv 2)) (e_int)) (e_callTy call_int1 rf_int (by rfl) T.n_int bb_int (a_cons (e_var 3 (pv 3)) (a_nil)))) (a_nil))) (e_int)) (a_nil))) (e_int)) (e_int))))) (ss_cons (s_set 4 sc_law_source.nd rfl (by first | exact Or.inl rfl | exact Or.inr rfl) (e_int)) (ss_cons (s_if (PW.pt (w_and (t_cmp op_ltM rf_lt (e_var 1 (pv 1)) (e_callB call_lenM rf_len (by rfl) T.n_len bb_len (a_cons (e_var 0 (pv 0)) (a_nil))) (nomark _)) (w_and1 (t_cmp op_geM rf_ge (e_ix hu (e_var 0 (pv 0)) (e_var 1 (pv 1)) (fun _ _ => rfl)) (e_bin op_powM rf_pow (e_int) (e_int)) (nomark _))))) (ss_one (s_set 4 sc_law_source.nd rfl (by first | exact Or.inl rfl | exact Or.inr rfl) (e_bin op_sub rf_sub (e_ix hu (e_var 0 (pv 0)) (e_var 1 (pv 1)) (fun _ _ => rfl)) (e_bin op_powM rf_pow (e_int) (e_int))))) (ss_nil)) (ss_one (s_ret (e_lst (a_cons (e_var 4 (pv 4)) (a_cons (e_var 2 (pv 2)) (a_nil)))))))))
abbrev s_law_draw : Stmt := top 21
theorem sc_law_draw : FnScope N_law_draw ["source", "span"] (defScope s_law_draw) := ⟨rfl, rfl, rfl, by decide +kernel, rfl, by decide +kernel, by decide +kernel⟩
theorem ok_law_draw {f : Addr} {fd : FuncData} (F : Fun K "_law_draw" "_law_draw" s_law_draw f fd) (T : Txt P w K mg base)  : FnOk P w K mg base (L2.CX P w) 1 f fd ["source", "span"] (spM ⟨K, mg⟩ 2 m_law_draw) :=
  fn_ok F sc_law_draw fun cdv A outer s H E hr tk => by
    have hu := hr.units
    exact ss_cons (s_if (t_cmp op_geM rf_ge (e_ix hu (e_var 0 (pv 0)) (e_int) (fun _ _ => rfl)) (e_var 1 (pv 1)) (nomark _)) (ss_cons (s_set 2 sc_law_draw.nd rfl (by first | exact Or.inl rfl | exact Or.inr rfl) (e_bin op_mod rf_mod (e_callTy call_int1 rf_int (by rfl) T.n_int bb_int (a_cons (e_ix hu (e_var 0 (pv 0)) (e_int) (fun _ _ => rfl)) (a_nil))) (e_var 1 (pv 1)))) (ss_cons (s_setX hu (e_bin op_fdivW rf_fdiv (e_ix hu (e_var 0 (pv 0)) (e_int) (fun _ _ => rfl)) (e_var 1 (pv 1))) (e_var 0 (pv 0)) (e_int)) (ss_one (s_ret (e_var 2 (pv 2)))))) (ss_nil)) (ss_cons (s_setX hu (e_bin op_mod rf_mod (e_callTy call_int1 rf_int (by rfl) T.n_int bb_int (a_cons (e_bin op_addM rf_add (e_bin (OpR.or op_mulM op_rep) rf_mul (e_ix hu (e_var 0 (pv 0)) (e_int) (fun _ _ => rfl)) (e_int)) (e_int)) (a_nil))) (e_int)) (e_var 0 (pv 0)) (e_int)) (ss_one (s_ret (e_bin op_mod rf_mod (e_callTy call_int1 rf_int (by rfl) T.n_int bb_int (a_cons (e_bin op_fdivW rf_fdiv (e_bin op_mod rf_mod (e_callTy call_int1 rf_int (by rfl) T.n_int bb_int (a_cons (e_bin op_powM rf_pow (e_callTy call_int1 rf_int (by rfl) T.n_int bb_int (a_cons (e_ix hu (e_var 0 (pv 0)) (e_int) (fun _ _ => rfl)) (a_nil))) (e_int)) (a_nil))) (e_int)) (e_int)) (a_nil))) (e_var 1 (pv 1))))))
abbrev s_law_pick : Stmt := top 22
theorem sc_law_pick : FnScope N_law_pick ["source", "things"] (defScope s_law_pick) := ⟨rfl, rfl, rfl, by decide +kernel, rfl, by decide +kernel, by decide +kernel⟩
theorem ok_law_pick {f : Addr} {fd : FuncData} (F : Fun K "_law_pick" "_law_pick" s_law_pick f fd) (T : Txt P w K mg base) (C_law_draw : Cal P w K mg base "_law_draw" 1 m_law_draw) : FnOk P w K mg base (L2.CX P w) 2 f fd ["source", "things"] (spM ⟨K, mg⟩ 2 m_law_pick) :=
  fn_ok F sc_law_pick fun cdv A outer s H E hr tk => by
    have hu := hr.units
    exact ss_one (s_ret (e_ix hu (e_var 1 (pv 1)) (e_call C_law_draw (hr.mono (by decide)) tk (by rfl) (a_cons (e_var 0 (pv 0)) (a_cons (e_callB call_lenM rf_len (by rfl) T.n_len bb_len (a_cons (e_var 1 (pv 1)) (a_nil))) (a_nil)))) (fun _ _ => rfl)))
abbrev s_law_kinds : Stmt := top 23
theorem sc_law_kinds : FnScope N_law_kinds ["error"] (defScope s_law_kinds) := ⟨rfl, rfl, rfl, by decide +kernel, rfl, by decide +kernel, by decide +kernel⟩
theorem ok_law_kinds {f : Addr} {fd : FuncData} (F : Fun K "_law_kinds" "_law_kinds" s_law_kinds f fd) (T : Txt P w K mg base)  : FnOk P w K mg base (L2.CX P w) 1 f fd ["error"] (spM ⟨K, mg⟩ 1 m_law_kinds) :=
  fn_ok F sc_law_kinds fun cdv A outer s H E hr tk => by
    have hu := hr.units
    exact ss_cons (s_set 1 sc_law_kinds.nd rfl (by first | exact Or.inl rfl | exact Or.inr rfl) (e_lst (a_cons (e_isx T.i_BadRegisters (.own _) (by rfl) T.n_isinstance (e_var 0 (pv 0)) (pe_glob (by rfl) T.m_BadRegisters rfl)) (a_cons (e_isx T.i_BadLines (.own _) (by rfl) T.n_isinstance (e_var 0 (pv 0)) (pe_glob (by rfl) T.m_BadLines rfl)) (a_cons (e_isx T.i_BadContent (.own _) (by rfl) T.n_isinstance (e_var 0 (pv 0)) (pe_glob (by rfl) T.m_BadContent rfl)) (a_nil)))))) (ss_cons (s_set 1 sc_law_kinds.nd rfl (by first | exact Or.inl rfl | exact Or.inr rfl) (e_bin op_addM rf_add (e_var 1 (pv 1)) (e_lst (a_cons (e_isx T.i_BadAnswer (.own _) (by rfl) T.n_isinstance (e_var 0 (pv 0)) (pe_glob (by rfl) T.m_BadAnswer rfl)) (a_cons (e_isx T.i_BadStop (.own _) (by rfl) T.n_isinstance (e_var 0 (pv 0)) (pe_glob (by rfl) T.m_BadStop rfl)) (a_cons (e_isx T.i_BadTrouble (.own _) (by rfl) T.n_isinstance (e_var 0 (pv 0)) (pe_glob (by rfl) T.m_BadTrouble rfl)) (a_nil))))))) (ss_cons (s_set 1 sc_law_kinds.nd rfl (by first | exact Or.inl rfl | exact Or.inr rfl) (e_bin op_addM rf_add (e_var 1 (pv 1)) (e_lst (a_cons (e_isx T.i_OtherPlaces (.own _) (by rfl) T.n_isinstance (e_var 0 (pv 0)) (pe_glob (by rfl) T.m_OtherPlaces rfl)) (a_cons (e_isx T.i_BadName (.own _) (by rfl) T.n_isinstance (e_var 0 (pv 0)) (pe_glob (by rfl) T.m_BadName rfl)) (a_cons (e_isx T.i_BadBridge (.own _) (by rfl) T.n_isinstance (e_var 0 (pv 0)) (pe_glob (by rfl) T.m_BadBridge rfl)) (a_nil))))))) (ss_cons (s_set 1 sc_law_kinds.nd rfl (by first | exact Or.inl rfl | exact Or.inr rfl) (e_bin op_addM rf_add (e_var 1 (pv 1)) (e_lst (a_cons (e_isx T.i_StillAmid (.own _) (by rfl) T.n_isinstance (e_var 0 (pv 0)) (pe_glob (by rfl) T.m_StillAmid rfl)) (a_cons (e_isx T.i_NoPlace (.own _) (by rfl) T.n_isinstance (e_var 0 (pv 0)) (pe_glob (by rfl) T.m_NoPlace rfl)) (a_cons (e_isx T.i_NoFile (.own _) (by rfl) T.n_isinstance (e_var 0 (pv 0)) (pe_glob (by rfl) T.m_NoFile rfl)) (a_nil))))))) (ss_cons (s_set 1 sc_law_kinds.nd rfl (by first | exact Or.inl rfl | exact Or.inr rfl) (e_bin op_addM rf_add (e_var 1 (pv 1)) (e_lst (a_cons (e_isx T.i_Taken (.own _) (by rfl) T.n_isinstance (e_var 0 (pv 0)) (pe_glob (by rfl) T.m_Taken rfl)) (a_cons (e_isx T.i_BadLine (.own _) (by rfl) T.n_isinstance (e_var 0 (pv 0)) (pe_glob (by rfl) T.m_BadLine rfl)) (a_cons (e_isx T.i_Unanswered (.own _) (by rfl) T.n_isinstance (e_var 0 (pv 0)) (pe_glob (by rfl) T.m_Unanswered rfl)) (a_nil))))))) (ss_one (s_ret (e_bin op_addM rf_add (e_var 1 (pv 1)) (e_lst (a_cons (e_isx T.i_TooFar (.own _) (by rfl) T.n_isinstance (e_var 0 (pv 0)) (pe_glob (by rfl) T.m_TooFar rfl)) (a_cons (e_isx T.i_BadText (.own _) (by rfl) T.n_isinstance (e_var 0 (pv 0)) (pe_glob (by rfl) T.m_BadText rfl)) (a_nil)))))))))))
abbrev s_law_by_place : Stmt := top 24
theorem sc_law_by_place : FnScope N_law_by_place ["thing", "word", "many"] (defScope s_law_by_place) := ⟨rfl, rfl, rfl, by decide +kernel, rfl, by decide +kernel, by decide +kernel⟩
theorem ok_law_by_place {f : Addr} {fd : FuncData} (F : Fun K "_law_by_place" "_law_by_place" s_law_by_place f fd) (T : Txt P w K mg base)  : FnOk P w K mg base (L2.CX P w) 3 f fd ["thing", "word", "many"] (spM ⟨K, mg⟩ 3 m_law_by_place) :=
  fn_ok F sc_law_by_place fun cdv A outer s H E hr tk => by
    have hu := hr.units
    exact ss_cons (s_set 3 sc_law_by_place.nd rfl (by first | exact Or.inl rfl | exact Or.inr rfl) (e_lst (a_cons (e_xc T.x_BadRegisters (hr.mono (by decide)) (by rfl) (a_cons (e_var 0 (pv 0)) (a_nil))) (a_cons (e_xc T.x_BadLines (hr.mono (by decide)) (by rfl) (a_cons (e_var 0 (pv 0)) (a_nil))) (a_cons (e_xc T.x_BadContent (hr.mono (by decide)) (by rfl) (a_cons (e_var 0 (pv 0)) (a_nil))) (a_cons (e_xc T.x_BadAnswer (hr.mono (by decide)) (by rfl) (a_cons (e_var 0 (pv 0)) (a_nil))) (a_cons (e_xc T.x_BadStop (hr.mono (by decide)) (by rfl) (a_cons (e_var 0 (pv 0)) (a_nil))) (a_nil)))))))) (ss_cons (s_set 3 sc_law_by_place.nd rfl (by first | exact Or.inl rfl | exact Or.inr rfl) (e_bin op_addM rf_add (e_var 3 (pv 3)) (e_lst (a_cons (e_xc T.x_BadTrouble (hr.mono (by decide)) (by rfl) (a_cons (e_var 0 (pv 0)) (a_nil))) (a_cons (e_xc T.x_OtherPlaces (hr.mono (by decide)) (by rfl) (a_cons (e_tup (a_cons (e_var 1 (pv 1)) (a_nil))) (a_nil))) (a_cons (e_xc T.x_BadName (hr.mono (by decide)) (by rfl) (a_cons (e_var 0 (pv 0)) (a_nil))) (a_cons (e_xc T.x_BadBridge (hr.mono (by decide)) (by rfl) (a_cons (e_var 0 (pv 0)) (a_nil))) (a_nil)))))))) (ss_cons (s_set 3 sc_law_by_place.nd rfl (by first | exact Or.inl rfl | exact Or.inr rfl) (e_bin op_addM rf_add (e_var 3 (pv 3)) (e_lst (a_cons (e_xc T.x_StillAmid (hr.mono (by decide)) (by rfl) (a_cons (e_var 1 (pv 1)) (a_nil))) (a_cons (e_xc T.x_NoPlace (hr.mono (by decide)) (by rfl) (a_cons (e_var 0 (pv 0)) (a_nil))) (a_nil)))))) (ss_one (s_ret (e_bin op_addM rf_add (e_var 3 (pv 3)) (e_lst (a_cons (e_xc T.x_NoFile (hr.mono (by decide)) (by rfl) (a_cons (e_var 0 (pv 0)) (a_nil))) (a_cons (e_xc T.x_Taken (hr.mono (by decide)) (by rfl) (a_cons (e_var 1 (pv 1)) (a_nil))) (a_cons (e_xc T.x_BadLine (hr.mono (by decide)) (by rfl) (a_cons (e_var 2 (pv 2)) (a_nil))) (a_cons (e_xc T.x_Unanswered (hr.mono (by decide)) (by rfl) (a_cons (e_var 2 (pv 2)) (a_nil))) (a_cons (e_xc T.x_TooFar (hr.mono (by decide)) (by rfl) (a_cons (e_var 2 (pv 2)) (a_nil))) (a_cons (e_xc T.x_BadText (hr.mono (by decide)) (by rfl) (a_cons (e_var 2 (pv 2)) (a_nil))) (a_nil)))))))))))))
abbrev s_law_by_name : Stmt := top 25
theorem sc_law_by_name : FnScope N_law_by_name ["thing", "word", "many"] (defScope s_law_by_name) := ⟨rfl, rfl, rfl, by decide +kernel, rfl, by decide +kernel, by decide +kernel⟩
theorem ok_law_by_name {f : Addr} {fd : FuncData} (F : Fun K "_law_by_name" "_law_by_name" s_law_by_name f fd) (T : Txt P w K mg base)  : FnOk P w K mg base (L2.CX P w) 3 f fd ["thing", "word", "many"] (spM ⟨K, mg⟩ 3 m_law_by_name) :=
  fn_ok F sc_law_by_name fun cdv A outer s H E hr tk => by
    have hu := hr.units
    exact ss_cons (s_set 3 sc_law_by_name.nd rfl (by first | exact Or.inl rfl | exact Or.inr rfl) (e_lst (a_cons (e_xck T.x_BadRegisters (hr.mono (by decide)) (by rfl) (k_cons (e_var 0 (pv 0)) (k_nil))) (a_cons (e_xck T.x_BadLines (hr.mono (by decide)) (by rfl) (k_cons (e_var 0 (pv 0)) (k_nil))) (a_cons (e_xck T.x_BadContent (hr.mono (by decide)) (by rfl) (k_cons (e_var 0 (pv 0)) (k_nil))) (a_cons (e_xck T.x_BadAnswer (hr.mono (by decide)) (by rfl) (k_cons (e_var 0 (pv 0)) (k_nil))) (a_nil))))))) (ss_cons (s_set 3 sc_law_by_name.nd rfl (by first | exact Or.inl rfl | exact Or.inr rfl) (e_bin op_addM rf_add (e_var 3 (pv 3)) (e_lst (a_cons (e_xck T.x_BadStop (hr.mono (by decide)) (by rfl) (k_cons (e_var 0 (pv 0)) (k_nil))) (a_cons (e_xck T.x_BadTrouble (hr.mono (by decide)) (by rfl) (k_cons (e_var 0 (pv 0)) (k_nil))) (a_cons (e_xck T.x_OtherPlaces (hr.mono (by decide)) (by rfl) (k_cons (e_tup (a_cons (e_var 1 (pv 1)) (a_nil))) (k_nil))) (a_cons (e_xck T.x_BadName (hr.mono (by decide)) (by rfl) (k_cons (e_var 0 (pv 0)) (k_nil))) (a_nil)))))))) (ss_cons (s_set 3 sc_law_by_name.nd rfl (by first | exact Or.inl rfl | exact Or.inr rfl) (e_bin op_addM rf_add (e_var 3 (pv 3)) (e_lst (a_cons (e_xck T.x_BadBridge (hr.mono (by decide)) (by rfl) (k_cons (e_var 0 (pv 0)) (k_nil))) (a_cons (e_xck T.x_StillAmid (hr.mono (by decide)) (by rfl) (k_cons (e_var 1 (pv 1)) (k_nil))) (a_cons (e_xck T.x_NoPlace (hr.mono (by decide)) (by rfl) (k_cons (e_var 0 (pv 0)) (k_nil))) (a_cons (e_xck T.x_NoFile (hr.mono (by decide)) (by rfl) (k_cons (e_var 0 (pv 0)) (k_nil))) (a_nil)))))))) (ss_cons (s_expr (e_bm PySem.F.plainAttrs_list PySem.F.slot_list_append PySem.F.type_list_append mt_append rf_append (e_var 3 (pv 3)) (a_cons (e_xck T.x_Taken (hr.mono (by decide)) (by rfl) (k_cons (e_var 1 (pv 1)) (k_nil))) (a_nil)))) (ss_one (s_ret (e_bin op_addM rf_add (e_var 3 (pv 3)) (e_lst (a_cons (e_xck T.x_BadLine (hr.mono (by decide)) (by rfl) (k_cons (e_var 2 (pv 2)) (k_nil))) (a_cons (e_xck T.x_Unanswered (hr.mono (by decide)) (by rfl) (k_cons (e_var 2 (pv 2)) (k_nil))) (a_cons (e_xck T.x_TooFar (hr.mono (by decide)) (by rfl) (k_cons (e_var 2 (pv 2)) (k_nil))) (a_cons (e_xck T.x_BadText (hr.mono (by decide)) (by rfl) (k_cons (e_var 2 (pv 2)) (k_nil))) (a_nil))))))))))))
abbrev s_law_stored : Stmt := top 26
theorem sc_law_stored : FnScope N_law_stored ["errors"] (defScope s_law_stored) := ⟨rfl, rfl, rfl, by decide +kernel, rfl, by decide +kernel, by decide +kernel⟩
theorem ok_law_stored {f : Addr} {fd : FuncData} (F : Fun K "_law_stored" "_law_stored" s_law_stored f fd) (T : Txt P w K mg base)  : FnOk P w K mg base (L2.CX P w) 1 f fd ["errors"] (spM ⟨K, mg⟩ 1 m_law_stored) :=
  fn_ok F sc_law_stored fun cdv A outer s H E hr tk => by
    have hu := hr.units
    exact ss_cons (s_set 1 sc_law_stored.nd rfl (by first | exact Or.inl rfl | exact Or.inr rfl) (e_bin op_addM rf_add (e_lc (own := [("error", 2)]) rfl sc_law_stored.nd (i_any (e_sl (e_var 0 (pv 0)) (o_no) (o_some (e_int)))) (blkOk_by (N := N_law_stored) (sc := defScope s_law_stored) (by decide +kernel)) (fun _ _ _ _ _ => g_name 2 sc_law_stored.nd rfl (by first | exact Or.inl rfl | exact Or.inr rfl)) (fun _ _ _ _ _ => ts_nil) (fun _ _ _ _ _ => e_fld T.f_value (e_var 2 (pv 2)))) (e_lst (a_cons (e_fld T.f_content (e_ix hu (e_var 0 (pv 0)) (e_int) (fun _ _ => rfl))) (a_cons (e_fld T.f_place (e_ix hu (e_var 0 (pv 0)) (e_int) (fun _ _ => rfl))) (a_cons (e_fld T.f_name (e_ix hu (e_var 0 (pv 0)) (e_int) (fun _ _ => rfl))) (a_nil))))))) (ss_one (s_ret (e_bin op_addM rf_add (e_var 1 (pv 1)) (e_lst (a_cons (e_fld T.f_name (e_ix hu (e_var 0 (pv 0)) (e_int) (fun _ _ => rfl))) (a_cons (e_fld T.f_position (e_ix hu (e_var 0 (pv 0)) (e_int) (fun _ _ => rfl))) (a_cons (e_fld T.f_position (e_ix hu (e_var 0 (pv 0)) (e_int) (fun _ _ => rfl))) (a_cons (e_fld T.f_count (e_ix hu (e_var 0 (pv 0)) (e_int) (fun _ _ => rfl))) (a_cons (e_fld T.f_line (e_ix hu (e_var 0 (pv 0)) (e_int) (fun _ _ => rfl))) (a_nil))))))))))
abbrev s_law : Stmt := top 27
theorem sc_law : FnScope N_law ["script"] (defScope s_law) := ⟨rfl, rfl, rfl, by decide +kernel, rfl, by decide +kernel, by decide +kernel⟩
theorem ok_law {fa : Addr} {cdv : Value} {s : Shared} {H : Hp} {E : XK} (T : Txt P w K mg base) (C_law_by_name : Cal P w K mg base "_law_by_name" 3 m_law_by_name) (C_law_by_place : Cal P w K mg base "_law_by_place" 3 m_law_by_place) (C_law_draw : Cal P w K mg base "_law_draw" 1 m_law_draw) (C_law_kinds : Cal P w K mg base "_law_kinds" 1 m_law_kinds) (C_law_pick : Cal P w K mg base "_law_pick" 2 m_law_pick) (C_law_source : Cal P w K mg base "_law_source" 1 m_law_source) (C_law_stored : Cal P w K mg base "_law_stored" 1 m_law_stored) (hr : Room 3 (callerA.deeper (envOfC "law" (defScope s_law) s.heap.objs.size fa cdv))) :
    PSs (cxOf (L2.CX P w) P w K mg base N_law "law" (defScope s_law) fa cdv callerA [] s H E) (defBody s_law) (tS ⟨K, mg⟩ (fun cls d _ H => E cls d H) b_law) := by
  have hu := hr.units
  have tk : Takes (cxOf (L2.CX P w) P w K mg base N_law "law" (defScope s_law) fa cdv callerA [] s H E) (fun cls d _ H => E cls d H) := takes_of rfl rfl rfl rfl
  have hgd : (cxOf (L2.CX P w) P w K mg base N_law "law" (defScope s_law) fa cdv callerA [] s H E).A.guards = some [] := rfl
  exact ss_cons (s_for (passes_of rfl) rfl (i_range1 (by rfl) T.n_range (a_cons (e_callB (call_max2 rfl) rf_max2 (by rfl) T.n_max bb_max (a_cons (e_int) (a_cons (e_callB (call_min2 rfl) rf_min2 (by rfl) T.n_min bb_min (a_cons (e_int) (a_cons (e_callB call_lenM rf_len (by rfl) T.n_len bb_len (a_cons (e_var 0 (pv 0)) (a_nil))) (a_nil)))) (a_nil)))) (a_nil))) (g_name 1 sc_law.nd rfl (by first | exact Or.inl rfl | exact Or.inr rfl)) (ss_cons (s_set 2 sc_law.nd rfl (by first | exact Or.inl rfl | exact Or.inr rfl) (e_call C_law_source (hr.mono (by decide)) tk (by rfl) (a_cons (e_var 0 (pv 0)) (a_cons (e_var 1 (pv 1)) (a_nil))))) (ss_cons (s_par2 5 6 rfl sc_law.nd rfl rfl (by decide) rfl rfl (a_cons (e_call C_law_pick (hr.mono (by decide)) tk (by rfl) (a_cons (e_var 2 (pv 2)) (a_cons (e_lst (a_cons (e_lst (a_cons (e_int) (a_nil))) (a_cons (e_lst (a_cons (e_str) (a_cons (e_non) (a_nil)))) (a_cons (e_lst (a_cons (e_lst (a_nil)) (a_nil))) (a_cons (e_dct [(conE (.str "a"), conE (.int 1))] (pps_cons (e_str) (e_int) (pps_nil))) (a_nil)))))) (a_nil)))) (a_cons (e_call C_law_draw (hr.mono (by decide)) tk (by rfl) (a_cons (e_var 2 (pv 2)) (a_cons (e_int) (a_nil)))) (a_nil))) rfl) (ss_cons (s_set 3 sc_law.nd rfl (by first | exact Or.inl rfl | exact Or.inr rfl) (e_call C_law_pick (hr.mono (by decide)) tk (by rfl) (a_cons (e_var 2 (pv 2)) (a_cons (e_lst (a_cons (e_str) (a_cons (e_str) (a_cons (e_str) (a_cons (e_str) (a_nil)))))) (a_nil))))) (ss_one (s_for (passes_of rfl) rfl (i_any (e_lst (a_cons (e_call C_law_by_place (hr.mono (by decide)) tk (by rfl) (a_cons (e_var 5 (pv 5)) (a_cons (e_var 3 (pv 3)) (a_cons (e_var 6 (pv 6)) (a_nil))))) (a_cons (e_call C_law_by_name (hr.mono (by decide)) tk (by rfl) (a_cons (e_var 5 (pv 5)) (a_cons (e_var 3 (pv 3)) (a_cons (e_var 6 (pv 6)) (a_nil))))) (a_nil))))) (g_name 4 sc_law.nd rfl (by first | exact Or.inl rfl | exact Or.inr rfl)) (ss_cons (s_for (passes_of rfl) rfl (i_enum (by rfl) T.n_enumerate (a_cons (e_var 4 (pv 4)) (a_nil))) (g_tup rfl (gs_cons (g_name 8 sc_law.nd rfl (by first | exact Or.inl rfl | exact Or.inr rfl)) (gs_cons (g_name 9 sc_law.nd rfl (by first | exact Or.inl rfl | exact Or.inr rfl)) (gs_nil)))) (ss_cons (s_if (PW.pt (w_or (t_not (t_val (e_isx T.i_UpgradeError (.own _) (by rfl) T.n_isinstance (e_var 9 (pv 9)) (pe_glob (by rfl) T.m_UpgradeError rfl)))) (w_or1 (t_not (t_val (e_isx T.i_ValueError (.ty _) (by rfl) T.n_isinstance (e_var 9 (pv 9)) (pe_bltn (by rfl) T.n_ValueError bb_VE rfl))))))) (ss_one (s_ret (e_bl))) (ss_nil)) (ss_one (s_if (t_cmp (op_neM hu) rf_ne (e_call C_law_kinds (hr.mono (by decide)) tk (by rfl) (a_cons (e_var 9 (pv 9)) (a_nil))) (e_lc (own := [("spot", 10)]) rfl sc_law.nd (i_range1 (by rfl) T.n_range (a_cons (e_int) (a_nil))) (blkOk_by (N := N_law) (sc := defScope s_law) (by decide +kernel)) (fun _ _ _ _ _ => g_name 10 sc_law.nd rfl (by first | exact Or.inl rfl | exact Or.inr rfl)) (fun _ _ _ _ _ => ts_nil) (fun _ _ _ _ _ => e_cmp (op_eqM hu) rf_eq (e_var 10 (pv 10)) (e_var 8 (pv 8)) (nomark _))) (nomark _)) (ss_one (s_ret (e_bl))) (ss_nil))))) (ss_cons (s_if (t_val (e_callB call_isi (rf_isi (by decide)) (by rfl) T.n_isinstance bb_isinstance (a_cons (e_var 5 (pv 5)) (a_cons (e_con (v := .ty "list") (pe_bltn (by rfl) T.n_list bb_list rfl) (fun _ _ => by unfold RD; rfl)) a_nil)))) (ss_one (s_expr (e_bm PySem.F.plainAttrs_list PySem.F.slot_list_append PySem.F.type_list_append mt_append rf_append (e_var 5 (pv 5)) (a_cons (e_int) (a_nil))))) (ss_nil)) (ss_cons (s_set 7 sc_law.nd rfl (by first | exact Or.inl rfl | exact Or.inr rfl) (e_bin op_addM rf_add (e_bin op_addM rf_add (e_bin (OpR.or op_mulM op_rep) rf_mul (e_lst (a_cons (e_var 5 (pv 5)) (a_nil))) (e_int)) (e_lst (a_cons (e_tup (a_cons (e_var 3 (pv 3)) (a_nil))) (a_cons (e_var 5 (pv 5)) (a_cons (e_var 5 (pv 5)) (a_cons (e_var 3 (pv 3)) (a_cons (e_var 5 (pv 5)) (a_cons (e_var 5 (pv 5)) (a_cons (e_var 3 (pv 3)) (a_nil)))))))))) (e_bin (OpR.or op_mulM op_rep) rf_mul (e_lst (a_cons (e_var 6 (pv 6)) (a_nil))) (e_int)))) (ss_one (s_if (t_cmp (op_neM hu) rf_ne (e_repr hgd hu (by rfl) T.n_repr (e_call C_law_stored (hr.mono (by decide)) tk (by rfl) (a_cons (e_var 4 (pv 4)) (a_nil)))) (e_repr hgd hu (by rfl) T.n_repr (e_var 7 (pv 7))) (nomark _)) (ss_one (s_ret (e_bl))) (ss_nil)))))))))))) (ss_one (s_ret (e_bl)))
end
theorem all_mk {P : Program} {w : World} {K : PySem.W.Frag} {h : Heap} {mg : Str → Option Value} {fa : Addr} (X : K.In h) (G : h.Ns mainGlobals mg) (hfa : mg "law" = some (.ref fa))
    {C_BadRegisters f_BadRegisters C_BadLines f_BadLines C_BadLine f_BadLine C_BadContent f_BadContent C_StillAmid f_StillAmid C_Unanswered f_Unanswered C_BadAnswer f_BadAnswer C_BadStop f_BadStop C_NoPlace f_NoPlace C_BadTrouble f_BadTrouble C_OtherPlaces f_OtherPlaces C_BadName f_BadName C_NoFile f_NoFile C_Taken f_Taken C_TooFar f_TooFar C_BadText f_BadText C_BadBridge f_BadBridge C_UpgradeError f_law_source f_law_draw f_law_pick f_law_kinds f_law_by_place f_law_by_name f_law_stored f_law : Addr}
    (a_BadRegisters : PySem.W.nsIn K mainGlobals "BadRegisters" = some (some (.ref C_BadRegisters)))
    (i_BadRegisters : PySem.W.findIn K (.ref C_BadRegisters) "__init__" = some (some (.ref f_BadRegisters)))
    (o_BadRegisters : XcO K C_BadRegisters)
    (g_BadRegisters : ∃ fd, Fun K "__init__" "BadRegisters.__init__" (inClass (top 2) 0) f_BadRegisters fd)
    (b_BadRegisters : xcB K C_BadRegisters f_BadRegisters "value" = true)
    (a_BadLines : PySem.W.nsIn K mainGlobals "BadLines" = some (some (.ref C_BadLines)))
    (i_BadLines : PySem.W.findIn K (.ref C_BadLines) "__init__" = some (some (.ref f_BadLines)))
    (o_BadLines : XcO K C_BadLines)
    (g_BadLines : ∃ fd, Fun K "__init__" "BadLines.__init__" (inClass (top 3) 0) f_BadLines fd)
    (b_BadLines : xcB K C_BadLines f_BadLines "value" = true)
    (a_BadLine : PySem.W.nsIn K mainGlobals "BadLine" = some (some (.ref C_BadLine)))
    (i_BadLine : PySem.W.findIn K (.ref C_BadLine) "__init__" = some (some (.ref f_BadLine)))
    (o_BadLine : XcO K C_BadLine)
    (g_BadLine : ∃ fd, Fun K "__init__" "BadLine.__init__" (inClass (top 4) 0) f_BadLine fd)
    (b_BadLine : xcB K C_BadLine f_BadLine "position" = true)
    (a_BadContent : PySem.W.nsIn K mainGlobals "BadContent" = some (some (.ref C_BadContent)))
    (i_BadContent : PySem.W.findIn K (.ref C_BadContent) "__init__" = some (some (.ref f_BadContent)))
    (o_BadContent : XcO K C_BadContent)
    (g_BadContent : ∃ fd, Fun K "__init__" "BadContent.__init__" (inClass (top 5) 0) f_BadContent fd)
    (b_BadContent : xcB K C_BadContent f_BadContent "value" = true)
    (a_StillAmid : PySem.W.nsIn K mainGlobals "StillAmid" = some (some (.ref C_StillAmid)))
    (i_StillAmid : PySem.W.findIn K (.ref C_StillAmid) "__init__" = some (some (.ref f_StillAmid)))
    (o_StillAmid : XcO K C_StillAmid)
    (g_StillAmid : ∃ fd, Fun K "__init__" "StillAmid.__init__" (inClass (top 6) 0) f_StillAmid fd)
    (b_StillAmid : xcB K C_StillAmid f_StillAmid "content" = true)
    (a_Unanswered : PySem.W.nsIn K mainGlobals "Unanswered" = some (some (.ref C_Unanswered)))
    (i_Unanswered : PySem.W.findIn K (.ref C_Unanswered) "__init__" = some (some (.ref f_Unanswered)))
    (o_Unanswered : XcO K C_Unanswered)
    (g_Unanswered : ∃ fd, Fun K "__init__" "Unanswered.__init__" (inClass (top 7) 0) f_Unanswered fd)
    (b_Unanswered : xcB K C_Unanswered f_Unanswered "position" = true)
    (a_BadAnswer : PySem.W.nsIn K mainGlobals "BadAnswer" = some (some (.ref C_BadAnswer)))
    (i_BadAnswer : PySem.W.findIn K (.ref C_BadAnswer) "__init__" = some (some (.ref f_BadAnswer)))
    (o_BadAnswer : XcO K C_BadAnswer)
    (g_BadAnswer : ∃ fd, Fun K "__init__" "BadAnswer.__init__" (inClass (top 8) 0) f_BadAnswer fd)
    (b_BadAnswer : xcB K C_BadAnswer f_BadAnswer "value" = true)
    (a_BadStop : PySem.W.nsIn K mainGlobals "BadStop" = some (some (.ref C_BadStop)))
    (i_BadStop : PySem.W.findIn K (.ref C_BadStop) "__init__" = some (some (.ref f_BadStop)))
    (o_BadStop : XcO K C_BadStop)
    (g_BadStop : ∃ fd, Fun K "__init__" "BadStop.__init__" (inClass (top 9) 0) f_BadStop fd)
    (b_BadStop : xcB K C_BadStop f_BadStop "value" = true)
    (a_NoPlace : PySem.W.nsIn K mainGlobals "NoPlace" = some (some (.ref C_NoPlace)))
    (i_NoPlace : PySem.W.findIn K (.ref C_NoPlace) "__init__" = some (some (.ref f_NoPlace)))
    (o_NoPlace : XcO K C_NoPlace)
    (g_NoPlace : ∃ fd, Fun K "__init__" "NoPlace.__init__" (inClass (top 10) 0) f_NoPlace fd)
    (b_NoPlace : xcB K C_NoPlace f_NoPlace "place" = true)
    (a_BadTrouble : PySem.W.nsIn K mainGlobals "BadTrouble" = some (some (.ref C_BadTrouble)))
    (i_BadTrouble : PySem.W.findIn K (.ref C_BadTrouble) "__init__" = some (some (.ref f_BadTrouble)))
    (o_BadTrouble : XcO K C_BadTrouble)
    (g_BadTrouble : ∃ fd, Fun K "__init__" "BadTrouble.__init__" (inClass (top 11) 0) f_BadTrouble fd)
    (b_BadTrouble : xcB K C_BadTrouble f_BadTrouble "value" = true)
    (a_OtherPlaces : PySem.W.nsIn K mainGlobals "OtherPlaces" = some (some (.ref C_OtherPlaces)))
    (i_OtherPlaces : PySem.W.findIn K (.ref C_OtherPlaces) "__init__" = some (some (.ref f_OtherPlaces)))
    (o_OtherPlaces : XcO K C_OtherPlaces)
    (g_OtherPlaces : ∃ fd, Fun K "__init__" "OtherPlaces.__init__" (inClass (top 12) 0) f_OtherPlaces fd)
    (b_OtherPlaces : xcB K C_OtherPlaces f_OtherPlaces "value" = true)
    (a_BadName : PySem.W.nsIn K mainGlobals "BadName" = some (some (.ref C_BadName)))
    (i_BadName : PySem.W.findIn K (.ref C_BadName) "__init__" = some (some (.ref f_BadName)))
    (o_BadName : XcO K C_BadName)
    (g_BadName : ∃ fd, Fun K "__init__" "BadName.__init__" (inClass (top 13) 0) f_BadName fd)
    (b_BadName : xcB K C_BadName f_BadName "value" = true)
    (a_NoFile : PySem.W.nsIn K mainGlobals "NoFile" = some (some (.ref C_NoFile)))
    (i_NoFile : PySem.W.findIn K (.ref C_NoFile) "__init__" = some (some (.ref f_NoFile)))
    (o_NoFile : XcO K C_NoFile)
    (g_NoFile : ∃ fd, Fun K "__init__" "NoFile.__init__" (inClass (top 14) 0) f_NoFile fd)
    (b_NoFile : xcB K C_NoFile f_NoFile "name" = true)
    (a_Taken : PySem.W.nsIn K mainGlobals "Taken" = some (some (.ref C_Taken)))
    (i_Taken : PySem.W.findIn K (.ref C_Taken) "__init__" = some (some (.ref f_Taken)))
    (o_Taken : XcO K C_Taken)
    (g_Taken : ∃ fd, Fun K "__init__" "Taken.__init__" (inClass (top 15) 0) f_Taken fd)
    (b_Taken : xcB K C_Taken f_Taken "name" = true)
    (a_TooFar : PySem.W.nsIn K mainGlobals "TooFar" = some (some (.ref C_TooFar)))
    (i_TooFar : PySem.W.findIn K (.ref C_TooFar) "__init__" = some (some (.ref f_TooFar)))
    (o_TooFar : XcO K C_TooFar)
    (g_TooFar : ∃ fd, Fun K "__init__" "TooFar.__init__" (inClass (top 16) 0) f_TooFar fd)
    (b_TooFar : xcB K C_TooFar f_TooFar "count" = true)
    (a_BadText : PySem.W.nsIn K mainGlobals "BadText" = some (some (.ref C_BadText)))
    (i_BadText : PySem.W.findIn K (.ref C_BadText) "__init__" = some (some (.ref f_BadText)))
    (o_BadText : XcO K C_BadText)
    (g_BadText : ∃ fd, Fun K "__init__" "BadText.__init__" (inClass (top 17) 0) f_BadText fd)
    (b_BadText : xcB K C_BadText f_BadText "line" = true)
    (a_BadBridge : PySem.W.nsIn K mainGlobals "BadBridge" = some (some (.ref C_BadBridge)))
    (i_BadBridge : PySem.W.findIn K (.ref C_BadBridge) "__init__" = some (some (.ref f_BadBridge)))
    (o_BadBridge : XcO K C_BadBridge)
    (g_BadBridge : ∃ fd, Fun K "__init__" "BadBridge.__init__" (inClass (top 18) 0) f_BadBridge fd)
    (b_BadBridge : xcB K C_BadBridge f_BadBridge "value" = true)
    (a_UpgradeError : PySem.W.nsIn K mainGlobals "UpgradeError" = some (some (.ref C_UpgradeError)))
    (kinds : kindB K [("BadRegisters", C_BadRegisters), ("BadLines", C_BadLines), ("BadLine", C_BadLine), ("BadContent", C_BadContent), ("StillAmid", C_StillAmid), ("Unanswered", C_Unanswered), ("BadAnswer", C_BadAnswer), ("BadStop", C_BadStop), ("NoPlace", C_NoPlace), ("BadTrouble", C_BadTrouble), ("OtherPlaces", C_OtherPlaces), ("BadName", C_BadName), ("NoFile", C_NoFile), ("Taken", C_Taken), ("TooFar", C_TooFar), ("BadText", C_BadText), ("BadBridge", C_BadBridge)] C_UpgradeError = true)
    (z_ValueError : PySem.W.nsIn K mainGlobals "ValueError" = some none)
    (z_enumerate : PySem.W.nsIn K mainGlobals "enumerate" = some none)
    (z_int : PySem.W.nsIn K mainGlobals "int" = some none)
    (z_isinstance : PySem.W.nsIn K mainGlobals "isinstance" = some none)
    (z_len : PySem.W.nsIn K mainGlobals "len" = some none)
    (z_list : PySem.W.nsIn K mainGlobals "list" = some none)
    (z_max : PySem.W.nsIn K mainGlobals "max" = some none)
    (z_min : PySem.W.nsIn K mainGlobals "min" = some none)
    (z_range : PySem.W.nsIn K mainGlobals "range" = some none)
    (z_repr : PySem.W.nsIn K mainGlobals "repr" = some none)
    (a_law_source : PySem.W.nsIn K mainGlobals "_law_source" = some (some (.ref f_law_source)))
    (g_law_source : ∃ fd, Fun K "_law_source" "_law_source" s_law_source f_law_source fd)
    (a_law_draw : PySem.W.nsIn K mainGlobals "_law_draw" = some (some (.ref f_law_draw)))
    (g_law_draw : ∃ fd, Fun K "_law_draw" "_law_draw" s_law_draw f_law_draw fd)
    (a_law_pick : PySem.W.nsIn K mainGlobals "_law_pick" = some (some (.ref f_law_pick)))
    (g_law_pick : ∃ fd, Fun K "_law_pick" "_law_pick" s_law_pick f_law_pick fd)
    (a_law_kinds : PySem.W.nsIn K mainGlobals "_law_kinds" = some (some (.ref f_law_kinds)))
    (g_law_kinds : ∃ fd, Fun K "_law_kinds" "_law_kinds" s_law_kinds f_law_kinds fd)
    (a_law_by_place : PySem.W.nsIn K mainGlobals "_law_by_place" = some (some (.ref f_law_by_place)))
    (g_law_by_place : ∃ fd, Fun K "_law_by_place" "_law_by_place" s_law_by_place f_law_by_place fd)
    (a_law_by_name : PySem.W.nsIn K mainGlobals "_law_by_name" = some (some (.ref f_law_by_name)))
    (g_law_by_name : ∃ fd, Fun K "_law_by_name" "_law_by_name" s_law_by_name f_law_by_name fd)
    (a_law_stored : PySem.W.nsIn K mainGlobals "_law_stored" = some (some (.ref f_law_stored)))
    (g_law_stored : ∃ fd, Fun K "_law_stored" "_law_stored" s_law_stored f_law_stored fd)
    (a_law : PySem.W.nsIn K mainGlobals "law" = some (some (.ref f_law)))
    (g_law : ∃ fd, Fun K "law" "law" s_law f_law fd)
    (hm : ∀ ns : List Int, ns.length ≤ 63 → (∀ z ∈ ns, Builtin.Int.intBits z ≤ 1048576) → ∃ h', b_law ([some (.ref 0)] ++ List.replicate (N_law.length - 1) none) (scriptM ns) = .rt (.bl true) h') :
    ∀ (base : Heap) (s : Shared) (H : Hp) (a : Addr) (ns : List Int), ns.length ≤ 63 → (∀ z ∈ ns, Builtin.Int.intBits z ≤ 1048576) → Env0 P w K mg base callerA [] s H → RdL K H a (ns.map V.int) →
        codeAny (model P w) callerA (.call (.ref fa) ⟨[.ref a], []⟩) (CR (L2.CX P w) [] P w H s (fun v _ => v = .bl true) fun _ _ _ => False) s := by
  have e := hfa.symm.trans (PySem.W.mg_of X G a_law)
  cases e
  intro base s H a ns hl hbits e0 hS
  have cs : ∀ p ∈ ([("BadRegisters", C_BadRegisters), ("BadLines", C_BadLines), ("BadLine", C_BadLine), ("BadContent", C_BadContent), ("StillAmid", C_StillAmid), ("Unanswered", C_Unanswered), ("BadAnswer", C_BadAnswer), ("BadStop", C_BadStop), ("NoPlace", C_NoPlace), ("BadTrouble", C_BadTrouble), ("OtherPlaces", C_OtherPlaces), ("BadName", C_BadName), ("NoFile", C_NoFile), ("Taken", C_Taken), ("TooFar", C_TooFar), ("BadText", C_BadText), ("BadBridge", C_BadBridge)] : List (Str × Addr)), mg p.1 = some (.ref p.2) := by
    simp only [List.forall_mem_cons]
    exact ⟨PySem.W.mg_of X G a_BadRegisters, PySem.W.mg_of X G a_BadLines, PySem.W.mg_of X G a_BadLine, PySem.W.mg_of X G a_BadContent, PySem.W.mg_of X G a_StillAmid, PySem.W.mg_of X G a_Unanswered, PySem.W.mg_of X G a_BadAnswer, PySem.W.mg_of X G a_BadStop, PySem.W.mg_of X G a_NoPlace, PySem.W.mg_of X G a_BadTrouble, PySem.W.mg_of X G a_OtherPlaces, PySem.W.mg_of X G a_BadName, PySem.W.mg_of X G a_NoFile, PySem.W.mg_of X G a_Taken, PySem.W.mg_of X G a_TooFar, PySem.W.mg_of X G a_BadText, PySem.W.mg_of X G a_BadBridge, fun _ z => (nomatch z)⟩
  have B_BadRegisters := xcB_ok b_BadRegisters
  have B_BadLines := xcB_ok b_BadLines
  have B_BadLine := xcB_ok b_BadLine
  have B_BadContent := xcB_ok b_BadContent
  have B_StillAmid := xcB_ok b_StillAmid
  have B_Unanswered := xcB_ok b_Unanswered
  have B_BadAnswer := xcB_ok b_BadAnswer
  have B_BadStop := xcB_ok b_BadStop
  have B_NoPlace := xcB_ok b_NoPlace
  have B_BadTrouble := xcB_ok b_BadTrouble
  have B_OtherPlaces := xcB_ok b_OtherPlaces
  have B_BadName := xcB_ok b_BadName
  have B_NoFile := xcB_ok b_NoFile
  have B_Taken := xcB_ok b_Taken
  have B_TooFar := xcB_ok b_TooFar
  have B_BadText := xcB_ok b_BadText
  have B_BadBridge := xcB_ok b_BadBridge
  have xs : ∀ p ∈ ([("BadRegisters", C_BadRegisters), ("BadLines", C_BadLines), ("BadLine", C_BadLine), ("BadContent", C_BadContent), ("StillAmid", C_StillAmid), ("Unanswered", C_Unanswered), ("BadAnswer", C_BadAnswer), ("BadStop", C_BadStop), ("NoPlace", C_NoPlace), ("BadTrouble", C_BadTrouble), ("OtherPlaces", C_OtherPlaces), ("BadName", C_BadName), ("NoFile", C_NoFile), ("Taken", C_Taken), ("TooFar", C_TooFar), ("BadText", C_BadText), ("BadBridge", C_BadBridge)] : List (Str × Addr)), IsC K p.2 := by
    simp only [List.forall_mem_cons]
    exact ⟨B_BadRegisters.is, B_BadLines.is, B_BadLine.is, B_BadContent.is, B_StillAmid.is, B_Unanswered.is, B_BadAnswer.is, B_BadStop.is, B_NoPlace.is, B_BadTrouble.is, B_OtherPlaces.is, B_BadName.is, B_NoFile.is, B_Taken.is, B_TooFar.is, B_BadText.is, B_BadBridge.is, fun _ z => (nomatch z)⟩
  have T : Txt P w K mg base := {
    n_ValueError := PySem.W.mg_none_of X G z_ValueError
    n_enumerate := PySem.W.mg_none_of X G z_enumerate
    n_int := PySem.W.mg_none_of X G z_int
    n_isinstance := PySem.W.mg_none_of X G z_isinstance
    n_len := PySem.W.mg_none_of X G z_len
    n_list := PySem.W.mg_none_of X G z_list
    n_max := PySem.W.mg_none_of X G z_max
    n_min := PySem.W.mg_none_of X G z_min
    n_range := PySem.W.mg_none_of X G z_range
    n_repr := PySem.W.mg_none_of X G z_repr
    x_BadRegisters := let ⟨_, F⟩ := g_BadRegisters; xc_mk (PySem.W.mg_of X G a_BadRegisters) o_BadRegisters F B_BadRegisters ⟨rfl, rfl, rfl, by decide +kernel, rfl, by decide +kernel, by decide +kernel⟩ rfl (.inl rfl) (.inl rfl) (by decide) (by decide) (fun _ _ _ _ _ _ us hl => match us, hl with | [_, _], _ => rfl) (fun _ _ _ _ _ _ _ _ => rfl)
    x_BadLines := let ⟨_, F⟩ := g_BadLines; xc_mk (PySem.W.mg_of X G a_BadLines) o_BadLines F B_BadLines ⟨rfl, rfl, rfl, by decide +kernel, rfl, by decide +kernel, by decide +kernel⟩ rfl (.inl rfl) (.inl rfl) (by decide) (by decide) (fun _ _ _ _ _ _ us hl => match us, hl with | [_, _], _ => rfl) (fun _ _ _ _ _ _ _ _ => rfl)
    x_BadLine := let ⟨_, F⟩ := g_BadLine; xc_mk (PySem.W.mg_of X G a_BadLine) o_BadLine F B_BadLine ⟨rfl, rfl, rfl, by decide +kernel, rfl, by decide +kernel, by decide +kernel⟩ rfl (.inl rfl) (.inl rfl) (by decide) (by decide) (fun _ _ _ _ _ _ us hl => match us, hl with | [_, _], _ => rfl) (fun _ _ _ _ _ _ _ _ => rfl)
    x_BadContent := let ⟨_, F⟩ := g_BadContent; xc_mk (PySem.W.mg_of X G a_BadContent) o_BadContent F B_BadContent ⟨rfl, rfl, rfl, by decide +kernel, rfl, by decide +kernel, by decide +kernel⟩ rfl (.inl rfl) (.inl rfl) (by decide) (by decide) (fun _ _ _ _ _ _ us hl => match us, hl with | [_, _], _ => rfl) (fun _ _ _ _ _ _ _ _ => rfl)
    x_StillAmid := let ⟨_, F⟩ := g_StillAmid; xc_mk (PySem.W.mg_of X G a_StillAmid) o_StillAmid F B_StillAmid ⟨rfl, rfl, rfl, by decide +kernel, rfl, by decide +kernel, by decide +kernel⟩ rfl (.inl rfl) (.inl rfl) (by decide) (by decide) (fun _ _ _ _ _ _ us hl => match us, hl with | [_, _], _ => rfl) (fun _ _ _ _ _ _ _ _ => rfl)
    x_Unanswered := let ⟨_, F⟩ := g_Unanswered; xc_mk (PySem.W.mg_of X G a_Unanswered) o_Unanswered F B_Unanswered ⟨rfl, rfl, rfl, by decide +kernel, rfl, by decide +kernel, by decide +kernel⟩ rfl (.inl rfl) (.inl rfl) (by decide) (by decide) (fun _ _ _ _ _ _ us hl => match us, hl with | [_, _], _ => rfl) (fun _ _ _ _ _ _ _ _ => rfl)
    x_BadAnswer := let ⟨_, F⟩ := g_BadAnswer; xc_mk (PySem.W.mg_of X G a_BadAnswer) o_BadAnswer F B_BadAnswer ⟨rfl, rfl, rfl, by decide +kernel, rfl, by decide +kernel, by decide +kernel⟩ rfl (.inl rfl) (.inl rfl) (by decide) (by decide) (fun _ _ _ _ _ _ us hl => match us, hl with | [_, _], _ => rfl) (fun _ _ _ _ _ _ _ _ => rfl)
    x_BadStop := let ⟨_, F⟩ := g_BadStop; xc_mk (PySem.W.mg_of X G a_BadStop) o_BadStop F B_BadStop ⟨rfl, rfl, rfl, by decide +kernel, rfl, by decide +kernel, by decide +kernel⟩ rfl (.inl rfl) (.inl rfl) (by decide) (by decide) (fun _ _ _ _ _ _ us hl => match us, hl with | [_, _], _ => rfl) (fun _ _ _ _ _ _ _ _ => rfl)
    x_NoPlace := let ⟨_, F⟩ := g_NoPlace; xc_mk (PySem.W.mg_of X G a_NoPlace) o_NoPlace F B_NoPlace ⟨rfl, rfl, rfl, by decide +kernel, rfl, by decide +kernel, by decide +kernel⟩ rfl (.inl rfl) (.inl rfl) (by decide) (by decide) (fun _ _ _ _ _ _ us hl => match us, hl with | [_, _], _ => rfl) (fun _ _ _ _ _ _ _ _ => rfl)
    x_BadTrouble := let ⟨_, F⟩ := g_BadTrouble; xc_mk (PySem.W.mg_of X G a_BadTrouble) o_BadTrouble F B_BadTrouble ⟨rfl, rfl, rfl, by decide +kernel, rfl, by decide +kernel, by decide +kernel⟩ rfl (.inl rfl) (.inl rfl) (by decide) (by decide) (fun _ _ _ _ _ _ us hl => match us, hl with | [_, _], _ => rfl) (fun _ _ _ _ _ _ _ _ => rfl)
    x_OtherPlaces := let ⟨_, F⟩ := g_OtherPlaces; xc_mk (PySem.W.mg_of X G a_OtherPlaces) o_OtherPlaces F B_OtherPlaces ⟨rfl, rfl, rfl, by decide +kernel, rfl, by decide +kernel, by decide +kernel⟩ rfl (.inl rfl) (.inl rfl) (by decide) (by decide) (fun _ _ _ _ _ _ us hl => match us, hl with | [_, _], _ => rfl) (fun _ _ _ _ _ _ _ _ => rfl)
    x_BadName := let ⟨_, F⟩ := g_BadName; xc_mk (PySem.W.mg_of X G a_BadName) o_BadName F B_BadName ⟨rfl, rfl, rfl, by decide +kernel, rfl, by decide +kernel, by decide +kernel⟩ rfl (.inl rfl) (.inl rfl) (by decide) (by decide) (fun _ _ _ _ _ _ us hl => match us, hl with | [_, _], _ => rfl) (fun _ _ _ _ _ _ _ _ => rfl)
    x_NoFile := let ⟨_, F⟩ := g_NoFile; xc_mk (PySem.W.mg_of X G a_NoFile) o_NoFile F B_NoFile ⟨rfl, rfl, rfl, by decide +kernel, rfl, by decide +kernel, by decide +kernel⟩ rfl (.inl rfl) (.inl rfl) (by decide) (by decide) (fun _ _ _ _ _ _ us hl => match us, hl with | [_, _], _ => rfl) (fun _ _ _ _ _ _ _ _ => rfl)
    x_Taken := let ⟨_, F⟩ := g_Taken; xc_mk (PySem.W.mg_of X G a_Taken) o_Taken F B_Taken ⟨rfl, rfl, rfl, by decide +kernel, rfl, by decide +kernel, by decide +kernel⟩ rfl (.inl rfl) (.inl rfl) (by decide) (by decide) (fun _ _ _ _ _ _ us hl => match us, hl with | [_, _], _ => rfl) (fun _ _ _ _ _ _ _ _ => rfl)
    x_TooFar := let ⟨_, F⟩ := g_TooFar; xc_mk (PySem.W.mg_of X G a_TooFar) o_TooFar F B_TooFar ⟨rfl, rfl, rfl, by decide +kernel, rfl, by decide +kernel, by decide +kernel⟩ rfl (.inl rfl) (.inl rfl) (by decide) (by decide) (fun _ _ _ _ _ _ us hl => match us, hl with | [_, _], _ => rfl) (fun _ _ _ _ _ _ _ _ => rfl)
    x_BadText := let ⟨_, F⟩ := g_BadText; xc_mk (PySem.W.mg_of X G a_BadText) o_BadText F B_BadText ⟨rfl, rfl, rfl, by decide +kernel, rfl, by decide +kernel, by decide +kernel⟩ rfl (.inl rfl) (.inl rfl) (by decide) (by decide) (fun _ _ _ _ _ _ us hl => match us, hl with | [_, _], _ => rfl) (fun _ _ _ _ _ _ _ _ => rfl)
    x_BadBridge := let ⟨_, F⟩ := g_BadBridge; xc_mk (PySem.W.mg_of X G a_BadBridge) o_BadBridge F B_BadBridge ⟨rfl, rfl, rfl, by decide +kernel, rfl, by decide +kernel, by decide +kernel⟩ rfl (.inl rfl) (.inl rfl) (by decide) (by decide) (fun _ _ _ _ _ _ us hl => match us, hl with | [_, _], _ => rfl) (fun _ _ _ _ _ _ _ _ => rfl)
    m_BadAnswer := adr_of (PySem.W.mg_of X G a_BadAnswer)
    i_BadAnswer := by rw [adr_is (PySem.W.mg_of X G a_BadAnswer)]; exact isTab_mk cs xs (kind_C kinds (q := ("BadAnswer", C_BadAnswer)) (by simp))
    m_BadBridge := adr_of (PySem.W.mg_of X G a_BadBridge)
    i_BadBridge := by rw [adr_is (PySem.W.mg_of X G a_BadBridge)]; exact isTab_mk cs xs (kind_C kinds (q := ("BadBridge", C_BadBridge)) (by simp))
    m_BadContent := adr_of (PySem.W.mg_of X G a_BadContent)
    i_BadContent := by rw [adr_is (PySem.W.mg_of X G a_BadContent)]; exact isTab_mk cs xs (kind_C kinds (q := ("BadContent", C_BadContent)) (by simp))
    m_BadLine := adr_of (PySem.W.mg_of X G a_BadLine)
    i_BadLine := by rw [adr_is (PySem.W.mg_of X G a_BadLine)]; exact isTab_mk cs xs (kind_C kinds (q := ("BadLine", C_BadLine)) (by simp))
    m_BadLines := adr_of (PySem.W.mg_of X G a_BadLines)
    i_BadLines := by rw [adr_is (PySem.W.mg_of X G a_BadLines)]; exact isTab_mk cs xs (kind_C kinds (q := ("BadLines", C_BadLines)) (by simp))
    m_BadName := adr_of (PySem.W.mg_of X G a_BadName)
    i_BadName := by rw [adr_is (PySem.W.mg_of X G a_BadName)]; exact isTab_mk cs xs (kind_C kinds (q := ("BadName", C_BadName)) (by simp))
    m_BadRegisters := adr_of (PySem.W.mg_of X G a_BadRegisters)
    i_BadRegisters := by rw [adr_is (PySem.W.mg_of X G a_BadRegisters)]; exact isTab_mk cs xs (kind_C kinds (q := ("BadRegisters", C_BadRegisters)) (by simp))
    m_BadStop := adr_of (PySem.W.mg_of X G a_BadStop)
    i_BadStop := by rw [adr_is (PySem.W.mg_of X G a_BadStop)]; exact isTab_mk cs xs (kind_C kinds (q := ("BadStop", C_BadStop)) (by simp))
    m_BadText := adr_of (PySem.W.mg_of X G a_BadText)
    i_BadText := by rw [adr_is (PySem.W.mg_of X G a_BadText)]; exact isTab_mk cs xs (kind_C kinds (q := ("BadText", C_BadText)) (by simp))
    m_BadTrouble := adr_of (PySem.W.mg_of X G a_BadTrouble)
    i_BadTrouble := by rw [adr_is (PySem.W.mg_of X G a_BadTrouble)]; exact isTab_mk cs xs (kind_C kinds (q := ("BadTrouble", C_BadTrouble)) (by simp))
    m_NoFile := adr_of (PySem.W.mg_of X G a_NoFile)
    i_NoFile := by rw [adr_is (PySem.W.mg_of X G a_NoFile)]; exact isTab_mk cs xs (kind_C kinds (q := ("NoFile", C_NoFile)) (by simp))
    m_NoPlace := adr_of (PySem.W.mg_of X G a_NoPlace)
    i_NoPlace := by rw [adr_is (PySem.W.mg_of X G a_NoPlace)]; exact isTab_mk cs xs (kind_C kinds (q := ("NoPlace", C_NoPlace)) (by simp))
    m_OtherPlaces := adr_of (PySem.W.mg_of X G a_OtherPlaces)
    i_OtherPlaces := by rw [adr_is (PySem.W.mg_of X G a_OtherPlaces)]; exact isTab_mk cs xs (kind_C kinds (q := ("OtherPlaces", C_OtherPlaces)) (by simp))
    m_StillAmid := adr_of (PySem.W.mg_of X G a_StillAmid)
    i_StillAmid := by rw [adr_is (PySem.W.mg_of X G a_StillAmid)]; exact isTab_mk cs xs (kind_C kinds (q := ("StillAmid", C_StillAmid)) (by simp))
    m_Taken := adr_of (PySem.W.mg_of X G a_Taken)
    i_Taken := by rw [adr_is (PySem.W.mg_of X G a_Taken)]; exact isTab_mk cs xs (kind_C kinds (q := ("Taken", C_Taken)) (by simp))
    m_TooFar := adr_of (PySem.W.mg_of X G a_TooFar)
    i_TooFar := by rw [adr_is (PySem.W.mg_of X G a_TooFar)]; exact isTab_mk cs xs (kind_C kinds (q := ("TooFar", C_TooFar)) (by simp))
    m_Unanswered := adr_of (PySem.W.mg_of X G a_Unanswered)
    i_Unanswered := by rw [adr_is (PySem.W.mg_of X G a_Unanswered)]; exact isTab_mk cs xs (kind_C kinds (q := ("Unanswered", C_Unanswered)) (by simp))
    m_UpgradeError := adr_of (PySem.W.mg_of X G a_UpgradeError)
    i_UpgradeError := by rw [adr_is (PySem.W.mg_of X G a_UpgradeError)]; exact isTab_mk cs xs (kind_U kinds)
    i_ValueError := isTab_mk cs xs (kind_V kinds)
    f_value := fld_mk (cs := [("BadRegisters", C_BadRegisters), ("BadLines", C_BadLines), ("BadContent", C_BadContent), ("BadAnswer", C_BadAnswer), ("BadStop", C_BadStop), ("BadTrouble", C_BadTrouble), ("OtherPlaces", C_OtherPlaces), ("BadName", C_BadName), ("BadBridge", C_BadBridge)]) (by simp only [List.forall_mem_cons]; exact ⟨PySem.W.mg_of X G a_BadRegisters, PySem.W.mg_of X G a_BadLines, PySem.W.mg_of X G a_BadContent, PySem.W.mg_of X G a_BadAnswer, PySem.W.mg_of X G a_BadStop, PySem.W.mg_of X G a_BadTrouble, PySem.W.mg_of X G a_OtherPlaces, PySem.W.mg_of X G a_BadName, PySem.W.mg_of X G a_BadBridge, fun _ z => (nomatch z)⟩) (by simp only [List.forall_mem_cons]; exact ⟨⟨B_BadRegisters.xf, B_BadRegisters.no⟩, ⟨B_BadLines.xf, B_BadLines.no⟩, ⟨B_BadContent.xf, B_BadContent.no⟩, ⟨B_BadAnswer.xf, B_BadAnswer.no⟩, ⟨B_BadStop.xf, B_BadStop.no⟩, ⟨B_BadTrouble.xf, B_BadTrouble.no⟩, ⟨B_OtherPlaces.xf, B_OtherPlaces.no⟩, ⟨B_BadName.xf, B_BadName.no⟩, ⟨B_BadBridge.xf, B_BadBridge.no⟩, fun _ z => (nomatch z)⟩)
    f_position := fld_mk (cs := [("BadLine", C_BadLine), ("Unanswered", C_Unanswered)]) (by simp only [List.forall_mem_cons]; exact ⟨PySem.W.mg_of X G a_BadLine, PySem.W.mg_of X G a_Unanswered, fun _ z => (nomatch z)⟩) (by simp only [List.forall_mem_cons]; exact ⟨⟨B_BadLine.xf, B_BadLine.no⟩, ⟨B_Unanswered.xf, B_Unanswered.no⟩, fun _ z => (nomatch z)⟩)
    f_content := fld_mk (cs := [("StillAmid", C_StillAmid)]) (by simp only [List.forall_mem_cons]; exact ⟨PySem.W.mg_of X G a_StillAmid, fun _ z => (nomatch z)⟩) (by simp only [List.forall_mem_cons]; exact ⟨⟨B_StillAmid.xf, B_StillAmid.no⟩, fun _ z => (nomatch z)⟩)
    f_place := fld_mk (cs := [("NoPlace", C_NoPlace)]) (by simp only [List.forall_mem_cons]; exact ⟨PySem.W.mg_of X G a_NoPlace, fun _ z => (nomatch z)⟩) (by simp only [List.forall_mem_cons]; exact ⟨⟨B_NoPlace.xf, B_NoPlace.no⟩, fun _ z => (nomatch z)⟩)
    f_name := fld_mk (cs := [("NoFile", C_NoFile), ("Taken", C_Taken)]) (by simp only [List.forall_mem_cons]; exact ⟨PySem.W.mg_of X G a_NoFile, PySem.W.mg_of X G a_Taken, fun _ z => (nomatch z)⟩) (by simp only [List.forall_mem_cons]; exact ⟨⟨B_NoFile.xf, B_NoFile.no⟩, ⟨B_Taken.xf, B_Taken.no⟩, fun _ z => (nomatch z)⟩)
    f_count := fld_mk (cs := [("TooFar", C_TooFar)]) (by simp only [List.forall_mem_cons]; exact ⟨PySem.W.mg_of X G a_TooFar, fun _ z => (nomatch z)⟩) (by simp only [List.forall_mem_cons]; exact ⟨⟨B_TooFar.xf, B_TooFar.no⟩, fun _ z => (nomatch z)⟩)
    f_line := fld_mk (cs := [("BadText", C_BadText)]) (by simp only [List.forall_mem_cons]; exact ⟨PySem.W.mg_of X G a_BadText, fun _ z => (nomatch z)⟩) (by simp only [List.forall_mem_cons]; exact ⟨⟨B_BadText.xf, B_BadText.no⟩, fun _ z => (nomatch z)⟩)
  }
  obtain ⟨_, F_law_source⟩ := g_law_source
  have bi_law_source := F_law_source.binds (ps := ["script", "start"]) fun _ _ _ _ _ _ us hl => match us, hl with | [_, _], _ => rfl
  have C_law_source : Cal P w K mg base "_law_source" 1 m_law_source := cal_mk F_law_source (PySem.W.mg_of X G a_law_source) bi_law_source (ok_law_source F_law_source T ) rfl
  obtain ⟨_, F_law_draw⟩ := g_law_draw
  have bi_law_draw := F_law_draw.binds (ps := ["source", "span"]) fun _ _ _ _ _ _ us hl => match us, hl with | [_, _], _ => rfl
  have C_law_draw : Cal P w K mg base "_law_draw" 1 m_law_draw := cal_mk F_law_draw (PySem.W.mg_of X G a_law_draw) bi_law_draw (ok_law_draw F_law_draw T ) rfl
  obtain ⟨_, F_law_pick⟩ := g_law_pick
  have bi_law_pick := F_law_pick.binds (ps := ["source", "things"]) fun _ _ _ _ _ _ us hl => match us, hl with | [_, _], _ => rfl
  have C_law_pick : Cal P w K mg base "_law_pick" 2 m_law_pick := cal_mk F_law_pick (PySem.W.mg_of X G a_law_pick) bi_law_pick (ok_law_pick F_law_pick T C_law_draw) rfl
  obtain ⟨_, F_law_kinds⟩ := g_law_kinds
  have bi_law_kinds := F_law_kinds.binds (ps := ["error"]) fun _ _ _ _ _ _ us hl => match us, hl with | [_], _ => rfl
  have C_law_kinds : Cal P w K mg base "_law_kinds" 1 m_law_kinds := cal_mk F_law_kinds (PySem.W.mg_of X G a_law_kinds) bi_law_kinds (ok_law_kinds F_law_kinds T ) rfl
  obtain ⟨_, F_law_by_place⟩ := g_law_by_place
  have bi_law_by_place := F_law_by_place.binds (ps := ["thing", "word", "many"]) fun _ _ _ _ _ _ us hl => match us, hl with | [_, _, _], _ => rfl
  have C_law_by_place : Cal P w K mg base "_law_by_place" 3 m_law_by_place := cal_mk F_law_by_place (PySem.W.mg_of X G a_law_by_place) bi_law_by_place (ok_law_by_place F_law_by_place T ) rfl
  obtain ⟨_, F_law_by_name⟩ := g_law_by_name
  have bi_law_by_name := F_law_by_name.binds (ps := ["thing", "word", "many"]) fun _ _ _ _ _ _ us hl => match us, hl with | [_, _, _], _ => rfl
  have C_law_by_name : Cal P w K mg base "_law_by_name" 3 m_law_by_name := cal_mk F_law_by_name (PySem.W.mg_of X G a_law_by_name) bi_law_by_name (ok_law_by_name F_law_by_name T ) rfl
  obtain ⟨_, F_law_stored⟩ := g_law_stored
  have bi_law_stored := F_law_stored.binds (ps := ["errors"]) fun _ _ _ _ _ _ us hl => match us, hl with | [_], _ => rfl
  have C_law_stored : Cal P w K mg base "_law_stored" 1 m_law_stored := cal_mk F_law_stored (PySem.W.mg_of X G a_law_stored) bi_law_stored (ok_law_stored F_law_stored T ) rfl
  obtain ⟨_, F_law⟩ := g_law
  have bi_law := F_law.binds (ps := ["script"]) fun _ _ _ _ _ _ us hl => match us, hl with | [_], _ => rfl
  exact law_run F_law sc_law (k := 3) ⟨rfl, by decide, by decide⟩ e0 bi_law hS (fun cdv hr => ok_law T C_law_by_name C_law_by_place C_law_draw C_law_kinds C_law_pick C_law_source C_law_stored hr) (hm ns hl hbits)
end ML

namespace ML
open PySem PySem.Spec PyProof.Rows L2
theorem draw {h : MH} {k : Nat} {r m span : Int} (hk : h[k]? = some (.lst [.int r, .int m])) (hr : 0 ≤ r) (hm : 0 ≤ m) (hm2 : m < 2147483648) (hs : 0 < span) (hs2 : span < 1000000) :
    ∃ v r' m', m_law_draw [.ref k, .int span] h = .ok (.int v) (h.set k (.lst [.int r', .int m'])) ∧ 0 ≤ v ∧ v < span ∧ 0 ≤ r' ∧ 0 ≤ m' ∧ m' < 2147483648 := by
  unfold m_law_draw
  have g1 : ∀ {o : O}, (h.set k o)[k]? = some o := fun {o} => set_get hk
  by_cases c : span ≤ r
  · refine ⟨r % span, r / span, m, ?_, Int.emod_nonneg _ (by omega), Int.emod_lt_of_pos _ hs, Int.ediv_nonneg hr (by omega), hm, hm2⟩
    have hl : span.natAbs.log2 < 9000 := Nat.lt_trans (log_lt (k := 20) (by decide) (by omega)) (by decide)
    have a0 := ix0 hk
    have a1 := mod_i (h := h) (k := r) hs
    have a2 := div_i (h := h) (k := r) hs hl
    have a3 := st0 (v := .int (r / span)) hk
    have a4 := ge_T (h := h) c
    refine ef_rt rfl ?_
    unfold b_law_draw
    apply es_seqR
    apply es_ifT
    · repeat' (first | with_reducible exact a0 | with_reducible exact a1 | with_reducible exact a2 | with_reducible exact a3 | with_reducible exact a4 | exact (rfl : List.set _ _ _ = _) | ((with_reducible apply ev_var); exact rfl) | with_reducible exact ev_con | with_reducible exact ev_nil | with_reducible exact es_pass | with_reducible exact int_i | with_reducible exact add_i | with_reducible exact sub_i | with_reducible apply ev_bin | with_reducible apply ev_un | with_reducible apply ev_cons | with_reducible apply ev_on | with_reducible apply ev_val | with_reducible apply ev_not | with_reducible apply es_set' | with_reducible apply es_exp | with_reducible apply es_ret | with_reducible apply es_setX | with_reducible apply es_par2)
    · apply es_seq
      · repeat' (first | with_reducible exact a0 | with_reducible exact a1 | with_reducible exact a2 | with_reducible exact a3 | with_reducible exact a4 | exact (rfl : List.set _ _ _ = _) | ((with_reducible apply ev_var); exact rfl) | with_reducible exact ev_con | with_reducible exact ev_nil | with_reducible exact es_pass | with_reducible exact int_i | with_reducible exact add_i | with_reducible exact sub_i | with_reducible apply ev_bin | with_reducible apply ev_un | with_reducible apply ev_cons | with_reducible apply ev_on | with_reducible apply ev_val | with_reducible apply ev_not | with_reducible apply es_set' | with_reducible apply es_exp | with_reducible apply es_ret | with_reducible apply es_setX | with_reducible apply es_par2)
      · apply es_seq
        · repeat' (first | with_reducible exact a0 | with_reducible exact a1 | with_reducible exact a2 | with_reducible exact a3 | with_reducible exact a4 | exact (rfl : List.set _ _ _ = _) | ((with_reducible apply ev_var); exact rfl) | with_reducible exact ev_con | with_reducible exact ev_nil | with_reducible exact es_pass | with_reducible exact int_i | with_reducible exact add_i | with_reducible exact sub_i | with_reducible apply ev_bin | with_reducible apply ev_un | with_reducible apply ev_cons | with_reducible apply ev_on | with_reducible apply ev_val | with_reducible apply ev_not | with_reducible apply es_set' | with_reducible apply es_exp | with_reducible apply es_ret | with_reducible apply es_setX | with_reducible apply es_par2)
        · repeat' (first | with_reducible exact a0 | with_reducible exact a1 | with_reducible exact a2 | with_reducible exact a3 | with_reducible exact a4 | exact (rfl : List.set _ _ _ = _) | ((with_reducible apply ev_var); exact rfl) | with_reducible exact ev_con | with_reducible exact ev_nil | with_reducible exact es_pass | with_reducible exact int_i | with_reducible exact add_i | with_reducible exact sub_i | with_reducible apply ev_bin | with_reducible apply ev_un | with_reducible apply ev_cons | with_reducible apply ev_on | with_reducible apply ev_val | with_reducible apply ev_not | with_reducible apply es_set' | with_reducible apply es_exp | with_reducible apply es_ret | with_reducible apply es_setX | with_reducible apply es_par2)
  · have hm' : m.natAbs.log2 < 32 := log_lt (by decide) (by omega)
    have h69 : (69621 : Int).natAbs.log2 < 17 := log_lt (by decide) (by decide)
    have h13 : (13 : Int).natAbs.log2 < 9000 := Nat.lt_trans (log_lt (k := 4) (by decide) (by decide)) (by decide)
    have a0 := ix0 hk
    have a9 := ix1 hk
    obtain ⟨m1, a1⟩ : ∃ z, mulF (.int m) (.int 69621) h = .ok (.int z) h := ⟨_, mul_i (by omega)⟩
    obtain ⟨m2, a2⟩ : ∃ z, addF (.int m1) (.int 3571) h = .ok (.int z) h := ⟨_, add_i⟩
    obtain ⟨m', a3, b1, b2⟩ : ∃ z, modF (.int m2) (.int 2147483647) h = .ok (.int z) h ∧ 0 ≤ z ∧ z < 2147483647 := ⟨_, mod_i (by decide), Int.emod_nonneg _ (by decide), Int.emod_lt_of_pos _ (by decide)⟩
    have hq : m'.natAbs.log2 < 32 := log_lt (by decide) (by omega)
    have hp : ((m'.natAbs.log2 + 1 : Nat) : Int) * 5 ≤ 2 ^ 27 := by omega
    obtain ⟨h', eh⟩ : ∃ h', h' = h.set k (.lst [.int r, .int m']) := ⟨_, rfl⟩
    have a4 : stF (.ref k) (.int 1) (.int m') h = some h' := by rw [eh]; exact st1 hk
    have a5 : ixF (.ref k) (.int 1) h' = .ok (.int m') h' := ix1 (by rw [eh]; exact g1)
    obtain ⟨p1, c1⟩ : ∃ z, powF (.int m') (.int 5) h' = .ok (.int z) h' := ⟨_, pow_i (by decide) hp⟩
    obtain ⟨p2, c2⟩ : ∃ z, modF (.int p1) (.int 1000000007) h' = .ok (.int z) h' := ⟨_, mod_i (by decide)⟩
    obtain ⟨p3, c3⟩ : ∃ z, fdivF (.int p2) (.int 13) h' = .ok (.int z) h' := ⟨_, div_i (by decide) h13⟩
    obtain ⟨v, c4, v1, v2⟩ : ∃ z, modF (.int p3) (.int span) h' = .ok (.int z) h' ∧ 0 ≤ z ∧ z < span := ⟨_, mod_i hs, Int.emod_nonneg _ (by omega), Int.emod_lt_of_pos _ hs⟩
    refine ⟨v, r, m', ?_, v1, v2, hr, b1, by omega⟩
    rw [← eh]
    have a6 := ge_F (h := h) c
    refine ef_rt rfl ?_
    unfold b_law_draw
    apply es_seq
    · apply es_ifF
      · repeat' (first | with_reducible exact a0 | with_reducible exact a6 | exact (rfl : List.set _ _ _ = _) | ((with_reducible apply ev_var); exact rfl) | with_reducible exact ev_con | with_reducible exact ev_nil | with_reducible exact es_pass | with_reducible exact int_i | with_reducible exact add_i | with_reducible exact sub_i | with_reducible apply ev_bin | with_reducible apply ev_un | with_reducible apply ev_cons | with_reducible apply ev_on | with_reducible apply ev_val | with_reducible apply ev_not | with_reducible apply es_set' | with_reducible apply es_exp | with_reducible apply es_ret | with_reducible apply es_setX | with_reducible apply es_par2)
      · exact es_pass
    · apply es_seq
      · repeat' (first | with_reducible exact a0 | with_reducible exact a1 | with_reducible exact a2 | with_reducible exact a3 | with_reducible exact a4 | with_reducible exact a5 | with_reducible exact a9 | with_reducible exact c1 | with_reducible exact c2 | with_reducible exact c3 | with_reducible exact c4 | exact (rfl : List.set _ _ _ = _) | ((with_reducible apply ev_var); exact rfl) | with_reducible exact ev_con | with_reducible exact ev_nil | with_reducible exact es_pass | with_reducible exact int_i | with_reducible exact add_i | with_reducible exact sub_i | with_reducible apply ev_bin | with_reducible apply ev_un | with_reducible apply ev_cons | with_reducible apply ev_on | with_reducible apply ev_val | with_reducible apply ev_not | with_reducible apply es_set' | with_reducible apply es_exp | with_reducible apply es_ret | with_reducible apply es_setX | with_reducible apply es_par2)
      · repeat' (first | with_reducible exact a0 | with_reducible exact a1 | with_reducible exact a2 | with_reducible exact a3 | with_reducible exact a4 | with_reducible exact a5 | with_reducible exact a9 | with_reducible exact c1 | with_reducible exact c2 | with_reducible exact c3 | with_reducible exact c4 | exact (rfl : List.set _ _ _ = _) | ((with_reducible apply ev_var); exact rfl) | with_reducible exact ev_con | with_reducible exact ev_nil | with_reducible exact es_pass | with_reducible exact int_i | with_reducible exact add_i | with_reducible exact sub_i | with_reducible apply ev_bin | with_reducible apply ev_un | with_reducible apply ev_cons | with_reducible apply ev_on | with_reducible apply ev_val | with_reducible apply ev_not | with_reducible apply es_set' | with_reducible apply es_exp | with_reducible apply es_ret | with_reducible apply es_setX | with_reducible apply es_par2)
def src_body : SM := setS 2 (bin addF (bin modF (onA intF (consA (bin powF (onA intF (consA (bin addF (bin mulF (varE 2) (conE (.int 50021))) (onA intF (consA (varE 3) (nilA)))) (nilA))) (conE (.int 3))) (nilA))) (conE (.int 2147483563))) (conE (.int 1)))
theorem src_loop {a st : D} {h : MH} : ∀ (ns : List Int) (m : Int) (c : Option D), (∀ z ∈ ns, Builtin.Int.intBits z ≤ 1048576) → 0 ≤ m → m < 2147483648 →
    ∃ m' c', loopS [] (gnm 3) src_body (ns.map .int) [some a, some st, some (.int m), c, none] h = .nx [some a, some st, some (.int m'), c', none] h ∧ 0 ≤ m' ∧ m' < 2147483648
  | [], m, c, _, h0, h1 => ⟨m, c, loop_nil rfl, h0, h1⟩
  | z :: ns, m, c, hb, h0, h1 => by
    have b0 := bits_lt z
    have b1 := hb z List.mem_cons_self
    have hm' : m.natAbs.log2 < 32 := log_lt (by decide) (by omega)
    have h50 : (50021 : Int).natAbs.log2 < 16 := log_lt (by decide) (by decide)
    generalize Builtin.Int.intBits z = b at b0 b1
    obtain ⟨m1, e1, e2⟩ : ∃ z, z = m * 50021 ∧ mulF (.int m) (.int 50021) h = .ok (.int z) h := ⟨_, rfl, mul_i (by omega)⟩
    have k1 : m1.natAbs < 2 ^ 48 := by omega
    obtain ⟨k, k2, k3, k4⟩ : ∃ k, 48 ≤ k ∧ b ≤ k ∧ k ≤ 1048576 := by
      by_cases q : b ≤ 48
      · exact ⟨48, by omega, by omega, by omega⟩
      · exact ⟨b, by omega, by omega, by omega⟩
    have k5 : (m1 + z).natAbs.log2 ≤ k := log_add (pow_up k1 k2) (pow_up b0 k3)
    obtain ⟨m2, e3, e4⟩ : ∃ y, y = m1 + z ∧ addF (.int m1) (.int z) h = .ok (.int y) h := ⟨_, rfl, add_i⟩
    rw [← e3] at k5
    obtain ⟨m3, e5⟩ : ∃ y, powF (.int m2) (.int 3) h = .ok (.int y) h := ⟨_, pow_i (by decide) (by omega)⟩
    obtain ⟨m4, e6, c0, c1⟩ : ∃ y, modF (.int m3) (.int 2147483563) h = .ok (.int y) h ∧ 0 ≤ y ∧ y < 2147483563 := ⟨_, mod_i (by decide), Int.emod_nonneg _ (by decide), Int.emod_lt_of_pos _ (by decide)⟩
    have e7 : addF (.int m4) (.int 1) h = .ok (.int (m4 + 1)) h := add_i
    obtain ⟨m', c', e8, d0, d1⟩ := src_loop (a := a) (st := st) (h := h) ns (m4 + 1) (some (.int z)) (fun y hy => hb y (List.mem_cons_of_mem _ hy)) (by omega) (by omega)
    refine ⟨m', c', ?_, d0, d1⟩
    rw [List.map_cons, ← e8]
    apply loop_cons rfl rfl
    unfold src_body
    repeat' (first | with_reducible exact e2 | with_reducible exact e4 | with_reducible exact e5 | with_reducible exact e6 | with_reducible exact e7 | exact (rfl : List.set _ _ _ = _) | ((with_reducible apply ev_var); exact rfl) | with_reducible exact ev_con | with_reducible exact ev_nil | with_reducible exact es_pass | with_reducible exact int_i | with_reducible exact add_i | with_reducible exact sub_i | with_reducible apply ev_bin | with_reducible apply ev_un | with_reducible apply ev_cons | with_reducible apply ev_on | with_reducible apply ev_val | with_reducible apply ev_not | with_reducible apply es_set' | with_reducible apply es_exp | with_reducible apply es_ret | with_reducible apply es_setX | with_reducible apply es_par2)
theorem source {h : MH} {n : Nat} {ns : List Int} {start : Int} (hn : h[n]? = some (.rdl (ns.map .int))) (hb : ∀ z ∈ ns, Builtin.Int.intBits z ≤ 1048576) (h0 : 0 ≤ start) (h1 : start < 100) :
    ∃ r m, m_law_source [.ref n, .int start] h = .ok (.ref h.length) (h ++ [.lst [.int r, .int m]]) ∧ 0 ≤ r ∧ 0 ≤ m ∧ m < 2147483648 := by
  obtain ⟨m', c', e1, d0, d1⟩ := src_loop (a := .ref n) (st := .int start) (h := h) ns (43 + start) none hb (by omega) (by omega)
  have a0 : addF (.int 43) (.int start) h = .ok (.int (43 + start)) h := add_i
  have a1 := len_rdl hn
  rw [List.length_map] at a1
  obtain ⟨t, ht⟩ : ∃ t : Int, t = 10 ^ (18 : Int).toNat := ⟨_, rfl⟩
  have a2 : powF (.int 10) (.int 18) h = .ok (.int t) h := by rw [ht]; exact pow_i (by decide) (by have := log_lt (z := 10) (k := 4) (by decide) (by decide); omega)
  have fin : ∀ r : Int, lstF [.int r, .int m'] h = .ok (.ref h.length) (h ++ [.lst [.int r, .int m']]) := fun r => lst_new (show 2 ≤ 1000000 by decide)
  have key : ∃ r, ifS (andT (valT (bin ltF (varE 1) (onA lenF (consA (varE 0) (nilA))))) (valT (bin geF (bin ixF (varE 0) (varE 1)) (bin powF (conE (.int 10)) (conE (.int 18)))))) (setS 4 (bin subF (bin ixF (varE 0) (varE 1)) (bin powF (conE (.int 10)) (conE (.int 18))))) (passS)
      [some (.ref n), some (.int start), some (.int m'), c', some (.int 0)] h = .nx [some (.ref n), some (.int start), some (.int m'), c', some (.int r)] h ∧ 0 ≤ r := by
    by_cases c : start < (ns.length : Int)
    · have hs : start.toNat < ns.length := by omega
      have a3 : ixF (.ref n) (.int start) h = .ok (.int ns[start.toNat]) h := ix_rdl hn h0 (by rw [List.getElem?_map, List.getElem?_eq_getElem hs]; rfl)
      have a4 := lt_T (h := h) c
      generalize ns[start.toNat] = y at a3
      by_cases c2 : t ≤ y
      · have a5 := ge_T (h := h) c2
        have a6 : subF (.int y) (.int t) h = .ok (.int (y - t)) h := sub_i
        refine ⟨y - t, ?_, by omega⟩
        apply es_ifT
        · apply ev_andT
          · repeat' (first | with_reducible exact a1 | with_reducible exact a4 | exact (rfl : List.set _ _ _ = _) | ((with_reducible apply ev_var); exact rfl) | with_reducible exact ev_con | with_reducible exact ev_nil | with_reducible exact es_pass | with_reducible exact int_i | with_reducible exact add_i | with_reducible exact sub_i | with_reducible apply ev_bin | with_reducible apply ev_un | with_reducible apply ev_cons | with_reducible apply ev_on | with_reducible apply ev_val | with_reducible apply ev_not | with_reducible apply es_set' | with_reducible apply es_exp | with_reducible apply es_ret | with_reducible apply es_setX | with_reducible apply es_par2)
          · repeat' (first | with_reducible exact a2 | with_reducible exact a3 | with_reducible exact a5 | exact (rfl : List.set _ _ _ = _) | ((with_reducible apply ev_var); exact rfl) | with_reducible exact ev_con | with_reducible exact ev_nil | with_reducible exact es_pass | with_reducible exact int_i | with_reducible exact add_i | with_reducible exact sub_i | with_reducible apply ev_bin | with_reducible apply ev_un | with_reducible apply ev_cons | with_reducible apply ev_on | with_reducible apply ev_val | with_reducible apply ev_not | with_reducible apply es_set' | with_reducible apply es_exp | with_reducible apply es_ret | with_reducible apply es_setX | with_reducible apply es_par2)
        · repeat' (first | with_reducible exact a2 | with_reducible exact a3 | with_reducible exact a6 | exact (rfl : List.set _ _ _ = _) | ((with_reducible apply ev_var); exact rfl) | with_reducible exact ev_con | with_reducible exact ev_nil | with_reducible exact es_pass | with_reducible exact int_i | with_reducible exact add_i | with_reducible exact sub_i | with_reducible apply ev_bin | with_reducible apply ev_un | with_reducible apply ev_cons | with_reducible apply ev_on | with_reducible apply ev_val | with_reducible apply ev_not | with_reducible apply es_set' | with_reducible apply es_exp | with_reducible apply es_ret | with_reducible apply es_setX | with_reducible apply es_par2)
      · have a5 := ge_F (h := h) c2
        refine ⟨0, ?_, by decide⟩
        apply es_ifF
        · apply ev_andT
          · repeat' (first | with_reducible exact a1 | with_reducible exact a4 | exact (rfl : List.set _ _ _ = _) | ((with_reducible apply ev_var); exact rfl) | with_reducible exact ev_con | with_reducible exact ev_nil | with_reducible exact es_pass | with_reducible exact int_i | with_reducible exact add_i | with_reducible exact sub_i | with_reducible apply ev_bin | with_reducible apply ev_un | with_reducible apply ev_cons | with_reducible apply ev_on | with_reducible apply ev_val | with_reducible apply ev_not | with_reducible apply es_set' | with_reducible apply es_exp | with_reducible apply es_ret | with_reducible apply es_setX | with_reducible apply es_par2)
          · repeat' (first | with_reducible exact a2 | with_reducible exact a3 | with_reducible exact a5 | exact (rfl : List.set _ _ _ = _) | ((with_reducible apply ev_var); exact rfl) | with_reducible exact ev_con | with_reducible exact ev_nil | with_reducible exact es_pass | with_reducible exact int_i | with_reducible exact add_i | with_reducible exact sub_i | with_reducible apply ev_bin | with_reducible apply ev_un | with_reducible apply ev_cons | with_reducible apply ev_on | with_reducible apply ev_val | with_reducible apply ev_not | with_reducible apply es_set' | with_reducible apply es_exp | with_reducible apply es_ret | with_reducible apply es_setX | with_reducible apply es_par2)
        · exact es_pass
    · have a4 := lt_F (h := h) c
      refine ⟨0, ?_, by decide⟩
      apply es_ifF
      · apply ev_andF
        repeat' (first | with_reducible exact a1 | with_reducible exact a4 | exact (rfl : List.set _ _ _ = _) | ((with_reducible apply ev_var); exact rfl) | with_reducible exact ev_con | with_reducible exact ev_nil | with_reducible exact es_pass | with_reducible exact int_i | with_reducible exact add_i | with_reducible exact sub_i | with_reducible apply ev_bin | with_reducible apply ev_un | with_reducible apply ev_cons | with_reducible apply ev_on | with_reducible apply ev_val | with_reducible apply ev_not | with_reducible apply es_set' | with_reducible apply es_exp | with_reducible apply es_ret | with_reducible apply es_setX | with_reducible apply es_par2)
      · exact es_pass
  obtain ⟨r, e2, r0⟩ := key
  have fr := fin r
  refine ⟨r, m', ?_, r0, d0, d1⟩
  refine ef_rt rfl ?_
  unfold b_law_source
  apply es_seq
  · repeat' (first | with_reducible exact a0 | exact (rfl : List.set _ _ _ = _) | ((with_reducible apply ev_var); exact rfl) | with_reducible exact ev_con | with_reducible exact ev_nil | with_reducible exact es_pass | with_reducible exact int_i | with_reducible exact add_i | with_reducible exact sub_i | with_reducible apply ev_bin | with_reducible apply ev_un | with_reducible apply ev_cons | with_reducible apply ev_on | with_reducible apply ev_val | with_reducible apply ev_not | with_reducible apply es_set' | with_reducible apply es_exp | with_reducible apply es_ret | with_reducible apply es_setX | with_reducible apply es_par2)
  · apply es_seq
    · apply es_for
      · apply ei_rdl
        · exact ev_var rfl
        · exact hn
      · exact e1
    · apply es_seq
      · repeat' (first | with_reducible exact a0 | exact (rfl : List.set _ _ _ = _) | ((with_reducible apply ev_var); exact rfl) | with_reducible exact ev_con | with_reducible exact ev_nil | with_reducible exact es_pass | with_reducible exact int_i | with_reducible exact add_i | with_reducible exact sub_i | with_reducible apply ev_bin | with_reducible apply ev_un | with_reducible apply ev_cons | with_reducible apply ev_on | with_reducible apply ev_val | with_reducible apply ev_not | with_reducible apply es_set' | with_reducible apply es_exp | with_reducible apply es_ret | with_reducible apply es_setX | with_reducible apply es_par2)
      · apply es_seq
        · exact e2
        · repeat' (first | with_reducible exact fr | exact (rfl : List.set _ _ _ = _) | ((with_reducible apply ev_var); exact rfl) | with_reducible exact ev_con | with_reducible exact ev_nil | with_reducible exact es_pass | with_reducible exact int_i | with_reducible exact add_i | with_reducible exact sub_i | with_reducible apply ev_bin | with_reducible apply ev_un | with_reducible apply ev_cons | with_reducible apply ev_on | with_reducible apply ev_val | with_reducible apply ev_not | with_reducible apply es_set' | with_reducible apply es_exp | with_reducible apply es_ret | with_reducible apply es_setX | with_reducible apply es_par2)
theorem pick {h : MH} {k : Nat} {r m : Int} {x : D} {l : List D} (hk : h[k]? = some (.lst [.int r, .int m])) (hr : 0 ≤ r) (hm : 0 ≤ m) (hm2 : m < 2147483648) (hx : lenF [x] h = .ok (.int l.length) h) (h0 : 0 < l.length) (h1 : l.length < 1000)
    (hi : ∀ (r' m' : Int) (j : Nat) d, l[j]? = some d → ixF x (.int (j : Nat)) (h.set k (.lst [.int r', .int m'])) = .ok d (h.set k (.lst [.int r', .int m']))) :
    ∃ d r' m', m_law_pick [.ref k, x] h = .ok d (h.set k (.lst [.int r', .int m'])) ∧ d ∈ l ∧ 0 ≤ r' ∧ 0 ≤ m' ∧ m' < 2147483648 := by
  obtain ⟨v, r', m', e1, v0, v1, b0, b1, b2⟩ := draw hk hr hm hm2 (span := l.length) (by omega) (by omega)
  have hv : v.toNat < l.length := by omega
  have e2 := hi r' m' v.toNat _ (List.getElem?_eq_getElem hv)
  have ev : ((v.toNat : Nat) : Int) = v := by omega
  rw [ev] at e2
  refine ⟨l[v.toNat], r', m', ?_, List.getElem_mem hv, b0, b1, b2⟩
  refine ef_rt rfl ?_
  unfold b_law_pick
  repeat' (first | with_reducible exact e1 | with_reducible exact e2 | with_reducible exact hx | exact (rfl : List.set _ _ _ = _) | ((with_reducible apply ev_var); exact rfl) | with_reducible exact ev_con | with_reducible exact ev_nil | with_reducible exact es_pass | with_reducible exact int_i | with_reducible exact add_i | with_reducible exact sub_i | with_reducible apply ev_bin | with_reducible apply ev_un | with_reducible apply ev_cons | with_reducible apply ev_on | with_reducible apply ev_val | with_reducible apply ev_not | with_reducible apply es_set' | with_reducible apply es_exp | with_reducible apply es_ret | with_reducible apply es_setX | with_reducible apply es_par2)
end ML

namespace ML
open PySem PySem.Spec PyProof.Rows L2

/-! what stands, stays -/
def Gr (h h' : MH) : Prop := h.length ≤ h'.length ∧ ∀ (n : Nat) o, h[n]? = some o → h'[n]? = some o
theorem Gr.refl {h : MH} : Gr h h := ⟨Nat.le_refl _, fun _ _ e => e⟩
theorem Gr.trans {a b c : MH} (p : Gr a b) (q : Gr b c) : Gr a c := ⟨Nat.le_trans p.1 q.1, fun n o e => q.2 n o (p.2 n o e)⟩
theorem Gr.app {h t : MH} : Gr h (h ++ t) := ⟨by simp, fun n o e => by rw [List.getElem?_append_left (List.getElem?_eq_some_iff.mp e).1]; exact e⟩
theorem last_at {h : MH} {o : O} : (h ++ [o])[h.length]? = some o := by simp
theorem Gr.set {h h' : MH} {r : Nat} {o : O} (p : Gr h h') (q : h.length ≤ r) : Gr h (h'.set r o) := ⟨by simp [p.1], fun n x e => by
  have hn := (List.getElem?_eq_some_iff.mp e).1
  rw [List.getElem?_set_ne (by omega)]
  exact p.2 n x e⟩
/-- the errors of a list: class, field, value -/
def Its (h : MH) : List D → List (Str × Str × D) → Prop
  | [], [] => True
  | x :: xs, (c, f, d) :: t => (∃ n, x = .ref n ∧ h[n]? = some (.xc c [(f, d)])) ∧ Its h xs t
  | _, _ => False
theorem Its.gr {h h' : MH} (g : Gr h h') : ∀ {l : List D} {t : List (Str × Str × D)}, Its h l t → Its h' l t
  | [], [], _ => True.intro
  | x :: xs, (c, f, d) :: t, q => by
    obtain ⟨⟨n, e1, e2⟩, q2⟩ := q
    exact ⟨⟨n, e1, g.2 _ _ e2⟩, Its.gr g q2⟩
  | [], _ :: _, q => q.elim
  | _ :: _, [], q => q.elim
theorem Its.len {h : MH} : ∀ {l : List D} {t : List (Str × Str × D)}, Its h l t → l.length = t.length
  | [], [], _ => rfl
  | x :: xs, (c, f, d) :: t, q => by simp [Its.len q.2]
  | [], _ :: _, q => q.elim
  | _ :: _, [], q => q.elim
theorem Its.app {h : MH} : ∀ {l m : List D} {t u : List (Str × Str × D)}, Its h l t → Its h m u → Its h (l ++ m) (t ++ u)
  | [], m, [], u, _, r => r
  | x :: xs, m, (c, f, d) :: t, u, q, r => ⟨q.1, Its.app q.2 r⟩
  | [], _, _ :: _, _, q, _ => q.elim
  | _ :: _, _, [], _, q, _ => q.elim
theorem Its.at {h : MH} : ∀ {l : List D} {t : List (Str × Str × D)} {i : Nat} {c f : Str} {d : D}, Its h l t → t[i]? = some (c, f, d) → ∃ n, l[i]? = some (.ref n) ∧ h[n]? = some (.xc c [(f, d)])
  | [], [], i, _, _, _, _, e => by simp at e
  | x :: xs, (c, f, d) :: t, 0, _, _, _, q, e => by
    obtain ⟨⟨n, e1, e2⟩, _⟩ := q
    simp at e
    obtain ⟨rfl, rfl, rfl⟩ := e
    exact ⟨n, by simp [e1], e2⟩
  | x :: xs, (c, f, d) :: t, i + 1, _, _, _, q, e => by
    simp at e
    obtain ⟨n, a, b⟩ := Its.at q.2 e
    exact ⟨n, by simpa using a, b⟩
  | [], _ :: _, _, _, _, _, q, _ => q.elim
  | _ :: _, [], _, _, _, _, q, _ => q.elim
theorem Its.set {h : MH} {r : Nat} {l m : List D} (e : h[r]? = some (.lst l)) {o : O} : ∀ {xs : List D} {t : List (Str × Str × D)}, Its h xs t → Its (h.set r o) xs t
  | [], [], _ => True.intro
  | x :: xs, (c, f, d) :: t, q => by
    obtain ⟨⟨n, e1, e2⟩, q2⟩ := q
    refine ⟨⟨n, e1, ?_⟩, Its.set (m := m) e q2⟩
    rw [List.getElem?_set_ne]
    · exact e2
    · intro z
      subst z
      rw [e] at e2
      cases e2
  | [], _ :: _, q => q.elim
  | _ :: _, [], q => q.elim

/-- arguments that make errors -/
def MkA (as : AM) (e : Env) (t : List (Str × Str × D)) : Prop := ∀ h, ∃ xs h', as e h = .ok xs h' ∧ Gr h h' ∧ Its h' xs t
/-- an expression that makes a list of errors, behind the heap g0 -/
def MkL (a : EM) (e : Env) (h : MH) (t : List (Str × Str × D)) : Prop := ∃ r h' l, a e h = .ok (.ref r) h' ∧ Gr h h' ∧ h.length ≤ r ∧ h'[r]? = some (.lst l) ∧ Its h' l t
theorem mk_nil {e : Env} : MkA nilA e [] := fun h => ⟨[], h, rfl, Gr.refl, True.intro⟩
theorem mk_cons {a : EM} {as : AM} {e : Env} {c f : Str} {d : D} {t : List (Str × Str × D)} (p : ∀ h, a e h = .ok d h) (q : MkA as e t) : MkA (consA (onA (mkXF c f) (consA a nilA)) as) e ((c, f, d) :: t) := fun h => by
  obtain ⟨xs, h', e1, g, i⟩ := q (h ++ [.xc c [(f, d)]])
  have g0 : Gr h (h ++ [.xc c [(f, d)]]) := Gr.app
  refine ⟨.ref h.length :: xs, h', ev_cons (ev_on (ev_cons (p h) ev_nil) rfl) e1, g0.trans g, ⟨h.length, rfl, g.2 _ _ last_at⟩, i⟩
theorem mk_lst {as : AM} {e : Env} {t : List (Str × Str × D)} (q : MkA as e t) (hl : t.length ≤ 1000) (h : MH) : MkL (onA lstF as) e h t := by
  obtain ⟨xs, h', e1, g, i⟩ := q h
  have hx : xs.length ≤ 1000000 := by rw [i.len]; omega
  have g1 : Gr h' (h' ++ [.lst xs]) := Gr.app
  exact ⟨h'.length, _, xs, ev_on e1 (lst_new hx), g.trans g1, g.1, last_at, i.gr g1⟩
theorem add_lst {h : MH} {a b : Nat} {l m : List D} (p : h[a]? = some (.lst l)) (q : h[b]? = some (.lst m)) (c : l.length + m.length ≤ 1000000) : addF (.ref a) (.ref b) h = .ok (.ref h.length) (h ++ [.lst (l ++ m)]) := by
  simp [addF, lstOf, p, q, c]
theorem mk_add {b : EM} {e : Env} {h : MH} {i r : Nat} {l : List D} {t u : List (Str × Str × D)} (hv : e[i]? = some (some (.ref r))) (hr : h[r]? = some (.lst l)) (hi : Its h l t) (q : MkL b e h u) (c : t.length + u.length ≤ 1000) : MkL (bin addF (varE i) b) e h (t ++ u) := by
  obtain ⟨r2, h', m, e1, g, h2, e2, j⟩ := q
  have hl : l.length + m.length ≤ 1000000 := by rw [hi.len, j.len]; omega
  have g1 : Gr h' (h' ++ [.lst (l ++ m)]) := Gr.app
  exact ⟨h'.length, _, l ++ m, ev_bin (ev_var hv) e1 (add_lst (g.2 _ _ hr) e2 hl), g.trans g1, g.1, last_at, (Its.app (hi.gr g) j).gr g1⟩
/-! the two lists -/
def tbl (th w m : D) : List (Str × Str × D) := [("BadRegisters", "value", th), ("BadLines", "value", th), ("BadContent", "value", th), ("BadAnswer", "value", th), ("BadStop", "value", th), ("BadTrouble", "value", th), ("OtherPlaces", "value", .tup [w]), ("BadName", "value", th), ("BadBridge", "value", th),
  ("StillAmid", "content", w), ("NoPlace", "place", th), ("NoFile", "name", th), ("Taken", "name", w), ("BadLine", "position", m), ("Unanswered", "position", m), ("TooFar", "count", m), ("BadText", "line", m)]
theorem by_place (th w m : D) (h : MH) : ∃ r h' l, m_law_by_place [th, w, m] h = .ok (.ref r) h' ∧ Gr h h' ∧ h.length ≤ r ∧ h'[r]? = some (.lst l) ∧ Its h' l (tbl th w m) := by
  have v0 : ∀ {x : Option D} (h : MH), varE 0 [some th, some w, some m, x] h = .ok th h := fun h => rfl
  have v1 : ∀ {x : Option D} (h : MH), varE 1 [some th, some w, some m, x] h = .ok w h := fun h => rfl
  have v2 : ∀ {x : Option D} (h : MH), varE 2 [some th, some w, some m, x] h = .ok m h := fun h => rfl
  have v3 : ∀ {x : Option D} (h : MH), onA tupF (consA (varE 1) nilA) [some th, some w, some m, x] h = .ok (.tup [w]) h := fun h => rfl
  obtain ⟨r1, h1, l1, e1, g1, n1, s1, i1⟩ := mk_lst (e := [some th, some w, some m, none]) (mk_cons (c := "BadRegisters") (f := "value") v0 (mk_cons (c := "BadLines") (f := "value") v0 (mk_cons (c := "BadContent") (f := "value") v0 (mk_cons (c := "BadAnswer") (f := "value") v0 (mk_cons (c := "BadStop") (f := "value") v0 mk_nil))))) (by simp) h
  obtain ⟨r2, h2, l2, e2, g2, n2, s2, i2⟩ := mk_add (i := 3) (e := [some th, some w, some m, some (.ref r1)]) rfl s1 i1 (mk_lst (mk_cons (c := "BadTrouble") (f := "value") v0 (mk_cons (c := "OtherPlaces") (f := "value") v3 (mk_cons (c := "BadName") (f := "value") v0 (mk_cons (c := "BadBridge") (f := "value") v0 mk_nil)))) (by simp) h1) (by simp)
  obtain ⟨r3, h3, l3, e3, g3, n3, s3, i3⟩ := mk_add (i := 3) (e := [some th, some w, some m, some (.ref r2)]) rfl s2 i2 (mk_lst (mk_cons (c := "StillAmid") (f := "content") v1 (mk_cons (c := "NoPlace") (f := "place") v0 mk_nil)) (by simp) h2) (by simp)
  obtain ⟨r4, h4, l4, e4, g4, n4, s4, i4⟩ := mk_add (i := 3) (e := [some th, some w, some m, some (.ref r3)]) rfl s3 i3 (mk_lst (mk_cons (c := "NoFile") (f := "name") v0 (mk_cons (c := "Taken") (f := "name") v1 (mk_cons (c := "BadLine") (f := "position") v2 (mk_cons (c := "Unanswered") (f := "position") v2 (mk_cons (c := "TooFar") (f := "count") v2 (mk_cons (c := "BadText") (f := "line") v2 mk_nil)))))) (by simp) h3) (by simp)
  have gg : Gr h h4 := ((g1.trans g2).trans g3).trans g4
  refine ⟨r4, h4, l4, ?_, gg, Nat.le_trans ((g1.trans g2).trans g3).1 n4, s4, i4⟩
  refine ef_rt rfl ?_
  exact es_seq (es_set' e1 rfl) (es_seq (es_set' e2 rfl) (es_seq (es_set' e3 rfl) (es_ret e4)))
theorem app_lst {h : MH} {n : Nat} {l : List D} {y : D} (e : h[n]? = some (.lst l)) (c : l.length < 1000000) : appF (.ref n) [y] h = .ok .non (h.set n (.lst (l ++ [y]))) := by simp [appF, e, c]
theorem by_name (th w m : D) (h : MH) : ∃ r h' l, m_law_by_name [th, w, m] h = .ok (.ref r) h' ∧ Gr h h' ∧ h.length ≤ r ∧ h'[r]? = some (.lst l) ∧ Its h' l (tbl th w m) := by
  have v0 : ∀ {x : Option D} (h : MH), varE 0 [some th, some w, some m, x] h = .ok th h := fun h => rfl
  have v1 : ∀ {x : Option D} (h : MH), varE 1 [some th, some w, some m, x] h = .ok w h := fun h => rfl
  have v2 : ∀ {x : Option D} (h : MH), varE 2 [some th, some w, some m, x] h = .ok m h := fun h => rfl
  have v3 : ∀ {x : Option D} (h : MH), onA tupF (consA (varE 1) nilA) [some th, some w, some m, x] h = .ok (.tup [w]) h := fun h => rfl
  obtain ⟨r1, h1, l1, e1, g1, n1, s1, i1⟩ := mk_lst (e := [some th, some w, some m, none]) (mk_cons (c := "BadRegisters") (f := "value") v0 (mk_cons (c := "BadLines") (f := "value") v0 (mk_cons (c := "BadContent") (f := "value") v0 (mk_cons (c := "BadAnswer") (f := "value") v0 mk_nil)))) (by simp) h
  obtain ⟨r2, h2, l2, e2, g2, n2, s2, i2⟩ := mk_add (i := 3) (e := [some th, some w, some m, some (.ref r1)]) rfl s1 i1 (mk_lst (mk_cons (c := "BadStop") (f := "value") v0 (mk_cons (c := "BadTrouble") (f := "value") v0 (mk_cons (c := "OtherPlaces") (f := "value") v3 (mk_cons (c := "BadName") (f := "value") v0 mk_nil)))) (by simp) h1) (by simp)
  obtain ⟨r3, h3, l3, e3, g3, n3, s3, i3⟩ := mk_add (i := 3) (e := [some th, some w, some m, some (.ref r2)]) rfl s2 i2 (mk_lst (mk_cons (c := "BadBridge") (f := "value") v0 (mk_cons (c := "StillAmid") (f := "content") v1 (mk_cons (c := "NoPlace") (f := "place") v0 (mk_cons (c := "NoFile") (f := "name") v0 mk_nil)))) (by simp) h2) (by simp)
  -- found.append(Taken(name=word))
  obtain ⟨xs, h4, e4, g4, i4⟩ := mk_cons (c := "Taken") (f := "name") (e := [some th, some w, some m, some (.ref r3)]) v1 mk_nil h3
  obtain ⟨y, ey⟩ : ∃ y, xs = [y] := by
    have := i4.len
    match xs, this with
    | [y], _ => exact ⟨y, rfl⟩
  subst ey
  have s4 := g4.2 _ _ s3
  have c4 : l3.length < 1000000 := by rw [i3.len]; simp
  have e5 : expS (bmE "list" appF (varE 3) (consA (onA (mkXF "Taken" "name") (consA (varE 1) nilA)) nilA)) [some th, some w, some m, some (.ref r3)] h3 = .nx [some th, some w, some m, some (.ref r3)] (h4.set r3 (.lst (l3 ++ [y]))) :=
    es_exp (ev_bm (ev_var rfl) (by unfold tyD; dsimp only; rw [s3]) e4 (app_lst s4 c4))
  have s5 : (h4.set r3 (.lst (l3 ++ [y])))[r3]? = some (.lst (l3 ++ [y])) := set_get s4
  have i5 : Its (h4.set r3 (.lst (l3 ++ [y]))) (l3 ++ [y]) _ := Its.set (m := []) s4 (Its.app (i3.gr g4) i4)
  have n3' : h.length ≤ r3 := Nat.le_trans (g1.trans g2).1 n3
  have g5 : Gr h (h4.set r3 (.lst (l3 ++ [y]))) := ((((g1.trans g2).trans g3).trans g4)).set n3'
  obtain ⟨r6, h6, l6, e6, g6, n6, s6, i6⟩ := mk_add (i := 3) (e := [some th, some w, some m, some (.ref r3)]) rfl s5 i5 (mk_lst (mk_cons (c := "BadLine") (f := "position") v2 (mk_cons (c := "Unanswered") (f := "position") v2 (mk_cons (c := "TooFar") (f := "count") v2 (mk_cons (c := "BadText") (f := "line") v2 mk_nil)))) (by simp) _) (by simp)
  refine ⟨r6, h6, l6, ?_, g5.trans g6, Nat.le_trans g5.1 n6, s6, i6⟩
  refine ef_rt rfl ?_
  exact es_seq (es_set' e1 rfl) (es_seq (es_set' e2 rfl) (es_seq (es_set' e3 rfl) (es_seq e5 (es_ret e6))))
end ML

namespace ML
open PySem PySem.Spec PyProof.Rows L2

theorem tabOf_has {ns : List Str} {g : Str → Bool} {c : Str} (hc : c ∈ ns) : (tabOf ns g).lookup c = some (g c) := by
  induction ns with
  | nil => cases hc
  | cons n ns ih =>
    unfold tabOf
    rw [List.map_cons]
    by_cases e : c = n
    · subst e
      simp [List.lookup]
    · have h' : c ∈ ns := by
        rcases List.mem_cons.mp hc with z | z
        · exact absurd z e
        · exact z
      have e' : (c == n) = false := by simpa using e
      show (match c == n with | true => some (g n) | false => (tabOf ns g).lookup c) = _
      rw [e']
      exact ih h'
theorem isx_at {h : MH} {n i : Nat} {c : Str} {fs : List (Str × D)} {g : Str → Bool} {e : Env} (he : e[i]? = some (some (.ref n))) (hn : h[n]? = some (.xc c fs)) (hc : c ∈ xnames) : un (isxF [] [] (tabOf xnames g)) (varE i) e h = .ok (.bl (g c)) h := by
  have ty : tyD h (.ref n) = none := by unfold tyD; dsimp only; rw [hn]
  refine ev_un (ev_var he) ?_
  unfold isxF
  rw [ty]
  dsimp only
  rw [hn]
  dsimp only
  rw [tabOf_has hc]
def order : List Str := ["BadRegisters", "BadLines", "BadContent", "BadAnswer", "BadStop", "BadTrouble", "OtherPlaces", "BadName", "BadBridge", "StillAmid", "NoPlace", "NoFile", "Taken", "BadLine", "Unanswered", "TooFar", "BadText"]
def kl (c : Str) : List D := order.map fun d => .bl (decide (c = d))
theorem kstep {e : Env} {h : MH} {r : Nat} {l ds : List D} {A : AM} (hv : e[1]? = some (some (.ref r))) (hr : h[r]? = some (.lst l)) (p : A e h = .ok ds h) (c : ds.length ≤ 1000) (c2 : l.length ≤ 1000) :
    bin addF (varE 1) (onA lstF A) e h = .ok (.ref (h ++ [O.lst ds]).length) ((h ++ [O.lst ds]) ++ [O.lst (l ++ ds)]) :=
  ev_bin (ev_var hv) (ev_on p (lst_new (by omega))) (add_lst (Gr.app.2 _ _ hr) last_at (by omega))
theorem kinds_run {h : MH} {n : Nat} {c : Str} {fs : List (Str × D)} (hn : h[n]? = some (.xc c fs)) (hc : c ∈ xnames) : ∃ r h', m_law_kinds [.ref n] h = .ok (.ref r) h' ∧ Gr h h' ∧ h'[r]? = some (.lst (kl c)) := by
  have K : ∀ (g : Str → Bool) (h' : MH) (x : Option D), Gr h h' → un (isxF [] [] (tabOf xnames g)) (varE 0) [some (.ref n), x] h' = .ok (.bl (g c)) h' := fun g h' x q => isx_at rfl (q.2 _ _ hn) hc
  have g0 : Gr h h := Gr.refl
  have a1 := ev_on (f := lstF) (ev_cons (K (fun d => decide (d = "BadRegisters")) h none g0) (ev_cons (K (fun d => decide (d = "BadLines")) h none g0) (ev_cons (K (fun d => decide (d = "BadContent")) h none g0) ev_nil))) (lst_new (by simp))
  obtain ⟨h1, d1⟩ : ∃ x, x = h ++ [.lst [D.bl (decide (c = "BadRegisters")), D.bl (decide (c = "BadLines")), D.bl (decide (c = "BadContent"))]] := ⟨_, rfl⟩
  have l1 : h1[h.length]? = some (.lst [D.bl (decide (c = "BadRegisters")), D.bl (decide (c = "BadLines")), D.bl (decide (c = "BadContent"))]) := by rw [d1]; exact last_at
  have g1 : Gr h h1 := by rw [d1]; exact Gr.app
  rw [← d1] at a1
  have step : ∀ (h1 : MH) (r : Nat) (l : List D) (x y z : Str), Gr h h1 → h1[r]? = some (.lst l) → l.length ≤ 900 → ∃ r' h2, bin addF (varE 1) (onA lstF (consA (un (isxF [] [] (tabOf xnames fun d => decide (d = x))) (varE 0)) (consA (un (isxF [] [] (tabOf xnames fun d => decide (d = y))) (varE 0)) (consA (un (isxF [] [] (tabOf xnames fun d => decide (d = z))) (varE 0)) nilA)))) [some (.ref n), some (.ref r)] h1 = .ok (.ref r') h2 ∧
      Gr h h2 ∧ h2[r']? = some (.lst (l ++ [D.bl (decide (c = x)), D.bl (decide (c = y)), D.bl (decide (c = z))])) := fun h1 r l x y z g hr hl => by
    refine ⟨_, _, kstep rfl hr (ev_cons (K _ h1 _ g) (ev_cons (K _ h1 _ g) (ev_cons (K _ h1 _ g) ev_nil))) (by simp) (by omega), (g.trans Gr.app).trans Gr.app, last_at⟩
  have step2 : ∀ (h1 : MH) (r : Nat) (l : List D) (x y : Str), Gr h h1 → h1[r]? = some (.lst l) → l.length ≤ 900 → ∃ r' h2, bin addF (varE 1) (onA lstF (consA (un (isxF [] [] (tabOf xnames fun d => decide (d = x))) (varE 0)) (consA (un (isxF [] [] (tabOf xnames fun d => decide (d = y))) (varE 0)) nilA))) [some (.ref n), some (.ref r)] h1 = .ok (.ref r') h2 ∧
      Gr h h2 ∧ h2[r']? = some (.lst (l ++ [D.bl (decide (c = x)), D.bl (decide (c = y))])) := fun h1 r l x y g hr hl => by
    refine ⟨_, _, kstep rfl hr (ev_cons (K _ h1 _ g) (ev_cons (K _ h1 _ g) ev_nil)) (by simp) (by omega), (g.trans Gr.app).trans Gr.app, last_at⟩
  obtain ⟨r2, h2, a2, g2, l2⟩ := step h1 _ _ "BadAnswer" "BadStop" "BadTrouble" g1 l1 (by simp)
  obtain ⟨r3, h3, a3, g3, l3⟩ := step h2 _ _ "OtherPlaces" "BadName" "BadBridge" g2 l2 (by simp)
  obtain ⟨r4, h4, a4, g4, l4⟩ := step h3 _ _ "StillAmid" "NoPlace" "NoFile" g3 l3 (by simp)
  obtain ⟨r5, h5, a5, g5, l5⟩ := step h4 _ _ "Taken" "BadLine" "Unanswered" g4 l4 (by simp)
  obtain ⟨r6, h6, a6, g6, l6⟩ := step2 h5 _ _ "TooFar" "BadText" g5 l5 (by simp)
  refine ⟨r6, h6, ?_, g6, l6⟩
  refine ef_rt rfl ?_
  exact es_seq (es_set' a1 rfl) (es_seq (es_set' a2 rfl) (es_seq (es_set' a3 rfl) (es_seq (es_set' a4 rfl) (es_seq (es_set' a5 rfl) (es_ret a6)))))

/-! comprehensions whose parts change nothing -/
theorem set_same {h : MH} {n : Nat} {o : O} (e : h[n]? = some o) : h.set n o = h := by
  apply List.ext_getElem?
  intro i
  by_cases q : i = n
  · subst q
    rw [set_get e, e]
  · rw [List.getElem?_set_ne (Ne.symm q)]
theorem lc_pure {srcs : List (Nat × List D)} {tg : GM} {elt : EM} {n : Nat} {e0 : Env} {f : D → D} {h0 : MH} {a0 : List D} (hn : h0[n]? = some (.lst a0)) (ok : ∀ acc, IT.ok (h0.set n (.lst acc)) srcs = true) : ∀ (l acc : List D),
    (∀ d ∈ l, ∀ acc, ∃ e1, tg d e0 (h0.set n (.lst acc)) = some e1 ∧ elt e1 (h0.set n (.lst acc)) = .ok (f d) (h0.set n (.lst acc))) → acc.length + l.length < 1000000 →
      lcLoop srcs tg yesT elt n e0 l (h0.set n (.lst acc)) = .ok (.ref n) (h0.set n (.lst (acc ++ l.map f)))
  | [], acc, _, _ => by
    unfold lcLoop
    rw [if_pos (ok acc), List.map_nil, List.append_nil]
  | d :: l, acc, hd, hl => by
    obtain ⟨e1, p, q⟩ := hd d List.mem_cons_self acc
    have ih := lc_pure hn ok l (acc ++ [f d]) (fun d' h' => hd d' (List.mem_cons_of_mem _ h')) (by simp at hl ⊢; omega)
    unfold lcLoop
    rw [if_pos (ok acc), p]
    dsimp only
    unfold yesT
    dsimp only
    rw [q]
    dsimp only
    rw [set_get hn]
    dsimp only
    rw [if_pos (by simp at hl; omega), List.set_set]
    unfold yesT at ih
    rw [ih, List.map_cons, List.append_assoc]
    rfl
def spots (i : Nat) : List D := (rangeD 0 17).map fun d => .bl (scalEq d (.int (i : Nat)))
theorem spots_run {x0 x1 x2 x3 x4 x5 x6 x7 x9 x10 : Option D} {i : Nat} {h : MH} : lcE [10] (rng1I (consA (conE (.int 17)) nilA)) (gnm 10) yesT (bin eqF (varE 10) (varE 8)) [x0, x1, x2, x3, x4, x5, x6, x7, some (.int (i : Nat)), x9, x10] h =
    .ok (.ref h.length) (h ++ [.lst (spots i)]) := by
  have e1 : rng1I (consA (conE (.int 17)) nilA) [x0, x1, x2, x3, x4, x5, x6, x7, some (.int (i : Nat)), x9, x10] h = .ok ⟨rangeD 0 (17 : Int).toNat, []⟩ h := ei_rng (ev_cons ev_con ev_nil) (by decide)
  rw [show (17 : Int).toNat = 17 from rfl] at e1
  unfold lcE
  rw [e1]
  have hn : (h ++ [O.lst []])[h.length]? = some (.lst []) := last_at
  have key := lc_pure (srcs := []) (tg := gnm 10) (elt := bin eqF (varE 10) (varE 8)) (e0 := wipeM [x0, x1, x2, x3, x4, x5, x6, x7, some (.int (i : Nat)), x9, x10] [10]) (f := fun d => .bl (scalEq d (.int (i : Nat)))) hn (fun _ => rfl) (rangeD 0 17) [] (fun d hd acc => by
    refine ⟨_, rfl, ?_⟩
    unfold rangeD at hd
    obtain ⟨j, _, ej⟩ := List.mem_map.mp hd
    subst ej
    exact ev_bin (ev_var rfl) (ev_var rfl) rfl) (by unfold rangeD; simp)
  rw [set_same hn] at key
  simp only [R.bind]
  rw [key, List.nil_append]
  congr 1
  simp [spots]
theorem eqZ_bl {h : MH} {k : Nat} : ∀ {l : List D}, (∀ d ∈ l, ∃ b, d = .bl b) → eqZ (eqv h (k + 1)) l l = some true
  | [], _ => rfl
  | d :: l, hd => by
    obtain ⟨b, eb⟩ := hd d List.mem_cons_self
    subst eb
    have e1 : eqv h (k + 1) (.bl b) (.bl b) = some true := by
      unfold eqv
      rw [if_neg (by unfold idRef; simp)]
      unfold eqTop
      simp [isScal, scalEq]
    unfold eqZ
    rw [e1, eqZ_bl fun d' h' => hd d' (List.mem_cons_of_mem _ h')]
    rfl
theorem ne_same {h : MH} {a b : Nat} {l : List D} (p : h[a]? = some (.lst l)) (q : h[b]? = some (.lst l)) (hd : ∀ d ∈ l, ∃ b, d = .bl b) : neF (.ref a) (.ref b) h = .ok (.bl false) h := by
  have e1 : eqT h (.ref a) (.ref b) = some true := by
    unfold eqT eqTop
    simp only [isScal, seqOf, p, q, if_true]
    unfold eqSeq
    rw [if_neg (by simp), show deep = 11 + 1 from rfl, eqZ_bl hd]
    simp
  unfold neF
  rw [e1]
  rfl
theorem kl_spots : ∀ i < 17, kl (order.getD i "") = spots i := by
  intro i hi
  have : i = 0 ∨ i = 1 ∨ i = 2 ∨ i = 3 ∨ i = 4 ∨ i = 5 ∨ i = 6 ∨ i = 7 ∨ i = 8 ∨ i = 9 ∨ i = 10 ∨ i = 11 ∨ i = 12 ∨ i = 13 ∨ i = 14 ∨ i = 15 ∨ i = 16 := by omega
  rcases this with e | e | e | e | e | e | e | e | e | e | e | e | e | e | e | e | e <;> subst e <;> rfl

/-! what is stored -/
def valOf (h : MH) : D → D := fun d => match d with
  | .ref k => (match h[k]? with
    | some (.xc _ [(_, v)]) => v
    | _ => .non)
  | _ => .non
theorem Its.vals {h : MH} : ∀ {l : List D} {t : List (Str × Str × D)}, Its h l t → l.map (valOf h) = t.map fun p => p.2.2
  | [], [], _ => rfl
  | x :: xs, (c, f, d) :: t, q => by
    obtain ⟨⟨n, e1, e2⟩, q2⟩ := q
    subst e1
    rw [List.map_cons, List.map_cons, Its.vals q2]
    congr 1
    unfold valOf
    simp only [e2]
  | [], _ :: _, q => q.elim
  | _ :: _, [], q => q.elim
theorem Its.take {h : MH} (k : Nat) : ∀ {l : List D} {t : List (Str × Str × D)}, Its h l t → Its h (l.take k) (t.take k) := by
  induction k with
  | zero => intro l t q; simp only [List.take_zero]; exact True.intro
  | succ k ih =>
    intro l t q
    match l, t, q with
    | [], [], _ => exact True.intro
    | x :: xs, (c, f, d) :: t, q => exact ⟨q.1, ih q.2⟩
theorem Its.mem {h : MH} : ∀ {l : List D} {t : List (Str × Str × D)} {x : D}, Its h l t → x ∈ l → ∃ c f d n, (c, f, d) ∈ t ∧ x = .ref n ∧ h[n]? = some (.xc c [(f, d)])
  | x :: xs, (c, f, d) :: t, y, q, hy => by
    rcases List.mem_cons.mp hy with e | e
    · obtain ⟨⟨n, e1, e2⟩, _⟩ := q
      exact ⟨c, f, d, n, List.mem_cons_self, e ▸ e1, e2⟩
    · obtain ⟨c', f', d', n, a, b, z⟩ := Its.mem q.2 e
      exact ⟨c', f', d', n, List.mem_cons_of_mem _ a, b, z⟩
  | [], _, _, _, hy => by cases hy
  | _ :: _, [], _, q, _ => q.elim
theorem fld_at {h : MH} {n : Nat} {c f : Str} {d : D} {cx : List Str} (hn : h[n]? = some (.xc c [(f, d)])) (hc : c ∈ cx) : fldF [] cx f (.ref n) h = .ok d h := by
  unfold fldF
  dsimp only
  rw [hn]
  dsimp only
  rw [if_pos hc]
  simp [List.lookup]
end ML

namespace ML
open PySem PySem.Spec PyProof.Rows L2

def due (th w m : D) : List D := [th, th, th, th, th, th, .tup [w], th, th, w, th, th, w, m, m, m, m]
def nine : List Str := ["BadRegisters", "BadLines", "BadContent", "BadAnswer", "BadStop", "BadTrouble", "OtherPlaces", "BadName", "BadBridge"]
theorem tbl_nine {th w m : D} {c f : Str} {d : D} (hm : (c, f, d) ∈ (tbl th w m).take 9) : c ∈ nine ∧ f = "value" := by
  simp only [tbl, List.take_succ_cons, List.take_zero, List.mem_cons, List.not_mem_nil, or_false, Prod.mk.injEq] at hm
  rcases hm with ⟨rfl, rfl, _⟩ | ⟨rfl, rfl, _⟩ | ⟨rfl, rfl, _⟩ | ⟨rfl, rfl, _⟩ | ⟨rfl, rfl, _⟩ | ⟨rfl, rfl, _⟩ | ⟨rfl, rfl, _⟩ | ⟨rfl, rfl, _⟩ | ⟨rfl, rfl, _⟩ <;> exact ⟨by simp [nine], rfl⟩
theorem stored_run {h : MH} {r : Nat} {l : List D} {th w m : D} (hr : h[r]? = some (.lst l)) (hi : Its h l (tbl th w m)) : ∃ r' h', m_law_stored [.ref r] h = .ok (.ref r') h' ∧ Gr h h' ∧ h'[r']? = some (.lst (due th w m)) := by
  have hl : l.length = 17 := hi.len
  have ecut : cutD l none (some 9) = l.take 9 := by
    unfold cutD
    rw [hl]
    show (l.drop 0).take 9 = _
    rw [List.drop_zero]
  obtain ⟨h1, d1⟩ : ∃ x, x = h ++ [O.lst (l.take 9)] := ⟨_, rfl⟩
  have g1 : Gr h h1 := by rw [d1]; exact Gr.app
  have l1 : h1[h.length]? = some (.lst (l.take 9)) := by rw [d1]; exact last_at
  have e1 : slE (varE 0) noO (someO (conE (.int 9))) [some (.ref r), none, none] h = .ok (.ref h.length) h1 := by
    show slF (.ref r) none (some 9) h = _
    unfold slF
    simp only [seqOf, hr, ecut, d1]
  have e2 := ei_lst e1 l1
  have hn : (h1 ++ [O.lst []])[h1.length]? = some (.lst []) := last_at
  have look : ∀ acc {n : Nat} {o : O}, h1[n]? = some o → ((h1 ++ [O.lst []]).set h1.length (.lst acc))[n]? = some o := fun acc n o q => by
    have hlt := (List.getElem?_eq_some_iff.mp q).1
    rw [List.getElem?_set_ne (by omega), List.getElem?_append_left hlt]
    exact q
  have key := lc_pure (srcs := [(h.length, l.take 9)]) (tg := gnm 2) (elt := un (fldF [] nine "value") (varE 2)) (e0 := wipeM [some (.ref r), none, none] [2]) (f := valOf h) hn (fun acc => by
    unfold IT.ok stands
    simp only [List.all_cons, List.all_nil, Bool.and_true, look acc l1]
    exact sames_refl _) (l.take 9) [] (fun d hd acc => by
    obtain ⟨c, f, v, n, q1, q2, q3⟩ := (Its.take 9 hi).mem hd
    obtain ⟨c1, c2⟩ := tbl_nine q1
    subst c2 q2
    refine ⟨_, rfl, ev_un (ev_var rfl) ?_⟩
    rw [fld_at (look acc (g1.2 _ _ q3)) c1]
    unfold valOf
    simp only [q3]) (by simp; omega)
  rw [set_same hn, (Its.take 9 hi).vals, List.nil_append] at key
  obtain ⟨h2, d2⟩ : ∃ x, x = (h1 ++ [O.lst []]).set h1.length (.lst (((tbl th w m).take 9).map fun p => p.2.2)) := ⟨_, rfl⟩
  have g2 : Gr h h2 := by rw [d2]; exact (g1.trans Gr.app).set g1.1
  have l2 : h2[h1.length]? = some (.lst (((tbl th w m).take 9).map fun p => p.2.2)) := by rw [d2]; exact set_get hn
  have e3 : lcE [2] (seqI (slE (varE 0) noO (someO (conE (.int 9))))) (gnm 2) yesT (un (fldF [] nine "value") (varE 2)) [some (.ref r), none, none] h = .ok (.ref h1.length) h2 := by
    unfold lcE
    rw [e2]
    simp only [R.bind]
    rw [key, d2]
  have item : ∀ (i : Nat) (c f : Str) (d : D) (cx : List Str) (h' : MH) (x y : Option D), Gr h h' → (tbl th w m)[i]? = some (c, f, d) → c ∈ cx → un (fldF [] cx f) (bin ixF (varE 0) (conE (.int (i : Nat)))) [some (.ref r), x, y] h' = .ok d h' := fun i c f d cx h' x y g q hc => by
    obtain ⟨n, a, b⟩ := hi.at q
    exact ev_un (ev_bin (ev_var rfl) ev_con (ix_lst (g.2 _ _ hr) (by omega) (by simpa using a))) (fld_at (g.2 _ _ b) hc)
  have e4 := ev_cons (item 9 "StillAmid" "content" w ["StillAmid"] h2 none none g2 rfl (by simp)) (ev_cons (item 10 "NoPlace" "place" th ["NoPlace"] h2 none none g2 rfl (by simp)) (ev_cons (item 11 "NoFile" "name" th ["NoFile", "Taken"] h2 none none g2 rfl (by simp)) ev_nil))
  have e5 := ev_bin e3 (ev_on e4 (lst_new (by simp))) (add_lst (Gr.app.2 _ _ l2) last_at (by simp [tbl]))
  have g3 := (g2.trans (Gr.app (t := [O.lst [w, th, th]]))).trans (Gr.app (t := [O.lst ((((tbl th w m).take 9).map fun p => p.2.2) ++ [w, th, th])]))
  have l3 := last_at (h := h2 ++ [O.lst [w, th, th]]) (o := O.lst ((((tbl th w m).take 9).map fun p => p.2.2) ++ [w, th, th]))
  generalize (h2 ++ [O.lst [w, th, th]]) ++ [O.lst ((((tbl th w m).take 9).map fun p => p.2.2) ++ [w, th, th])] = h3 at e5 g3 l3
  generalize (h2 ++ [O.lst [w, th, th]]).length = r3 at e5 l3
  have e6 := ev_cons (item 12 "Taken" "name" w ["NoFile", "Taken"] h3 (some (.ref r3)) none g3 rfl (by simp)) (ev_cons (item 13 "BadLine" "position" m ["BadLine", "Unanswered"] h3 (some (.ref r3)) none g3 rfl (by simp)) (ev_cons (item 14 "Unanswered" "position" m ["BadLine", "Unanswered"] h3 (some (.ref r3)) none g3 rfl (by simp))
    (ev_cons (item 15 "TooFar" "count" m ["TooFar"] h3 (some (.ref r3)) none g3 rfl (by simp)) (ev_cons (item 16 "BadText" "line" m ["BadText"] h3 (some (.ref r3)) none g3 rfl (by simp)) ev_nil))))
  have e7 := ev_bin (f := addF) (a := varE 1) (ev_var (i := 1) rfl) (ev_on e6 (lst_new (by simp))) (add_lst (Gr.app.2 _ _ l3) last_at (by simp [tbl]))
  refine ⟨_, _, ef_rt rfl (es_seq (es_set' e5 rfl) (es_ret e7)), (g3.trans Gr.app).trans Gr.app, last_at⟩

/-! repr -/
theorem repr_list {h : MH} {r : Nat} {d : D} {l : List D} {ps : List PyData} (hr : h[r]? = some (.lst (d :: l))) (hp : allO (toP h 11) (d :: l) = some ps) (hs : (small (.list ps)).isSome = true) : reprF (.ref r) h = .ok (.str (PyData.list ps).shown) h := by
  obtain ⟨p, hp2⟩ := Option.isSome_iff_exists.mp hs
  have := (small_eq hp2).1
  subst this
  unfold reprF
  dsimp only
  rw [hr]
  dsimp only
  have e1 : toP h 12 (.ref r) = some (.list ps) := by
    unfold toP
    simp only [hr, hp, hp2]
  rw [e1]
theorem ne_str {s : Str} {h : MH} : neF (.str s) (.str s) h = .ok (.bl false) h := by
  unfold neF eqT eqTop
  simp [isScal, scalEq]

/-! the thing -/
def zeros (j : Nat) : List D := List.replicate j (.int 0)
def Thing (h : MH) (t j : Nat) : Prop := h[t]? = some (.lst (.int 5 :: zeros j)) ∨ h[t]? = some (.lst (.str "a" :: .non :: zeros j)) ∨ (∃ u, u ≠ t ∧ h[t]? = some (.lst (.ref u :: zeros j)) ∧ h[u]? = some (.lst [])) ∨ h[t]? = some (.dct [(.inr "a", .int 1)])
def trees : List PyData := [.list [.int 5, .int 0], .list [.int 5, .int 0, .int 0], .list [.str "a", .none, .int 0], .list [.str "a", .none, .int 0, .int 0], .list [.list [], .int 0], .list [.list [], .int 0, .int 0], .dict [(.str "a", .int 1)]]
theorem thing_tree {h : MH} {t j : Nat} (hT : Thing h t j) (hj : j = 1 ∨ j = 2) : ∃ pt, toP h 11 (.ref t) = some pt ∧ pt ∈ trees := by
  rcases hT with e | e | ⟨u, _, e, eu⟩ | e
  · rcases hj with rfl | rfl
    · exact ⟨.list [.int 5, .int 0], by unfold toP; rw [e]; kernel_rfl, by simp [trees]⟩
    · exact ⟨.list [.int 5, .int 0, .int 0], by unfold toP; rw [e]; kernel_rfl, by simp [trees]⟩
  · rcases hj with rfl | rfl
    · exact ⟨.list [.str "a", .none, .int 0], by unfold toP; rw [e]; kernel_rfl, by simp [trees]⟩
    · exact ⟨.list [.str "a", .none, .int 0, .int 0], by unfold toP; rw [e]; kernel_rfl, by simp [trees]⟩
  · have eu2 : toP h 10 (.ref u) = some (.list []) := by unfold toP; rw [eu]; kernel_rfl
    rcases hj with rfl | rfl
    · exact ⟨.list [.list [], .int 0], by unfold toP; rw [e]; show (match allO (toP h 10) [D.ref u, .int 0] with | some ps => small (.list ps) | none => none) = _; unfold allO; rw [eu2]; kernel_rfl, by simp [trees]⟩
    · exact ⟨.list [.list [], .int 0, .int 0], by unfold toP; rw [e]; show (match allO (toP h 10) [D.ref u, .int 0, .int 0] with | some ps => small (.list ps) | none => none) = _; unfold allO; rw [eu2]; kernel_rfl, by simp [trees]⟩
  · exact ⟨.dict [(.str "a", .int 1)], by unfold toP; rw [e]; kernel_rfl, by simp [trees]⟩
def words : List Str := ["beside", "elder", "a", "conf"]
def fruit (p : PyData) (w : Str) (m : Int) : List PyData := [p, p, p, p, p, p, .tuple [.str w], p, p, .str w, p, p, .str w, .int m, .int m, .int m, .int m]
theorem tree_ok : (trees.all fun p => p.showable && decide (p.shown.length ≤ 100) && decide (p.depth ≤ 10)) = true := by decide +kernel
theorem word_ok : (words.all fun w => (small (.str w)).isSome && (small (.tuple [.str w])).isSome && decide ((PyData.str w).shown.length ≤ 100) && decide ((PyData.tuple [.str w]).shown.length ≤ 100)) = true := by decide +kernel
theorem num_ok : ((List.range 60).all fun m => (small (.int (m : Nat))).isSome && decide ((PyData.int (m : Nat)).shown.length ≤ 100)) = true := by decide +kernel
theorem listText_le : ∀ ts : List Str, (listText ts).length ≤ piled ts + 2
  | [] => by decide +kernel
  | t :: ts => by
    have e1 : listText (t :: ts) = textFrom 1 (("[" : Str) ++ t) ts ++ "]" := rfl
    have e2 : ((("]" : String) : Str)).length = 1 := rfl
    have e3 : ((("[" : String) : Str)).length = 1 := rfl
    rw [e1, strLen_append, textFrom_length_pos ts 1 _ (by decide), strLen_append, piled_cons, e2, e3]
    omega
theorem fruit_small {p : PyData} {w : Str} {m : Int} (hp : p ∈ trees) (hw : w ∈ words) (h0 : 0 ≤ m) (h1 : m < 60) : (small (.list (fruit p w m))).isSome = true ∧ small (.str w) = some (.str w) ∧ small (.tuple [.str w]) = some (.tuple [.str w]) ∧ small (.int m) = some (.int m) := by
  have p0 := List.all_eq_true.mp tree_ok p hp
  have w0 := List.all_eq_true.mp word_ok w hw
  have m0 := List.all_eq_true.mp num_ok m.toNat (List.mem_range.mpr (by omega))
  have em : ((m.toNat : Nat) : Int) = m := by omega
  rw [em] at m0
  simp only [Bool.and_eq_true, decide_eq_true_eq] at p0 w0 m0
  obtain ⟨⟨p1, p2⟩, p3⟩ := p0
  obtain ⟨⟨⟨w1, w2⟩, w3⟩, w4⟩ := w0
  obtain ⟨m1, m2⟩ := m0
  obtain ⟨_, q1⟩ := Option.isSome_iff_exists.mp w1
  obtain ⟨_, q2⟩ := Option.isSome_iff_exists.mp w2
  obtain ⟨_, q3⟩ := Option.isSome_iff_exists.mp m1
  obtain ⟨r1, s1, _, t1⟩ := small_eq q1
  obtain ⟨r2, s2, _, t2⟩ := small_eq q2
  obtain ⟨r3, s3, _, t3⟩ := small_eq q3
  subst r1 r2 r3
  refine ⟨?_, q1, q2, q3⟩
  have hs : (PyData.list (fruit p w m)).showable = true := by
    simp only [PyData.showable, fruit, PyData.showableAll, p1, s3, Bool.and_true]
    simp only [PyData.showable, PyData.showableAll] at s2 s3 ⊢
    simp [s3]
  have hd : (PyData.list (fruit p w m)).depth ≤ 40 := by
    simp only [PyData.depth, fruit, PyData.depthAll]
    omega
  have hl : (PyData.list (fruit p w m)).shown.length ≤ 1000000 := by
    have e : (PyData.list (fruit p w m)).shown = listText (PyData.shownAll (fruit p w m)) := by simp only [PyData.shown]
    rw [e]
    refine Nat.le_trans (listText_le _) ?_
    simp only [fruit, PyData.shownAll, piled_cons, piled_nil]
    omega
  unfold small
  rw [if_pos ⟨hs, hl, hd⟩]
  rfl
theorem due_tree {h : MH} {t : Nat} {p : PyData} {w : Str} {m : Int} (ht : toP h 11 (.ref t) = some p) (q1 : small (.str w) = some (.str w)) (q2 : small (.tuple [.str w]) = some (.tuple [.str w])) (q3 : small (.int m) = some (.int m)) :
    allO (toP h 11) (due (.ref t) (.str w) (.int m)) = some (fruit p w m) := by
  have e1 : toP h 11 (.str w) = some (.str w) := q1
  have e3 : toP h 11 (.int m) = some (.int m) := q3
  have e2 : toP h 11 (.tup [.str w]) = some (.tuple [.str w]) := by
    have e4 : toP h 10 (.str w) = some (.str w) := q1
    unfold toP
    simp only [allO, e4, q2]
  simp only [due, allO, ht, e1, e2, e3, fruit]
end ML

namespace ML
open PySem PySem.Spec PyProof.Rows L2

theorem tbl_at {th w m : D} {i : Nat} {c f : Str} {d : D} (e : (tbl th w m)[i]? = some (c, f, d)) : i < 17 ∧ c = order.getD i "" ∧ c ∈ xnames := by
  have hi : i < 17 := (List.getElem?_eq_some_iff.mp e).1
  have hc : i = 0 ∨ i = 1 ∨ i = 2 ∨ i = 3 ∨ i = 4 ∨ i = 5 ∨ i = 6 ∨ i = 7 ∨ i = 8 ∨ i = 9 ∨ i = 10 ∨ i = 11 ∨ i = 12 ∨ i = 13 ∨ i = 14 ∨ i = 15 ∨ i = 16 := by omega
  rcases hc with z | z | z | z | z | z | z | z | z | z | z | z | z | z | z | z | z <;> subst z <;> cases e <;> exact ⟨by decide, rfl, by simp [xnames]⟩
def ERR : SM := seqS (ifS (orT (notT (valT (un (isxF [] [] (tabOf xnames fun _ => true)) (varE 9)))) (notT (valT (un (isxF [] [] (tabOf xnames fun _ => true)) (varE 9))))) (retS (conE (.bl false))) (passS))
  (ifS (valT (bin neF (onA m_law_kinds (consA (varE 9) (nilA))) (lcE [10] (rng1I (consA (conE (.int 17)) (nilA))) (gnm 10) (yesT) (bin eqF (varE 10) (varE 8))))) (retS (conE (.bl false))) (passS))
theorem err_run {x0 x1 x2 x3 x4 x5 x6 x7 x10 : Option D} {h : MH} {i n : Nat} {c : Str} {fs : List (Str × D)} (hn : h[n]? = some (.xc c fs)) (hc : c ∈ xnames) (hi : i < 17) (ho : c = order.getD i "") :
    ∃ h', ERR [x0, x1, x2, x3, x4, x5, x6, x7, some (.int (i : Nat)), some (.ref n), x10] h = .nx [x0, x1, x2, x3, x4, x5, x6, x7, some (.int (i : Nat)), some (.ref n), x10] h' ∧ Gr h h' := by
  obtain ⟨r, h1, e1, g1, l1⟩ := kinds_run hn hc
  have e2 := spots_run (x0 := x0) (x1 := x1) (x2 := x2) (x3 := x3) (x4 := x4) (x5 := x5) (x6 := x6) (x7 := x7) (x9 := some (.ref n)) (x10 := x10) (i := i) (h := h1)
  have ek : kl c = spots i := by rw [ho]; exact kl_spots i hi
  rw [ek] at l1
  have e3 : neF (.ref r) (.ref h1.length) (h1 ++ [O.lst (spots i)]) = .ok (.bl false) (h1 ++ [O.lst (spots i)]) := ne_same (Gr.app.2 _ _ l1) last_at (fun d hd => by
    unfold spots at hd
    obtain ⟨x, _, ex⟩ := List.mem_map.mp hd
    exact ⟨_, ex.symm⟩)
  refine ⟨h1 ++ [O.lst (spots i)], ?_, g1.trans Gr.app⟩
  unfold ERR
  refine es_seq (es_ifF (ev_orF (ev_not (ev_val (isx_at rfl hn hc))) (ev_not (ev_val (isx_at rfl hn hc)))) es_pass) ?_
  exact es_ifF (ev_val (ev_bin (ev_on (ev_cons (ev_var rfl) ev_nil) e1) e2 e3)) es_pass
theorem stands_ok {h : MH} {r : Nat} {l : List D} (e : h[r]? = some (.lst l)) : IT.ok h [(r, l)] = true := by
  unfold IT.ok stands
  simp only [List.all_cons, List.all_nil, Bool.and_true, e]
  exact sames_refl l
theorem err_loop {x0 x1 x2 x3 x4 x5 x6 x7 x10 : Option D} {h0 : MH} {r : Nat} {l : List D} (hr : h0[r]? = some (.lst l)) : ∀ (xs : List D) (i : Nat) (h : MH) (x8 x9 : Option D), Gr h0 h →
    (∀ (j : Nat) d, xs[j]? = some d → ∃ n c fs, d = .tup [.int ((i + j : Nat) : Int), .ref n] ∧ h0[n]? = some (.xc c fs) ∧ c ∈ xnames ∧ i + j < 17 ∧ c = order.getD (i + j) "") →
    ∃ h' y8 y9, loopS [(r, l)] (gtp [gnm 8, gnm 9]) ERR xs [x0, x1, x2, x3, x4, x5, x6, x7, x8, x9, x10] h = .nx [x0, x1, x2, x3, x4, x5, x6, x7, y8, y9, x10] h' ∧ Gr h h'
  | [], i, h, x8, x9, g, _ => ⟨h, x8, x9, loop_nil (stands_ok (g.2 _ _ hr)), Gr.refl⟩
  | d :: xs, i, h, x8, x9, g, hx => by
    obtain ⟨n, c, fs, ed, hn, hc, hi, ho⟩ := hx 0 d rfl
    rw [Nat.add_zero] at ed hi ho
    subst ed
    obtain ⟨h1, e1, g1⟩ := err_run (x0 := x0) (x1 := x1) (x2 := x2) (x3 := x3) (x4 := x4) (x5 := x5) (x6 := x6) (x7 := x7) (x10 := x10) (g.2 _ _ hn) hc hi ho
    obtain ⟨h2, y8, y9, e2, g2⟩ := err_loop (x0 := x0) (x1 := x1) (x2 := x2) (x3 := x3) (x4 := x4) (x5 := x5) (x6 := x6) (x7 := x7) (x10 := x10) hr xs (i + 1) h1 (some (.int (i : Nat))) (some (.ref n)) (g.trans g1) (fun j d q => by
      obtain ⟨n, c, fs, a1, a2, a3, a4, a5⟩ := hx (j + 1) d (by simpa using q)
      have e : i + 1 + j = i + (j + 1) := by omega
      rw [e]
      exact ⟨n, c, fs, a1, a2, a3, a4, a5⟩)
    refine ⟨h2, y8, y9, ?_, g1.trans g2⟩
    rw [← e2]
    exact loop_cons (stands_ok (g.2 _ _ hr)) rfl e1

/-! the thing grows -/
theorem Thing.gr {h h' : MH} {t j : Nat} (g : Gr h h') (q : Thing h t j) : Thing h' t j := by
  rcases q with e | e | ⟨u, n, e, eu⟩ | e
  · exact .inl (g.2 _ _ e)
  · exact .inr (.inl (g.2 _ _ e))
  · exact .inr (.inr (.inl ⟨u, n, g.2 _ _ e, g.2 _ _ eu⟩))
  · exact .inr (.inr (.inr (g.2 _ _ e)))
/-- what stands, but for one place -/
def Kp (t : Nat) (h h' : MH) : Prop := ∀ (n : Nat) o, n ≠ t → h[n]? = some o → h'[n]? = some o
theorem Gr.kp {h h' : MH} {t : Nat} (g : Gr h h') : Kp t h h' := fun n o _ e => g.2 n o e
theorem Kp.trans {a b c : MH} {t : Nat} (p : Kp t a b) (q : Kp t b c) : Kp t a c := fun n o hn e => q n o hn (p n o hn e)
theorem Kp.set {h : MH} {t : Nat} {o : O} : Kp t h (h.set t o) := fun n x hn e => by rw [List.getElem?_set_ne (Ne.symm hn)]; exact e
theorem zeros_s (j : Nat) : zeros j ++ [.int 0] = zeros (j + 1) := by
  unfold zeros
  rw [List.replicate_succ']
def GROW : SM := ifS (valT (onA (isiF "list") (consA (varE 5) (consA (conE (.ty "list")) nilA)))) (expS (bmE "list" appF (varE 5) (consA (conE (.int 0)) (nilA)))) (passS)
theorem grow {x0 x1 x2 x3 x4 x6 x7 x8 x9 x10 : Option D} {h : MH} {t j : Nat} (hT : Thing h t j) (hj : j ≤ 1) : ∃ h', GROW [x0, x1, x2, x3, x4, some (.ref t), x6, x7, x8, x9, x10] h = .nx [x0, x1, x2, x3, x4, some (.ref t), x6, x7, x8, x9, x10] h' ∧ Thing h' t (j + 1) ∧
    (h' = h ∨ ∃ L o, h[t]? = some (.lst L) ∧ h' = h.set t o) := by
  have lst : ∀ L : List D, h[t]? = some (.lst L) → L.length < 1000 → GROW [x0, x1, x2, x3, x4, some (.ref t), x6, x7, x8, x9, x10] h = .nx [x0, x1, x2, x3, x4, some (.ref t), x6, x7, x8, x9, x10] (h.set t (.lst (L ++ [.int 0]))) := fun L e hl => by
    have ty : tyD h (.ref t) = some "list" := by unfold tyD; dsimp only; rw [e]
    have e1 : isiF "list" [.ref t, .ty "list"] h = .ok (.bl true) h := by
      unfold isiF
      dsimp only
      rw [if_pos rfl, ty]
      rfl
    exact es_ifT (ev_val (ev_on (ev_cons (ev_var rfl) (ev_cons ev_con ev_nil)) e1)) (es_exp (ev_bm (ev_var rfl) ty (ev_cons ev_con ev_nil) (app_lst e (by omega))))
  have zl : (zeros j).length = j := by unfold zeros; simp
  rcases hT with e | e | ⟨u, n, e, eu⟩ | e
  · refine ⟨_, lst _ e (by simp [zl]; omega), .inl ?_, .inr ⟨_, _, e, rfl⟩⟩
    rw [set_get e, List.cons_append, zeros_s]
  · refine ⟨_, lst _ e (by simp [zl]; omega), .inr (.inl ?_), .inr ⟨_, _, e, rfl⟩⟩
    rw [set_get e, List.cons_append, List.cons_append, zeros_s]
  · refine ⟨_, lst _ e (by simp [zl]; omega), .inr (.inr (.inl ⟨u, n, ?_, Kp.set u _ n eu⟩)), .inr ⟨_, _, e, rfl⟩⟩
    rw [set_get e, List.cons_append, zeros_s]
  · have ty : tyD h (.ref t) = some "dict" := by unfold tyD; dsimp only; rw [e]
    have e1 : isiF "list" [.ref t, .ty "list"] h = .ok (.bl false) h := by
      unfold isiF
      dsimp only
      rw [if_pos rfl, ty]
      rfl
    exact ⟨h, es_ifF (ev_val (ev_on (ev_cons (ev_var rfl) (ev_cons ev_con ev_nil)) e1)) es_pass, .inr (.inr (.inr e)), .inl rfl⟩

/-! what is due -/
theorem mul_l {h : MH} {a : Nat} {l : List D} {k : Int} (e : h[a]? = some (.lst l)) (k0 : 0 ≤ k) (k1 : k ≤ 1000) (hl : l.length ≤ 1000) : mulF (.ref a) (.int k) h = .ok (.ref h.length) (h ++ [O.lst (List.replicate k.toNat l).flatten]) := by
  unfold mulF
  simp only [lstOf, e]
  rw [if_pos ⟨by omega, k1, hl⟩]
def DUE : EM := bin addF (bin addF (bin mulF (onA lstF (consA (varE 5) (nilA))) (conE (.int 6))) (onA lstF (consA (onA tupF (consA (varE 3) (nilA))) (consA (varE 5) (consA (varE 5) (consA (varE 3) (consA (varE 5) (consA (varE 5) (consA (varE 3) (nilA)))))))))) (bin mulF (onA lstF (consA (varE 6) (nilA))) (conE (.int 4)))
theorem due_run {x0 x1 x2 x4 x7 x8 x9 x10 : Option D} {th w m : D} {h : MH} : ∃ r h', DUE [x0, x1, x2, some w, x4, some th, some m, x7, x8, x9, x10] h = .ok (.ref r) h' ∧ Gr h h' ∧ h'[r]? = some (.lst (due th w m)) := by
  obtain ⟨ee, he⟩ : ∃ ee, ee = [x0, x1, x2, some w, x4, some th, some m, x7, x8, x9, x10] := ⟨_, rfl⟩
  have v3 : ee[3]? = some (some w) := by rw [he]; rfl
  have v5 : ee[5]? = some (some th) := by rw [he]; rfl
  have v6 : ee[6]? = some (some m) := by rw [he]; rfl
  rw [← he]
  have a1 := ev_on (h := h) (f := lstF) (ev_cons (ev_var v5) ev_nil) (lst_new (by simp))
  have a2 := ev_bin (f := mulF) a1 (ev_con (d := .int 6)) (mul_l last_at (by decide) (by decide) (by simp))
  have g2 : Gr h ((h ++ [O.lst [th]]) ++ [O.lst (List.replicate (6 : Int).toNat [th]).flatten]) := Gr.app.trans Gr.app
  have l2 := last_at (h := h ++ [O.lst [th]]) (o := O.lst (List.replicate (6 : Int).toNat [th]).flatten)
  generalize (h ++ [O.lst [th]]) ++ [O.lst (List.replicate (6 : Int).toNat [th]).flatten] = h2 at a2 g2 l2
  generalize (h ++ [O.lst [th]]).length = r2 at a2 l2
  have a3 := ev_on (h := h2) (f := lstF) (ev_cons (ev_on (ev_cons (ev_var v3) ev_nil) (tup_new (by simp))) (ev_cons (ev_var v5) (ev_cons (ev_var v5) (ev_cons (ev_var v3) (ev_cons (ev_var v5) (ev_cons (ev_var v5) (ev_cons (ev_var v3) ev_nil))))))) (lst_new (by simp))
  have a4 := ev_bin a2 a3 (add_lst (Gr.app.2 _ _ l2) last_at (by simp))
  have g4 := (g2.trans (Gr.app (t := [O.lst [.tup [w], th, th, w, th, th, w]]))).trans (Gr.app (t := [O.lst ((List.replicate (6 : Int).toNat [th]).flatten ++ [.tup [w], th, th, w, th, th, w])]))
  have l4 := last_at (h := h2 ++ [O.lst [.tup [w], th, th, w, th, th, w]]) (o := O.lst ((List.replicate (6 : Int).toNat [th]).flatten ++ [.tup [w], th, th, w, th, th, w]))
  generalize (h2 ++ [O.lst [.tup [w], th, th, w, th, th, w]]) ++ [O.lst ((List.replicate (6 : Int).toNat [th]).flatten ++ [.tup [w], th, th, w, th, th, w])] = h4 at a4 g4 l4
  generalize (h2 ++ [O.lst [.tup [w], th, th, w, th, th, w]]).length = r4 at a4 l4
  have a5 := ev_on (h := h4) (f := lstF) (ev_cons (ev_var v6) ev_nil) (lst_new (by simp))
  have a6 := ev_bin (f := mulF) a5 (ev_con (d := .int 4)) (mul_l last_at (by decide) (by decide) (by simp))
  have g6 : Gr h4 ((h4 ++ [O.lst [m]]) ++ [O.lst (List.replicate (4 : Int).toNat [m]).flatten]) := Gr.app.trans Gr.app
  have l6 := last_at (h := h4 ++ [O.lst [m]]) (o := O.lst (List.replicate (4 : Int).toNat [m]).flatten)
  generalize (h4 ++ [O.lst [m]]) ++ [O.lst (List.replicate (4 : Int).toNat [m]).flatten] = h6 at a6 g6 l6
  generalize (h4 ++ [O.lst [m]]).length = r6 at a6 l6
  have a7 := ev_bin a4 a6 (add_lst (g6.2 _ _ l4) l6 (by simp))
  exact ⟨_, _, a7, (g4.trans g6).trans Gr.app, last_at⟩
def BODY2 : SM := seqS (forS (enumI (consA (varE 4) (nilA))) (gtp [gnm 8, gnm 9]) ERR) (seqS GROW (seqS (setS 7 DUE) (ifS (valT (bin neF (un reprF (onA m_law_stored (consA (varE 4) (nilA)))) (un reprF (varE 7)))) (retS (conE (.bl false))) (passS))))
theorem body2 {x0 x1 x2 x7 x8 x9 x10 : Option D} {h : MH} {r t j : Nat} {l : List D} {w : Str} {m : Int} (hr : h[r]? = some (.lst l)) (hi : Its h l (tbl (.ref t) (.str w) (.int m))) (hT : Thing h t j) (hj : j ≤ 1) (hrt : r ≠ t) (hw : w ∈ words) (m0 : 0 ≤ m) (m1 : m < 60) :
    ∃ h' y7 y8 y9, BODY2 [x0, x1, x2, some (.str w), some (.ref r), some (.ref t), some (.int m), x7, x8, x9, x10] h = .nx [x0, x1, x2, some (.str w), some (.ref r), some (.ref t), some (.int m), y7, y8, y9, x10] h' ∧ Kp t h h' ∧ Thing h' t (j + 1) := by
  -- for at, error in enumerate(errors)
  have e0 : enumI (consA (varE 4) nilA) [x0, x1, x2, some (.str w), some (.ref r), some (.ref t), some (.int m), x7, x8, x9, x10] h = .ok ⟨enumD l, [(r, l)]⟩ h := by
    unfold enumI
    rw [ev_cons (ev_var rfl) ev_nil]
    show enumF [.ref r] h = _
    unfold enumF
    dsimp only
    rw [hr]
  obtain ⟨h1, y8, y9, e1, g1⟩ := err_loop (x0 := x0) (x1 := x1) (x2 := x2) (x3 := some (.str w)) (x4 := some (.ref r)) (x5 := some (.ref t)) (x6 := some (.int m)) (x7 := x7) (x10 := x10) hr (enumD l) 0 h x8 x9 Gr.refl (fun q d e => by
    obtain ⟨x, ex, ed⟩ := enumD_at e
    obtain ⟨c, f, v, et⟩ : ∃ c f v, (tbl (.ref t) (.str w) (.int m))[q]? = some (c, f, v) := by
      have hq : q < (tbl (.ref t) (.str w) (.int m)).length := by rw [← hi.len]; exact (List.getElem?_eq_some_iff.mp ex).1
      exact ⟨_, _, _, List.getElem?_eq_getElem hq⟩
    obtain ⟨n, a, b⟩ := hi.at et
    rw [a] at ex
    cases ex
    obtain ⟨t1, t2, t3⟩ := tbl_at et
    rw [Nat.zero_add]
    exact ⟨n, c, _, ed, b, t3, t1, t2⟩)
  -- thing.append(0)
  obtain ⟨h2, e2, T2, alt⟩ := grow (x0 := x0) (x1 := x1) (x2 := x2) (x3 := some (.str w)) (x4 := some (.ref r)) (x6 := some (.int m)) (x7 := x7) (x8 := y8) (x9 := y9) (x10 := x10) (hT.gr g1) hj
  have k2 : Kp t h1 h2 := by
    rcases alt with z | ⟨L, o, _, z⟩
    · subst z; exact Gr.refl.kp
    · subst z; exact Kp.set
  have i2 : Its h2 l (tbl (.ref t) (.str w) (.int m)) := by
    rcases alt with z | ⟨L, o, q, z⟩
    · subst z; exact hi.gr g1
    · subst z; exact Its.set (m := []) q (hi.gr g1)
  have r2 : h2[r]? = some (.lst l) := k2 _ _ hrt (g1.2 _ _ hr)
  -- due = ..
  obtain ⟨r3, h3, e3, g3, l3⟩ := due_run (x0 := x0) (x1 := x1) (x2 := x2) (x4 := some (.ref r)) (x7 := x7) (x8 := y8) (x9 := y9) (x10 := x10) (th := .ref t) (w := .str w) (m := .int m) (h := h2)
  -- repr
  obtain ⟨r4, h4, e4, g4, l4⟩ := stored_run (g3.2 _ _ r2) (i2.gr g3)
  have T4 : Thing h4 t (j + 1) := (T2.gr g3).gr g4
  obtain ⟨p, tp, pt⟩ := thing_tree T4 (by omega)
  obtain ⟨s0, s1, s2, s3⟩ := fruit_small (w := w) (m := m) pt hw m0 m1
  have tr := due_tree tp s1 s2 s3
  have q1 := repr_list l4 tr s0
  have q2 := repr_list (g4.2 _ _ l3) tr s0
  refine ⟨h4, some (.ref r3), y8, y9, ?_, ((g1.kp.trans k2).trans g3.kp).trans g4.kp, T4⟩
  unfold BODY2
  refine es_seq (es_for e0 e1) (es_seq e2 (es_seq (es_set' e3 rfl) (es_ifF (ev_val (ev_bin (ev_un (ev_on (ev_cons (ev_var rfl) ev_nil) e4) q1) (ev_un (ev_var rfl) q2) ne_str)) es_pass)))
end ML

namespace ML
open PySem PySem.Spec PyProof.Rows L2

theorem Its.kp {h h' : MH} {t : Nat} (g : Kp t h h') (hn : ∀ (n : Nat) c fs, h[n]? = some (.xc c fs) → n ≠ t) : ∀ {l : List D} {u : List (Str × Str × D)}, Its h l u → Its h' l u
  | [], [], _ => True.intro
  | x :: xs, (c, f, d) :: u, q => by
    obtain ⟨⟨n, e1, e2⟩, q2⟩ := q
    exact ⟨⟨n, e1, g _ _ (hn _ _ _ e2) e2⟩, Its.kp g hn q2⟩
  | [], _ :: _, q => q.elim
  | _ :: _, [], q => q.elim
theorem Thing.no {h : MH} {t j : Nat} (q : Thing h t j) {n : Nat} {c : Str} {fs : List (Str × D)} (e : h[n]? = some (.xc c fs)) : n ≠ t := fun z => by
  subst z
  rcases q with a | a | ⟨u, _, a, _⟩ | a <;> · rw [e] at a; cases a
theorem dct1 {e : Env} {h : MH} {s : Str} {i : Int} : dctE [(conE (.str s), conE (.int i))] e h = .ok (.ref h.length) (h ++ [O.dct [(.inr s, .int i)]]) := by
  unfold dctE pairsM
  simp only [conE, keyOf, R.bind, pairsM, List.length_cons, List.length_nil]
  simp [mergeD, putKD]
def THINGS : EM := onA lstF (consA (onA lstF (consA (conE (.int 5)) (nilA))) (consA (onA lstF (consA (conE (.str "a")) (consA (conE .non) (nilA)))) (consA (onA lstF (consA (onA lstF (nilA)) (nilA))) (consA (dctE [(conE (.str "a"), conE (.int 1))]) (nilA)))))
def TURN : SM := seqS (setS 2 (onA m_law_source (consA (varE 0) (consA (varE 1) (nilA))))) (seqS (parS [5, 6] (consA (onA m_law_pick (consA (varE 2) (consA THINGS (nilA)))) (consA (onA m_law_draw (consA (varE 2) (consA (conE (.int 60)) (nilA)))) (nilA))))
  (seqS (setS 3 (onA m_law_pick (consA (varE 2) (consA (onA lstF (consA (conE (.str "beside")) (consA (conE (.str "elder")) (consA (conE (.str "a")) (consA (conE (.str "conf")) (nilA)))))) (nilA)))))
  (forS (seqI (onA lstF (consA (onA m_law_by_place (consA (varE 5) (consA (varE 3) (consA (varE 6) (nilA))))) (consA (onA m_law_by_name (consA (varE 5) (consA (varE 3) (consA (varE 6) (nilA))))) (nilA))))) (gnm 4) BODY2)))
def E11 (e : Env) : Prop := ∃ x1 x2 x3 x4 x5 x6 x7 x8 x9 x10, e = [some (.ref 0), x1, x2, x3, x4, x5, x6, x7, x8, x9, x10]
theorem things {e : Env} {h : MH} : ∃ n l h', THINGS e h = .ok (.ref n) h' ∧ Gr h h' ∧ h.length ≤ n ∧ h'[n]? = some (.lst l) ∧ l.length = 4 ∧ ∀ d ∈ l, ∃ t, d = .ref t ∧ Thing h' t 0 ∧ h.length ≤ t ∧ ∀ h'' k, Kp k h' h'' → k < h.length → Thing h'' t 0 := by
  have b1 := ev_on (e := e) (h := h) (f := lstF) (ev_cons (ev_con (d := .int 5)) ev_nil) (lst_new (by simp))
  obtain ⟨h2, d2⟩ : ∃ x, x = h ++ [O.lst [.int 5]] := ⟨_, rfl⟩
  have g2 : Gr h h2 := by rw [d2]; exact Gr.app
  have l2 : h2[h.length]? = some (.lst [.int 5]) := by rw [d2]; exact last_at
  rw [← d2] at b1
  have b2 := ev_on (e := e) (h := h2) (f := lstF) (ev_cons (ev_con (d := .str "a")) (ev_cons (ev_con (d := .non)) ev_nil)) (lst_new (by simp))
  obtain ⟨h3, d3⟩ : ∃ x, x = h2 ++ [O.lst [.str "a", .non]] := ⟨_, rfl⟩
  have g3 : Gr h2 h3 := by rw [d3]; exact Gr.app
  have l3 : h3[h2.length]? = some (.lst [.str "a", .non]) := by rw [d3]; exact last_at
  rw [← d3] at b2
  have b3 := ev_on (e := e) (h := h3) (f := lstF) ev_nil (lst_new (by simp))
  obtain ⟨h4, d4⟩ : ∃ x, x = h3 ++ [O.lst []] := ⟨_, rfl⟩
  have g4 : Gr h3 h4 := by rw [d4]; exact Gr.app
  have l4 : h4[h3.length]? = some (.lst []) := by rw [d4]; exact last_at
  rw [← d4] at b3
  have b4 := ev_on (f := lstF) (ev_cons b3 ev_nil) (lst_new (by simp))
  obtain ⟨h5, d5⟩ : ∃ x, x = h4 ++ [O.lst [.ref h3.length]] := ⟨_, rfl⟩
  have g5 : Gr h4 h5 := by rw [d5]; exact Gr.app
  have l5 : h5[h4.length]? = some (.lst [.ref h3.length]) := by rw [d5]; exact last_at
  have len4 : h4.length = h3.length + 1 := by rw [d4]; simp
  rw [← d5] at b4
  have b5 := dct1 (e := e) (h := h5) (s := "a") (i := 1)
  obtain ⟨h6, d6⟩ : ∃ x, x = h5 ++ [O.dct [(.inr "a", .int 1)]] := ⟨_, rfl⟩
  have g6 : Gr h5 h6 := by rw [d6]; exact Gr.app
  have l6 : h6[h5.length]? = some (.dct [(.inr "a", .int 1)]) := by rw [d6]; exact last_at
  rw [← d6] at b5
  have b7 := ev_on (f := lstF) (ev_cons b1 (ev_cons b2 (ev_cons b4 (ev_cons b5 ev_nil)))) (lst_new (by simp))
  obtain ⟨h7, d7⟩ : ∃ x, x = h6 ++ [O.lst [.ref h.length, .ref h2.length, .ref h4.length, .ref h5.length]] := ⟨_, rfl⟩
  have g7 : Gr h6 h7 := by rw [d7]; exact Gr.app
  have l7 : h7[h6.length]? = some (.lst [.ref h.length, .ref h2.length, .ref h4.length, .ref h5.length]) := by rw [d7]; exact last_at
  rw [← d7] at b7
  have n2 := g2.1
  have n3 := g3.1
  have n4 := g4.1
  have n5 := g5.1
  have n6 := g6.1
  refine ⟨h6.length, _, h7, b7, ((((g2.trans g3).trans g4).trans g5).trans g6).trans g7, by omega, l7, rfl, fun d hd => ?_⟩
  have s2 := g7.2 _ _ (g6.2 _ _ (g5.2 _ _ (g4.2 _ _ (g3.2 _ _ l2))))
  have s3 := g7.2 _ _ (g6.2 _ _ (g5.2 _ _ (g4.2 _ _ l3)))
  have s4 := g7.2 _ _ (g6.2 _ _ (g5.2 _ _ l4))
  have s5 := g7.2 _ _ (g6.2 _ _ l5)
  have s6 := g7.2 _ _ l6
  simp only [List.mem_cons, List.not_mem_nil, or_false] at hd
  rcases hd with z | z | z | z
  · exact ⟨_, z, .inl s2, by omega, fun h'' k q hk => .inl (q _ _ (by omega) s2)⟩
  · exact ⟨_, z, .inr (.inl s3), by omega, fun h'' k q hk => .inr (.inl (q _ _ (by omega) s3))⟩
  · exact ⟨_, z, .inr (.inr (.inl ⟨h3.length, by omega, s5, s4⟩)), by omega, fun h'' k q hk => .inr (.inr (.inl ⟨h3.length, by omega, q _ _ (by omega) s5, q _ _ (by omega) s4⟩))⟩
  · exact ⟨_, z, .inr (.inr (.inr s6)), by omega, fun h'' k q hk => .inr (.inr (.inr (q _ _ (by omega) s6)))⟩
theorem turn {ns : List Int} {s : Int} {x2 x3 x4 x5 x6 x7 x8 x9 x10 : Option D} {h : MH} (h0 : h[0]? = some (.rdl (ns.map .int))) (hb : ∀ z ∈ ns, Builtin.Int.intBits z ≤ 1048576) (s0 : 0 ≤ s) (s1 : s < 100) :
    ∃ e' h', TURN [some (.ref 0), some (.int s), x2, x3, x4, x5, x6, x7, x8, x9, x10] h = .nx e' h' ∧ E11 e' ∧ h'[0]? = some (.rdl (ns.map .int)) := by
  have hp : 0 < h.length := (List.getElem?_eq_some_iff.mp h0).1
  -- source
  obtain ⟨r, m, e1, r0, m0, m1⟩ := source h0 hb s0 s1
  obtain ⟨h1, d1⟩ : ∃ x, x = h ++ [O.lst [.int r, .int m]] := ⟨_, rfl⟩
  have g1 : Gr h h1 := by rw [d1]; exact Gr.app
  have l1 : h1[h.length]? = some (.lst [.int r, .int m]) := by rw [d1]; exact last_at
  have len1 : h1.length = h.length + 1 := by rw [d1]; simp
  rw [← d1] at e1
  obtain ⟨k, hk⟩ : ∃ k, k = h.length := ⟨_, rfl⟩
  rw [← hk] at l1 e1 len1 hp
  -- thing
  obtain ⟨n, l, h7, e2, g2, n2, l2, len2, hl⟩ := things (e := [some (.ref 0), some (.int s), some (.ref k), x3, x4, x5, x6, x7, x8, x9, x10]) (h := h1)
  obtain ⟨d, r', m', e3, dl, a0, a1, a2⟩ := pick (x := .ref n) (l := l) (g2.2 _ _ l1) r0 m0 m1 (len_lst l2) (by omega) (by omega) (fun r' m' j d q => ix_lst (Kp.set _ _ (by omega) l2) (by omega) (by simpa using q))
  obtain ⟨t, et, T7, nt, Tk⟩ := hl d dl
  subst et
  -- many
  obtain ⟨v, r2, m2, e4, v0, v1, c0, c1, c2⟩ := draw (k := k) (span := 60) (set_get (g2.2 _ _ l1)) a0 a1 a2 (by decide) (by decide)
  rw [List.set_set] at e4
  obtain ⟨h9, d9⟩ : ∃ x, x = h7.set k (O.lst [.int r2, .int m2]) := ⟨_, rfl⟩
  have k9 : Kp k h7 h9 := by rw [d9]; exact Kp.set
  have l9 : h9[k]? = some (.lst [.int r2, .int m2]) := by rw [d9]; exact set_get (g2.2 _ _ l1)
  have len9 : h9.length = h7.length := by rw [d9]; simp
  rw [← d9] at e4
  have T9 : Thing h9 t 0 := Tk h9 k k9 (by omega)
  have tlt : t < h9.length := by
    rcases T9 with a | a | ⟨_, _, a, _⟩ | a <;> exact (List.getElem?_eq_some_iff.mp a).1
  -- word
  obtain ⟨h10, d10⟩ : ∃ x, x = h9 ++ [O.lst (words.map .str)] := ⟨_, rfl⟩
  have g10 : Gr h9 h10 := by rw [d10]; exact Gr.app
  have l10 : h10[h9.length]? = some (.lst (words.map .str)) := by rw [d10]; exact last_at
  have k9lt : k < h9.length := (List.getElem?_eq_some_iff.mp l9).1
  have e5 : onA lstF (consA (conE (.str "beside")) (consA (conE (.str "elder")) (consA (conE (.str "a")) (consA (conE (.str "conf")) (nilA))))) [some (.ref 0), some (.int s), some (.ref k), x3, x4, some (.ref t), some (.int v), x7, x8, x9, x10] h9 = .ok (.ref h9.length) h10 := by
    rw [d10]
    exact ev_on (ev_cons ev_con (ev_cons ev_con (ev_cons ev_con (ev_cons ev_con ev_nil)))) (lst_new (by simp))
  obtain ⟨dw, r3, m3, e6, wl, _, _, _⟩ := pick (x := .ref h9.length) (l := words.map .str) (g10.2 _ _ l9) c0 c1 c2 (len_lst l10) (by decide) (by decide) (fun r' m' j d q => ix_lst (Kp.set _ _ (by omega) l10) (by omega) (by simpa using q))
  obtain ⟨w, hw, ew⟩ := List.mem_map.mp wl
  subst ew
  obtain ⟨h11, d11⟩ : ∃ x, x = h10.set k (O.lst [.int r3, .int m3]) := ⟨_, rfl⟩
  have k11 : Kp k h10 h11 := by rw [d11]; exact Kp.set
  have len11 : h11.length = h9.length + 1 := by rw [d11, d10]; simp
  rw [← d11] at e6
  have T11 : Thing h11 t 0 := Tk h11 k (k9.trans (g10.kp.trans k11)) (by omega)
  -- the lists
  obtain ⟨ra, h12, la, e7, g12, na, sa, ia⟩ := by_place (.ref t) (.str w) (.int v) h11
  obtain ⟨rb, h13, lb, e8, g13, nb, sb, ib⟩ := by_name (.ref t) (.str w) (.int v) h12
  obtain ⟨h14, d14⟩ : ∃ x, x = h13 ++ [O.lst [.ref ra, .ref rb]] := ⟨_, rfl⟩
  have g14 : Gr h13 h14 := by rw [d14]; exact Gr.app
  have l14 : h14[h13.length]? = some (.lst [.ref ra, .ref rb]) := by rw [d14]; exact last_at
  have e9 : onA lstF (consA (onA m_law_by_place (consA (varE 5) (consA (varE 3) (consA (varE 6) (nilA))))) (consA (onA m_law_by_name (consA (varE 5) (consA (varE 3) (consA (varE 6) (nilA))))) (nilA))) [some (.ref 0), some (.int s), some (.ref k), some (.str w), x4, some (.ref t), some (.int v), x7, x8, x9, x10] h11 = .ok (.ref h13.length) h14 := by
    rw [d14]
    exact ev_on (ev_cons (ev_on (ev_cons (ev_var rfl) (ev_cons (ev_var rfl) (ev_cons (ev_var rfl) ev_nil))) e7) (ev_cons (ev_on (ev_cons (ev_var rfl) (ev_cons (ev_var rfl) (ev_cons (ev_var rfl) ev_nil))) e8) ev_nil)) (lst_new (by simp))
  have p12 := g12.1
  have p13 := g13.1
  have T14 : Thing h14 t 0 := ((T11.gr g12).gr g13).gr g14
  have sa14 := g14.2 _ _ (g13.2 _ _ sa)
  have sb14 := g14.2 _ _ sb
  have ia14 := (ia.gr g13).gr g14
  have ib14 := ib.gr g14
  obtain ⟨h15, y7, y8, y9, e10, k15, T15⟩ := body2 (x0 := some (.ref 0)) (x1 := some (.int s)) (x2 := some (.ref k)) (x7 := x7) (x8 := x8) (x9 := x9) (x10 := x10) sa14 ia14 T14 (by omega) (by omega) hw v0 v1
  obtain ⟨h16, z7, z8, z9, e11, k16, _⟩ := body2 (x0 := some (.ref 0)) (x1 := some (.int s)) (x2 := some (.ref k)) (x7 := y7) (x8 := y8) (x9 := y9) (x10 := x10) (k15 _ _ (by omega) sb14) (Its.kp k15 (fun n c fs q => T14.no q) ib14) T15 (by omega) (by omega) hw v0 v1
  have q14 : h14[h13.length]? = some (.lst [.ref ra, .ref rb]) := l14
  have q15 := k15 _ _ (show h13.length ≠ t by omega) q14
  have q16 := k16 _ _ (show h13.length ≠ t by omega) q15
  have e12 := loop_cons (g := gnm 4) (m := BODY2) (e := [some (.ref 0), some (.int s), some (.ref k), some (.str w), x4, some (.ref t), some (.int v), x7, x8, x9, x10]) (d := .ref ra) (xs := [.ref rb]) (stands_ok q14) rfl e10
  have e13 := loop_cons (g := gnm 4) (m := BODY2) (e := [some (.ref 0), some (.int s), some (.ref k), some (.str w), some (.ref ra), some (.ref t), some (.int v), y7, y8, y9, x10]) (d := .ref rb) (xs := []) (stands_ok q15) rfl e11
  have e14 := loop_nil (g := gnm 4) (m := BODY2) (e := [some (.ref 0), some (.int s), some (.ref k), some (.str w), some (.ref rb), some (.ref t), some (.int v), z7, z8, z9, x10]) (stands_ok q16)
  refine ⟨[some (.ref 0), some (.int s), some (.ref k), some (.str w), some (.ref rb), some (.ref t), some (.int v), z7, z8, z9, x10], h16, ?_, ⟨_, _, _, _, _, _, _, _, _, _, rfl⟩, ?_⟩
  · unfold TURN
    refine es_seq (es_set' (ev_on (ev_cons (ev_var rfl) (ev_cons (ev_var rfl) ev_nil)) e1) rfl) (es_seq (es_par2 (ev_cons (ev_on (ev_cons (ev_var rfl) (ev_cons e2 ev_nil)) e3) (ev_cons (ev_on (ev_cons (ev_var rfl) (ev_cons ev_con ev_nil)) e4) ev_nil)))
      (es_seq (es_set' (ev_on (ev_cons (ev_var rfl) (ev_cons e5 ev_nil)) e6) rfl) (es_for (ei_lst e9 l14) (e12.trans (e13.trans e14)))))
  · have o1 := g2.2 _ _ (g1.2 _ _ h0)
    have o2 := k9 _ _ (by omega) o1
    have o3 := k11 _ _ (by omega) (g10.2 _ _ o2)
    have o4 := g14.2 _ _ (g13.2 _ _ (g12.2 _ _ o3))
    exact k16 _ _ (by omega) (k15 _ _ (by omega) o4)
theorem turns {ns : List Int} (hb : ∀ z ∈ ns, Builtin.Int.intBits z ≤ 1048576) : ∀ (xs : List D) (e : Env) (h : MH), (∀ d ∈ xs, ∃ s, d = .int s ∧ 0 ≤ s ∧ s < 100) → E11 e → h[0]? = some (.rdl (ns.map .int)) → ∃ e' h', loopS [] (gnm 1) TURN xs e h = .nx e' h'
  | [], e, h, _, _, _ => ⟨e, h, loop_nil rfl⟩
  | d :: xs, e, h, hx, he, h0 => by
    obtain ⟨s, ed, s0, s1⟩ := hx d List.mem_cons_self
    subst ed
    obtain ⟨x1, x2, x3, x4, x5, x6, x7, x8, x9, x10, ee⟩ := he
    subst ee
    obtain ⟨e1, h1, p, q, o⟩ := turn (x2 := x2) (x3 := x3) (x4 := x4) (x5 := x5) (x6 := x6) (x7 := x7) (x8 := x8) (x9 := x9) (x10 := x10) h0 hb s0 s1
    obtain ⟨e2, h2, p2⟩ := turns hb xs e1 h1 (fun d hd => hx d (List.mem_cons_of_mem _ hd)) q o
    exact ⟨e2, h2, (loop_cons rfl rfl p).trans p2⟩
theorem law_true : ∀ ns : List Int, ns.length ≤ 63 → (∀ z ∈ ns, Builtin.Int.intBits z ≤ 1048576) → ∃ h', b_law ([some (.ref 0)] ++ List.replicate (N_law.length - 1) none) (scriptM ns) = .rt (.bl true) h' := by
  intro ns hl hb
  have h0 : (scriptM ns)[0]? = some (.rdl (ns.map .int)) := rfl
  have a1 := len_rdl h0
  rw [List.length_map] at a1
  obtain ⟨y, a2, y1⟩ : ∃ y : Int, min2F [.int 4, .int (ns.length : Nat)] (scriptM ns) = .ok (.int y) (scriptM ns) ∧ y ≤ 4 := ⟨_, rfl, by split <;> omega⟩
  obtain ⟨z, a3, z0, z1⟩ : ∃ z : Int, max2F [.int 1, .int y] (scriptM ns) = .ok (.int z) (scriptM ns) ∧ 0 ≤ z ∧ z ≤ 4 := ⟨_, rfl, by split <;> omega, by split <;> omega⟩
  obtain ⟨e', h', p⟩ := turns hb (rangeD 0 z.toNat) ([some (.ref 0)] ++ List.replicate (N_law.length - 1) none) (scriptM ns) (fun d hd => by
    unfold rangeD at hd
    obtain ⟨i, hi, ei⟩ := List.mem_map.mp hd
    have := List.mem_range.mp hi
    exact ⟨_, ei.symm, by omega, by omega⟩) ⟨_, _, _, _, _, _, _, _, _, _, rfl⟩ h0
  refine ⟨h', ?_⟩
  have w : b_law = seqS (forS (rng1I (consA (onA max2F (consA (conE (.int 1)) (consA (onA min2F (consA (conE (.int 4)) (consA (onA lenF (consA (varE 0) (nilA))) (nilA)))) (nilA)))) (nilA))) (gnm 1) TURN) (retS (conE (.bl true))) := rfl
  rw [w]
  refine es_seq (es_for (ei_rng (ev_cons (ev_on (ev_cons ev_con (ev_cons (ev_on (ev_cons ev_con (ev_cons (ev_on (ev_cons (ev_var rfl) ev_nil) a1) ev_nil)) a2) ev_nil)) a3) ev_nil) ⟨by omega, by omega⟩) p) (es_ret ev_con)
end ML

open PySem PySem.W PyProof.Rows in
set_option maxRecDepth 100000 in
set_option maxHeartbeats 0 in
theorem PySem.Challenge.cw_stillmine_k91_errors_by_hand_holds : PySem.Challenge.rw_stillmine_k91_errors_by_hand.Holds := by
  w_on; o_law; k_head; (case hw => w_witness2)
  k_fill
  refine ML.walk (l := PySem.Challenge.rw_stillmine_k91_errors_by_hand) rfl rfl (fun w h Y => PySem.W.kIn_of Y) ?F
  case F =>
    intro w mg fa h KX G hmg
    have hlaw : mg "law" = some (.ref fa) := hmg
    clear hmg
    refine' ML.all_mk KX G hlaw ?a_BadRegisters ?i_BadRegisters ?o_BadRegisters ?g_BadRegisters ?b_BadRegisters ?a_BadLines ?i_BadLines ?o_BadLines ?g_BadLines ?b_BadLines ?a_BadLine ?i_BadLine ?o_BadLine ?g_BadLine ?b_BadLine ?a_BadContent ?i_BadContent ?o_BadContent ?g_BadContent ?b_BadContent ?a_StillAmid ?i_StillAmid ?o_StillAmid ?g_StillAmid ?b_StillAmid ?a_Unanswered ?i_Unanswered ?o_Unanswered ?g_Unanswered ?b_Unanswered ?a_BadAnswer ?i_BadAnswer ?o_BadAnswer ?g_BadAnswer ?b_BadAnswer ?a_BadStop ?i_BadStop ?o_BadStop ?g_BadStop ?b_BadStop ?a_NoPlace ?i_NoPlace ?o_NoPlace ?g_NoPlace ?b_NoPlace ?a_BadTrouble ?i_BadTrouble ?o_BadTrouble ?g_BadTrouble ?b_BadTrouble ?a_OtherPlaces ?i_OtherPlaces ?o_OtherPlaces ?g_OtherPlaces ?b_OtherPlaces ?a_BadName ?i_BadName ?o_BadName ?g_BadName ?b_BadName ?a_NoFile ?i_NoFile ?o_NoFile ?g_NoFile ?b_NoFile ?a_Taken ?i_Taken ?o_Taken ?g_Taken ?b_Taken ?a_TooFar ?i_TooFar ?o_TooFar ?g_TooFar ?b_TooFar ?a_BadText ?i_BadText ?o_BadText ?g_BadText ?b_BadText ?a_BadBridge ?i_BadBridge ?o_BadBridge ?g_BadBridge ?b_BadBridge ?a_UpgradeError ?kinds ?z_ValueError ?z_enumerate ?z_int ?z_isinstance ?z_len ?z_list ?z_max ?z_min ?z_range ?z_repr ?a_law_source ?g_law_source ?a_law_draw ?g_law_draw ?a_law_pick ?g_law_pick ?a_law_kinds ?g_law_kinds ?a_law_by_place ?g_law_by_place ?a_law_by_name ?g_law_by_name ?a_law_stored ?g_law_stored ?a_law ?g_law ML.law_true
    (case a_BadRegisters => k_is)
    (case i_BadRegisters => k_is)
    (case o_BadRegisters => (refine' ML.xco_mk ?q1 ?q2; (case q1 => k_is); (case q2 => rfl)))
    (case g_BadRegisters => (refine' ML.fun_ex ?q1 ?q2 ?q3; (case q1 => k_is); (case q2 => k_is); (case q3 => k_is)))
    (case b_BadRegisters => kernel_rfl)
    (case a_BadLines => k_is)
    (case i_BadLines => k_is)
    (case o_BadLines => (refine' ML.xco_mk ?q1 ?q2; (case q1 => k_is); (case q2 => rfl)))
    (case g_BadLines => (refine' ML.fun_ex ?q1 ?q2 ?q3; (case q1 => k_is); (case q2 => k_is); (case q3 => k_is)))
    (case b_BadLines => kernel_rfl)
    (case a_BadLine => k_is)
    (case i_BadLine => k_is)
    (case o_BadLine => (refine' ML.xco_mk ?q1 ?q2; (case q1 => k_is); (case q2 => rfl)))
    (case g_BadLine => (refine' ML.fun_ex ?q1 ?q2 ?q3; (case q1 => k_is); (case q2 => k_is); (case q3 => k_is)))
    (case b_BadLine => kernel_rfl)
    (case a_BadContent => k_is)
    (case i_BadContent => k_is)
    (case o_BadContent => (refine' ML.xco_mk ?q1 ?q2; (case q1 => k_is); (case q2 => rfl)))
    (case g_BadContent => (refine' ML.fun_ex ?q1 ?q2 ?q3; (case q1 => k_is); (case q2 => k_is); (case q3 => k_is)))
    (case b_BadContent => kernel_rfl)
    (case a_StillAmid => k_is)
    (case i_StillAmid => k_is)
    (case o_StillAmid => (refine' ML.xco_mk ?q1 ?q2; (case q1 => k_is); (case q2 => rfl)))
    (case g_StillAmid => (refine' ML.fun_ex ?q1 ?q2 ?q3; (case q1 => k_is); (case q2 => k_is); (case q3 => k_is)))
    (case b_StillAmid => kernel_rfl)
    (case a_Unanswered => k_is)
    (case i_Unanswered => k_is)
    (case o_Unanswered => (refine' ML.xco_mk ?q1 ?q2; (case q1 => k_is); (case q2 => rfl)))
    (case g_Unanswered => (refine' ML.fun_ex ?q1 ?q2 ?q3; (case q1 => k_is); (case q2 => k_is); (case q3 => k_is)))
    (case b_Unanswered => kernel_rfl)
    (case a_BadAnswer => k_is)
    (case i_BadAnswer => k_is)
    (case o_BadAnswer => (refine' ML.xco_mk ?q1 ?q2; (case q1 => k_is); (case q2 => rfl)))
    (case g_BadAnswer => (refine' ML.fun_ex ?q1 ?q2 ?q3; (case q1 => k_is); (case q2 => k_is); (case q3 => k_is)))
    (case b_BadAnswer => kernel_rfl)
    (case a_BadStop => k_is)
    (case i_BadStop => k_is)
    (case o_BadStop => (refine' ML.xco_mk ?q1 ?q2; (case q1 => k_is); (case q2 => rfl)))
    (case g_BadStop => (refine' ML.fun_ex ?q1 ?q2 ?q3; (case q1 => k_is); (case q2 => k_is); (case q3 => k_is)))
    (case b_BadStop => kernel_rfl)
    (case a_NoPlace => k_is)
    (case i_NoPlace => k_is)
    (case o_NoPlace => (refine' ML.xco_mk ?q1 ?q2; (case q1 => k_is); (case q2 => rfl)))
    (case g_NoPlace => (refine' ML.fun_ex ?q1 ?q2 ?q3; (case q1 => k_is); (case q2 => k_is); (case q3 => k_is)))
    (case b_NoPlace => kernel_rfl)
    (case a_BadTrouble => k_is)
    (case i_BadTrouble => k_is)
    (case o_BadTrouble => (refine' ML.xco_mk ?q1 ?q2; (case q1 => k_is); (case q2 => rfl)))
    (case g_BadTrouble => (refine' ML.fun_ex ?q1 ?q2 ?q3; (case q1 => k_is); (case q2 => k_is); (case q3 => k_is)))
    (case b_BadTrouble => kernel_rfl)
    (case a_OtherPlaces => k_is)
    (case i_OtherPlaces => k_is)
    (case o_OtherPlaces => (refine' ML.xco_mk ?q1 ?q2; (case q1 => k_is); (case q2 => rfl)))
    (case g_OtherPlaces => (refine' ML.fun_ex ?q1 ?q2 ?q3; (case q1 => k_is); (case q2 => k_is); (case q3 => k_is)))
    (case b_OtherPlaces => kernel_rfl)
    (case a_BadName => k_is)
    (case i_BadName => k_is)
    (case o_BadName => (refine' ML.xco_mk ?q1 ?q2; (case q1 => k_is); (case q2 => rfl)))
    (case g_BadName => (refine' ML.fun_ex ?q1 ?q2 ?q3; (case q1 => k_is); (case q2 => k_is); (case q3 => k_is)))
    (case b_BadName => kernel_rfl)
    (case a_NoFile => k_is)
    (case i_NoFile => k_is)
    (case o_NoFile => (refine' ML.xco_mk ?q1 ?q2; (case q1 => k_is); (case q2 => rfl)))
    (case g_NoFile => (refine' ML.fun_ex ?q1 ?q2 ?q3; (case q1 => k_is); (case q2 => k_is); (case q3 => k_is)))
    (case b_NoFile => kernel_rfl)
    (case a_Taken => k_is)
    (case i_Taken => k_is)
    (case o_Taken => (refine' ML.xco_mk ?q1 ?q2; (case q1 => k_is); (case q2 => rfl)))
    (case g_Taken => (refine' ML.fun_ex ?q1 ?q2 ?q3; (case q1 => k_is); (case q2 => k_is); (case q3 => k_is)))
    (case b_Taken => kernel_rfl)
    (case a_TooFar => k_is)
    (case i_TooFar => k_is)
    (case o_TooFar => (refine' ML.xco_mk ?q1 ?q2; (case q1 => k_is); (case q2 => rfl)))
    (case g_TooFar => (refine' ML.fun_ex ?q1 ?q2 ?q3; (case q1 => k_is); (case q2 => k_is); (case q3 => k_is)))
    (case b_TooFar => kernel_rfl)
    (case a_BadText => k_is)
    (case i_BadText => k_is)
    (case o_BadText => (refine' ML.xco_mk ?q1 ?q2; (case q1 => k_is); (case q2 => rfl)))
    (case g_BadText => (refine' ML.fun_ex ?q1 ?q2 ?q3; (case q1 => k_is); (case q2 => k_is); (case q3 => k_is)))
    (case b_BadText => kernel_rfl)
    (case a_BadBridge => k_is)
    (case i_BadBridge => k_is)
    (case o_BadBridge => (refine' ML.xco_mk ?q1 ?q2; (case q1 => k_is); (case q2 => rfl)))
    (case g_BadBridge => (refine' ML.fun_ex ?q1 ?q2 ?q3; (case q1 => k_is); (case q2 => k_is); (case q3 => k_is)))
    (case b_BadBridge => kernel_rfl)
    (case a_UpgradeError => k_is)
    (case kinds => kernel_rfl)
    (case z_ValueError => k_is)
    (case z_enumerate => k_is)
    (case z_int => k_is)
    (case z_isinstance => k_is)
    (case z_len => k_is)
    (case z_list => k_is)
    (case z_max => k_is)
    (case z_min => k_is)
    (case z_range => k_is)
    (case z_repr => k_is)
    (case a_law_source => k_is)
    (case g_law_source => (refine' ML.fun_ex ?q1 ?q2 ?q3; (case q1 => k_is); (case q2 => k_is); (case q3 => k_is)))
    (case a_law_draw => k_is)
    (case g_law_draw => (refine' ML.fun_ex ?q1 ?q2 ?q3; (case q1 => k_is); (case q2 => k_is); (case q3 => k_is)))
    (case a_law_pick => k_is)
    (case g_law_pick => (refine' ML.fun_ex ?q1 ?q2 ?q3; (case q1 => k_is); (case q2 => k_is); (case q3 => k_is)))
    (case a_law_kinds => k_is)
    (case g_law_kinds => (refine' ML.fun_ex ?q1 ?q2 ?q3; (case q1 => k_is); (case q2 => k_is); (case q3 => k_is)))
    (case a_law_by_place => k_is)
    (case g_law_by_place => (refine' ML.fun_ex ?q1 ?q2 ?q3; (case q1 => k_is); (case q2 => k_is); (case q3 => k_is)))
    (case a_law_by_name => k_is)
    (case g_law_by_name => (refine' ML.fun_ex ?q1 ?q2 ?q3; (case q1 => k_is); (case q2 => k_is); (case q3 => k_is)))
    (case a_law_stored => k_is)
    (case g_law_stored => (refine' ML.fun_ex ?q1 ?q2 ?q3; (case q1 => k_is); (case q2 => k_is); (case q3 => k_is)))
    (case a_law => k_is)
    (case g_law => (refine' ML.fun_ex ?q1 ?q2 ?q3; (case q1 => k_is); (case q2 => k_is); (case q3 => k_is)))
#print axioms PySem.Challenge.cw_stillmine_k91_errors_by_hand_holds
