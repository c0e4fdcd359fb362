import PyProof.Rows.All
import Wide.All
import OpenK.AllK
import Wide.FinOn
import HandS.ForMost
import HandS.ForExc
import HandS.IsInst
import HandS.Wide
import HandS.SetKeys
import HandS.ExcInit
import HandS.Defaults
import HandS.Property
import HandS.Deep
import HandS.FStr
import HandS.TryMany
import HandS.Zip
import HandS.CallSlots
import HandS.Walk
import HandS.Style
import HandS.TupAny
import HandS.RevTup
import HandS.Small
import HandS.More
import KE.KExcIs
import HandS.ExcField
import HandS.EndBits
import PyProof.ReprRoads
import HandS.Star
import HandS.DictComp
import HandS.Strs
import PyProof.Rows.StrRev
import KE.GoesEnum
import HandS.OwnEq
import HandS.SlotsOwn
import PyProof.InstNe
import PyProof.EqKinds
import PyProof.FactsAll.dict
import HandS.TupMul
import HandS.HeadHook1
import HandS.NoneIn
import PyProof.StrBlock2
import KE.KEqNest
import HandS.MakeKwOnly
import KE.KStateDown
import HandS.Head0
import HandS.Head1
import HandS.Head2
import PySem.Challenge.RW_stillmine_k21_shapes_of_patterns
import PyProof.StrLawsRepr
set_option Elab.async false
set_option linter.all false
set_option maxRecDepth 100000
set_option maxHeartbeats 4000000
/-! ML 1: mirror values, the mirror heap, their relation to the tracked heap, readings of mirrors -/
namespace ML
open PySem PySem.Spec PyProof.Rows L2

/-- a mirror value: tuples stand as they are; ref n: the n-th object of the mirror heap; glb x: what the module's name x holds (a class, a def) -/
inductive D where
  | non | bl (b : Bool) | int (i : Int) | str (s : Str) | ty (n : String)
  | tup (l : List D) | ref (n : Nat) | glb (x : Str)
/-- a mirror object -/
inductive O where
  | lst (l : List D) | rdl (l : List D) | dct (kvs : List (Key × D)) | ins (c : Str) (fs : List (Str × D)) | xc (c : Str) (fs : List (Str × D)) | gone
abbrev MH := List O
abbrev Env := List (Option D)
inductive R (α : Type) where
  | ok (a : α) (h : MH) | exc (c : Str) (fs : List (Str × D)) (h : MH) | bad
inductive S where
  | nx (e : Env) (h : MH) | rt (d : D) (h : MH) | bk (e : Env) (h : MH) | ct (e : Env) (h : MH) | exc (c : Str) (fs : List (Str × D)) (e : Env) (h : MH) | bad
abbrev EM := Env → MH → R D
abbrev TM := Env → MH → R Bool
abbrev AM := Env → MH → R (List D)
abbrev SM := Env → MH → S
abbrev FM := List D → MH → R D
def R.bind {α β : Type} (r : R α) (f : α → MH → R β) : R β := match r with
  | .ok a h => f a h
  | .exc c fs h => .exc c fs h
  | .bad => .bad

structure Gd where
  K : PySem.W.Frag
  mg : Str → Option Value
abbrev gd (X : Cx) : Gd := ⟨X.K, X.mg⟩

section
variable (g : Gd) (ρ : List Addr) (H : Hp)
mutual
def RD : D → V → Prop
  | .non, v => v = .non
  | .bl b, v => v = .bl b
  | .int i, v => v = .int i
  | .str s, v => v = .str s
  | .ty n, v => v = .ty n
  | .tup l, v => ∃ a vs, v = .ref a ∧ SqT g.K H a vs ∧ RDs l vs
  | .ref n, v => ∃ a, ρ[n]? = some a ∧ v = .ref a
  | .glb x, v => ∃ a, g.mg x = some (.ref a) ∧ v = .ref a
def RDs : List D → List V → Prop
  | [], vs => vs = []
  | d :: l, vs => ∃ v r, vs = v :: r ∧ RD d v ∧ RDs l r
end
def RP {α : Type} : List (α × D) → List (α × V) → Prop
  | [], l => l = []
  | (f, d) :: r, l => ∃ v s, l = (f, v) :: s ∧ RD g ρ H d v ∧ RP r s
/-- a list that is read alone: the script, a list of the written part -/
def RdL (K : PySem.W.Frag) (H : Hp) (a : Addr) (vs : List V) : Prop := (∃ o, H a = some (.frz o (.lst vs))) ∨
  ∃ (o : Obj) (its : Array Value) (n : Nat), K.lookup a = some o ∧ o.cls = .type "list" ∧ o.dict = none ∧ o.data = .seq its n ∧ its.size ≤ sizeLine ∧ Vals vs its.toList
def RO : O → Addr → Prop
  | .lst l, a => ∃ vs, H a = some (.lst vs) ∧ RDs g ρ H l vs
  | .rdl l, a => ∃ vs, RdL g.K H a vs ∧ RDs g ρ H l vs
  | .dct kvs, a => ∃ ws, H a = some (.dK ws) ∧ RP g ρ H kvs ws
  | .ins c fs, a => ∃ C dx gs, g.mg c = some (.ref C) ∧ H a = some (.ins C dx gs) ∧ RP g ρ H fs gs
  | .xc c fs, a => ∃ C dx gs, g.mg c = some (.ref C) ∧ H a = some (exo a C (some dx)) ∧ H dx = some (exd dx gs) ∧ RP g ρ H fs gs
  | .gone, _ => True
def O.mut : O → Bool
  | .lst _ => true
  | .dct _ => true
  | .ins _ _ => true
  | _ => false
structure RH (h : MH) : Prop where
  len : ρ.length = h.length
  obj : ∀ (n : Nat) o a, h[n]? = some o → ρ[n]? = some a → RO g ρ H o a
  inj : ∀ (n m : Nat) o o' a, h[n]? = some o → h[m]? = some o' → o.mut = true → o'.mut = true → ρ[n]? = some a → ρ[m]? = some a → n = m
/-- the slots -/
structure RS (e : Env) (σ : L2.St) : Prop where
  len : e.length = σ.length
  get : ∀ (i : Nat) d, e[i]? = some (some d) → ∃ v, σ[i]? = some (some v) ∧ RD g ρ H d v
end
/-- what stays: addresses, tuples, errors' dicts, frozen things -/
structure Lat (g : Gd) (ρ : List Addr) (H : Hp) (ρ' : List Addr) (H' : Hp) : Prop where
  pre : ∃ t, ρ' = ρ ++ t
  tup : ∀ a xs, H a = some (.tup xs) → H' a = some (.tup xs)
  frz : ∀ a o u, H a = some (.frz o u) → H' a = some (.frz o u)
  xd : ∀ a fs, H a = some (.xd fs) → H' a = some (.xd fs)
  ext : ∀ a φ, H a = some (.ext φ) → H' a = some (.ext φ)

section
variable {g : Gd} {ρ ρ' ρ'' : List Addr} {H H' H'' : Hp} {h h' : MH}
theorem Lat.refl : Lat g ρ H ρ H := ⟨⟨[], by simp⟩, fun _ _ e => e, fun _ _ _ e => e, fun _ _ e => e, fun _ _ e => e⟩
theorem Lat.trans (a : Lat g ρ H ρ' H') (b : Lat g ρ' H' ρ'' H'') : Lat g ρ H ρ'' H'' := by
  obtain ⟨t, e⟩ := a.pre
  obtain ⟨u, e'⟩ := b.pre
  exact ⟨⟨t ++ u, by rw [e', e, List.append_assoc]⟩, fun x xs q => b.tup x xs (a.tup x xs q), fun x o u q => b.frz x o u (a.frz x o u q), fun x fs q => b.xd x fs (a.xd x fs q), fun x φ q => b.ext x φ (a.ext x φ q)⟩
theorem Lat.sqT (a : Lat g ρ H ρ' H') {x : Addr} {xs : List V} (q : SqT g.K H x xs) : SqT g.K H' x xs := by
  rcases q with (q | ⟨o, q⟩) | q
  · exact .inl (.inl (a.tup _ _ q))
  · exact .inl (.inr ⟨o, a.frz _ _ _ q⟩)
  · exact .inr q
theorem Lat.at (a : Lat g ρ H ρ' H') {n : Nat} {x : Addr} (q : ρ[n]? = some x) : ρ'[n]? = some x := by
  obtain ⟨t, e⟩ := a.pre
  rw [e]
  rw [List.getElem?_append_left (List.getElem?_eq_some_iff.mp q).1]
  exact q
mutual
theorem Lat.rd (a : Lat g ρ H ρ' H') : ∀ (d : D) {v : V}, RD g ρ H d v → RD g ρ' H' d v
  | .non, _, q => q
  | .bl _, _, q => q
  | .int _, _, q => q
  | .str _, _, q => q
  | .ty _, _, q => q
  | .tup l, _, q => by
    unfold RD at q ⊢
    obtain ⟨x, vs, e, s, r⟩ := q
    exact ⟨x, vs, e, a.sqT s, Lat.rds a l r⟩
  | .ref n, _, q => by
    unfold RD at q ⊢
    obtain ⟨x, e, r⟩ := q
    exact ⟨x, a.at e, r⟩
  | .glb _, _, q => by
    unfold RD at q ⊢
    exact q
theorem Lat.rds (a : Lat g ρ H ρ' H') : ∀ (l : List D) {vs : List V}, RDs g ρ H l vs → RDs g ρ' H' l vs
  | [], _, q => by
    unfold RDs at q ⊢
    exact q
  | d :: l, _, q => by
    unfold RDs at q ⊢
    obtain ⟨v, r, e, q1, q2⟩ := q
    exact ⟨v, r, e, Lat.rd a d q1, Lat.rds a l q2⟩
end
theorem Lat.rp {α : Type} (a : Lat g ρ H ρ' H') : ∀ (l : List (α × D)) {vs : List (α × V)}, RP g ρ H l vs → RP g ρ' H' l vs
  | [], _, q => q
  | (f, d) :: l, _, q => by
    obtain ⟨v, r, e, q1, q2⟩ := q
    exact ⟨v, r, e, a.rd d q1, Lat.rp a l q2⟩
theorem Lat.rs (a : Lat g ρ H ρ' H') {e : Env} {σ : L2.St} (q : RS g ρ H e σ) : RS g ρ' H' e σ := ⟨q.len, fun i d z => by
  obtain ⟨v, z1, z2⟩ := q.get i d z
  exact ⟨v, z1, a.rd d z2⟩⟩
theorem RDs.length : ∀ {l : List D} {vs : List V}, RDs g ρ H l vs → l.length = vs.length
  | [], _, q => by unfold RDs at q; subst q; rfl
  | d :: l, _, q => by
    unfold RDs at q
    obtain ⟨v, r, e, _, q2⟩ := q
    subst e
    simp [RDs.length q2]
theorem RDs.get : ∀ {l : List D} {vs : List V} {i : Nat} {d : D}, RDs g ρ H l vs → l[i]? = some d → ∃ v, vs[i]? = some v ∧ RD g ρ H d v
  | [], _, i, d, q, e => by simp at e
  | x :: l, _, 0, d, q, e => by
    unfold RDs at q
    obtain ⟨v, r, e', q1, q2⟩ := q
    subst e'
    simp at e
    subst e
    exact ⟨v, rfl, q1⟩
  | x :: l, _, i + 1, d, q, e => by
    unfold RDs at q
    obtain ⟨v, r, e', q1, q2⟩ := q
    subst e'
    obtain ⟨w, a, b⟩ := RDs.get (i := i) (d := d) q2 (by simpa using e)
    exact ⟨w, by simpa using a, b⟩
theorem RDs.get' : ∀ {l : List D} {vs : List V} {i : Nat} {v : V}, RDs g ρ H l vs → vs[i]? = some v → ∃ d, l[i]? = some d ∧ RD g ρ H d v := fun {l vs i v} q e => by
  have hi : i < l.length := by rw [q.length]; exact (List.getElem?_eq_some_iff.mp e).1
  obtain ⟨w, e1, r⟩ := RDs.get (d := l[i]) q (List.getElem?_eq_getElem hi)
  rw [e] at e1
  cases e1
  exact ⟨l[i], List.getElem?_eq_getElem hi, r⟩
theorem RDs.append : ∀ {l m : List D} {vs ws : List V}, RDs g ρ H l vs → RDs g ρ H m ws → RDs g ρ H (l ++ m) (vs ++ ws)
  | [], _, _, _, q, r => by unfold RDs at q; subst q; exact r
  | d :: l, m, _, ws, q, r => by
    unfold RDs at q
    obtain ⟨v, s, e, q1, q2⟩ := q
    subst e
    rw [List.cons_append]
    unfold RDs
    exact ⟨v, s ++ ws, rfl, q1, RDs.append q2 r⟩
theorem RDs.nil : RDs g ρ H [] [] := by unfold RDs; rfl
theorem RDs.cons {d : D} {v : V} {l : List D} {vs : List V} (a : RD g ρ H d v) (b : RDs g ρ H l vs) : RDs g ρ H (d :: l) (v :: vs) := by unfold RDs; exact ⟨v, vs, rfl, a, b⟩
theorem RDs.one {d : D} {v : V} (a : RD g ρ H d v) : RDs g ρ H [d] [v] := .cons a .nil
theorem RDs.inv {d : D} {l : List D} {vs : List V} (q : RDs g ρ H (d :: l) vs) : ∃ v r, vs = v :: r ∧ RD g ρ H d v ∧ RDs g ρ H l r := by unfold RDs at q; exact q
theorem RDs.invNil {vs : List V} (q : RDs g ρ H [] vs) : vs = [] := by unfold RDs at q; exact q
theorem RDs.take : ∀ {l : List D} {vs : List V} (n : Nat), RDs g ρ H l vs → RDs g ρ H (l.take n) (vs.take n)
  | _, _, 0, _ => by simp only [List.take_zero]; exact .nil
  | [], _, n + 1, q => by rw [q.invNil]; simp only [List.take_nil]; exact .nil
  | d :: l, _, n + 1, q => by
    obtain ⟨v, r, e, q1, q2⟩ := q.inv
    subst e
    simp only [List.take_succ_cons]
    exact .cons q1 (RDs.take n q2)
theorem RDs.drop : ∀ {l : List D} {vs : List V} (n : Nat), RDs g ρ H l vs → RDs g ρ H (l.drop n) (vs.drop n)
  | _, _, 0, q => q
  | [], _, n + 1, q => by rw [q.invNil]; simp only [List.drop_nil]; exact .nil
  | d :: l, _, n + 1, q => by
    obtain ⟨v, r, e, q1, q2⟩ := q.inv
    subst e
    exact RDs.drop n q2
theorem RDs.set : ∀ {l : List D} {vs : List V} {d : D} {v : V} (n : Nat), RDs g ρ H l vs → RD g ρ H d v → RDs g ρ H (l.set n d) (vs.set n v)
  | [], _, _, _, n, q, _ => by rw [q.invNil]; exact .nil
  | x :: l, _, d, w, 0, q, r => by
    obtain ⟨v, s, e, q1, q2⟩ := q.inv
    subst e
    exact .cons r q2
  | x :: l, _, d, w, n + 1, q, r => by
    obtain ⟨v, s, e, q1, q2⟩ := q.inv
    subst e
    exact .cons q1 (RDs.set n q2 r)
theorem RDs.reverse {l : List D} {vs : List V} (q : RDs g ρ H l vs) : RDs g ρ H l.reverse vs.reverse := by
  induction l generalizing vs with
  | nil => rw [q.invNil]; exact .nil
  | cons d l ih =>
    obtain ⟨v, r, e, q1, q2⟩ := q.inv
    subst e
    rw [List.reverse_cons, List.reverse_cons]
    exact (ih q2).append (.one q1)
theorem RDs.eraseIdx : ∀ {l : List D} {vs : List V} (n : Nat), RDs g ρ H l vs → RDs g ρ H (l.eraseIdx n) (vs.eraseIdx n)
  | [], _, n, q => by rw [q.invNil]; exact .nil
  | d :: l, _, 0, q => by
    obtain ⟨v, s, e, q1, q2⟩ := q.inv
    subst e
    exact q2
  | d :: l, _, n + 1, q => by
    obtain ⟨v, s, e, q1, q2⟩ := q.inv
    subst e
    exact .cons q1 (RDs.eraseIdx n q2)

/-! ### the heap grows, an object changes -/
/-- what may be written over without loss -/
def Soft (H : Hp) (p : Addr) : Prop := ∀ u, H p = some u → (∀ xs, u ≠ .tup xs) ∧ (∀ o w, u ≠ .frz o w) ∧ (∀ fs, u ≠ .xd fs) ∧ (∀ φ, u ≠ .ext φ)
theorem Soft.none {p : Addr} (e : H p = none) : Soft H p := fun u q => by rw [e] at q; cases q
theorem Soft.lst {p : Addr} {xs : List V} (e : H p = some (.lst xs)) : Soft H p := fun u q => by
  rw [e] at q; cases q
  exact ⟨fun _ z => (nomatch z), fun _ _ z => (nomatch z), fun _ z => (nomatch z), fun _ z => (nomatch z)⟩
theorem Soft.dK {p : Addr} {xs : List (Key × V)} (e : H p = some (.dK xs)) : Soft H p := fun u q => by
  rw [e] at q; cases q
  exact ⟨fun _ z => (nomatch z), fun _ _ z => (nomatch z), fun _ z => (nomatch z), fun _ z => (nomatch z)⟩
theorem Soft.ins {p C dx : Addr} {xs : List (Str × V)} (e : H p = some (.ins C dx xs)) : Soft H p := fun u q => by
  rw [e] at q; cases q
  exact ⟨fun _ z => (nomatch z), fun _ _ z => (nomatch z), fun _ z => (nomatch z), fun _ z => (nomatch z)⟩
theorem Lat.upd {p : Addr} {u : HO} (s : Soft H p) : Lat g ρ H ρ (L2.upd H p u) :=
  ⟨⟨[], by simp⟩, fun a xs e => by
      rw [upd_ne]; exact e
      intro z; subst z; exact (s _ e).1 _ rfl,
    fun a o w e => by
      rw [upd_ne]; exact e
      intro z; subst z; exact (s _ e).2.1 _ _ rfl,
    fun a fs e => by
      rw [upd_ne]; exact e
      intro z; subst z; exact (s _ e).2.2.1 _ rfl,
    fun a fs e => by
      rw [upd_ne]; exact e
      intro z; subst z; exact (s _ e).2.2.2 _ rfl⟩
theorem Lat.more {p : Addr} : Lat g ρ H (ρ ++ [p]) H := ⟨⟨[p], rfl⟩, fun _ _ e => e, fun _ _ _ e => e, fun _ _ e => e, fun _ _ e => e⟩
theorem Lat.new {p : Addr} {u : HO} (s : Soft H p) : Lat g ρ H (ρ ++ [p]) (L2.upd H p u) := (Lat.upd s).trans Lat.more
theorem Lat.rdl (a : Lat g ρ H ρ' H') {x : Addr} {vs : List V} (q : RdL g.K H x vs) : RdL g.K H' x vs := by
  rcases q with ⟨o, q⟩ | q
  · exact .inl ⟨o, a.frz _ _ _ q⟩
  · exact .inr q
/-- an object's relation where its own place is kept -/
theorem Lat.ro (a : Lat g ρ H ρ' H') {x : Addr} (hx : ∀ u, H x = some u → H' x = some u) : ∀ (o : O), RO g ρ H o x → RO g ρ' H' o x
  | .lst l, q => by
    obtain ⟨vs, e, r⟩ := q
    exact ⟨vs, hx _ e, a.rds l r⟩
  | .rdl l, q => by
    obtain ⟨vs, e, r⟩ := q
    exact ⟨vs, a.rdl e, a.rds l r⟩
  | .dct l, q => by
    obtain ⟨vs, e, r⟩ := q
    exact ⟨vs, hx _ e, a.rp l r⟩
  | .ins c fs, q => by
    obtain ⟨C, dx, gs, e1, e2, r⟩ := q
    exact ⟨C, dx, gs, e1, hx _ e2, a.rp fs r⟩
  | .xc c fs, q => by
    obtain ⟨C, dx, gs, e1, e2, e3, r⟩ := q
    exact ⟨C, dx, gs, e1, a.ext _ _ e2, a.ext _ _ e3, a.rp fs r⟩
  | .gone, _ => True.intro
theorem Lat.ro' (a : Lat g ρ H ρ' H') {x : Addr} {c : Str} {fs : List (Str × D)} (q : RO g ρ H (.xc c fs) x) : RO g ρ' H' (.xc c fs) x := by
  obtain ⟨C, dx, gs, e1, e2, e3, r⟩ := q
  exact ⟨C, dx, gs, e1, a.ext _ _ e2, a.ext _ _ e3, a.rp fs r⟩
theorem RO.there {o : O} {x : Addr} (q : RO g ρ H o x) (m : o.mut = true) : H x ≠ none := by
  cases o with
  | lst l => obtain ⟨vs, e, _⟩ := q; rw [e]; exact fun z => nomatch z
  | rdl l => cases m
  | dct l => obtain ⟨vs, e, _⟩ := q; rw [e]; exact fun z => nomatch z
  | ins c fs => obtain ⟨C, dx, gs, _, e, _⟩ := q; rw [e]; exact fun z => nomatch z
  | xc c fs => cases m
  | gone => cases m
/-- a heap in which nothing of the mirror's has changed -/
theorem RH.lat (q : RH g ρ H h) (a : Lat g ρ H ρ H') (hx : ∀ (n : Nat) o x u, h[n]? = some o → o.mut = true → ρ[n]? = some x → H x = some u → H' x = some u) : RH g ρ H' h := by
  refine ⟨q.len, fun n o x e1 e2 => ?_, q.inj⟩
  have r := q.obj n o x e1 e2
  by_cases m : o.mut = true
  · exact a.ro (fun u z => hx n o x u e1 m e2 z) o r
  · cases o with
    | lst l => exact absurd rfl m
    | rdl l => obtain ⟨vs, e, r⟩ := r; exact ⟨vs, a.rdl e, a.rds l r⟩
    | dct l => exact absurd rfl m
    | ins c fs => exact absurd rfl m
    | xc c fs => exact a.ro' (by assumption)
    | gone => exact True.intro
/-- a new thing that the mirror does not name (a tuple) -/
theorem RH.upd {p : Addr} {u : HO} (q : RH g ρ H h) (e : H p = none) : RH g ρ (L2.upd H p u) h :=
  q.lat (Lat.upd (Soft.none e)) fun n o x v e1 m e2 z => by rw [upd_ne (ne_of_none z e)]; exact z
/-- a new object -/
theorem RH.new {p : Addr} {u : HO} {o : O} (q : RH g ρ H h) (e : H p = none) (r : RO g (ρ ++ [p]) (L2.upd H p u) o p) : RH g (ρ ++ [p]) (L2.upd H p u) (h ++ [o]) := by
  have q' := q.upd (u := u) e
  have lt : ∀ {n : Nat} {x : Addr}, (ρ ++ [p])[n]? = some x → n < ρ.length ∧ ρ[n]? = some x ∨ n = ρ.length ∧ x = p := fun {n x} z => by
    by_cases hn : n < ρ.length
    · rw [List.getElem?_append_left hn] at z
      exact .inl ⟨hn, z⟩
    · have hn' : n < (ρ ++ [p]).length := (List.getElem?_eq_some_iff.mp z).1
      have : n = ρ.length := by simp at hn'; omega
      subst this
      simp at z
      exact .inr ⟨rfl, z.symm⟩
  have lo : ∀ {n : Nat} {y : O}, n < ρ.length → (h ++ [o])[n]? = some y → h[n]? = some y := fun {n y} hn z => by
    rw [List.getElem?_append_left (by rw [← q.len]; exact hn)] at z
    exact z
  have lo' : ∀ {y : O}, (h ++ [o])[ρ.length]? = some y → y = o := fun {y} z => by
    rw [q.len] at z
    simp at z
    exact z.symm
  refine ⟨by simp [q.len], fun n y x e1 e2 => ?_, fun n m y y' x e1 e2 m1 m2 e3 e4 => ?_⟩
  · rcases lt e2 with ⟨hn, z⟩ | ⟨hn, z⟩
    · exact (Lat.more (g := g) (ρ := ρ) (H := L2.upd H p u) (p := p)).ro (fun _ z => z) y (q'.obj n y x (lo hn e1) z)
    · subst hn z
      rw [lo' e1]
      exact r
  · have old : ∀ {n : Nat} {y : O}, n < ρ.length → (h ++ [o])[n]? = some y → y.mut = true → ρ[n]? = some p → False := fun {n y} hn z m z2 => (q.obj n y p (lo hn z) z2).there m e
    rcases lt e3 with ⟨hn, z⟩ | ⟨hn, z⟩
    · rcases lt e4 with ⟨hm, z'⟩ | ⟨hm, z'⟩
      · exact q.inj n m y y' x (lo hn e1) (lo hm e2) m1 m2 z z'
      · subst z'
        exact (old hn e1 m1 z).elim
    · rcases lt e4 with ⟨hm, z'⟩ | ⟨hm, z'⟩
      · subst z
        exact (old hm e2 m2 z').elim
      · rw [hn, hm]
/-- an object is changed -/
theorem RH.set {n : Nat} {p : Addr} {u : HO} {o o' : O} (q : RH g ρ H h) (e1 : h[n]? = some o) (e2 : ρ[n]? = some p) (m : o.mut = true) (m' : o'.mut = true) (s : Soft H p) (r : RO g ρ (L2.upd H p u) o' p) :
    RH g ρ (L2.upd H p u) (h.set n o') := by
  have hn : n < h.length := (List.getElem?_eq_some_iff.mp e1).1
  have back : ∀ {k : Nat} {y : O}, (h.set n o')[k]? = some y → (k = n ∧ y = o') ∨ (k ≠ n ∧ h[k]? = some y) := fun {k y} z => by
    by_cases hk : k = n
    · subst hk
      rw [List.getElem?_set_self hn] at z
      cases z
      exact .inl ⟨rfl, rfl⟩
    · rw [List.getElem?_set_ne (Ne.symm hk)] at z
      exact .inr ⟨hk, z⟩
  refine ⟨by rw [q.len, List.length_set], fun k y x z1 z2 => ?_, fun k j y y' x z1 z2 w1 w2 z3 z4 => ?_⟩
  · rcases back z1 with ⟨hk, hy⟩ | ⟨hk, z⟩
    · subst hk hy
      rw [e2] at z2
      cases z2
      exact r
    · have ro := q.obj k y x z z2
      have lat : Lat g ρ H ρ (L2.upd H p u) := Lat.upd s
      by_cases my : y.mut = true
      · have hx : x ≠ p := fun w => by
          subst w
          exact hk (q.inj k n y o x z e1 my m z2 e2)
        exact lat.ro (fun v w => by rw [upd_ne hx]; exact w) y ro
      · cases y with
        | lst l => exact absurd rfl my
        | rdl l => obtain ⟨vs, e, r⟩ := ro; exact ⟨vs, lat.rdl e, lat.rds l r⟩
        | dct l => exact absurd rfl my
        | ins c fs => exact absurd rfl my
        | xc c fs => exact lat.ro' ro
        | gone => exact True.intro
  · have key : ∀ {k : Nat} {y : O}, (h.set n o')[k]? = some y → y.mut = true → ∃ w, h[k]? = some w ∧ w.mut = true := fun {k y} z w => by
      rcases back z with ⟨hk, hy⟩ | ⟨hk, z⟩
      · subst hk
        exact ⟨o, e1, m⟩
      · exact ⟨y, z, w⟩
    obtain ⟨a, a1, a2⟩ := key z1 w1
    obtain ⟨b, b1, b2⟩ := key z2 w2
    exact q.inj k j a b x a1 b1 a2 b2 z3 z4
theorem RH.addr (q : RH g ρ H h) {n : Nat} {o : O} (e : h[n]? = some o) : ∃ a, ρ[n]? = some a ∧ RO g ρ H o a := by
  have hn : n < ρ.length := by rw [q.len]; exact (List.getElem?_eq_some_iff.mp e).1
  exact ⟨ρ[n], by simp [hn], q.obj n o _ e (by simp [hn])⟩
theorem RS.set {e : Env} {σ : L2.St} {d : D} {v : V} (q : RS g ρ H e σ) (r : RD g ρ H d v) (i : Nat) : RS g ρ H (e.set i (some d)) (σ.set i (some v)) := by
  refine ⟨by simp [q.len], fun j d' z => ?_⟩
  by_cases hj : j = i
  · subst hj
    have hl : j < e.length := by
      have := (List.getElem?_eq_some_iff.mp z).1
      simpa using this
    rw [List.getElem?_set_self hl] at z
    cases z
    exact ⟨v, by rw [List.getElem?_set_self (by rw [← q.len]; exact hl)], r⟩
  · rw [List.getElem?_set_ne (Ne.symm hj)] at z
    obtain ⟨w, z1, z2⟩ := q.get j d' z
    exact ⟨w, by rw [List.getElem?_set_ne (Ne.symm hj)]; exact z1, z2⟩
theorem RS.start {N : List Str} {ds : List D} {vs : List V} (q : RDs g ρ H ds vs) : RS g ρ H (ds.map some ++ List.replicate (N.length - ds.length) none) (L2.start N vs) := by
  unfold L2.start
  have hl := q.length
  refine ⟨by simp [hl], fun i d z => ?_⟩
  by_cases hi : i < ds.length
  · rw [List.getElem?_append_left (by simpa using hi)] at z
    rw [List.getElem?_map] at z
    cases e : ds[i]? with
    | none => rw [e] at z; cases z
    | some d' =>
      rw [e] at z
      have z' : d' = d := by simpa using z
      subst z'
      obtain ⟨v, e1, r⟩ := q.get e
      refine ⟨v, ?_, r⟩
      rw [List.getElem?_append_left (by simp; omega), List.getElem?_map, e1]
      rfl
  · rw [List.getElem?_append_right (by simpa using Nat.le_of_not_lt hi)] at z
    rw [List.getElem?_replicate] at z
    split at z
    · cases z
    · cases z
end
end ML

/-! ML 2: readings of mirrors; names, operators, tests, arguments, calls of own defs, statements -/
namespace ML
open PySem PySem.Spec PyProof.Rows L2

def Post {α β : Type} (g : Gd) (Rel : List Addr → Hp → α → β → Prop) (Wf : XK) (ρ : List Addr) (H : Hp) (r : R α) (Q : β → Hp → Prop) : Prop := match r with
  | .ok d h' => ∀ ρ' v H', Lat g ρ H ρ' H' → RH g ρ' H' h' → Rel ρ' H' d v → Q v H'
  | .exc c fs h' => ∀ ρ' H' C dd gs, Lat g ρ H ρ' H' → RH g ρ' H' h' → g.mg c = some (.ref C) → H' dd = some (.xd gs) → RP g ρ' H' fs gs → Wf (.ref C) (some dd) H'
  | .bad => False
/-- what is wished of an exception, and what stays true while an expression is evaluated (in an except suite: where the error is) -/
structure Wx where
  W : WX
  J : List Addr → Hp → L2.St → Prop
  per : ∀ (g : Gd) ρ H ρ' H' σ, Lat g ρ H ρ' H' → J ρ H σ → J ρ' H' σ
abbrev pl (W : WX) : Wx := ⟨W, fun _ _ _ => True, fun _ _ _ _ _ _ _ _ => True.intro⟩
abbrev noW : WX := fun _ _ _ _ => False
structure RX (g : Gd) (W : Wx) (ρ : List Addr) (H : Hp) (e : Env) (σ : L2.St) : Prop where
  s : RS g ρ H e σ
  j : W.J ρ H σ
theorem RX.lat {g : Gd} {W : Wx} {ρ ρ' : List Addr} {H H' : Hp} {e : Env} {σ : L2.St} (s : RX g W ρ H e σ) (l : Lat g ρ H ρ' H') : RX g W ρ' H' e σ := ⟨l.rs s.s, W.per g _ _ _ _ _ l s.j⟩
theorem RS.x {g : Gd} {W : WX} {ρ : List Addr} {H : Hp} {e : Env} {σ : L2.St} (s : RS g ρ H e σ) : RX g (pl W) ρ H e σ := ⟨s, True.intro⟩
def tG {α β : Type} (g : Gd) (Rel : List Addr → Hp → α → β → Prop) (W : Wx) (m : Env → MH → R α) : L2.St → Hp → (β → Hp → Prop) → Prop := fun σ H Q =>
  ∃ ρ e h, RX g W ρ H e σ ∧ RH g ρ H h ∧ Post g Rel (fun c d H' => W.W c d σ H') ρ H (m e h) Q
def RB : List Addr → Hp → Bool → Bool → Prop := fun _ _ a b => b = a
abbrev tE (g : Gd) (W : Wx) (m : EM) : TE := tG g (RD g) W m
abbrev tT (g : Gd) (W : Wx) (m : TM) : TT := tG g RB W m
abbrev tA (g : Gd) (W : Wx) (m : AM) : TA := tG g (RDs g) W m
def PostS (g : Gd) (W : WX) (ρ : List Addr) (H : Hp) (s : S) (N : Ends) : Prop := match s with
  | .nx e h' => ∀ ρ' σ' H', Lat g ρ H ρ' H' → RH g ρ' H' h' → RS g ρ' H' e σ' → N.nx σ' H'
  | .bk e h' => ∀ ρ' σ' H', Lat g ρ H ρ' H' → RH g ρ' H' h' → RS g ρ' H' e σ' → N.bk σ' H'
  | .ct e h' => ∀ ρ' σ' H', Lat g ρ H ρ' H' → RH g ρ' H' h' → RS g ρ' H' e σ' → N.ct σ' H'
  | .rt d h' => ∀ ρ' v H', Lat g ρ H ρ' H' → RH g ρ' H' h' → RD g ρ' H' d v → N.rt v H'
  | .exc c fs e h' => ∀ ρ' σ' H' C dd gs, Lat g ρ H ρ' H' → RH g ρ' H' h' → RS g ρ' H' e σ' → g.mg c = some (.ref C) → H' dd = some (.xd gs) → RP g ρ' H' fs gs → W (.ref C) (some dd) σ' H'
  | .bad => False
def tS (g : Gd) (W : WX) (m : SM) : TS := fun N σ H => ∃ ρ e h, RS g ρ H e σ ∧ RH g ρ H h ∧ PostS g W ρ H (m e h) N

section
variable {α β γ δ : Type} {g : Gd} {Rel : List Addr → Hp → α → β → Prop} {Rel2 : List Addr → Hp → γ → δ → Prop} {Wf : XK} {W : Wx} {W0 : WX} {ρ ρ' : List Addr} {H H' : Hp} {Q Q' : β → Hp → Prop} {r : R α} {h : MH} {σ : L2.St} {e : Env}
theorem Post.later (a : Lat g ρ H ρ' H') (p : Post g Rel Wf ρ H r Q) : Post g Rel Wf ρ' H' r Q := by
  cases r with
  | ok d h => exact fun ρ2 v H2 b => p ρ2 v H2 (a.trans b)
  | exc c fs h => exact fun ρ2 H2 C dd gs b => p ρ2 H2 C dd gs (a.trans b)
  | bad => exact p
theorem Post.mono (p : Post g Rel Wf ρ H r Q) (k : ∀ v H, Q v H → Q' v H) : Post g Rel Wf ρ H r Q' := by
  cases r with
  | ok d h => exact fun ρ2 v H2 b c d => k _ _ (p ρ2 v H2 b c d)
  | exc c fs h => exact p
  | bad => exact p
/-- one part ahead of the rest -/
theorem Post.bind {f : α → MH → R γ} {Q : δ → Hp → Prop} (p : Post g Rel2 Wf ρ H (r.bind f) Q) :
    Post g Rel Wf ρ H r (fun v H1 => ∃ ρ1 d h1, Lat g ρ H ρ1 H1 ∧ RH g ρ1 H1 h1 ∧ Rel ρ1 H1 d v ∧ Post g Rel2 Wf ρ1 H1 (f d h1) Q) := by
  cases r with
  | ok d h => exact fun ρ2 v H2 a b c => ⟨ρ2, d, h, a, b, c, Post.later a p⟩
  | exc c fs h => exact p
  | bad => exact p
theorem Post.okk {d : α} {v : β} (p : Post g Rel Wf ρ H (.ok d h) Q) (b : RH g ρ H h) (c : Rel ρ H d v) : Q v H := p ρ v H Lat.refl b c
theorem tG.mono {m : Env → MH → R α} (p : tG g Rel W m σ H Q) (k : ∀ v H, Q v H → Q' v H) : tG g Rel W m σ H Q' := by
  obtain ⟨ρ, e, h, a, b, c⟩ := p
  exact ⟨ρ, e, h, a, b, c.mono k⟩
theorem PostS.later {N : Ends} {s : S} (a : Lat g ρ H ρ' H') (p : PostS g W0 ρ H s N) : PostS g W0 ρ' H' s N := by
  cases s with
  | nx e h => exact fun ρ2 σ2 H2 b => p ρ2 σ2 H2 (a.trans b)
  | bk e h => exact fun ρ2 σ2 H2 b => p ρ2 σ2 H2 (a.trans b)
  | ct e h => exact fun ρ2 σ2 H2 b => p ρ2 σ2 H2 (a.trans b)
  | rt d h => exact fun ρ2 v H2 b => p ρ2 v H2 (a.trans b)
  | exc c fs e h => exact fun ρ2 σ2 H2 C dd gs b => p ρ2 σ2 H2 C dd gs (a.trans b)
  | bad => exact p
end
theorem PE_of {X : Cx} {e : Expr} {t t' : TE} (h : PE X e t) (i : ∀ σ H Q, t' σ H Q → t σ H Q) : PE X e t' := ⟨fun pins s σ H Q I q => h.run pins s σ H Q I (i _ _ _ q)⟩
theorem PT_of {X : Cx} {e : Expr} {t t' : TT} (h : PT X e t) (i : ∀ σ H Q, t' σ H Q → t σ H Q) : PT X e t' := ⟨fun pins s σ H Q I q => h.run pins s σ H Q I (i _ _ _ q)⟩
theorem PA_of {X : Cx} {e : List Expr} {t t' : TA} (h : PA X e t) (i : ∀ σ H Q, t' σ H Q → t σ H Q) : PA X e t' := ⟨fun pos pins s σ H Q I q => h.run pos pins s σ H Q I (i _ _ _ q)⟩
theorem PS_of {X : Cx} {e : Stmt} {t t' : TS} (h : PS X e t) (i : ∀ N σ H, t' N σ H → t N σ H) : PS X e t' := ⟨fun pins s σ H D I q => h.run pins s σ H D I (i _ _ _ q)⟩
theorem PSs_of {X : Cx} {e : List Stmt} {t t' : TS} (h : PSs X e t) (i : ∀ N σ H, t' N σ H → t N σ H) : PSs X e t' := ⟨fun pins s σ H D I q => h.run pins s σ H D I (i _ _ _ q)⟩

/-! ### mirrors of expressions -/
def varE (i : Nat) : EM := fun e h => match e[i]? with
  | some (some d) => .ok d h
  | _ => .bad
def conE (d : D) : EM := fun _ h => .ok d h
def bin (f : D → D → MH → R D) (a b : EM) : EM := fun e h => (a e h).bind fun x h1 => (b e h1).bind fun y h2 => f x y h2
def un (f : D → MH → R D) (a : EM) : EM := fun e h => (a e h).bind fun x h1 => f x h1
def toB : D → MH → R Bool := fun d h => match d with
  | .bl b => .ok b h
  | _ => .bad
def valT (a : EM) : TM := fun e h => (a e h).bind toB
def andT (a b : TM) : TM := fun e h => (a e h).bind fun x h1 => if x then b e h1 else .ok false h1
def orT (a b : TM) : TM := fun e h => (a e h).bind fun x h1 => if x then .ok true h1 else b e h1
def notT (a : TM) : TM := fun e h => (a e h).bind fun x h1 => .ok (!x) h1
/-- and, or, not as values: all but the last a bool -/
def andE (a b : EM) : EM := fun e h => (a e h).bind fun x h1 => (toB x h1).bind fun c h2 => if c then b e h2 else .ok (.bl false) h2
def orE (a b : EM) : EM := fun e h => (a e h).bind fun x h1 => (toB x h1).bind fun c h2 => if c then .ok (.bl true) h2 else b e h2
def notE (a : EM) : EM := fun e h => (a e h).bind fun x h1 => (toB x h1).bind fun c h2 => .ok (.bl (!c)) h2
def ifE (t : TM) (a b : EM) : EM := fun e h => (t e h).bind fun c h1 => if c then a e h1 else b e h1
def nilA : AM := fun _ h => .ok [] h
def consA (a : EM) (r : AM) : AM := fun e h => (a e h).bind fun x h1 => (r e h1).bind fun xs h2 => .ok (x :: xs) h2
def onA (f : List D → MH → R D) (a : AM) : EM := fun e h => (a e h).bind fun xs h1 => f xs h1
def tupF : List D → MH → R D := fun xs h => if xs.length ≤ 1000000 then .ok (.tup xs) h else .bad
def lstF : List D → MH → R D := fun xs h => if xs.length ≤ 1000000 then .ok (.ref h.length) (h ++ [.lst xs]) else .bad
theorem big_le {n : Nat} (h : n ≤ 1000000) : n ≤ sizeLine := by rw [sizeLine_eq]; omega

section
variable {X : Cx} {W : Wx} {a b c : Expr} {ma mb mc : EM} {ta tb : TM} {pos : Pos} {es : List Expr} {mas : AM}
theorem e_var (i : Nat) {x : Str} (h : PE X (.Name x pos) (tVar i)) : PE X (.Name x pos) (tE (gd X) W (varE i)) := PE_of h fun σ H Q q => by
  obtain ⟨ρ, e, m, s, hh, p⟩ := q
  unfold varE at p
  split at p
  · rename_i d hd
    obtain ⟨v, e1, r⟩ := s.s.get i d hd
    exact ⟨v, e1, p.okk hh r⟩
  · exact p.elim
theorem e_con {v : V} {d : D} {e : Expr} (h : PE X e (tC v)) (r : ∀ ρ H, RD (gd X) ρ H d v) : PE X e (tE (gd X) W (conE d)) := PE_of h fun σ H Q q => by
  obtain ⟨ρ, e, m, s, hh, p⟩ := q
  exact p.okk hh (r ρ H)
theorem e_int {i j} : PE X (.Constant (.int i) j pos) (tE (gd X) W (conE (.int i))) := e_con pe_int fun _ _ => by unfold RD; rfl
theorem e_bl {i j} : PE X (.Constant (.bool i) j pos) (tE (gd X) W (conE (.bl i))) := e_con pe_bl fun _ _ => by unfold RD; rfl
theorem e_non {j} : PE X (.Constant .none j pos) (tE (gd X) W (conE .non)) := e_con pe_non fun _ _ => by unfold RD; rfl
theorem e_str {i j} : PE X (.Constant (.str i) j pos) (tE (gd X) W (conE (.str i))) := e_con pe_str fun _ _ => by unfold RD; rfl

/-- two parts, then the rest -/
theorem two {α : Type} {g : Gd} {σ : L2.St} {H : Hp} {Q : α → Hp → Prop} {γ : Type} {Rel : List Addr → Hp → γ → α → Prop} {f : D → D → MH → R γ} {k : V → V → Hp → Prop}
    (p : tG g Rel W (fun e h => (ma e h).bind fun x h1 => (mb e h1).bind fun y h2 => f x y h2) σ H Q)
    (hk : ∀ ρ H h x y vx vy, RH g ρ H h → RD g ρ H x vx → RD g ρ H y vy → Post g Rel (fun c d H' => W.W c d σ H') ρ H (f x y h) Q → k vx vy H) :
    tE g W ma σ H fun vx H1 => tE g W mb σ H1 fun vy H2 => k vx vy H2 := by
  obtain ⟨ρ, e, m, s, hh, p⟩ := p
  refine ⟨ρ, e, m, s, hh, p.bind.mono fun vx H1 q => ?_⟩
  obtain ⟨ρ1, x, h1, l1, hh1, rx, p1⟩ := q
  refine ⟨ρ1, e, h1, s.lat l1, hh1, p1.bind.mono fun vy H2 q => ?_⟩
  obtain ⟨ρ2, y, h2, l2, hh2, ry, p2⟩ := q
  exact hk ρ2 H2 h2 x y vx vy hh2 (l2.rd x rx) ry p2
theorem one {α : Type} {g : Gd} {σ : L2.St} {H : Hp} {Q : α → Hp → Prop} {γ : Type} {Rel : List Addr → Hp → γ → α → Prop} {δ ε : Type} {Rel1 : List Addr → Hp → δ → ε → Prop} {m1 : Env → MH → R δ} {f : Env → δ → MH → R γ} {k : ε → Hp → Prop}
    (p : tG g Rel W (fun e h => (m1 e h).bind fun x h1 => f e x h1) σ H Q)
    (hk : ∀ ρ e H h x vx, RX g W ρ H e σ → RH g ρ H h → Rel1 ρ H x vx → Post g Rel (fun c d H' => W.W c d σ H') ρ H (f e x h) Q → k vx H) :
    tG g Rel1 W m1 σ H k := by
  obtain ⟨ρ, e, m, s, hh, p⟩ := p
  refine ⟨ρ, e, m, s, hh, p.bind.mono fun vx H1 q => ?_⟩
  obtain ⟨ρ1, x, h1, l1, hh1, rx, p1⟩ := q
  exact hk ρ1 e H1 h1 x vx (s.lat l1) hh1 rx p1
/-- an operator's reading against its mirror -/
def RF2 (g : Gd) (f : D → D → MH → R D) (r : R2) : Prop := ∀ (Wf : XK) (Q : VK) ρ H h x y vx vy, RH g ρ H h → RD g ρ H x vx → RD g ρ H y vy → Post g (RD g) Wf ρ H (f x y h) Q → r vx vy H Q
def RF1 (g : Gd) (f : D → MH → R D) (r : V → Hp → VK → Prop) : Prop := ∀ (Wf : XK) (Q : VK) ρ H h x vx, RH g ρ H h → RD g ρ H x vx → Post g (RD g) Wf ρ H (f x h) Q → r vx H Q
def RFs (g : Gd) (f : List D → MH → R D) (r : List V → Hp → VK → Prop) : Prop := ∀ (Wf : XK) (Q : VK) ρ H h xs vs, RH g ρ H h → RDs g ρ H xs vs → Post g (RD g) Wf ρ H (f xs h) Q → r vs H Q
theorem e_bin {op : Operator} {r : R2} {f : D → D → MH → R D} (ho : OpR X (binaryOp op) r) (hf : RF2 (gd X) f r) (ha : PE X a (tE (gd X) W ma)) (hb : PE X b (tE (gd X) W mb)) : PE X (.BinOp a op b pos) (tE (gd X) W (bin f ma mb)) :=
  PE_of (pe_op ho ha hb) fun σ H Q q => two q fun ρ H h x y vx vy hh rx ry p => hf _ _ ρ H h x y vx vy hh rx ry p
theorem e_cmp {op : CmpOp} {r : R2} {f : D → D → MH → R D} (ho : OpR X (compareOp op) r) (hf : RF2 (gd X) f r) (ha : PE X a (tE (gd X) W ma)) (hb : PE X b (tE (gd X) W mb)) (hm : behindInMarks op b = false) : PE X (.Compare a [op] [b] pos) (tE (gd X) W (bin f ma mb)) :=
  PE_of (pe_cmpR ho ha hb hm) fun σ H Q q => two q fun ρ H h x y vx vy hh rx ry p => hf _ _ ρ H h x y vx vy hh rx ry p
theorem e_un {op : UnaryOp} {r : V → Hp → VK → Prop} {f : D → MH → R D} (ho : UnR X (unaryOp op) r) (hf : RF1 (gd X) f r) (ha : PE X a (tE (gd X) W ma)) : PE X (.UnaryOp op a pos) (tE (gd X) W (un f ma)) :=
  PE_of (pe_un ho ha) fun σ H Q q => one q fun ρ e H h x vx s hh rx p => hf _ _ ρ H h x vx hh rx p
theorem RD_bl {g : Gd} {ρ : List Addr} {H : Hp} {d : D} {v : V} {k : Bool} (r : RD g ρ H d v) (e : d = .bl k) : v = .bl k := by subst e; unfold RD at r; exact r
/-- a value that is a bool, as a test -/
theorem testOf {σ : L2.St} {H : Hp} {Q : Bool → Hp → Prop} {g : Gd} (q : tT g W (valT ma) σ H Q) : tE g W ma σ H fun x H' => ∃ k, x = .bl k ∧ Q k H' := by
  refine one q fun ρ e H h x vx s hh rx p => ?_
  cases x <;> first | exact p.elim | skip
  rename_i k
  exact ⟨k, RD_bl rx rfl, p.okk hh rfl⟩
theorem t_val {e : Expr} {m : EM} (h : PE X e (tE (gd X) W m)) (he : ∀ whole, isTrue e X.env whole = (do let v ← whole; standAt e.pos; holding [v] (truthy v)) := by intro _; rfl) : PT X e (tT (gd X) W (valT m)) :=
  PT_of (pt_val h he) fun σ H Q q => testOf q
theorem t_cmp {op : CmpOp} {r : R2} {f : D → D → MH → R D} (ho : OpR X (compareOp op) r) (hf : RF2 (gd X) f r) (ha : PE X a (tE (gd X) W ma)) (hb : PE X b (tE (gd X) W mb)) (hm : behindInMarks op b = false) : PT X (.Compare a [op] [b] pos) (tT (gd X) W (valT (bin f ma mb))) :=
  PT_of (pt_cmpR ho ha hb hm) fun σ H Q q => by
    have q' := testOf q
    exact two q' fun ρ H h x y vx vy hh rx ry p => hf _ _ ρ H h x y vx vy hh rx ry p
theorem t_not (h : PT X a (tT (gd X) W ta)) : PT X (.UnaryOp .Not a pos) (tT (gd X) W (notT ta)) :=
  PT_of (pt_not h) fun σ H Q q => by
    refine one q fun ρ e H h x vx s hh rx p => ?_
    cases rx
    exact p.okk hh rfl
theorem w_and1 (ha : PT X a (tT (gd X) W ta)) : PW X (.BoolOp .And [a] pos) (tT (gd X) W ta) := pw_and1 ha
theorem w_or1 (ha : PT X a (tT (gd X) W ta)) : PW X (.BoolOp .Or [a] pos) (tT (gd X) W ta) := pw_or1 ha
theorem PW_of {e : Expr} {t t' : TT} (h : PW X e t) (i : ∀ σ H Q, t' σ H Q → t σ H Q) : PW X e t' := ⟨fun wh pins s σ H Q I q => h.run wh pins s σ H Q I (i _ _ _ q)⟩
theorem w_and {rest : List Expr} (ha : PT X a (tT (gd X) W ta)) (hb : PW X (.BoolOp .And (b :: rest) pos) (tT (gd X) W tb)) : PW X (.BoolOp .And (a :: b :: rest) pos) (tT (gd X) W (andT ta tb)) :=
  PW_of (pw_and ha hb) fun σ H Q q => by
    refine one q fun ρ e H h x vx s hh rx p => ?_
    cases rx
    cases x with
    | true => exact ⟨ρ, e, h, s, hh, p⟩
    | false => exact p.okk hh rfl
theorem w_or {rest : List Expr} (ha : PT X a (tT (gd X) W ta)) (hb : PW X (.BoolOp .Or (b :: rest) pos) (tT (gd X) W tb)) : PW X (.BoolOp .Or (a :: b :: rest) pos) (tT (gd X) W (orT ta tb)) :=
  PW_of (pw_or ha hb) fun σ H Q q => by
    refine one q fun ρ e H h x vx s hh rx p => ?_
    cases rx
    cases x with
    | false => exact ⟨ρ, e, h, s, hh, p⟩
    | true => exact p.okk hh rfl
theorem toB_ok {g : Gd} {γ δ : Type} {Rel : List Addr → Hp → γ → δ → Prop} {Wf : XK} {ρ : List Addr} {H : Hp} {h : MH} {x : D} {vx : V} {f : Bool → MH → R γ} {Q : δ → Hp → Prop} (rx : RD g ρ H x vx) (p : Post g Rel Wf ρ H ((toB x h).bind f) Q) :
    ∃ k, vx = .bl k ∧ Post g Rel Wf ρ H (f k h) Q := by
  cases x <;> first | exact p.elim | skip
  rename_i k
  exact ⟨k, RD_bl rx rfl, p⟩
theorem e_one {op} (h : PE X a (tE (gd X) W ma)) : PE X (.BoolOp op [a] pos) (tE (gd X) W ma) := pe_one h
theorem e_and {rest : List Expr} (ha : PE X a (tE (gd X) W ma)) (hb : PE X (.BoolOp .And (b :: rest) pos) (tE (gd X) W mb)) : PE X (.BoolOp .And (a :: b :: rest) pos) (tE (gd X) W (andE ma mb)) :=
  PE_of (pe_and ha hb) fun σ H Q q => by
    refine one q fun ρ e H h x vx s hh rx p => ?_
    obtain ⟨k, e1, p⟩ := toB_ok rx p
    refine ⟨k, e1, ?_⟩
    cases k with
    | true => exact ⟨ρ, e, h, s, hh, p⟩
    | false => exact p.okk hh (by unfold RD; rfl)
theorem e_or {rest : List Expr} (ha : PE X a (tE (gd X) W ma)) (hb : PE X (.BoolOp .Or (b :: rest) pos) (tE (gd X) W mb)) : PE X (.BoolOp .Or (a :: b :: rest) pos) (tE (gd X) W (orE ma mb)) :=
  PE_of (pe_or ha hb) fun σ H Q q => by
    refine one q fun ρ e H h x vx s hh rx p => ?_
    obtain ⟨k, e1, p⟩ := toB_ok rx p
    refine ⟨k, e1, ?_⟩
    cases k with
    | false => exact ⟨ρ, e, h, s, hh, p⟩
    | true => exact p.okk hh (by unfold RD; rfl)
theorem e_not (ha : PE X a (tE (gd X) W ma)) : PE X (.UnaryOp .Not a pos) (tE (gd X) W (notE ma)) :=
  PE_of (pe_not ha) fun σ H Q q => by
    refine one q fun ρ e H h x vx s hh rx p => ?_
    obtain ⟨k, e1, p⟩ := toB_ok rx p
    exact ⟨k, e1, p.okk hh (by unfold RD; rfl)⟩
theorem e_if (hc : PT X c (tT (gd X) W ta)) (ha : PE X a (tE (gd X) W ma)) (hb : PE X b (tE (gd X) W mb)) : PE X (.IfExp c a b pos) (tE (gd X) W (ifE ta ma mb)) :=
  PE_of (pe_ifExp hc ha hb) fun σ H Q q => by
    refine one q fun ρ e H h x vx s hh rx p => ?_
    cases rx
    cases x with
    | true => exact ⟨ρ, e, h, s, hh, p⟩
    | false => exact ⟨ρ, e, h, s, hh, p⟩
/-! arguments -/
theorem a_nil : PA X [] (tA (gd X) W nilA) := PA_of pa_nil fun σ H Q q => by
  obtain ⟨ρ, e, m, s, hh, p⟩ := q
  exact p.okk hh .nil
theorem a_cons (ha : PE X a (tE (gd X) W ma)) (hr : PA X es (tA (gd X) W mas)) (hs : starEach (a :: es) X.env = (false, eval a X.env) :: starEach es X.env := by rfl) : PA X (a :: es) (tA (gd X) W (consA ma mas)) :=
  PA_of (pa_cons ha hr hs) fun σ H Q q => by
    refine one q fun ρ e H h x vx s hh rx p => ?_
    refine ⟨ρ, e, h, s, hh, p.bind.mono fun vs H1 q => ?_⟩
    obtain ⟨ρ1, xs, h1, l1, hh1, rxs, p1⟩ := q
    exact p1.okk hh1 (.cons (l1.rd x rx) rxs)
theorem e_tup {k} (h : PA X es (tA (gd X) W mas)) : PE X (.Tuple es k pos) (tE (gd X) W (onA tupF mas)) :=
  PE_of (pe_tup h) fun σ H Q q => by
    refine one q fun ρ e H h x vx s hh rx p => ?_
    unfold tupF at p
    split at p
    · rename_i hl
      refine ⟨big_le (by rw [← rx.length]; exact hl), fun q hq => ?_⟩
      have l := Lat.upd (g := gd X) (ρ := ρ) (u := .tup vx) (Soft.none hq)
      refine p ρ _ _ l (hh.upd hq) ?_
      unfold RD
      exact ⟨q, vx, rfl, .of upd_same, l.rds x rx⟩
    · exact p.elim
theorem RH.newLst {g : Gd} {ρ : List Addr} {H : Hp} {h : MH} {l : List D} {vs : List V} {q : Addr} (hh : RH g ρ H h) (hq : H q = none) (r : RDs g ρ H l vs) :
    Lat g ρ H (ρ ++ [q]) (L2.upd H q (.lst vs)) ∧ RH g (ρ ++ [q]) (L2.upd H q (.lst vs)) (h ++ [.lst l]) ∧ RD g (ρ ++ [q]) (L2.upd H q (.lst vs)) (.ref h.length) (.ref q) := by
  have l1 := Lat.new (g := g) (ρ := ρ) (u := .lst vs) (Soft.none hq)
  refine ⟨l1, hh.new hq ⟨vs, upd_same, l1.rds l r⟩, ?_⟩
  unfold RD
  exact ⟨q, by rw [← hh.len]; simp, rfl⟩
theorem e_lst (h : PA X es (tA (gd X) W mas)) : PE X (.List es pos) (tE (gd X) W (onA lstF mas)) :=
  PE_of (pe_lst h) fun σ H Q q => by
    refine one q fun ρ e H h x vx s hh rx p => ?_
    unfold lstF at p
    split at p
    · rename_i hl
      refine ⟨big_le (by rw [← rx.length]; exact hl), fun q hq => ?_⟩
      obtain ⟨l1, l2, l3⟩ := hh.newLst hq rx
      exact p _ _ _ l1 l2 l3
    · exact p.elim
end

/-! ### own defs -/
def fnM (np n : Nat) (b : SM) : FM := fun ds h => if ds.length = np then (match b (ds.map some ++ List.replicate (n - ds.length) none) h with
    | .nx _ h' => .ok .non h'
    | .rt d h' => .ok d h'
    | .exc c fs _ h' => .exc c fs h'
    | _ => .bad) else .bad
def spM (g : Gd) (np : Nat) (m : FM) : Sp := fun vs H Q E => vs.length = np ∧ ∃ ρ ds h, RDs g ρ H ds vs ∧ RH g ρ H h ∧ Post g (RD g) E ρ H (m ds h) Q
/-- what a caller knows of the def that the module's name x holds -/
structure Cal (P : Program) (w : World) (K : PySem.W.Frag) (mg : Str → Option Value) (base : Heap) (x : Str) (k : Nat) (m : FM) : Prop where
  ex : ∃ f fd ps, mg x = some (.ref f) ∧ PySem.W.keepIn K (.ref f) = true ∧ Binds K fd ps [] ∧ FnOk P w K mg base (L2.CX P w) k f fd ps (spM ⟨K, mg⟩ ps.length m) ∧ ∀ ds h, ds.length ≠ ps.length → m ds h = .bad
section
variable {X : Cx} {W : Wx} {e : Expr} {es : List Expr} {mas : AM} {pos p : Pos} {x : Str} {k : Nat} {m : FM}
theorem e_call (F : Cal X.prog X.w X.K X.mg X.base x k m) (hr : Room k X.A) (tk : Takes X W.W) (hg : Gl X x) (ha : PA X (e :: es) (tA (gd X) W mas)) (hdb : (x == ("__debug__" : Str)) = false := by decide)
    (he : starEach (e :: es) X.env = (false, eval e X.env) :: starEach es X.env := by rfl) (hpl : (backTo pos (starEach es X.env)).any (·.1) = false := by rfl) : PE X (.Call (.Name x p) (e :: es) [] pos) (tE (gd X) W (onA m mas)) := by
  obtain ⟨f, fd, ps, mgf, kp, b, G, hn⟩ := F.ex
  refine PE_of (pe_callS G hr hg mgf kp b (fun σ => passAt tk σ) ha hdb he hpl) fun σ H Q q => ?_
  refine one q fun ρ e H h xs vs s hh rx p => ?_
  refine ⟨?_, ρ, xs, h, rx, hh, p⟩
  by_cases hl : xs.length = ps.length
  · rw [← rx.length]; exact hl
  · rw [hn xs h hl] at p
    exact p.elim
theorem fn_ok {P : Program} {w : World} {K : PySem.W.Frag} {mg : Str → Option Value} {base : Heap} {x qual : Str} {st : Stmt} {f : Addr} {fd : FuncData} {N ps : List Str} {k : Nat} {b : SM} (F : Fun K x qual st f fd) (Sc : FnScope N ps (defScope st))
    (hbody : ∀ (cdv : Value) (A : Around) (outer : List PySem.Env) (s : Shared) (H : Hp) (E : XK), Room k (A.deeper (envOfC qual (defScope st) s.heap.objs.size f cdv)) →
      Takes (cxOf (L2.CX P w) P w K mg base N qual (defScope st) f cdv A outer s H E) (fun cls d _ H => E cls d H) →
      PSs (cxOf (L2.CX P w) P w K mg base N qual (defScope st) f cdv A outer s H E) (defBody st) (tS ⟨K, mg⟩ (fun cls d _ H => E cls d H) b)) :
    FnOk P w K mg base (L2.CX P w) (k + 1) f fd ps (spM ⟨K, mg⟩ ps.length (fnM ps.length N.length b)) := by
  refine F.okX Sc (fun vs H Q E h => h.1) (fun cdv A outer s H vs Q E hr h => ⟨_, hbody cdv A outer s H E hr (takes_of rfl rfl rfl rfl), ?_⟩)
  obtain ⟨hl, ρ, ds, h, rd, hh, p⟩ := h
  have hl' : ds.length = ps.length := by rw [rd.length]; exact hl
  unfold fnM at p
  rw [if_pos hl'] at p
  refine ⟨ρ, _, h, RS.start rd, hh, ?_⟩
  revert p
  generalize b (List.map some ds ++ List.replicate (N.length - ds.length) none) h = r
  intro p
  cases r with
  | nx e h' => exact fun ρ' σ' H' l a _ => p ρ' .non H' l a (by unfold RD; rfl)
  | rt d h' => exact p
  | exc c fs e h' => exact fun ρ' σ' H' C dd gs l a _ => p ρ' H' C dd gs l a
  | bk e h' => exact p.elim
  | ct e h' => exact p.elim
  | bad => exact p.elim
theorem cal_mk {P : Program} {w : World} {K : PySem.W.Frag} {mg : Str → Option Value} {base : Heap} {x qual : Str} {st : Stmt} {f : Addr} {fd : FuncData} {ps : List Str} {k np n : Nat} {b : SM} (F : Fun K x qual st f fd) (hm : mg x = some (.ref f)) (hb : Binds K fd ps [])
    (G : FnOk P w K mg base (L2.CX P w) k f fd ps (spM ⟨K, mg⟩ ps.length (fnM np n b))) (hnp : np = ps.length) : Cal P w K mg base x k (fnM np n b) :=
  ⟨f, fd, ps, hm, F.kp, hb, G, fun ds h hl => by unfold fnM; rw [hnp, if_neg hl]⟩
end

/-! ### statements -/
def ofE (e : Env) (r : R D) (k : D → MH → S) : S := match r with
  | .ok d h => k d h
  | .exc c fs h => .exc c fs e h
  | .bad => .bad
def ofT (e : Env) (r : R Bool) (k : Bool → MH → S) : S := match r with
  | .ok d h => k d h
  | .exc c fs h => .exc c fs e h
  | .bad => .bad
def setS (i : Nat) (a : EM) : SM := fun e h => ofE e (a e h) fun d h1 => .nx (e.set i (some d)) h1
def expS (a : EM) : SM := fun e h => ofE e (a e h) fun _ h1 => .nx e h1
def retS (a : EM) : SM := fun e h => ofE e (a e h) fun d h1 => .rt d h1
def retN : SM := fun e h => .rt .non h
def passS : SM := fun e h => .nx e h
def brkS : SM := fun e h => .bk e h
def ctS : SM := fun e h => .ct e h
def ifS (t : TM) (a b : SM) : SM := fun e h => ofT e (t e h) fun c h1 => if c then a e h1 else b e h1
def seqS (a b : SM) : SM := fun e h => match a e h with
  | .nx e1 h1 => b e1 h1
  | r => r
section
variable {X : Cx} {W : WX} {a : Expr} {ma : EM} {pos : Pos} {st : Stmt} {sts : List Stmt} {m1 m2 : SM}
/-- an expression ahead of a statement's rest -/
theorem stE {g : Gd} {σ : L2.St} {H : Hp} {N : Ends} {f : Env → D → MH → S} {k : V → Hp → Prop} (q : tS g W (fun e h => ofE e (ma e h) (f e)) N σ H)
    (hk : ∀ ρ e H h x vx, RS g ρ H e σ → RH g ρ H h → RD g ρ H x vx → PostS g W ρ H (f e x h) N → k vx H) : tE g (pl W) ma σ H k := by
  obtain ⟨ρ, e, h, s, hh, p⟩ := q
  refine ⟨ρ, e, h, s.x, hh, ?_⟩
  have p : PostS g W ρ H (ofE e (ma e h) (f e)) N := p
  revert p
  generalize ma e h = r
  intro p
  cases r with
  | ok d h1 => exact fun ρ1 v H1 l a b => hk ρ1 e H1 h1 d v (l.rs s) a b (PostS.later l p)
  | exc c fs h1 => exact fun ρ1 H1 C dd gs l a => p ρ1 σ H1 C dd gs l a (l.rs s)
  | bad => exact p.elim
theorem stT {g : Gd} {ta : TM} {σ : L2.St} {H : Hp} {N : Ends} {f : Env → Bool → MH → S} {k : Bool → Hp → Prop} (q : tS g W (fun e h => ofT e (ta e h) (f e)) N σ H)
    (hk : ∀ ρ e H h x, RS g ρ H e σ → RH g ρ H h → PostS g W ρ H (f e x h) N → k x H) : tT g (pl W) ta σ H k := by
  obtain ⟨ρ, e, h, s, hh, p⟩ := q
  refine ⟨ρ, e, h, s.x, hh, ?_⟩
  have p : PostS g W ρ H (ofT e (ta e h) (f e)) N := p
  revert p
  generalize ta e h = r
  intro p
  cases r with
  | ok d h1 =>
    intro ρ1 v H1 l a b
    cases b
    exact hk ρ1 e H1 h1 d (l.rs s) a (PostS.later l p)
  | exc c fs h1 => exact fun ρ1 H1 C dd gs l a => p ρ1 σ H1 C dd gs l a (l.rs s)
  | bad => exact p.elim
theorem s_set (i : Nat) {x : Str} {pos' : Pos} (hN : X.N.Nodup) (hi : X.N[i]? = some x) (hx : Loc X.env.scope x) (ha : PE X a (tE (gd X) (pl W) ma)) (hs : swapsWith a (some (.Name x pos')) pos.line X.env = pure false := by rfl)
    (hf : X.fn x = true ∨ X.env.scope.names.lookup x = some .local := by first | exact .inl rfl | exact .inr rfl | assumption) : PS X (.Assign [.Name x pos'] a pos) (tS (gd X) W (setS i ma)) :=
  PS_of (ps_set hN hi hx ha hs hf) fun N σ H q => stE q fun ρ e H h d v s hh r p => p ρ _ H Lat.refl hh (s.set r i)
theorem s_expr (ha : PE X a (tE (gd X) (pl W) ma)) (hs : swapsWith a none pos.line X.env = pure false := by rfl) : PS X (.Expr a pos) (tS (gd X) W (expS ma)) :=
  PS_of (ps_expr ha hs) fun N σ H q => stE q fun ρ e H h d v s hh r p => p ρ _ H Lat.refl hh s
theorem s_doc {x j pos pos'} : PS X (.Expr (.Constant (.str x) j pos) pos') (tS (gd X) W passS) := PS_of ps_doc fun N σ H q => by
  obtain ⟨ρ, e, h, s, hh, p⟩ := q
  exact p ρ σ H Lat.refl hh s
theorem s_pass : PS X (.Pass pos) (tS (gd X) W passS) := PS_of ps_pass fun N σ H q => by
  obtain ⟨ρ, e, h, s, hh, p⟩ := q
  exact p ρ σ H Lat.refl hh s
theorem s_break : PS X (.Break pos) (tS (gd X) W brkS) := PS_of ps_break fun N σ H q => by
  obtain ⟨ρ, e, h, s, hh, p⟩ := q
  exact p ρ σ H Lat.refl hh s
theorem s_cont : PS X (.Continue pos) (tS (gd X) W ctS) := PS_of ps_continue fun N σ H q => by
  obtain ⟨ρ, e, h, s, hh, p⟩ := q
  exact p ρ σ H Lat.refl hh s
theorem s_ret (ha : PE X a (tE (gd X) (pl W) ma)) : PS X (.Return (some a) pos) (tS (gd X) W (retS ma)) :=
  PS_of (ps_ret ha) fun N σ H q => stE q fun ρ e H h d v s hh r p => p ρ _ H Lat.refl hh r
theorem s_retN : PS X (.Return none pos) (tS (gd X) W retN) := PS_of ps_retN fun N σ H q => by
  obtain ⟨ρ, e, h, s, hh, p⟩ := q
  exact p ρ .non H Lat.refl hh (by unfold RD; rfl)
theorem s_if {c : Expr} {x y : List Stmt} {t : TM} (hc : PT X c (tT (gd X) (pl W) t)) (ha : PSs X x (tS (gd X) W m1)) (hb : PSs X y (tS (gd X) W m2)) : PS X (.If c x y pos) (tS (gd X) W (ifS t m1 m2)) :=
  PS_of (ps_if hc ha hb) fun N σ H q => by
    refine stT q fun ρ e H h x s hh p => ?_
    cases x with
    | true => exact ⟨ρ, e, h, s, hh, p⟩
    | false => exact ⟨ρ, e, h, s, hh, p⟩
theorem ss_nil : PSs X [] (tS (gd X) W passS) := PSs_of pss_nil fun N σ H q => by
  obtain ⟨ρ, e, h, s, hh, p⟩ := q
  exact p ρ σ H Lat.refl hh s
theorem ss_one (h : PS X st (tS (gd X) W m1)) : PSs X [st] (tS (gd X) W m1) := pss_one h
theorem ss_cons (h1 : PS X st (tS (gd X) W m1)) (h2 : PSs X sts (tS (gd X) W m2)) : PSs X (st :: sts) (tS (gd X) W (seqS m1 m2)) :=
  PSs_of (pss_cons h1 h2) fun N σ H q => by
    obtain ⟨ρ, e, h, s, hh, p⟩ := q
    refine ⟨ρ, e, h, s, hh, ?_⟩
    unfold seqS at p
    revert p
    generalize m1 e h = r
    intro p
    cases r with
    | nx e1 h1 => exact fun ρ1 σ1 H1 l a b => ⟨ρ1, e1, h1, b, a, PostS.later l p⟩
    | rt d h1 => exact p
    | bk e1 h1 => exact p
    | ct e1 h1 => exact p
    | exc c fs e1 h1 => exact p
    | bad => exact p
end
end ML

/-! ML 3: equality of mirror values, what is walked, targets, for, while, comprehensions -/
namespace ML
open PySem PySem.Spec PyProof.Rows L2

/-! ### equality of values as terms (a check that something has stayed) -/
mutual
def D.same : D → D → Bool
  | .non, .non => true
  | .bl a, .bl b => a == b
  | .int a, .int b => decide (a = b)
  | .str a, .str b => decide (a = b)
  | .ty a, .ty b => decide (a = b)
  | .tup l, .tup m => D.sames l m
  | .ref a, .ref b => decide (a = b)
  | .glb a, .glb b => decide (a = b)
  | _, _ => false
def D.sames : List D → List D → Bool
  | [], [] => true
  | a :: l, b :: m => D.same a b && D.sames l m
  | _, _ => false
end
mutual
theorem same_eq : ∀ {a b : D}, D.same a b = true → a = b
  | .non, .non, _ => rfl
  | .bl a, .bl b, h => by unfold D.same at h; rw [beq_iff_eq.mp h]
  | .int a, .int b, h => by unfold D.same at h; rw [of_decide_eq_true h]
  | .str a, .str b, h => by unfold D.same at h; rw [of_decide_eq_true h]
  | .ty a, .ty b, h => by unfold D.same at h; rw [of_decide_eq_true h]
  | .tup l, .tup m, h => by unfold D.same at h; rw [sames_eq h]
  | .ref a, .ref b, h => by unfold D.same at h; rw [of_decide_eq_true h]
  | .glb a, .glb b, h => by unfold D.same at h; rw [of_decide_eq_true h]
  | .non, .bl _, h => by unfold D.same at h; cases h
  | .non, .int _, h => by unfold D.same at h; cases h
  | .non, .str _, h => by unfold D.same at h; cases h
  | .non, .ty _, h => by unfold D.same at h; cases h
  | .non, .tup _, h => by unfold D.same at h; cases h
  | .non, .ref _, h => by unfold D.same at h; cases h
  | .non, .glb _, h => by unfold D.same at h; cases h
  | .bl _, .non, h => by unfold D.same at h; cases h
  | .bl _, .int _, h => by unfold D.same at h; cases h
  | .bl _, .str _, h => by unfold D.same at h; cases h
  | .bl _, .ty _, h => by unfold D.same at h; cases h
  | .bl _, .tup _, h => by unfold D.same at h; cases h
  | .bl _, .ref _, h => by unfold D.same at h; cases h
  | .bl _, .glb _, h => by unfold D.same at h; cases h
  | .int _, .non, h => by unfold D.same at h; cases h
  | .int _, .bl _, h => by unfold D.same at h; cases h
  | .int _, .str _, h => by unfold D.same at h; cases h
  | .int _, .ty _, h => by unfold D.same at h; cases h
  | .int _, .tup _, h => by unfold D.same at h; cases h
  | .int _, .ref _, h => by unfold D.same at h; cases h
  | .int _, .glb _, h => by unfold D.same at h; cases h
  | .str _, .non, h => by unfold D.same at h; cases h
  | .str _, .bl _, h => by unfold D.same at h; cases h
  | .str _, .int _, h => by unfold D.same at h; cases h
  | .str _, .ty _, h => by unfold D.same at h; cases h
  | .str _, .tup _, h => by unfold D.same at h; cases h
  | .str _, .ref _, h => by unfold D.same at h; cases h
  | .str _, .glb _, h => by unfold D.same at h; cases h
  | .ty _, .non, h => by unfold D.same at h; cases h
  | .ty _, .bl _, h => by unfold D.same at h; cases h
  | .ty _, .int _, h => by unfold D.same at h; cases h
  | .ty _, .str _, h => by unfold D.same at h; cases h
  | .ty _, .tup _, h => by unfold D.same at h; cases h
  | .ty _, .ref _, h => by unfold D.same at h; cases h
  | .ty _, .glb _, h => by unfold D.same at h; cases h
  | .tup _, .non, h => by unfold D.same at h; cases h
  | .tup _, .bl _, h => by unfold D.same at h; cases h
  | .tup _, .int _, h => by unfold D.same at h; cases h
  | .tup _, .str _, h => by unfold D.same at h; cases h
  | .tup _, .ty _, h => by unfold D.same at h; cases h
  | .tup _, .ref _, h => by unfold D.same at h; cases h
  | .tup _, .glb _, h => by unfold D.same at h; cases h
  | .ref _, .non, h => by unfold D.same at h; cases h
  | .ref _, .bl _, h => by unfold D.same at h; cases h
  | .ref _, .int _, h => by unfold D.same at h; cases h
  | .ref _, .str _, h => by unfold D.same at h; cases h
  | .ref _, .ty _, h => by unfold D.same at h; cases h
  | .ref _, .tup _, h => by unfold D.same at h; cases h
  | .ref _, .glb _, h => by unfold D.same at h; cases h
  | .glb _, .non, h => by unfold D.same at h; cases h
  | .glb _, .bl _, h => by unfold D.same at h; cases h
  | .glb _, .int _, h => by unfold D.same at h; cases h
  | .glb _, .str _, h => by unfold D.same at h; cases h
  | .glb _, .ty _, h => by unfold D.same at h; cases h
  | .glb _, .tup _, h => by unfold D.same at h; cases h
  | .glb _, .ref _, h => by unfold D.same at h; cases h
theorem sames_eq : ∀ {l m : List D}, D.sames l m = true → l = m
  | [], [], _ => rfl
  | a :: l, b :: m, h => by
    unfold D.sames at h
    have h' := Bool.and_eq_true_iff.mp h
    rw [same_eq h'.1, sames_eq h'.2]
  | [], _ :: _, h => by unfold D.sames at h; cases h
  | _ :: _, [], h => by unfold D.sames at h; cases h
end
mutual
theorem same_refl : ∀ (a : D), D.same a a = true
  | .non => by unfold D.same; rfl
  | .bl a => by unfold D.same; simp
  | .int a => by unfold D.same; simp
  | .str a => by unfold D.same; simp
  | .ty a => by unfold D.same; simp
  | .tup l => by unfold D.same; exact sames_refl l
  | .ref a => by unfold D.same; simp
  | .glb a => by unfold D.same; simp
theorem sames_refl : ∀ (l : List D), D.sames l l = true
  | [] => by unfold D.sames; rfl
  | a :: l => by unfold D.sames; rw [same_refl a, sames_refl l]; rfl
end

/-! ### what is walked -/
/-- the items; the lists (by their places) that must stand as they were at each turn -/
structure IT where
  items : List D
  srcs : List (Nat × List D) := []
def stands (h : MH) (p : Nat × List D) : Bool := match h[p.1]? with
  | some (.lst l) => D.sames l p.2
  | _ => false
def IT.ok (h : MH) (srcs : List (Nat × List D)) : Bool := srcs.all (stands h)
theorem stands_eq {h : MH} {p : Nat × List D} (e : stands h p = true) : h[p.1]? = some (.lst p.2) := by
  unfold stands at e
  split at e
  · rename_i l hl
    rw [hl, sames_eq e]
  · cases e
abbrev IM := Env → MH → R IT
/-- J walks these items -/
def WkD (g : Gd) (ρ1 : List Addr) (H1 : Hp) (it : IT) (J : It) : Prop := ∃ (G : Hp → Prop) (Y : Nat → Hp → V → Hp → Prop), Walk J it.items.length G Y ∧
  (∀ ρ2 H2 h2, Lat g ρ1 H1 ρ2 H2 → RH g ρ2 H2 h2 → IT.ok h2 it.srcs = true → G H2) ∧
  ∀ i H2 x H3 ρ2 h2 d, Lat g ρ1 H1 ρ2 H2 → RH g ρ2 H2 h2 → IT.ok h2 it.srcs = true → Y i H2 x H3 → it.items[i]? = some d → Lat g ρ2 H2 ρ2 H3 ∧ RH g ρ2 H3 h2 ∧ RD g ρ2 H3 d x
abbrev iM (g : Gd) (W : Wx) (m : IM) : TI := tG g (WkD g) W m
theorem PI_of {X : Cx} {tg e : Expr} {t t' : TI} (h : PI X tg e t) (i : ∀ σ H Q, t' σ H Q → t σ H Q) : PI X tg e t' := ⟨fun pins s σ H Q I q => h.run pins s σ H Q I (i _ _ _ q)⟩
/-- a list, a tuple, a text -/
def iAny (K : PySem.W.Frag) (tl : TE) : TI := fun σ H R => tl σ H fun x H1 =>
  (∃ a, x = .ref a ∧ (∃ xs, SqL K H1 a xs) ∧ R (Itl K a) H1) ∨ (∃ a, x = .ref a ∧ (∃ xs, SqT K H1 a xs) ∧ R (Itt K a) H1) ∨ ∃ z, x = .str z ∧ R (Its z) H1
theorem pi_any {X : Cx} {tg l : Expr} {tl : TE} (hl : PE X l tl) : PI X tg l (iAny X.K tl) := by
  refine ⟨fun pins s σ H R I h => ?_⟩
  refine thn (hl.run pins s σ H _ I h) fun v s1 ⟨x, H1, I1, r1, q1⟩ => ?_
  rcases q1 with ⟨a, e, ⟨xs, hq⟩, q⟩ | ⟨a, e, ⟨xs, hq⟩, q⟩ | ⟨z, e, q⟩ <;> subst e
  · cases r1
    exact wpAny_pyIter_list (Inv.list I1 hq).choose_spec.2.1.isList (pi_one I1 (tk := s1.toks) _ (turn_list a _) ⟨_, Heap.get?_push_size _ rfl, rfl, rfl⟩ q)
  · cases r1
    exact wpAny_pyIter_tuple (Inv.tuple I1 hq).choose_spec.2.1 (pi_one I1 (tk := s1.toks) _ (turn_tuple a _) ⟨_, Heap.get?_push_size _ rfl, rfl, rfl⟩ q)
  · obtain ⟨t, rfl⟩ := r1
    cases low : z.cps.all (· < 128) with
    | false => exact wpAny_pyIter_wide low (pi_one I1 (tk := s1.toks) _ (turn_str _ z t _ (.inr rfl)) ⟨_, Heap.get?_push_size _ rfl, rfl, rfl⟩ q)
    | true => exact wpAny_pyIter_ascii low (pi_one I1 (tk := s1.toks) _ (turn_str _ z t _ (.inl rfl)) ⟨_, Heap.get?_push_size _ rfl, rfl, rfl⟩ q)

section
variable {g : Gd} {ρ : List Addr} {H : Hp} {a : Addr} {vs : List V} {l : List D} {h : MH}
theorem wk_tup (sq : SqT g.K H a vs) (r : RDs g ρ H l vs) : WkD g ρ H ⟨l, []⟩ (Itt g.K a) := by
  have hl := r.length
  refine ⟨fun H => SqT g.K H a vs, YAt vs, by show Walk _ l.length _ _; rw [hl]; exact walk_tup, fun ρ2 H2 h2 l2 _ _ => l2.sqT sq, fun i H2 x H3 ρ2 h2 d l2 hh _ y e => ?_⟩
  obtain ⟨e1, e2⟩ := y
  subst e1
  obtain ⟨v, e3, r3⟩ := r.get e
  rw [e2] at e3
  cases e3
  exact ⟨Lat.refl, hh, l2.rd d r3⟩
theorem RdL.sq {K : PySem.W.Frag} (h : RdL K H a vs) : SqL K H a vs := by
  rcases h with ⟨o, h⟩ | h
  · exact .inl (.inr ⟨o, h⟩)
  · exact .inr h
theorem wk_rdl (sq : RdL g.K H a vs) (r : RDs g ρ H l vs) : WkD g ρ H ⟨l, []⟩ (Itl g.K a) := by
  have hl := r.length
  refine ⟨fun H => RdL g.K H a vs, YAt vs, by show Walk _ l.length _ _; rw [hl]; exact walk_list.mono (fun _ q => q.sq) (fun _ _ _ _ _ _ y => y), fun ρ2 H2 h2 l2 _ _ => l2.rdl sq, fun i H2 x H3 ρ2 h2 d l2 hh _ y e => ?_⟩
  obtain ⟨e1, e2⟩ := y
  subst e1
  obtain ⟨v, e3, r3⟩ := r.get e
  rw [e2] at e3
  cases e3
  exact ⟨Lat.refl, hh, l2.rd d r3⟩
theorem wk_lst {n : Nat} (en : ρ[n]? = some a) : WkD g ρ H ⟨l, [(n, l)]⟩ (Itl g.K a) := by
  have key : ∀ {ρ2 H2 h2}, Lat g ρ H ρ2 H2 → RH g ρ2 H2 h2 → IT.ok h2 [(n, l)] = true → ∃ vs, H2 a = some (.lst vs) ∧ RDs g ρ2 H2 l vs := fun {ρ2 H2 h2} l2 hh ok => by
    have e := stands_eq (p := (n, l)) (by unfold IT.ok at ok; simpa using ok)
    exact hh.obj n _ a e (l2.at en)
  refine ⟨fun H => ∃ vs, SqL g.K H a vs ∧ vs.length = l.length, (Itl g.K a).yld, ⟨fun i H hi ⟨vs, q, e⟩ => ⟨vs, vs[i]'(by rw [e]; exact hi), q, List.getElem?_eq_getElem _⟩, fun H ⟨vs, q, e⟩ => ⟨vs, q, Nat.le_of_eq e⟩, fun _ _ _ _ _ _ y => y⟩,
    fun ρ2 H2 h2 l2 hh ok => ?_, fun i H2 x H3 ρ2 h2 d l2 hh ok y e => ?_⟩
  · obtain ⟨vs, e, r⟩ := key l2 hh ok
    exact ⟨vs, .of e, r.length.symm⟩
  · obtain ⟨vs, e1, r⟩ := key l2 hh ok
    obtain ⟨e2, y⟩ := y
    subst e2
    have e3 := y vs (.of e1)
    obtain ⟨v, e4, r4⟩ := r.get e
    rw [e3] at e4
    cases e4
    exact ⟨Lat.refl, hh, r4⟩
def chars (z : Str) : List D := z.cps.toList.map fun c => .str ⟨#[c]⟩
theorem wk_str {z : Str} : WkD g ρ H ⟨chars z, []⟩ (Its z) := by
  refine ⟨fun _ => True, fun i H v H' => H' = H ∧ ∃ c, z.cps[i]? = some c ∧ v = .str ⟨#[c]⟩, by show Walk _ (chars z).length _ _; unfold chars; rw [List.length_map, Array.length_toList]; exact walk_str, fun _ _ _ _ _ _ => True.intro, fun i H2 x H3 ρ2 h2 d l2 hh _ y e => ?_⟩
  obtain ⟨e1, c, e2, e3⟩ := y
  subst e1 e3
  unfold chars at e
  rw [List.getElem?_map, Array.getElem?_toList, e2] at e
  cases e
  exact ⟨Lat.refl, hh, by unfold RD; rfl⟩
def rangeD (lo : Int) (n : Nat) : List D := (List.range n).map fun (i : Nat) => .int (lo + i)
theorem wk_range {lo : Int} {n : Nat} : WkD g ρ H ⟨rangeD lo n, []⟩ (Itr lo n) := by
  refine ⟨fun _ => True, YFn fun i => .int (lo + i), by show Walk _ (rangeD lo n).length _ _; unfold rangeD; rw [List.length_map, List.length_range]; exact walk_range, fun _ _ _ _ _ _ => True.intro, fun i H2 x H3 ρ2 h2 d l2 hh _ y e => ?_⟩
  obtain ⟨e1, e2⟩ := y
  subst e1 e2
  unfold rangeD at e
  rw [List.getElem?_map] at e
  cases q : (List.range n)[i]? with
  | none => rw [q] at e; cases e
  | some j =>
    rw [q] at e
    obtain ⟨hj, ej⟩ := List.getElem?_eq_some_iff.mp q
    rw [List.getElem_range] at ej
    subst ej
    cases e
    exact ⟨Lat.refl, hh, by unfold RD; rfl⟩
end
def seqF : D → MH → R IT := fun d h => match d with
  | .tup l => .ok ⟨l, []⟩ h
  | .str z => .ok ⟨chars z, []⟩ h
  | .ref n => (match h[n]? with
    | some (.lst l) => .ok ⟨l, [(n, l)]⟩ h
    | some (.rdl l) => .ok ⟨l, []⟩ h
    | _ => .bad)
  | _ => .bad
def seqI (m : EM) : IM := fun e h => (m e h).bind seqF
def rng1I (m : AM) : IM := fun e h => (m e h).bind fun ds h1 => match ds with
  | [.int j] => if -(2 ^ 62) ≤ j ∧ j < 2 ^ 62 then .ok ⟨rangeD 0 j.toNat, []⟩ h1 else .bad
  | _ => .bad
def rng2I (m : AM) : IM := fun e h => (m e h).bind fun ds h1 => match ds with
  | [.int i, .int j] => if -(2 ^ 62) ≤ i ∧ i < 2 ^ 62 ∧ -(2 ^ 62) ≤ j ∧ j < 2 ^ 62 then .ok ⟨rangeD i (j - i).toNat, []⟩ h1 else .bad
  | _ => .bad
section
variable {X : Cx} {W : Wx} {tg l a b : Expr} {ml : EM} {ma : AM} {p pos : Pos}
theorem RD_int {g : Gd} {ρ : List Addr} {H : Hp} {i : Int} {v : V} (r : RD g ρ H (.int i) v) : v = .int i := by unfold RD at r; exact r
theorem RD_str {g : Gd} {ρ : List Addr} {H : Hp} {i : Str} {v : V} (r : RD g ρ H (.str i) v) : v = .str i := by unfold RD at r; exact r
theorem RD_tup {g : Gd} {ρ : List Addr} {H : Hp} {l : List D} {v : V} (r : RD g ρ H (.tup l) v) : ∃ a vs, v = .ref a ∧ SqT g.K H a vs ∧ RDs g ρ H l vs := by unfold RD at r; exact r
theorem RD_ref {g : Gd} {ρ : List Addr} {H : Hp} {n : Nat} {v : V} (r : RD g ρ H (.ref n) v) : ∃ a, ρ[n]? = some a ∧ v = .ref a := by unfold RD at r; exact r
theorem i_any (h : PE X l (tE (gd X) W ml)) : PI X tg l (iM (gd X) W (seqI ml)) := PI_of (pi_any h) fun σ H Q q => by
  refine one q fun ρ e H h x vx s hh rx p => ?_
  cases x <;> first | exact p.elim | skip
  · rename_i z
    exact .inr (.inr ⟨z, RD_str rx, p.okk hh wk_str⟩)
  · rename_i ds
    obtain ⟨a, vs, e1, sq, r⟩ := RD_tup rx
    exact .inr (.inl ⟨a, e1, ⟨vs, sq⟩, p.okk hh (wk_tup sq r)⟩)
  · rename_i n
    obtain ⟨a, e1, e2⟩ := RD_ref rx
    unfold seqF at p
    dsimp only at p
    split at p
    · rename_i l hl
      obtain ⟨vs, e3, r⟩ := hh.obj n _ a hl e1
      exact .inl ⟨a, e2, ⟨vs, .of e3⟩, p.okk hh (wk_lst e1)⟩
    · rename_i l hl
      obtain ⟨vs, e3, r⟩ := hh.obj n _ a hl e1
      exact .inl ⟨a, e2, ⟨vs, e3.sq⟩, p.okk hh (wk_rdl e3 r)⟩
    · exact p.elim
theorem i_range1 (hg : Gl X "range") (hm : X.mg "range" = none) (ha : PA X [a] (tA (gd X) W ma)) (hs : starEach [a] X.env = [(false, eval a X.env)] := by rfl) : PI X tg (.Call (.Name "range" p) [a] [] pos) (iM (gd X) W (rng1I ma)) :=
  PI_of (pi_range1 hg hm ha hs) fun σ H Q q => by
    refine one q fun ρ e H h x vx s hh rx p => ?_
    try dsimp only at p
    split at p
    · rename_i j
      split at p
      · rename_i hj
        obtain ⟨v, r, e1, r1, r2⟩ := rx.inv
        rw [r2.invNil] at e1
        exact ⟨j, by rw [e1, RD_int r1], hj.1, hj.2, p.okk hh wk_range⟩
      · exact p.elim
    · exact p.elim
theorem i_range2 (hg : Gl X "range") (hm : X.mg "range" = none) (ha : PA X [a, b] (tA (gd X) W ma)) (hs : starEach [a, b] X.env = [(false, eval a X.env), (false, eval b X.env)] := by rfl) (hs2 : starEach [b] X.env = [(false, eval b X.env)] := by rfl) :
    PI X tg (.Call (.Name "range" p) [a, b] [] pos) (iM (gd X) W (rng2I ma)) :=
  PI_of (pi_range2 hg hm ha hs hs2) fun σ H Q q => by
    refine one q fun ρ e H h x vx s hh rx p => ?_
    try dsimp only at p
    split at p
    · rename_i i j
      split at p
      · rename_i hj
        obtain ⟨v, r, e1, r1, r2⟩ := rx.inv
        obtain ⟨v', r', e2, r3, r4⟩ := r2.inv
        rw [r4.invNil] at e2
        rw [e2] at e1
        exact ⟨i, j, by rw [e1, RD_int r1, RD_int r3], hj, p.okk hh wk_range⟩
      · exact p.elim
    · exact p.elim
end

/-! ### targets -/
abbrev GM := D → Env → MH → Option Env
def gnm (i : Nat) : GM := fun d e _ => some (e.set i (some d))
def asgAll : List GM → List D → Env → MH → Option Env
  | [], [], e, _ => some e
  | m :: ms, d :: ds, e, h => (m d e h).bind fun e1 => asgAll ms ds e1 h
  | _, _, _, _ => none
def gtp (ms : List GM) : GM := fun d e h => match d with
  | .tup ds => if ds.length = ms.length then asgAll ms ds e h else none
  | _ => none
/-- only the slots own have changed -/
def But (own : List Nat) (σ σ' : L2.St) : Prop := σ'.length = σ.length ∧ ∀ j, j ∉ own → σ'[j]? = σ[j]?
theorem But.trans {own : List Nat} {a b c : L2.St} (h : But own a b) (k : But own b c) : But own a c := ⟨k.1.trans h.1, fun j hj => (k.2 j hj).trans (h.2 j hj)⟩
theorem But.mono {own own' : List Nat} {a b : L2.St} (h : But own a b) (m : ∀ j ∈ own, j ∈ own') : But own' a b := ⟨h.1, fun j hj => h.2 j fun z => hj (m j z)⟩
def tGm (g : Gd) (own : List Nat) (m : GM) : TG := fun v σ H Q => ∃ ρ e h d e', RS g ρ H e σ ∧ RH g ρ H h ∧ RD g ρ H d v ∧ m d e h = some e' ∧ ∀ σ', RS g ρ H e' σ' → But own σ σ' → Q σ' H
def tGms (g : Gd) (own : List Nat) (ms : List GM) : TGs := fun vs σ H Q => ∃ ρ e h ds e', RS g ρ H e σ ∧ RH g ρ H h ∧ RDs g ρ H ds vs ∧ asgAll ms ds e h = some e' ∧ ∀ σ', RS g ρ H e' σ' → But own σ σ' → Q σ' H
section
variable {X : Cx} {pos : Pos} {own own2 : List Nat} {ms : List GM} {m : GM}
theorem PG_of {X : Cx} {e : Expr} {t t' : TG} (h : PG X e t) (i : ∀ v σ H Q, t' v σ H Q → t v σ H Q) : PG X e t' := ⟨fun pins s σ H v u Q I r q => h.run pins s σ H v u Q I r (i _ _ _ _ q)⟩
theorem PGs_of {X : Cx} {e : List Expr} {t t' : TGs} (h : PGs X e t) (i : ∀ v σ H Q, t' v σ H Q → t v σ H Q) : PGs X e t' := ⟨fun pins s σ H v u Q I r q => h.run pins s σ H v u Q I r (i _ _ _ _ q)⟩
theorem g_name (i : Nat) {x : Str} (hN : X.N.Nodup) (hi : X.N[i]? = some x) (hx : Loc X.env.scope x) (hf : X.fn x = true ∨ X.env.scope.names.lookup x = some .local := by first | exact .inl rfl | exact .inr rfl | assumption) : PG X (.Name x pos) (tGm (gd X) [i] (gnm i)) :=
  PG_of (pg_name hN hi hx hf) fun v σ H Q q => by
    obtain ⟨ρ, e, h, d, e', s, hh, r, em, k⟩ := q
    cases em
    exact k _ (s.set r i) ⟨by simp, fun j hj => by rw [List.getElem?_set_ne]; intro z; exact hj (by simp [z])⟩
theorem gs_nil : PGs X [] (tGms (gd X) [] []) := PGs_of pgs_nil fun vs σ H Q q => by
  obtain ⟨ρ, e, h, d, e', s, hh, r, em, k⟩ := q
  cases d with
  | nil =>
    cases em
    exact ⟨r.invNil, k σ s ⟨rfl, fun _ _ => rfl⟩⟩
  | cons d ds => cases em
theorem gs_cons {e : Expr} {es : List Expr} (h1 : PG X e (tGm (gd X) own m)) (h2 : PGs X es (tGms (gd X) own2 ms)) (hs : (assignEach (e :: es) X.env).map (·.2) = assign e X.env :: (assignEach es X.env).map (·.2) := by rfl) :
    PGs X (e :: es) (tGms (gd X) (own ++ own2) (m :: ms)) := PGs_of (pgs_cons h1 h2 hs) fun vs σ H Q q => by
  obtain ⟨ρ, e, h, ds, e', s, hh, r, em, k⟩ := q
  cases ds with
  | nil => cases em
  | cons d ds =>
    obtain ⟨v, vr, e1, r1, r2⟩ := r.inv
    unfold asgAll at em
    cases q1 : m d e h with
    | none => rw [q1] at em; cases em
    | some e2 =>
      rw [q1] at em
      exact ⟨v, vr, e1, ρ, e, h, d, e2, s, hh, r1, q1, fun σ2 s2 b2 => ⟨ρ, e2, h, ds, e', s2, hh, r2, em, fun σ3 s3 b3 => k σ3 s3 ((b2.mono fun j hj => List.mem_append_left _ hj).trans (b3.mono fun j hj => List.mem_append_right _ hj))⟩⟩
theorem g_tup {es : List Expr} {k n : Nat} (hc : X.calm = true) (h : PGs X es (tGms (gd X) own ms)) (hn : (assignEach es X.env).length = n := by rfl) (hst : (assignEach es X.env).findIdx? (·.1) = none := by rfl) (hl : ms.length = n := by rfl) :
    PG X (.Tuple es k pos) (tGm (gd X) own (gtp ms)) := PG_of (pg_tup hc h hn hst) fun v σ H Q q => by
  obtain ⟨ρ, e, h, d, e', s, hh, r, em, kk⟩ := q
  cases d <;> first | cases em | skip
  rename_i ds
  obtain ⟨a, vs, e1, sq, rs⟩ := RD_tup r
  unfold gtp at em
  dsimp only at em
  split at em
  · rename_i hds
    exact ⟨a, vs, e1, sq, by rw [← rs.length, hds, hl], ρ, e, h, ds, e', s, hh, rs, em, kk⟩
  · cases em
end

/-! ### for -/
def loopS (srcs : List (Nat × List D)) (tg : GM) (body : SM) : List D → Env → MH → S
  | [], e, h => if IT.ok h srcs = true then .nx e h else .bad
  | d :: r, e, h => if IT.ok h srcs = true then (match tg d e h with
    | some e1 => (match body e1 h with
      | .nx e2 h2 => loopS srcs tg body r e2 h2
      | .ct e2 h2 => loopS srcs tg body r e2 h2
      | .bk e2 h2 => .nx e2 h2
      | .rt x h2 => .rt x h2
      | .exc c fs e2 h2 => .exc c fs e2 h2
      | .bad => .bad)
    | none => .bad) else .bad
def forS (it : IM) (tg : GM) (body : SM) : SM := fun e h => match it e h with
  | .ok it h1 => loopS it.srcs tg body it.items e h1
  | .exc c fs h1 => .exc c fs e h1
  | .bad => .bad
def whileS (t : TM) (b : SM) : Nat → SM
  | 0 => fun _ _ => .bad
  | n + 1 => fun e h => ofT e (t e h) fun c h1 => if c then (match b e h1 with
    | .nx e2 h2 => whileS t b n e2 h2
    | .ct e2 h2 => whileS t b n e2 h2
    | .bk e2 h2 => .nx e2 h2
    | .rt x h2 => .rt x h2
    | .exc c fs e2 h2 => .exc c fs e2 h2
    | .bad => .bad) else .nx e h1
section
variable {X : Cx} {W : WX} {tg iter c : Expr} {body : List Stmt} {mi : IM} {mg : GM} {mb : SM} {own : List Nat} {pos : Pos} {mt : TM}
theorem loopS_ok {g : Gd} {ρ : List Addr} {H : Hp} {N : Ends} {srcs : List (Nat × List D)} {l : List D} {e : Env} {h : MH} (p : PostS g W ρ H (loopS srcs mg mb l e h) N) : IT.ok h srcs = true := by
  cases l with
  | nil =>
    unfold loopS at p
    split at p
    · assumption
    · exact p.elim
  | cons d r =>
    unfold loopS at p
    split at p
    · assumption
    · exact p.elim
theorem s_for (hp : PassesOwn (model X.prog X.w) X.A X.env X.xe) (hc : X.calm = true) (hi : PI X tg iter (iM (gd X) (pl W) mi)) (hg : PG X tg (tGm (gd X) own mg)) (hb : PSs X body (tS (gd X) W mb))
    (hs : ∀ x, foldedSetIterable iter X.env x = pure x := by intro _; rfl) : PS X (.For tg iter body [] pos) (tS (gd X) W (forS mi mg mb)) := PS_of (ps_for hp hc hi hg hb hs) fun N σ H q => by
  obtain ⟨ρ, e, h, s, hh, p⟩ := q
  refine ⟨ρ, e, h, s.x, hh, ?_⟩
  unfold forS at p
  revert p
  generalize mi e h = r
  intro p
  cases r with
  | bad => exact p.elim
  | exc c fs h1 => exact fun ρ1 H1 C dd gs l a => p ρ1 σ H1 C dd gs l a (l.rs s)
  | ok it h1 =>
    intro ρ1 J H1 l1 hh1 wk
    obtain ⟨G, Y, wlk, hG, hY⟩ := wk
    refine for_it wlk (fun i σ' H' => ∃ ρ2 e2 h2, Lat (gd X) ρ1 H1 ρ2 H' ∧ RS (gd X) ρ2 H' e2 σ' ∧ RH (gd X) ρ2 H' h2 ∧ PostS (gd X) W ρ2 H' (loopS it.srcs mg mb (it.items.drop i) e2 h2) N)
      ⟨ρ1, e, h1, Lat.refl, l1.rs s, hh1, PostS.later l1 p⟩ (fun i σ' H' _ ⟨ρ2, e2, h2, l2, s2, hh2, p2⟩ => hG ρ2 H' h2 l2 hh2 (loopS_ok p2)) ?_ ?_
    · rintro i x σ' H' H'' hi ⟨ρ2, e2, h2, l2, s2, hh2, p2⟩ y
      have ok := loopS_ok p2
      have ed : it.items.drop i = it.items[i] :: it.items.drop (i + 1) := List.drop_eq_getElem_cons hi
      obtain ⟨l3, hh3, rd⟩ := hY i H' x H'' ρ2 h2 _ l2 hh2 ok y (List.getElem?_eq_getElem hi)
      rw [ed] at p2
      unfold loopS at p2
      rw [if_pos ok] at p2
      cases q1 : mg it.items[i] e2 h2 with
      | none => rw [q1] at p2; exact p2.elim
      | some e3 =>
        rw [q1] at p2
        refine ⟨ρ2, e2, h2, _, e3, l3.rs s2, hh3, rd, q1, fun σ3 s3 _ => ⟨ρ2, e3, h2, s3, hh3, ?_⟩⟩
        have p3 := PostS.later l3 p2
        dsimp only at p3
        revert p3
        generalize mb e3 h2 = r
        intro p3
        cases r with
        | nx e4 h4 => exact fun ρ4 σ4 H4 l4 a b => ⟨ρ4, e4, h4, (l2.trans l3).trans l4, b, a, PostS.later l4 p3⟩
        | ct e4 h4 => exact fun ρ4 σ4 H4 l4 a b => ⟨ρ4, e4, h4, (l2.trans l3).trans l4, b, a, PostS.later l4 p3⟩
        | bk e4 h4 => exact p3
        | rt x h4 => exact p3
        | exc c fs e4 h4 => exact p3
        | bad => exact p3
    · rintro σ' H' ⟨ρ2, e2, h2, l2, s2, hh2, p2⟩
      have ok := loopS_ok p2
      rw [List.drop_length] at p2
      unfold loopS at p2
      rw [if_pos ok] at p2
      exact p2 ρ2 σ' H' Lat.refl hh2 s2
theorem s_while (n : Nat) (hp : PassesOwn (model X.prog X.w) X.A X.env X.xe) (hc : PT X c (tT (gd X) (pl W) mt)) (hb : PSs X body (tS (gd X) W mb)) : PS X (.While c body [] pos) (tS (gd X) W (whileS mt mb n)) := PS_of (ps_while hp hc hb) fun N σ H q => by
  refine ⟨fun m σ' H' => ∃ ρ e h, RS (gd X) ρ H' e σ' ∧ RH (gd X) ρ H' h ∧ PostS (gd X) W ρ H' (whileS mt mb m e h) N, ⟨n, q⟩, ?_⟩
  rintro m σ' H' ⟨ρ, e, h, s, hh, p⟩
  cases m with
  | zero => exact p.elim
  | succ m =>
    unfold whileS at p
    refine stT (f := fun e c h1 => if c then (match mb e h1 with
      | .nx e2 h2 => whileS mt mb m e2 h2
      | .ct e2 h2 => whileS mt mb m e2 h2
      | .bk e2 h2 => .nx e2 h2
      | .rt x h2 => .rt x h2
      | .exc c fs e2 h2 => .exc c fs e2 h2
      | .bad => .bad) else .nx e h1) ⟨ρ, e, h, s, hh, p⟩ fun ρ e H h x s hh p => ?_
    cases x with
    | false => exact p ρ σ' H Lat.refl hh s
    | true =>
      refine ⟨fun σ3 H3 => ∃ ρ e h, RS (gd X) ρ H3 e σ3 ∧ RH (gd X) ρ H3 h ∧ PostS (gd X) W ρ H3 (whileS mt mb m e h) N, fun σ3 H3 z => ⟨m, Nat.lt_succ_self m, z⟩, ρ, e, h, s, hh, ?_⟩
      try dsimp only at p
      rw [if_pos rfl] at p
      revert p
      generalize mb e h = r
      intro p
      cases r with
      | nx e4 h4 => exact fun ρ4 σ4 H4 l4 a b => ⟨ρ4, e4, h4, b, a, PostS.later l4 p⟩
      | ct e4 h4 => exact fun ρ4 σ4 H4 l4 a b => ⟨ρ4, e4, h4, b, a, PostS.later l4 p⟩
      | bk e4 h4 => exact p
      | rt x h4 => exact p
      | exc c fs e4 h4 => exact p
      | bad => exact p
end
end ML

/-! ML 4: comprehensions, several targets at once, items stored, raise and try -/
namespace ML
open PySem PySem.Spec PyProof.Rows L2

/-! ### comprehensions -/
def wipeM (e : Env) : List Nat → Env
  | [] => e
  | v :: vs => (wipeM e vs).set v none
theorem wipeM_length (e : Env) : ∀ vs, (wipeM e vs).length = e.length
  | [] => rfl
  | v :: vs => by unfold wipeM; rw [List.length_set, wipeM_length e vs]
theorem wipeM_get {e : Env} : ∀ {vs : List Nat} {i : Nat} {d : D}, (wipeM e vs)[i]? = some (some d) → i ∉ vs ∧ e[i]? = some (some d)
  | [], i, d, h => ⟨by simp, h⟩
  | v :: vs, i, d, h => by
    unfold wipeM at h
    by_cases hi : v = i
    · subst hi
      by_cases hv : v < (wipeM e vs).length
      · rw [List.getElem?_set_self hv] at h; cases h
      · rw [List.getElem?_eq_none (by simpa using hv)] at h; cases h
    · rw [List.getElem?_set_ne hi] at h
      obtain ⟨h1, h2⟩ := wipeM_get h
      exact ⟨by simp only [List.mem_cons, not_or]; exact ⟨fun e => hi e.symm, h1⟩, h2⟩
theorem wipe_in {σ : L2.St} {i : Nat} : ∀ {vs : List Nat}, i ∈ vs → i < σ.length → (wipe σ vs)[i]? = some none
  | v :: vs, h, hl => by
    unfold wipe
    by_cases hi : v = i
    · subst hi
      exact List.getElem?_set_self (by rw [wipe_length]; exact hl)
    · rw [List.getElem?_set_ne hi]
      rcases List.mem_cons.mp h with e | e
      · exact absurd e.symm hi
      · exact wipe_in e hl
theorem wipe_but {σ σ2 : L2.St} {vs : List Nat} (b : But vs (wipe σ vs) σ2) : wipe σ2 vs = wipe σ vs := by
  obtain ⟨hl, hb⟩ := b
  rw [wipe_length] at hl
  apply List.ext_getElem?
  intro i
  by_cases hi : i ∈ vs
  · by_cases hs : i < σ.length
    · rw [wipe_in hi hs, wipe_in hi (by rw [hl]; exact hs)]
    · rw [List.getElem?_eq_none (by rw [wipe_length, hl]; omega), List.getElem?_eq_none (by rw [wipe_length]; omega)]
  · rw [wipe_out hi, hb i hi]
theorem RS.wipe {g : Gd} {ρ : List Addr} {H : Hp} {e : Env} {σ : L2.St} (s : RS g ρ H e σ) (vs : List Nat) : RS g ρ H (wipeM e vs) (L2.wipe σ vs) :=
  ⟨by rw [wipeM_length, wipe_length, s.len], fun i d h => by
    obtain ⟨h1, h2⟩ := wipeM_get h
    obtain ⟨v, e1, r⟩ := s.get i d h2
    exact ⟨v, by rw [wipe_out h1]; exact e1, r⟩⟩
def lcLoop (srcs : List (Nat × List D)) (tg : GM) (tst : TM) (elt : EM) (n : Nat) (e0 : Env) : List D → MH → R D
  | [], h => if IT.ok h srcs = true then .ok (.ref n) h else .bad
  | d :: r, h => if IT.ok h srcs = true then (match tg d e0 h with
    | some e1 => (match tst e1 h with
      | .ok true h2 => (match elt e1 h2 with
        | .ok y h3 => (match h3[n]? with
          | some (.lst acc) => if acc.length < 1000000 then lcLoop srcs tg tst elt n e0 r (h3.set n (.lst (acc ++ [y]))) else .bad
          | _ => .bad)
        | _ => .bad)
      | .ok false h2 => lcLoop srcs tg tst elt n e0 r h2
      | _ => .bad)
    | none => .bad) else .bad
def lcE (own : List Nat) (it : IM) (tg : GM) (tst : TM) (elt : EM) : EM := fun e h => (it e h).bind fun it h1 => lcLoop it.srcs tg tst elt h1.length (wipeM e own) it.items (h1 ++ [.lst []])
def yesT : TM := fun _ h => .ok true h
section
variable {X : Cx} {W : Wx} {tg iter elt : Expr} {ifs : List Expr} {scope : Scope} {own : List (Str × Nat)} {pos : Pos} {mi : IM} {mg : GM} {mt : TM} {me : EM}
theorem PTs_of {X : Cx} {e : List Expr} {t t' : TT} (h : PTs X e t) (i : ∀ σ H Q, t' σ H Q → t σ H Q) : PTs X e t' := ⟨fun pins s σ H Q I q => h.run pins s σ H Q I (i _ _ _ q)⟩
theorem ts_nil : PTs X [] (tT (gd X) W yesT) := PTs_of pts_nil fun σ H Q q => by
  obtain ⟨ρ, e, h, s, hh, p⟩ := q
  exact p.okk hh rfl
theorem ts_one {c : Expr} (h : PT X c (tT (gd X) W mt)) : PTs X [c] (tT (gd X) W mt) := pts_one h
theorem lc_ok {g : Gd} {ρ : List Addr} {H : Hp} {Wf : XK} {Q : VK} {srcs : List (Nat × List D)} {l : List D} {n : Nat} {e : Env} {h : MH} (p : Post g (RD g) Wf ρ H (lcLoop srcs mg mt me n e l h) Q) : IT.ok h srcs = true := by
  cases l with
  | nil =>
    unfold lcLoop at p
    split at p
    · assumption
    · exact p.elim
  | cons d r =>
    unfold lcLoop at p
    split at p
    · assumption
    · exact p.elim
theorem lc_read (hg : ∀ (s : Shared) (H : Hp) (C : Addr) (cl : List (Str × Addr)) (fp : List Addr), True) {σ : L2.St} {H : Hp} {Q : VK} (q : tE (gd X) W (lcE (own.map (·.2)) mi mg mt me) σ H Q) :
    tLc (iM (gd X) W mi) (tGm (gd X) (own.map (·.2)) mg) (tT (gd X) (pl noW) mt) (tE (gd X) (pl noW) me) (own.map (·.2)) σ H Q := by
  refine one q fun ρ e H h it J s hh wk p => ?_
  intro Dd hD
  generalize hvs : own.map (·.2) = vs at p ⊢
  obtain ⟨G, Y, wlk, hG, hY⟩ := wk
  obtain ⟨l1, hh1, rD⟩ := hh.newLst hD (l := []) (vs := []) .nil
  have s1 : RS (gd X) (ρ ++ [Dd]) (L2.upd H Dd (.lst [])) (wipeM e vs) (L2.wipe σ vs) := (l1.rs s.s).wipe vs
  have rD' : (ρ ++ [Dd])[h.length]? = some Dd := by
    obtain ⟨a, e1, e2⟩ := RD_ref rD
    cases e2
    exact e1
  refine lc_it wlk (fun i H' => ∃ ρ2 h2, Lat (gd X) (ρ ++ [Dd]) (L2.upd H Dd (.lst [])) ρ2 H' ∧ RH (gd X) ρ2 H' h2 ∧ Post (gd X) (RD (gd X)) (fun c d H' => W.W c d σ H') ρ2 H' (lcLoop it.srcs mg mt me h.length (wipeM e vs) (it.items.drop i) h2) Q)
    ⟨_, _, Lat.refl, hh1, Post.later l1 p⟩ (fun i H' _ ⟨ρ2, h2, l2, hh2, p2⟩ => hG ρ2 H' h2 (l1.trans l2) hh2 (lc_ok p2)) ?_ ?_
  · rintro i x H' H'' hi ⟨ρ2, h2, l2, hh2, p2⟩ y
    have ok := lc_ok p2
    have ed : it.items.drop i = it.items[i] :: it.items.drop (i + 1) := List.drop_eq_getElem_cons hi
    obtain ⟨l3, hh3, rd⟩ := hY i H' x H'' ρ2 h2 _ (l1.trans l2) hh2 ok y (List.getElem?_eq_getElem hi)
    rw [ed] at p2
    unfold lcLoop at p2
    rw [if_pos ok] at p2
    cases q1 : mg it.items[i] (wipeM e vs) h2 with
    | none => rw [q1] at p2; exact p2.elim
    | some e3 =>
      rw [q1] at p2
      refine ⟨ρ2, _, h2, _, e3, (l2.trans l3).rs s1, hh3, rd, q1, fun σ3 s3 b3 => ⟨wipe_but b3, ?_⟩⟩
      have p3 := Post.later l3 p2
      dsimp only at p3
      refine ⟨ρ2, e3, h2, s3.x, hh3, ?_⟩
      revert p3
      generalize mt e3 h2 = r
      intro p3
      cases r with
      | bad => exact p3.elim
      | exc c fs h4 => exact p3.elim
      | ok b h4 =>
        intro ρ4 b' H4 l4 hh4 eb
        cases eb
        cases b with
        | false =>
          rw [if_neg (by decide)]
          exact ⟨ρ4, h4, (l2.trans l3).trans l4, hh4, Post.later l4 p3⟩
        | true =>
          rw [if_pos rfl]
          have p4 := Post.later l4 p3
          dsimp only at p4
          refine ⟨ρ4, e3, h4, (l4.rs s3).x, hh4, ?_⟩
          revert p4
          generalize me e3 h4 = r
          intro p4
          cases r with
          | bad => exact p4.elim
          | exc c fs h5 => exact p4.elim
          | ok y h5 =>
            intro ρ5 vy H5 l5 hh5 ry
            have p5 := Post.later l5 p4
            dsimp only at p5
            have lf := ((l2.trans l3).trans l4).trans l5
            split at p5
            · rename_i acc hacc
              split at p5
              · rename_i hlen
                have ea := lf.at rD'
                obtain ⟨ws, e6, r6⟩ := hh5.obj _ _ Dd hacc ea
                refine ⟨ws, e6, Nat.lt_of_lt_of_le (by rw [← r6.length]; exact hlen) (big_le (Nat.le_refl _)), ?_⟩
                have l6 := Lat.upd (g := gd X) (ρ := ρ5) (u := .lst (ws ++ [vy])) (Soft.lst e6)
                have hh6 := hh5.set (u := .lst (ws ++ [vy])) (o' := .lst (acc ++ [y])) hacc ea rfl rfl (Soft.lst e6) ⟨_, upd_same, l6.rds _ (r6.append (.one ry))⟩
                exact ⟨ρ5, _, lf.trans l6, hh6, Post.later l6 p5⟩
              · exact p5.elim
            · exact p5.elim
  · rintro H' ⟨ρ2, h2, l2, hh2, p2⟩
    have ok := lc_ok p2
    rw [List.drop_length] at p2
    unfold lcLoop at p2
    rw [if_pos ok] at p2
    exact p2.okk hh2 (l2.rd (.ref h.length) rD)
theorem e_lc (hc : X.calm = true) (hN : X.N.Nodup) (hi : PI X tg iter (iM (gd X) W mi)) (ok : BlkOk X.N X.env.scope scope own)
    (hg : ∀ (s : Shared) (H : Hp) (C : Addr) (cl : List (Str × Addr)) (fp : List Addr), PG (X.blk s H scope (compEnvC scope cl C X.env) fp) tg (tGm (gd X) (own.map (·.2)) mg))
    (ht : ∀ (s : Shared) (H : Hp) (C : Addr) (cl : List (Str × Addr)) (fp : List Addr), PTs (X.blk s H scope (compEnvC scope cl C X.env) fp) ifs (tT (gd X) (pl noW) mt))
    (he : ∀ (s : Shared) (H : Hp) (C : Addr) (cl : List (Str × Addr)) (fp : List Addr), PE (X.blk s H scope (compEnvC scope cl C X.env) fp) elt (tE (gd X) (pl noW) me)) (hs : ∀ x, foldedSetIterable iter X.env x = pure x := by intro _; rfl) :
    PE X (.ListComp elt [⟨tg, iter, ifs, 0⟩] scope pos) (tE (gd X) W (lcE (own.map (·.2)) mi mg mt me)) :=
  PE_of (pe_lc hc hN hi ok hg ht he hs) fun σ H Q q => lc_read (fun _ _ _ _ _ => True.intro) q
end
section
variable {X : Cx} {W : WX} {tg iter elt : Expr} {ifs : List Expr} {scope : Scope} {own : List (Str × Nat)} {pos : Pos} {mi : IM} {mg : GM} {mt : TM} {me : EM}
theorem s_setLc (i : Nat) {y : Str} {py spos : Pos} (hc : X.calm = true) (hN : X.N.Nodup) (hy : X.N[i]? = some y) (hyl : X.env.scope.names.lookup y = some .local)
    (hsw : swapsWith (.ListComp elt [⟨tg, iter, ifs, 0⟩] scope pos) (some (.Name y py)) spos.line X.env = pure true) (hi : PI X tg iter (iM (gd X) (pl W) mi)) (ok : BlkOk X.N X.env.scope scope own)
    (hg : ∀ (s : Shared) (H : Hp) (C : Addr) (cl : List (Str × Addr)) (fp : List Addr), PG (X.blk s H scope (compEnvC scope cl C X.env) fp) tg (tGm (gd X) (own.map (·.2)) mg))
    (ht : ∀ (s : Shared) (H : Hp) (C : Addr) (cl : List (Str × Addr)) (fp : List Addr), PTs (X.blk s H scope (compEnvC scope cl C X.env) fp) ifs (tT (gd X) (pl noW) mt))
    (he : ∀ (s : Shared) (H : Hp) (C : Addr) (cl : List (Str × Addr)) (fp : List Addr), PE (X.blk s H scope (compEnvC scope cl C X.env) fp) elt (tE (gd X) (pl noW) me)) (hs : ∀ x, foldedSetIterable iter X.env x = pure x := by intro _; rfl) :
    PS X (.Assign [.Name y py] (.ListComp elt [⟨tg, iter, ifs, 0⟩] scope pos) spos) (tS (gd X) W (setS i (lcE (own.map (·.2)) mi mg mt me))) :=
  PS_of (ps_setLc hc hN hy hyl hsw hi ok hg ht he hs) fun N σ H q =>
    lc_read (Q := fun x H1 => gName i x σ H1 N.nx) (fun _ _ _ _ _ => True.intro) (stE q fun ρ e H h d v s hh r p => p ρ _ H Lat.refl hh (s.set r i))
end

/-! ### several names at once: a, b = x, y -/
def ofA (e : Env) (r : R (List D)) (k : List D → MH → S) : S := match r with
  | .ok d h => k d h
  | .exc c fs h => .exc c fs e h
  | .bad => .bad
def setAll : List Nat → List D → Env → Env
  | i :: is, d :: ds, e => setAll is ds (e.set i (some d))
  | _, _, e => e
def parS (is : List Nat) (a : AM) : SM := fun e h => ofA e (a e h) fun ds h1 => if ds.length = is.length then .nx (setAll is ds e) h1 else .bad
theorem stA {g : Gd} {W : WX} {ma : AM} {σ : L2.St} {H : Hp} {N : Ends} {f : Env → List D → MH → S} {k : List V → Hp → Prop} (q : tS g W (fun e h => ofA e (ma e h) (f e)) N σ H)
    (hk : ∀ ρ e H h x vx, RS g ρ H e σ → RH g ρ H h → RDs g ρ H x vx → PostS g W ρ H (f e x h) N → k vx H) : tA g (pl W) ma σ H k := by
  obtain ⟨ρ, e, h, s, hh, p⟩ := q
  refine ⟨ρ, e, h, s.x, hh, ?_⟩
  have p : PostS g W ρ H (ofA e (ma e h) (f e)) N := p
  revert p
  generalize ma e h = r
  intro p
  cases r with
  | ok d h1 => exact fun ρ1 v H1 l a b => hk ρ1 e H1 h1 d v (l.rs s) a b (PostS.later l p)
  | exc c fs h1 => exact fun ρ1 H1 C dd gs l a => p ρ1 σ H1 C dd gs l a (l.rs s)
  | bad => exact p.elim
section
variable {X : Cx} {W : WX} {ma : AM} {pos : Pos}
theorem s_par2 (i j : Nat) {x y : Str} {a b : Expr} {px py pt : Pos} {kt k2 pt2} (hc : X.calm = true) (hN : X.N.Nodup) (hi : X.N[i]? = some x) (hj : X.N[j]? = some y) (hij : i ≠ j)
    (hx : X.env.scope.names.lookup x = some .local) (hy : X.env.scope.names.lookup y = some .local) (ha : PA X [a, b] (tA (gd X) (pl W) ma))
    (hw : swappedStores [.Tuple [.Name x px, .Name y py] kt pt] (.Tuple [a, b] k2 pt2) X.env = pure (some [x, y]))
    (hs : swapsWithSole [.Tuple [.Name x px, .Name y py] kt pt] (.Tuple [a, b] k2 pt2) pos.line X.env = pure false := by rfl) :
    PS X (.Assign [.Tuple [.Name x px, .Name y py] kt pt] (.Tuple [a, b] k2 pt2) pos) (tS (gd X) W (parS [i, j] ma)) :=
  PS_of (ps_par hc hN hi hj hij hx hy ha hw hs) fun N σ H q => stA q fun ρ e H h ds vs s hh r p => by
    match ds, r, p with
    | [d1, d2], r, p =>
      obtain ⟨v, r1, e1, q1, q2⟩ := r.inv
      obtain ⟨w, r2, e2, q3, q4⟩ := q2.inv
      rw [q4.invNil] at e2
      rw [e2] at e1
      exact ⟨v, w, e1, p ρ _ H Lat.refl hh ((s.set q1 i).set q3 j)⟩
    | [], r, p => exact p.elim
    | [_], r, p => exact p.elim
    | _ :: _ :: _ :: _, r, p =>
      rw [if_neg (by simp)] at p
      exact p.elim
end
end ML

/-! ML 5: ==, !=, in, not in -/
namespace ML
open PySem PySem.Spec PyProof.Rows L2

def isScal : D → Bool
  | .non => true
  | .bl _ => true
  | .int _ => true
  | .str _ => true
  | _ => false
def scalEq : D → D → Bool
  | .non, .non => true
  | .bl a, .bl b => a == b
  | .int a, .int b => a == b
  | .str a, .str b => a == b
  | .bl a, .int b => (if a then 1 else 0) == b
  | .int a, .bl b => a == (if b then 1 else 0)
  | _, _ => false
/-- (is it a tuple, its items) -/
def seqOf (h : MH) : D → Option (Bool × List D)
  | .tup l => some (true, l)
  | .ref n => (match h[n]? with
    | some (.lst l) => some (false, l)
    | some (.rdl l) => some (false, l)
    | _ => none)
  | _ => none
def eqZ (f : D → D → Option Bool) : List D → List D → Option Bool
  | x :: l, y :: m => (match f x y with
    | some a => (match eqZ f l m with
      | some b => some (a && b)
      | none => none)
    | none => none)
  | _, _ => some true
/-- two lists, or two tuples -/
def eqSeq (f : D → D → Option Bool) (k : Bool) (l m : List D) : Option Bool :=
  if k = false ∧ l.length ≠ m.length then some false else (match eqZ f l m with
    | some b => some (b && (l.length == m.length))
    | none => none)
def eqTop (h : MH) (f : D → D → Option Bool) (x y : D) : Option Bool :=
  match isScal x, isScal y with
  | true, true => some (scalEq x y)
  | true, false => (match seqOf h y with | some _ => some false | none => none)
  | false, true => (match seqOf h x with | some _ => some false | none => none)
  | false, false => (match seqOf h x, seqOf h y with
    | some (k, l), some (k', m) => if k = k' then eqSeq f k l m else some false
    | _, _ => none)
def idRef : D → D → Bool
  | .ref a, .ref b => decide (a = b)
  | _, _ => false
def eqv (h : MH) : Nat → D → D → Option Bool
  | 0, _, _ => none
  | n + 1, x, y => if idRef x y = true then some true else eqTop h (eqv h n) x y

theorem eqZ_map {f : D → D → Option Bool} : ∀ {l m : List D} {b : Bool}, eqZ f l m = some b → ∃ e : Nat → Bool, (∀ (j : Nat) x y, l[j]? = some x → m[j]? = some y → f x y = some (e j)) ∧ b = (List.range (min l.length m.length)).all e
  | [], m, b, h => ⟨fun _ => true, fun j x y h1 => by simp at h1, by unfold eqZ at h; cases h; simp⟩
  | x :: l, [], b, h => ⟨fun _ => true, fun j x y _ h1 => by simp at h1, by unfold eqZ at h; cases h; simp⟩
  | x :: l, y :: m, b, h => by
    unfold eqZ at h
    cases q : f x y with
    | none => rw [q] at h; cases h
    | some a =>
      rw [q] at h
      dsimp only at h
      cases q2 : eqZ f l m with
      | none => rw [q2] at h; cases h
      | some c =>
        rw [q2] at h
        cases h
        obtain ⟨e, h1, h2⟩ := eqZ_map q2
        refine ⟨fun j => match j with | 0 => a | j + 1 => e j, fun j x' y' e1 e2 => ?_, ?_⟩
        · cases j with
          | zero =>
            simp at e1 e2
            subst e1 e2
            exact q
          | succ j => exact h1 j x' y' (by simpa using e1) (by simpa using e2)
        · rw [List.length_cons, List.length_cons, show min (l.length + 1) (m.length + 1) = min l.length m.length + 1 by omega, List.range_succ_eq_map, List.all_cons, List.all_map, h2]
          rfl

section
variable {X : Cx} {pins : List (Addr × Obj)} {σ : L2.St} {H : Hp} {s : Shared} {ρ : List Addr} {h : MH}
theorem scal_v {g : Gd} {x : D} {v : V} (r : RD g ρ H x v) (hx : isScal x = true) : (x = .non ∧ v = .non) ∨ (∃ b, x = .bl b ∧ v = .bl b) ∨ (∃ b, x = .int b ∧ v = .int b) ∨ ∃ b, x = .str b ∧ v = .str b := by
  cases x <;> first | (cases hx; done) | skip
  · unfold RD at r; exact .inl ⟨rfl, r⟩
  · unfold RD at r; exact .inr (.inl ⟨_, rfl, r⟩)
  · unfold RD at r; exact .inr (.inr (.inl ⟨_, rfl, r⟩))
  · unfold RD at r; exact .inr (.inr (.inr ⟨_, rfl, r⟩))
/-- a list or a tuple of the mirror, in the heap -/
theorem seq_v (hh : RH (gd X) ρ H h) {x : D} {v : V} {k : Bool} {l : List D} (r : RD (gd X) ρ H x v) (e : seqOf h x = some (k, l)) : ∃ a vs, v = .ref a ∧ RDs (gd X) ρ H l vs ∧ ((k = true ∧ SqT X.K H a vs) ∨ (k = false ∧ SqL X.K H a vs)) := by
  cases x <;> first | (cases e; done) | skip
  · cases e
    obtain ⟨a, vs, e1, sq, rs⟩ := RD_tup r
    exact ⟨a, vs, e1, rs, .inl ⟨rfl, sq⟩⟩
  · rename_i n
    obtain ⟨a, e1, e2⟩ := RD_ref r
    unfold seqOf at e
    dsimp only at e
    split at e
    · rename_i l hl
      cases e
      obtain ⟨vs, e3, rs⟩ := hh.obj n _ a hl e1
      exact ⟨a, vs, e2, rs, .inr ⟨rfl, .of e3⟩⟩
    · rename_i l hl
      cases e
      obtain ⟨vs, e3, rs⟩ := hh.obj n _ a hl e1
      exact ⟨a, vs, e2, rs, .inr ⟨rfl, e3.sq⟩⟩
    · cases e
theorem not_both (I : Inv X pins σ H s) {a : Addr} {vs ws : List V} (h1 : SqT X.K H a vs) (h2 : SqL X.K H a ws) : False := by
  obtain ⟨its, _, p, _⟩ := I.tuple h1
  obtain ⟨its', _, q, _⟩ := I.list h2
  obtain ⟨o, e, c, _⟩ := p
  obtain ⟨o', n, e', c', _⟩ := q
  rw [e] at e'
  cases e'
  rw [c] at c'
  injection c' with z
  exact absurd z (by decide)
theorem seq_inj (I : Inv X pins σ H s) {a : Addr} {k k' : Bool} {vs ws : List V} (h1 : (k = true ∧ SqT X.K H a vs) ∨ (k = false ∧ SqL X.K H a vs)) (h2 : (k' = true ∧ SqT X.K H a ws) ∨ (k' = false ∧ SqL X.K H a ws)) : k = k' ∧ vs = ws := by
  rcases h1 with ⟨e1, h1⟩ | ⟨e1, h1⟩ <;> rcases h2 with ⟨e2, h2⟩ | ⟨e2, h2⟩
  · exact ⟨by rw [e1, e2], I.tuple_inj h1 h2⟩
  · exact (not_both I h1 h2).elim
  · exact (not_both I h2 h1).elim
  · exact ⟨by rw [e1, e2], I.list_inj h1 h2⟩
theorem eqZ_all {f : D → D → Option Bool} (hf : ∀ x y v b, RD (gd X) ρ H x v → RD (gd X) ρ H y v → f x y = some b → b = true) : ∀ {l m : List D} {vs : List V} {b : Bool}, RDs (gd X) ρ H l vs → RDs (gd X) ρ H m vs → eqZ f l m = some b → b = true
  | [], m, vs, b, h1, h2, e => by unfold eqZ at e; cases e; rfl
  | x :: l, [], vs, b, h1, h2, e => by unfold eqZ at e; cases e; rfl
  | x :: l, y :: m, vs, b, h1, h2, e => by
    obtain ⟨v, r, e1, q1, q2⟩ := h1.inv
    obtain ⟨w, r', e2, q3, q4⟩ := h2.inv
    subst e1
    cases e2
    unfold eqZ at e
    cases z : f x y with
    | none => rw [z] at e; cases e
    | some a =>
      rw [z] at e
      dsimp only at e
      cases z2 : eqZ f l m with
      | none => rw [z2] at e; cases e
      | some c =>
        rw [z2] at e
        cases e
        rw [hf x y v a q1 q3 z, eqZ_all hf q2 q4 z2]
        rfl
theorem eqTop_same (I : Inv X pins σ H s) (hh : RH (gd X) ρ H h) {f : D → D → Option Bool} (hf : ∀ x y v b, RD (gd X) ρ H x v → RD (gd X) ρ H y v → f x y = some b → b = true) {x y : D} {v : V} {b : Bool}
    (rx : RD (gd X) ρ H x v) (ry : RD (gd X) ρ H y v) (e : eqTop h f x y = some b) : b = true := by
  unfold eqTop at e
  cases sx : isScal x <;> cases sy : isScal y <;> rw [sx, sy] at e <;> dsimp only at e
  · cases qx : seqOf h x with
    | none => rw [qx] at e; cases e
    | some p =>
      cases qy : seqOf h y with
      | none => rw [qx, qy] at e; cases e
      | some p' =>
        obtain ⟨k, l⟩ := p
        obtain ⟨k', m⟩ := p'
        rw [qx, qy] at e
        dsimp only at e
        obtain ⟨a, vs, e1, r1, c1⟩ := seq_v hh rx qx
        obtain ⟨a', vs', e2, r2, c2⟩ := seq_v hh ry qy
        rw [e1] at e2
        cases e2
        obtain ⟨ek, ev⟩ := seq_inj I c1 c2
        subst ek ev
        rw [if_pos rfl] at e
        unfold eqSeq at e
        have hl : l.length = m.length := by rw [r1.length, r2.length]
        rw [if_neg (fun z => z.2 hl)] at e
        cases z : eqZ f l m with
        | none => rw [z] at e; cases e
        | some c =>
          rw [z] at e
          cases e
          rw [eqZ_all hf r1 r2 z, hl]
          simp
  · rcases scal_v ry sy with ⟨_, e2⟩ | ⟨_, _, e2⟩ | ⟨_, _, e2⟩ | ⟨_, _, e2⟩ <;> (subst e2; cases qx : seqOf h x with
      | none => rw [qx] at e; cases e
      | some p => obtain ⟨a, vs, e1, _⟩ := seq_v hh rx qx; cases e1)
  · rcases scal_v rx sx with ⟨_, e2⟩ | ⟨_, _, e2⟩ | ⟨_, _, e2⟩ | ⟨_, _, e2⟩ <;> (subst e2; cases qx : seqOf h y with
      | none => rw [qx] at e; cases e
      | some p => obtain ⟨a, vs, e1, _⟩ := seq_v hh ry qx; cases e1)
  · rcases scal_v rx sx with ⟨e1, e2⟩ | ⟨_, e1, e2⟩ | ⟨_, e1, e2⟩ | ⟨_, e1, e2⟩ <;> rcases scal_v ry sy with ⟨e3, e4⟩ | ⟨_, e3, e4⟩ | ⟨_, e3, e4⟩ | ⟨_, e3, e4⟩ <;> subst e1 e2 e3 <;> cases e4 <;> cases e <;> simp [scalEq]
theorem eqv_same (I : Inv X pins σ H s) (hh : RH (gd X) ρ H h) : ∀ (n : Nat) (x y : D) (v : V) (b : Bool), RD (gd X) ρ H x v → RD (gd X) ρ H y v → eqv h n x y = some b → b = true
  | 0, _, _, _, _, _, _, e => by cases e
  | n + 1, x, y, v, b, rx, ry, e => by
    unfold eqv at e
    split at e
    · cases e; rfl
    · exact eqTop_same I hh (eqv_same I hh n) rx ry e
theorem idRef_eq {x y : D} (e : idRef x y = true) : x = y := by
  cases x <;> cases y <;> first | (cases e; done) | skip
  unfold idRef at e
  rw [of_decide_eq_true e]
theorem vals_at {its : List Value} {vs : List V} (r : Vals vs its) {l : List D} {g : Gd} (q : RDs g ρ H l vs) {j : Nat} (hj : j < its.length) : ∃ x v, l[j]? = some x ∧ RD g ρ H x v ∧ RelV v its[j] := by
  have hj' : j < vs.length := by rw [r.length]; exact hj
  obtain ⟨x, e1, r1⟩ := RDs.get' q (List.getElem?_eq_getElem hj')
  obtain ⟨u, e2, r2⟩ := r.get (List.getElem?_eq_getElem hj')
  rw [List.getElem?_eq_getElem hj] at e2
  cases e2
  exact ⟨x, _, e1, r1, r2⟩
theorem all_congr {n m : Nat} {e : Nat → Bool} (h : n = m) : (List.range n).all e = (List.range m).all e := by rw [h]
/-- what the items answer gives what the sequences answer -/
theorem eqv_at (I : Inv X pins σ H s) (hh : RH (gd X) ρ H h) : ∀ (n : Nat) (A : Around) (x y : D) (v w : V) (u t : Value) (b : Bool), A.units + n < cLine → RD (gd X) ρ H x v → RD (gd X) ρ H y w → RelV v u → RelV w t → eqv h n x y = some b → SeqAt.EqAt A s u t b
  | 0, _, _, _, _, _, _, _, _, _, _, _, _, _, e => by cases e
  | n + 1, A, x, y, v, w, u, t, b, hu, rx, ry, ru, rt, e => by
    have hu0 : A.units < cLine := by omega
    have hu1 : A.in1.units + n < cLine := by show A.units + 1 + n < cLine; omega
    have e0 := e
    unfold eqv at e
    split at e
    · rename_i hi
      cases e
      have := idRef_eq hi
      subst this
      cases x <;> first | (cases hi; done) | skip
      obtain ⟨a, e1, e2⟩ := RD_ref rx
      obtain ⟨a', e3, e4⟩ := RD_ref ry
      rw [e1] at e3
      cases e3
      subst e2 e4
      cases ru
      cases rt
      exact SeqAt.EqAt.same _
    · unfold eqTop at e
      cases sx : isScal x <;> cases sy : isScal y <;> rw [sx, sy] at e <;> dsimp only at e
      · cases qx : seqOf h x with
        | none => rw [qx] at e; cases e
        | some p =>
          cases qy : seqOf h y with
          | none => rw [qx, qy] at e; cases e
          | some p' =>
            obtain ⟨k, l⟩ := p
            obtain ⟨k', m⟩ := p'
            rw [qx, qy] at e
            dsimp only at e
            obtain ⟨a, vs, e1, r1, c1⟩ := seq_v hh rx qx
            obtain ⟨a', vs', e2, r2, c2⟩ := seq_v hh ry qy
            subst e1 e2
            cases ru
            cases rt
            by_cases haa : a = a'
            · subst haa
              rw [eqv_same I hh (n + 1) x y (.ref a) b rx ry e0]
              exact SeqAt.EqAt.same _
            · rcases c1 with ⟨k1, c1⟩ | ⟨k1, c1⟩ <;> rcases c2 with ⟨k2, c2⟩ | ⟨k2, c2⟩ <;> subst k1 k2
              · rw [if_pos rfl] at e
                unfold eqSeq at e
                rw [if_neg (fun z => by cases z.1)] at e
                obtain ⟨its, rv, p, _⟩ := I.tuple c1
                obtain ⟨its', rv', p', _⟩ := I.tuple c2
                cases z : eqZ (eqv h n) l m with
                | none => rw [z] at e; cases e
                | some c =>
                  rw [z] at e
                  cases e
                  obtain ⟨ee, z1, z2⟩ := eqZ_map z
                  have q := SeqAt.RcAt.tuples (e := ee) p p' hu0 fun j h1 h2 => by
                    have h1' : j < its.length := by simpa using h1
                    have h2' : j < its'.length := by simpa using h2
                    obtain ⟨x1, v1, f1, f2, f3⟩ := vals_at rv r1 h1'
                    obtain ⟨y1, w1, g1, g2, g3⟩ := vals_at rv' r2 h2'
                    have := eqv_at I hh n A.in1 x1 y1 v1 w1 _ _ _ hu1 f2 g2 f3 g3 (z1 j x1 y1 f1 g1)
                    simpa using this
                  refine SeqAt.EqAt.of_refs haa ?_
                  have n1 : its.toArray.size = l.length := by rw [List.size_toArray, ← rv.length, r1.length]
                  have n2 : its'.toArray.size = m.length := by rw [List.size_toArray, ← rv'.length, r2.length]
                  rw [n1, n2] at q
                  rw [z2]
                  exact q
              · rw [if_neg (by decide)] at e
                cases e
                obtain ⟨its, rv, p, _⟩ := I.tuple c1
                obtain ⟨its', rv', p', _⟩ := I.list c2
                exact SeqAt.EqAt.tuple_list p p'.isList hu0
              · rw [if_neg (by decide)] at e
                cases e
                obtain ⟨its, rv, p, _⟩ := I.list c1
                obtain ⟨its', rv', p', _⟩ := I.tuple c2
                exact SeqAt.EqAt.list_tuple p.isList p' hu0
              · rw [if_pos rfl] at e
                unfold eqSeq at e
                obtain ⟨its, rv, p, _⟩ := I.list c1
                obtain ⟨its', rv', p', _⟩ := I.list c2
                have n1 : its.toArray.size = l.length := by rw [List.size_toArray, ← rv.length, r1.length]
                have n2 : its'.toArray.size = m.length := by rw [List.size_toArray, ← rv'.length, r2.length]
                by_cases hl : l.length = m.length
                · rw [if_neg (fun z => z.2 hl)] at e
                  cases z : eqZ (eqv h n) l m with
                  | none => rw [z] at e; cases e
                  | some c =>
                    rw [z] at e
                    cases e
                    obtain ⟨ee, z1, z2⟩ := eqZ_map z
                    have q := SeqAt.RcAt.lists (e := ee) p.isList p'.isList (by rw [n1, n2, hl]) hu0 fun j h1 h2 => by
                      have h1' : j < its.length := by simpa using h1
                      have h2' : j < its'.length := by simpa using h2
                      obtain ⟨x1, v1, f1, f2, f3⟩ := vals_at rv r1 h1'
                      obtain ⟨y1, w1, g1, g2, g3⟩ := vals_at rv' r2 h2'
                      have := eqv_at I hh n A.in1 x1 y1 v1 w1 _ _ _ hu1 f2 g2 f3 g3 (z1 j x1 y1 f1 g1)
                      simpa using this
                    refine SeqAt.EqAt.of_refs haa ?_
                    rw [n1] at q
                    rw [z2, ← hl, Nat.min_self]
                    simpa using q
                · rw [if_pos ⟨rfl, hl⟩] at e
                  cases e
                  refine SeqAt.EqAt.of_refs haa (SeqAt.RcAt.lists_lengths p.isList p'.isList ?_ hu0)
                  rw [n1, n2]
                  simpa using hl
      · cases qx : seqOf h x with
        | none => rw [qx] at e; cases e
        | some p =>
          obtain ⟨k, l⟩ := p
          rw [qx] at e
          cases e
          obtain ⟨a, vs, e1, r1, c1⟩ := seq_v hh rx qx
          subst e1
          cases ru
          rcases c1 with ⟨_, c1⟩ | ⟨_, c1⟩
          · obtain ⟨its, rv, p, _⟩ := I.tuple c1
            rcases scal_v ry sy with ⟨_, e2⟩ | ⟨_, _, e2⟩ | ⟨_, _, e2⟩ | ⟨_, _, e2⟩ <;> subst e2
            · cases rt; exact SeqAt.EqAt.tuple_none p hu0
            · cases rt; exact SeqAt.EqAt.tuple_bool _ p hu0
            · obtain ⟨tk, rfl⟩ := rt; exact SeqAt.EqAt.tuple_int _ tk p hu0
            · obtain ⟨tk, rfl⟩ := rt; exact SeqAt.EqAt.tuple_str _ tk p hu0
          · obtain ⟨its, rv, p, _⟩ := I.list c1
            rcases scal_v ry sy with ⟨_, e2⟩ | ⟨_, _, e2⟩ | ⟨_, _, e2⟩ | ⟨_, _, e2⟩ <;> subst e2
            · cases rt; exact SeqAt.EqAt.list_none p.isList hu0
            · cases rt; exact SeqAt.EqAt.list_bool _ p.isList hu0
            · obtain ⟨tk, rfl⟩ := rt; exact SeqAt.EqAt.list_int _ tk p.isList hu0
            · obtain ⟨tk, rfl⟩ := rt; exact SeqAt.EqAt.list_str _ tk p.isList hu0
      · cases qx : seqOf h y with
        | none => rw [qx] at e; cases e
        | some p =>
          obtain ⟨k, l⟩ := p
          rw [qx] at e
          cases e
          obtain ⟨a, vs, e1, r1, c1⟩ := seq_v hh ry qx
          subst e1
          cases rt
          rcases c1 with ⟨_, c1⟩ | ⟨_, c1⟩
          · obtain ⟨its, rv, p, _⟩ := I.tuple c1
            rcases scal_v rx sx with ⟨_, e2⟩ | ⟨_, _, e2⟩ | ⟨_, _, e2⟩ | ⟨_, _, e2⟩ <;> subst e2
            · cases ru; exact SeqAt.EqAt.none_tuple p hu0
            · cases ru; exact SeqAt.EqAt.bool_tuple _ p hu0
            · obtain ⟨tk, rfl⟩ := ru; exact SeqAt.EqAt.int_tuple _ tk p hu0
            · obtain ⟨tk, rfl⟩ := ru; exact SeqAt.EqAt.str_tuple _ tk p hu0
          · obtain ⟨its, rv, p, _⟩ := I.list c1
            rcases scal_v rx sx with ⟨_, e2⟩ | ⟨_, _, e2⟩ | ⟨_, _, e2⟩ | ⟨_, _, e2⟩ <;> subst e2
            · cases ru; exact SeqAt.EqAt.none_list p.isList hu0
            · cases ru; exact SeqAt.EqAt.bool_list _ p.isList hu0
            · obtain ⟨tk, rfl⟩ := ru; exact SeqAt.EqAt.int_list _ tk p.isList hu0
            · obtain ⟨tk, rfl⟩ := ru; exact SeqAt.EqAt.str_list _ tk p.isList hu0
      · rcases scal_v rx sx with ⟨e1, e2⟩ | ⟨i, e1, e2⟩ | ⟨i, e1, e2⟩ | ⟨i, e1, e2⟩ <;> rcases scal_v ry sy with ⟨e3, e4⟩ | ⟨j, e3, e4⟩ | ⟨j, e3, e4⟩ | ⟨j, e3, e4⟩ <;> subst e1 e2 e3 e4 <;> cases e
        · cases ru; cases rt; exact SeqAt.EqAt.same _
        · cases ru; cases rt; exact SeqAt.EqAt.none_bool _
        · obtain ⟨tk, rfl⟩ := rt; cases ru; exact SeqAt.EqAt.none_int _ _
        · obtain ⟨tk, rfl⟩ := rt; cases ru; exact SeqAt.EqAt.none_str _ _
        · cases ru; cases rt; exact SeqAt.EqAt.bool_none _
        · cases ru; cases rt; exact SeqAt.EqAt.bool_bool _ _
        · obtain ⟨tk, rfl⟩ := rt; cases ru; exact SeqAt.EqAt.bool_int _ _ _
        · obtain ⟨tk, rfl⟩ := rt; cases ru; exact SeqAt.EqAt.bool_str _ _ _
        · obtain ⟨tk, rfl⟩ := ru; cases rt; exact SeqAt.EqAt.int_none _ _
        · obtain ⟨tk, rfl⟩ := ru; cases rt; exact SeqAt.EqAt.int_bool _ _ _
        · obtain ⟨tk, rfl⟩ := ru; obtain ⟨tk', rfl⟩ := rt; exact SeqAt.EqAt.int_int _ _ _ _
        · obtain ⟨tk, rfl⟩ := ru; obtain ⟨tk', rfl⟩ := rt; exact SeqAt.EqAt.int_str _ _ _ _
        · obtain ⟨tk, rfl⟩ := ru; cases rt; exact SeqAt.EqAt.str_none _ _
        · obtain ⟨tk, rfl⟩ := ru; cases rt; exact SeqAt.EqAt.str_bool _ _ _
        · obtain ⟨tk, rfl⟩ := ru; obtain ⟨tk', rfl⟩ := rt; exact SeqAt.EqAt.str_int _ _ _ _
        · obtain ⟨tk, rfl⟩ := ru; obtain ⟨tk', rfl⟩ := rt; exact SeqAt.EqAt.str_str _ _ _ _

/-! ### the same values give the same answer -/
theorem eqZ_det {f f' : D → D → Option Bool} (hf : ∀ x x' y y' v w b b', RD (gd X) ρ H x v → RD (gd X) ρ H x' v → RD (gd X) ρ H y w → RD (gd X) ρ H y' w → f x y = some b → f' x' y' = some b' → b = b') :
    ∀ {l l' m m' : List D} {vs ws : List V} {b b' : Bool}, RDs (gd X) ρ H l vs → RDs (gd X) ρ H l' vs → RDs (gd X) ρ H m ws → RDs (gd X) ρ H m' ws → eqZ f l m = some b → eqZ f' l' m' = some b' → b = b'
  | [], l', m, m', vs, ws, b, b', h1, h2, h3, h4, e, e' => by
    rw [h1.invNil] at h2
    have : l' = [] := List.eq_nil_of_length_eq_zero h2.length
    subst this
    unfold eqZ at e e'
    cases e
    cases e'
    rfl
  | x :: l, l', [], m', vs, ws, b, b', h1, h2, h3, h4, e, e' => by
    rw [h3.invNil] at h4
    have : m' = [] := List.eq_nil_of_length_eq_zero h4.length
    subst this
    unfold eqZ at e
    cases e
    cases l' <;> (unfold eqZ at e'; cases e'; rfl)
  | x :: l, l', y :: m, m', vs, ws, b, b', h1, h2, h3, h4, e, e' => by
    obtain ⟨v, r, e1, q1, q2⟩ := h1.inv
    obtain ⟨w, r', e2, q3, q4⟩ := h3.inv
    subst e1 e2
    cases l' with
    | nil => exact absurd h2.length (by simp)
    | cons x' l' =>
      cases m' with
      | nil => exact absurd h4.length (by simp)
      | cons y' m' =>
        obtain ⟨v', s', e3, q5, q6⟩ := h2.inv
        obtain ⟨w', t', e4, q7, q8⟩ := h4.inv
        cases e3
        cases e4
        unfold eqZ at e e'
        cases z : f x y with
        | none => rw [z] at e; cases e
        | some a =>
          cases z' : f' x' y' with
          | none => rw [z'] at e'; cases e'
          | some a' =>
            rw [z] at e
            rw [z'] at e'
            dsimp only at e e'
            cases z2 : eqZ f l m with
            | none => rw [z2] at e; cases e
            | some c =>
              cases z3 : eqZ f' l' m' with
              | none => rw [z3] at e'; cases e'
              | some c' =>
                rw [z2] at e
                rw [z3] at e'
                cases e
                cases e'
                rw [hf x x' y y' v w a a' q1 q5 q3 q7 z z', eqZ_det hf q2 q6 q4 q8 z2 z3]
theorem scal_ref {g : Gd} {x : D} {a : Addr} (r : RD g ρ H x (.ref a)) : isScal x = false := by
  cases e : isScal x with
  | false => rfl
  | true => rcases scal_v r e with ⟨_, e2⟩ | ⟨_, _, e2⟩ | ⟨_, _, e2⟩ | ⟨_, _, e2⟩ <;> cases e2
theorem scal_inj {g : Gd} {x x' : D} {v : V} (r : RD g ρ H x v) (r' : RD g ρ H x' v) (e : isScal x = true) (e' : isScal x' = true) : x = x' := by
  rcases scal_v r e with ⟨e1, e2⟩ | ⟨_, e1, e2⟩ | ⟨_, e1, e2⟩ | ⟨_, e1, e2⟩ <;> rcases scal_v r' e' with ⟨e3, e4⟩ | ⟨_, e3, e4⟩ | ⟨_, e3, e4⟩ | ⟨_, e3, e4⟩ <;> subst e1 e2 e3 <;> cases e4 <;> rfl
theorem eqTop_det (I : Inv X pins σ H s) (hh : RH (gd X) ρ H h) {f f' : D → D → Option Bool} (hf : ∀ x x' y y' v w b b', RD (gd X) ρ H x v → RD (gd X) ρ H x' v → RD (gd X) ρ H y w → RD (gd X) ρ H y' w → f x y = some b → f' x' y' = some b' → b = b')
    {x x' y y' : D} {v w : V} {b b' : Bool} (r1 : RD (gd X) ρ H x v) (r2 : RD (gd X) ρ H x' v) (r3 : RD (gd X) ρ H y w) (r4 : RD (gd X) ρ H y' w) (e : eqTop h f x y = some b) (e' : eqTop h f' x' y' = some b') : b = b' := by
  -- a scalar or a sequence, by the value alone
  have kind : ∀ {x : D} {v : V}, RD (gd X) ρ H x v → (isScal x = true) ∨ (isScal x = false ∧ ∀ p, seqOf h x = some p → ∃ a, v = .ref a) := fun {x v} r => by
    cases z : isScal x with
    | true => exact .inl rfl
    | false =>
      refine .inr ⟨rfl, fun p q => ?_⟩
      obtain ⟨k, l⟩ := p
      obtain ⟨a, vs, e1, _⟩ := seq_v hh r q
      exact ⟨a, e1⟩
  unfold eqTop at e e'
  cases sx : isScal x <;> cases sy : isScal y <;> rw [sx, sy] at e <;> dsimp only at e
  · cases qx : seqOf h x with
    | none => rw [qx] at e; cases e
    | some p =>
      cases qy : seqOf h y with
      | none => rw [qx, qy] at e; cases e
      | some p' =>
        obtain ⟨k, l⟩ := p
        obtain ⟨k', m⟩ := p'
        rw [qx, qy] at e
        dsimp only at e
        obtain ⟨a, vs, e1, q1, c1⟩ := seq_v hh r1 qx
        obtain ⟨a', ws, e2, q2, c2⟩ := seq_v hh r3 qy
        subst e1 e2
        rw [scal_ref r2, scal_ref r4] at e'
        dsimp only at e'
        cases qx' : seqOf h x' with
        | none => rw [qx'] at e'; cases e'
        | some p2 =>
          cases qy' : seqOf h y' with
          | none => rw [qx', qy'] at e'; cases e'
          | some p3 =>
            obtain ⟨k2, l2⟩ := p2
            obtain ⟨k3, m2⟩ := p3
            rw [qx', qy'] at e'
            dsimp only at e'
            obtain ⟨a2, vs2, f1, q3, c3⟩ := seq_v hh r2 qx'
            obtain ⟨a3, ws2, f2, q4, c4⟩ := seq_v hh r4 qy'
            cases f1
            cases f2
            obtain ⟨g1, g2⟩ := seq_inj I c1 c3
            obtain ⟨g3, g4⟩ := seq_inj I c2 c4
            subst g1 g2 g3 g4
            by_cases hk : k = k'
            · rw [if_pos hk] at e e'
              unfold eqSeq at e e'
              have n1 : l.length = l2.length := by rw [q1.length, q3.length]
              have n2 : m.length = m2.length := by rw [q2.length, q4.length]
              rw [← n1, ← n2] at e'
              split at e
              · rename_i hc
                rw [if_pos hc] at e'
                cases e
                cases e'
                rfl
              · rename_i hc
                rw [if_neg hc] at e'
                cases z : eqZ f l m with
                | none => rw [z] at e; cases e
                | some c =>
                  cases z' : eqZ f' l2 m2 with
                  | none => rw [z'] at e'; cases e'
                  | some c' =>
                    rw [z] at e
                    rw [z'] at e'
                    cases e
                    cases e'
                    rw [eqZ_det hf q1 q3 q2 q4 z z']
            · rw [if_neg hk] at e e'
              cases e
              cases e'
              rfl
  · cases qx : seqOf h x with
    | none => rw [qx] at e; cases e
    | some p =>
      rw [qx] at e
      cases e
      obtain ⟨a, vs, e1, _⟩ := seq_v hh r1 (show seqOf h x = some (p.1, p.2) from qx)
      subst e1
      rw [scal_ref r2] at e'
      cases sy' : isScal y' with
      | true =>
        rw [sy'] at e'
        dsimp only at e'
        cases qx' : seqOf h x' with
        | none => rw [qx'] at e'; cases e'
        | some p' => rw [qx'] at e'; cases e'; rfl
      | false =>
        rw [sy'] at e'
        dsimp only at e'
        cases qx' : seqOf h x' with
        | none => rw [qx'] at e'; cases e'
        | some p' =>
          cases qy' : seqOf h y' with
          | none => rw [qx', qy'] at e'; cases e'
          | some p2 =>
            obtain ⟨a', vs', e2, _⟩ := seq_v hh r4 (show seqOf h y' = some (p2.1, p2.2) from qy')
            subst e2
            rw [scal_ref r3] at sy
            cases sy
  · cases qy : seqOf h y with
    | none => rw [qy] at e; cases e
    | some p =>
      rw [qy] at e
      cases e
      obtain ⟨a, vs, e1, _⟩ := seq_v hh r3 (show seqOf h y = some (p.1, p.2) from qy)
      subst e1
      rw [scal_ref r4] at e'
      cases sx' : isScal x' with
      | true =>
        rw [sx'] at e'
        dsimp only at e'
        cases qy' : seqOf h y' with
        | none => rw [qy'] at e'; cases e'
        | some p' => rw [qy'] at e'; cases e'; rfl
      | false =>
        rw [sx'] at e'
        dsimp only at e'
        cases qx' : seqOf h x' with
        | none => rw [qx'] at e'; cases e'
        | some p' =>
          obtain ⟨a', vs', e2, _⟩ := seq_v hh r2 (show seqOf h x' = some (p'.1, p'.2) from qx')
          subst e2
          rw [scal_ref r1] at sx
          cases sx
  · cases e
    cases sx' : isScal x' with
    | false =>
      rw [sx'] at e'
      rcases kind r2 with k | ⟨_, k⟩
      · rw [sx'] at k; cases k
      · have nx : ∀ p, seqOf h x' = some p → False := fun p q => by
          obtain ⟨a, e1⟩ := k p q
          subst e1
          rw [scal_ref r1] at sx
          cases sx
        cases qx' : seqOf h x' with
        | some p => exact (nx p qx').elim
        | none => rw [qx'] at e'; cases z : isScal y' <;> (rw [z] at e'; cases e')
    | true =>
      cases sy' : isScal y' with
      | false =>
        rw [sx', sy'] at e'
        rcases kind r4 with k | ⟨_, k⟩
        · rw [sy'] at k; cases k
        · cases qy' : seqOf h y' with
          | none => rw [qy'] at e'; cases e'
          | some p =>
            obtain ⟨a, e1⟩ := k p qy'
            subst e1
            rw [scal_ref r3] at sy
            cases sy
      | true =>
        rw [sx', sy'] at e'
        cases e'
        rw [scal_inj r1 r2 sx sx', scal_inj r3 r4 sy sy']
theorem eqv_det (I : Inv X pins σ H s) (hh : RH (gd X) ρ H h) : ∀ (n n' : Nat) (x x' y y' : D) (v w : V) (b b' : Bool), RD (gd X) ρ H x v → RD (gd X) ρ H x' v → RD (gd X) ρ H y w → RD (gd X) ρ H y' w → eqv h n x y = some b → eqv h n' x' y' = some b' → b = b'
  | 0, _, _, _, _, _, _, _, _, _, _, _, _, _, e, _ => by cases e
  | _, 0, _, _, _, _, _, _, _, _, _, _, _, _, _, e => by cases e
  | n + 1, n' + 1, x, x', y, y', v, w, b, b', r1, r2, r3, r4, e, e' => by
    have s0 := e
    have s1 := e'
    unfold eqv at e e'
    split at e
    · rename_i hi
      cases e
      have := idRef_eq hi
      subst this
      have hv : v = w := by
        cases x <;> first | (cases hi; done) | skip
        obtain ⟨a, e1, e2⟩ := RD_ref r1
        obtain ⟨a', e3, e4⟩ := RD_ref r3
        rw [e1] at e3
        cases e3
        rw [e2, e4]
      subst hv
      exact (eqv_same I hh (n' + 1) x' y' v b' r2 r4 s1).symm
    · split at e'
      · rename_i hi
        cases e'
        have := idRef_eq hi
        subst this
        have hv : v = w := by
          cases x' <;> first | (cases hi; done) | skip
          obtain ⟨a, e1, e2⟩ := RD_ref r2
          obtain ⟨a', e3, e4⟩ := RD_ref r4
          rw [e1] at e3
          cases e3
          rw [e2, e4]
        subst hv
        exact eqv_same I hh (n + 1) x y v b r1 r3 s0
      · exact eqTop_det I hh (fun x x' y y' v w b b' => eqv_det I hh n n' x x' y y' v w b b') r1 r2 r3 r4 e e'
end

/-! ### == and != of two values (data at any depth), in, not in -/
def deep : Nat := 12
def eqT (h : MH) (x y : D) : Option Bool := eqTop h (eqv h deep) x y
def eqF : D → D → MH → R D := fun x y h => match eqT h x y with
  | some b => .ok (.bl b) h
  | none => .bad
def neF : D → D → MH → R D := fun x y h => match eqT h x y with
  | some b => .ok (.bl (!b)) h
  | none => .bad
/-- x in a list or a tuple -/
def anyF (f : D → Option Bool) : List D → Option Bool
  | [] => some false
  | y :: l => (match f y with
    | some a => (match anyF f l with
      | some b => some (a || b)
      | none => none)
    | none => none)
def memT (h : MH) (x y : D) : Option Bool := match seqOf h y with
  | some (_, l) => anyF (fun z => eqv h deep z x) l
  | none => none
/-- a mirror's answer, as an operator's reading -/
def rM (g : Gd) (f : MH → D → D → Option Bool) (neg : Bool) : R2 := fun vx vy H Q => ∃ ρ h x y b, RH g ρ H h ∧ RD g ρ H x vx ∧ RD g ρ H y vy ∧ f h x y = some b ∧ Q (.bl (if neg then !b else b)) H
theorem rf_eq {g : Gd} : RF2 g eqF (rM g eqT false) := fun Wf Q ρ H h x y vx vy hh rx ry p => by
  unfold eqF at p
  split at p
  · rename_i b hb
    exact ⟨ρ, h, x, y, b, hh, rx, ry, hb, p.okk hh (by unfold RD; rfl)⟩
  · exact p.elim
theorem rf_ne {g : Gd} : RF2 g neF (rM g eqT true) := fun Wf Q ρ H h x y vx vy hh rx ry p => by
  unfold neF at p
  split at p
  · rename_i b hb
    exact ⟨ρ, h, x, y, b, hh, rx, ry, hb, p.okk hh (by unfold RD; rfl)⟩
  · exact p.elim
section
variable {X : Cx}
theorem op_eqM (hu : X.A.units + 64 < cLine) : OpR X (compareOp .Eq) (rM (gd X) eqT false) := by
  intro pins s σ H vx vy u t Q I ru rt hq
  obtain ⟨ρ, h, x, y, b, hh, rx, ry, e, q⟩ := hq
  have hu0 : X.A.units < cLine := by omega
  have hu1 : X.A.in1.units + deep < cLine := by show X.A.units + 1 + 12 < cLine; omega
  have fin : EP X pins σ Q (.bool b) s := ⟨.bl b, H, I, rfl, q⟩
  suffices hs : SeqAt.RcAt X.A s u t b from hs X.prog X.w X.xe _ fin
  unfold eqT eqTop at e
  cases sx : isScal x <;> cases sy : isScal y <;> rw [sx, sy] at e <;> dsimp only at e
  · cases qx : seqOf h x with
    | none => rw [qx] at e; cases e
    | some p =>
      cases qy : seqOf h y with
      | none => rw [qx, qy] at e; cases e
      | some p' =>
        obtain ⟨k, l⟩ := p
        obtain ⟨k', m⟩ := p'
        rw [qx, qy] at e
        dsimp only at e
        obtain ⟨a, vs, e1, r1, c1⟩ := seq_v hh rx qx
        obtain ⟨a', vs', e2, r2, c2⟩ := seq_v hh ry qy
        subst e1 e2
        cases ru
        cases rt
        rcases c1 with ⟨k1, c1⟩ | ⟨k1, c1⟩ <;> rcases c2 with ⟨k2, c2⟩ | ⟨k2, c2⟩ <;> subst k1 k2
        · rw [if_pos rfl] at e
          unfold eqSeq at e
          rw [if_neg (fun z => by cases z.1)] at e
          obtain ⟨its, rv, p, _⟩ := I.tuple c1
          obtain ⟨its', rv', p', _⟩ := I.tuple c2
          cases z : eqZ (eqv h deep) l m with
          | none => rw [z] at e; cases e
          | some c =>
            rw [z] at e
            cases e
            obtain ⟨ee, z1, z2⟩ := eqZ_map z
            have q := SeqAt.RcAt.tuples (e := ee) p p' hu0 fun j h1 h2 => by
              have h1' : j < its.length := by simpa using h1
              have h2' : j < its'.length := by simpa using h2
              obtain ⟨x1, v1, f1, f2, f3⟩ := vals_at rv r1 h1'
              obtain ⟨y1, w1, g1, g2, g3⟩ := vals_at rv' r2 h2'
              have := eqv_at I hh deep X.A.in1 x1 y1 v1 w1 _ _ _ hu1 f2 g2 f3 g3 (z1 j x1 y1 f1 g1)
              simpa using this
            have n1 : its.toArray.size = l.length := by rw [List.size_toArray, ← rv.length, r1.length]
            have n2 : its'.toArray.size = m.length := by rw [List.size_toArray, ← rv'.length, r2.length]
            rw [n1, n2] at q
            rw [z2]
            exact q
        · rw [if_neg (by decide)] at e
          cases e
          obtain ⟨its, rv, p, _⟩ := I.tuple c1
          obtain ⟨its', rv', p', _⟩ := I.list c2
          exact SeqAt.RcAt.tuple_list p p'.isList hu0
        · rw [if_neg (by decide)] at e
          cases e
          obtain ⟨its, rv, p, _⟩ := I.list c1
          obtain ⟨its', rv', p', _⟩ := I.tuple c2
          exact SeqAt.RcAt.list_tuple p.isList p' hu0
        · rw [if_pos rfl] at e
          unfold eqSeq at e
          obtain ⟨its, rv, p, _⟩ := I.list c1
          obtain ⟨its', rv', p', _⟩ := I.list c2
          have n1 : its.toArray.size = l.length := by rw [List.size_toArray, ← rv.length, r1.length]
          have n2 : its'.toArray.size = m.length := by rw [List.size_toArray, ← rv'.length, r2.length]
          by_cases hl : l.length = m.length
          · rw [if_neg (fun z => z.2 hl)] at e
            cases z : eqZ (eqv h deep) l m with
            | none => rw [z] at e; cases e
            | some c =>
              rw [z] at e
              cases e
              obtain ⟨ee, z1, z2⟩ := eqZ_map z
              have q := SeqAt.RcAt.lists (e := ee) p.isList p'.isList (by rw [n1, n2, hl]) hu0 fun j h1 h2 => by
                have h1' : j < its.length := by simpa using h1
                have h2' : j < its'.length := by simpa using h2
                obtain ⟨x1, v1, f1, f2, f3⟩ := vals_at rv r1 h1'
                obtain ⟨y1, w1, g1, g2, g3⟩ := vals_at rv' r2 h2'
                have := eqv_at I hh deep X.A.in1 x1 y1 v1 w1 _ _ _ hu1 f2 g2 f3 g3 (z1 j x1 y1 f1 g1)
                simpa using this
              rw [n1] at q
              rw [z2, ← hl, Nat.min_self]
              simpa using q
          · rw [if_pos ⟨rfl, hl⟩] at e
            cases e
            refine SeqAt.RcAt.lists_lengths p.isList p'.isList ?_ hu0
            rw [n1, n2]
            simpa using hl
  · cases qx : seqOf h x with
    | none => rw [qx] at e; cases e
    | some p =>
      obtain ⟨k, l⟩ := p
      rw [qx] at e
      cases e
      obtain ⟨a, vs, e1, r1, c1⟩ := seq_v hh rx qx
      subst e1
      cases ru
      rcases c1 with ⟨_, c1⟩ | ⟨_, c1⟩
      · obtain ⟨its, rv, p, _⟩ := I.tuple c1
        rcases scal_v ry sy with ⟨_, e2⟩ | ⟨_, _, e2⟩ | ⟨_, _, e2⟩ | ⟨_, _, e2⟩ <;> subst e2
        · cases rt; exact SeqAt.RcAt.tuple_none p hu0
        · cases rt; exact SeqAt.RcAt.tuple_bool _ p hu0
        · obtain ⟨tk, rfl⟩ := rt; exact SeqAt.RcAt.tuple_int _ tk p hu0
        · obtain ⟨tk, rfl⟩ := rt; exact SeqAt.RcAt.tuple_str _ tk p hu0
      · obtain ⟨its, rv, p, _⟩ := I.list c1
        rcases scal_v ry sy with ⟨_, e2⟩ | ⟨_, _, e2⟩ | ⟨_, _, e2⟩ | ⟨_, _, e2⟩ <;> subst e2
        · cases rt; exact SeqAt.RcAt.list_none p.isList hu0
        · cases rt; exact SeqAt.RcAt.list_bool _ p.isList hu0
        · obtain ⟨tk, rfl⟩ := rt; exact SeqAt.RcAt.list_int _ tk p.isList hu0
        · obtain ⟨tk, rfl⟩ := rt; exact SeqAt.RcAt.list_str _ tk p.isList hu0
  · cases qx : seqOf h y with
    | none => rw [qx] at e; cases e
    | some p =>
      obtain ⟨k, l⟩ := p
      rw [qx] at e
      cases e
      obtain ⟨a, vs, e1, r1, c1⟩ := seq_v hh ry qx
      subst e1
      cases rt
      rcases c1 with ⟨_, c1⟩ | ⟨_, c1⟩
      · obtain ⟨its, rv, p, _⟩ := I.tuple c1
        rcases scal_v rx sx with ⟨_, e2⟩ | ⟨_, _, e2⟩ | ⟨_, _, e2⟩ | ⟨_, _, e2⟩ <;> subst e2
        · cases ru; exact SeqAt.RcAt.none_tuple p hu0
        · cases ru; exact SeqAt.RcAt.bool_tuple _ p hu0
        · obtain ⟨tk, rfl⟩ := ru; exact SeqAt.RcAt.int_tuple _ tk p hu0
        · obtain ⟨tk, rfl⟩ := ru; exact SeqAt.RcAt.str_tuple _ tk p hu0
      · obtain ⟨its, rv, p, _⟩ := I.list c1
        rcases scal_v rx sx with ⟨_, e2⟩ | ⟨_, _, e2⟩ | ⟨_, _, e2⟩ | ⟨_, _, e2⟩ <;> subst e2
        · cases ru; exact SeqAt.RcAt.none_list p.isList hu0
        · cases ru; exact SeqAt.RcAt.bool_list _ p.isList hu0
        · obtain ⟨tk, rfl⟩ := ru; exact SeqAt.RcAt.int_list _ tk p.isList hu0
        · obtain ⟨tk, rfl⟩ := ru; exact SeqAt.RcAt.str_list _ tk p.isList hu0
  · rcases scal_v rx sx with ⟨e1, e2⟩ | ⟨i, e1, e2⟩ | ⟨i, e1, e2⟩ | ⟨i, e1, e2⟩ <;> rcases scal_v ry sy with ⟨e3, e4⟩ | ⟨j, e3, e4⟩ | ⟨j, e3, e4⟩ | ⟨j, e3, e4⟩ <;> subst e1 e2 e3 e4 <;> cases e
    · cases ru; cases rt; exact SeqAt.RcAt.none_none
    · cases ru; cases rt; exact SeqAt.RcAt.none_bool _
    · obtain ⟨tk, rfl⟩ := rt; cases ru; exact SeqAt.RcAt.none_int _ _
    · obtain ⟨tk, rfl⟩ := rt; cases ru; exact SeqAt.RcAt.none_str _ _
    · cases ru; cases rt; exact SeqAt.RcAt.bool_none _
    · cases ru; cases rt; exact SeqAt.RcAt.bool_bool _ _
    · obtain ⟨tk, rfl⟩ := rt; cases ru; exact SeqAt.RcAt.bool_int _ _ _
    · obtain ⟨tk, rfl⟩ := rt; cases ru; exact SeqAt.RcAt.bool_str _ _ _
    · obtain ⟨tk, rfl⟩ := ru; cases rt; exact SeqAt.RcAt.int_none _ _
    · obtain ⟨tk, rfl⟩ := ru; cases rt; exact SeqAt.RcAt.int_bool _ _ _
    · obtain ⟨tk, rfl⟩ := ru; obtain ⟨tk', rfl⟩ := rt; exact SeqAt.RcAt.int_int _ _ _ _
    · obtain ⟨tk, rfl⟩ := ru; obtain ⟨tk', rfl⟩ := rt; exact SeqAt.RcAt.int_str _ _ _ _
    · obtain ⟨tk, rfl⟩ := ru; cases rt; exact SeqAt.RcAt.str_none _ _
    · obtain ⟨tk, rfl⟩ := ru; cases rt; exact SeqAt.RcAt.str_bool _ _ _
    · obtain ⟨tk, rfl⟩ := ru; obtain ⟨tk', rfl⟩ := rt; exact SeqAt.RcAt.str_int _ _ _ _
    · obtain ⟨tk, rfl⟩ := ru; obtain ⟨tk', rfl⟩ := rt; exact SeqAt.RcAt.str_str _ _ _ _
theorem op_neM (hu : X.A.units + 64 < cLine) : OpR X (compareOp .NotEq) (rM (gd X) eqT true) := by
  intro pins s σ H vx vy u t Q I ru rt hq
  obtain ⟨ρ, h, x, y, b, hh, rx, ry, e, q⟩ := hq
  have hu0 : X.A.units < cLine := by omega
  have hu1 : X.A.in1.units + deep < cLine := by show X.A.units + 1 + 12 < cLine; omega
  have fin : EP X pins σ Q (.bool (!b)) s := ⟨.bl (!b), H, I, rfl, q⟩
  suffices hs : SeqAt.RcNeAt X.A s u t (!b) from hs X.prog X.w X.xe _ fin
  unfold eqT eqTop at e
  cases sx : isScal x <;> cases sy : isScal y <;> rw [sx, sy] at e <;> dsimp only at e
  · cases qx : seqOf h x with
    | none => rw [qx] at e; cases e
    | some p =>
      cases qy : seqOf h y with
      | none => rw [qx, qy] at e; cases e
      | some p' =>
        obtain ⟨k, l⟩ := p
        obtain ⟨k', m⟩ := p'
        rw [qx, qy] at e
        dsimp only at e
        obtain ⟨a, vs, e1, r1, c1⟩ := seq_v hh rx qx
        obtain ⟨a', vs', e2, r2, c2⟩ := seq_v hh ry qy
        subst e1 e2
        cases ru
        cases rt
        rcases c1 with ⟨k1, c1⟩ | ⟨k1, c1⟩ <;> rcases c2 with ⟨k2, c2⟩ | ⟨k2, c2⟩ <;> subst k1 k2
        · rw [if_pos rfl] at e
          unfold eqSeq at e
          rw [if_neg (fun z => by cases z.1)] at e
          obtain ⟨its, rv, p, _⟩ := I.tuple c1
          obtain ⟨its', rv', p', _⟩ := I.tuple c2
          cases z : eqZ (eqv h deep) l m with
          | none => rw [z] at e; cases e
          | some c =>
            rw [z] at e
            cases e
            obtain ⟨ee, z1, z2⟩ := eqZ_map z
            have q := SeqAt.RcNeAt.tuples (e := ee) p p' hu0 fun j h1 h2 => by
              have h1' : j < its.length := by simpa using h1
              have h2' : j < its'.length := by simpa using h2
              obtain ⟨x1, v1, f1, f2, f3⟩ := vals_at rv r1 h1'
              obtain ⟨y1, w1, g1, g2, g3⟩ := vals_at rv' r2 h2'
              have := eqv_at I hh deep X.A.in1 x1 y1 v1 w1 _ _ _ hu1 f2 g2 f3 g3 (z1 j x1 y1 f1 g1)
              simpa using this
            have n1 : its.toArray.size = l.length := by rw [List.size_toArray, ← rv.length, r1.length]
            have n2 : its'.toArray.size = m.length := by rw [List.size_toArray, ← rv'.length, r2.length]
            rw [n1, n2] at q
            rw [z2]
            exact q
        · rw [if_neg (by decide)] at e
          cases e
          obtain ⟨its, rv, p, _⟩ := I.tuple c1
          obtain ⟨its', rv', p', _⟩ := I.list c2
          exact SeqAt.RcNeAt.tuple_list p p'.isList hu0
        · rw [if_neg (by decide)] at e
          cases e
          obtain ⟨its, rv, p, _⟩ := I.list c1
          obtain ⟨its', rv', p', _⟩ := I.tuple c2
          exact SeqAt.RcNeAt.list_tuple p.isList p' hu0
        · rw [if_pos rfl] at e
          unfold eqSeq at e
          obtain ⟨its, rv, p, _⟩ := I.list c1
          obtain ⟨its', rv', p', _⟩ := I.list c2
          have n1 : its.toArray.size = l.length := by rw [List.size_toArray, ← rv.length, r1.length]
          have n2 : its'.toArray.size = m.length := by rw [List.size_toArray, ← rv'.length, r2.length]
          by_cases hl : l.length = m.length
          · rw [if_neg (fun z => z.2 hl)] at e
            cases z : eqZ (eqv h deep) l m with
            | none => rw [z] at e; cases e
            | some c =>
              rw [z] at e
              cases e
              obtain ⟨ee, z1, z2⟩ := eqZ_map z
              have q := SeqAt.RcNeAt.lists (e := ee) p.isList p'.isList (by rw [n1, n2, hl]) hu0 fun j h1 h2 => by
                have h1' : j < its.length := by simpa using h1
                have h2' : j < its'.length := by simpa using h2
                obtain ⟨x1, v1, f1, f2, f3⟩ := vals_at rv r1 h1'
                obtain ⟨y1, w1, g1, g2, g3⟩ := vals_at rv' r2 h2'
                have := eqv_at I hh deep X.A.in1 x1 y1 v1 w1 _ _ _ hu1 f2 g2 f3 g3 (z1 j x1 y1 f1 g1)
                simpa using this
              rw [n1] at q
              rw [z2, ← hl, Nat.min_self]
              simpa using q
          · rw [if_pos ⟨rfl, hl⟩] at e
            cases e
            refine SeqAt.RcNeAt.lists_lengths p.isList p'.isList ?_ hu0
            rw [n1, n2]
            simpa using hl
  · cases qx : seqOf h x with
    | none => rw [qx] at e; cases e
    | some p =>
      obtain ⟨k, l⟩ := p
      rw [qx] at e
      cases e
      obtain ⟨a, vs, e1, r1, c1⟩ := seq_v hh rx qx
      subst e1
      cases ru
      rcases c1 with ⟨_, c1⟩ | ⟨_, c1⟩
      · obtain ⟨its, rv, p, _⟩ := I.tuple c1
        rcases scal_v ry sy with ⟨_, e2⟩ | ⟨_, _, e2⟩ | ⟨_, _, e2⟩ | ⟨_, _, e2⟩ <;> subst e2
        · cases rt; exact SeqAt.RcNeAt.tuple_none p hu0
        · cases rt; exact SeqAt.RcNeAt.tuple_bool _ p hu0
        · obtain ⟨tk, rfl⟩ := rt; exact SeqAt.RcNeAt.tuple_int _ tk p hu0
        · obtain ⟨tk, rfl⟩ := rt; exact SeqAt.RcNeAt.tuple_str _ tk p hu0
      · obtain ⟨its, rv, p, _⟩ := I.list c1
        rcases scal_v ry sy with ⟨_, e2⟩ | ⟨_, _, e2⟩ | ⟨_, _, e2⟩ | ⟨_, _, e2⟩ <;> subst e2
        · cases rt; exact SeqAt.RcNeAt.list_none p.isList hu0
        · cases rt; exact SeqAt.RcNeAt.list_bool _ p.isList hu0
        · obtain ⟨tk, rfl⟩ := rt; exact SeqAt.RcNeAt.list_int _ tk p.isList hu0
        · obtain ⟨tk, rfl⟩ := rt; exact SeqAt.RcNeAt.list_str _ tk p.isList hu0
  · cases qx : seqOf h y with
    | none => rw [qx] at e; cases e
    | some p =>
      obtain ⟨k, l⟩ := p
      rw [qx] at e
      cases e
      obtain ⟨a, vs, e1, r1, c1⟩ := seq_v hh ry qx
      subst e1
      cases rt
      rcases c1 with ⟨_, c1⟩ | ⟨_, c1⟩
      · obtain ⟨its, rv, p, _⟩ := I.tuple c1
        rcases scal_v rx sx with ⟨_, e2⟩ | ⟨_, _, e2⟩ | ⟨_, _, e2⟩ | ⟨_, _, e2⟩ <;> subst e2
        · cases ru; exact SeqAt.RcNeAt.none_tuple p hu0
        · cases ru; exact SeqAt.RcNeAt.bool_tuple _ p hu0
        · obtain ⟨tk, rfl⟩ := ru; exact SeqAt.RcNeAt.int_tuple _ tk p hu0
        · obtain ⟨tk, rfl⟩ := ru; exact SeqAt.RcNeAt.str_tuple _ tk p hu0
      · obtain ⟨its, rv, p, _⟩ := I.list c1
        rcases scal_v rx sx with ⟨_, e2⟩ | ⟨_, _, e2⟩ | ⟨_, _, e2⟩ | ⟨_, _, e2⟩ <;> subst e2
        · cases ru; exact SeqAt.RcNeAt.none_list p.isList hu0
        · cases ru; exact SeqAt.RcNeAt.bool_list _ p.isList hu0
        · obtain ⟨tk, rfl⟩ := ru; exact SeqAt.RcNeAt.int_list _ tk p.isList hu0
        · obtain ⟨tk, rfl⟩ := ru; exact SeqAt.RcNeAt.str_list _ tk p.isList hu0
  · rcases scal_v rx sx with ⟨e1, e2⟩ | ⟨i, e1, e2⟩ | ⟨i, e1, e2⟩ | ⟨i, e1, e2⟩ <;> rcases scal_v ry sy with ⟨e3, e4⟩ | ⟨j, e3, e4⟩ | ⟨j, e3, e4⟩ | ⟨j, e3, e4⟩ <;> subst e1 e2 e3 e4 <;> cases e
    · cases ru; cases rt; exact SeqAt.RcNeAt.none_none
    · cases ru; cases rt; exact SeqAt.RcNeAt.none_bool _
    · obtain ⟨tk, rfl⟩ := rt; cases ru; exact SeqAt.RcNeAt.none_int _ _
    · obtain ⟨tk, rfl⟩ := rt; cases ru; exact SeqAt.RcNeAt.none_str _ _
    · cases ru; cases rt; exact SeqAt.RcNeAt.bool_none _
    · cases ru; cases rt; exact SeqAt.RcNeAt.bool_bool _ _
    · obtain ⟨tk, rfl⟩ := rt; cases ru; exact SeqAt.RcNeAt.bool_int _ _ _
    · obtain ⟨tk, rfl⟩ := rt; cases ru; exact SeqAt.RcNeAt.bool_str _ _ _
    · obtain ⟨tk, rfl⟩ := ru; cases rt; exact SeqAt.RcNeAt.int_none _ _
    · obtain ⟨tk, rfl⟩ := ru; cases rt; exact SeqAt.RcNeAt.int_bool _ _ _
    · obtain ⟨tk, rfl⟩ := ru; obtain ⟨tk', rfl⟩ := rt; exact SeqAt.RcNeAt.int_int _ _ _ _
    · obtain ⟨tk, rfl⟩ := ru; obtain ⟨tk', rfl⟩ := rt; exact SeqAt.RcNeAt.int_str _ _ _ _
    · obtain ⟨tk, rfl⟩ := ru; cases rt; exact SeqAt.RcNeAt.str_none _ _
    · obtain ⟨tk, rfl⟩ := ru; cases rt; exact SeqAt.RcNeAt.str_bool _ _ _
    · obtain ⟨tk, rfl⟩ := ru; obtain ⟨tk', rfl⟩ := rt; exact SeqAt.RcNeAt.str_int _ _ _ _
    · obtain ⟨tk, rfl⟩ := ru; obtain ⟨tk', rfl⟩ := rt; exact SeqAt.RcNeAt.str_str _ _ _ _
end
end ML

/-! ML 6: arithmetic, order, in, is None, built-in calls, items, slices, methods of lists -/
namespace ML
open PySem PySem.Spec PyProof.Rows L2

/-! ### + - * // % ** -/
def lstOf (h : MH) : D → Option (List D)
  | .ref n => (match h[n]? with
    | some (.lst l) => some l
    | _ => none)
  | _ => none
def addF : D → D → MH → R D := fun x y h => match x, y with
  | .int i, .int j => .ok (.int (i + j)) h
  | .str a, .str b => if a.length + b.length ≤ 1000000 then .ok (.str (a ++ b)) h else .bad
  | .tup l, .tup m => if l.length + m.length ≤ 1000000 then .ok (.tup (l ++ m)) h else .bad
  | .ref a, .ref b => (match lstOf h (.ref a), lstOf h (.ref b) with
    | some l, some m => if l.length + m.length ≤ 1000000 then .ok (.ref h.length) (h ++ [.lst (l ++ m)]) else .bad
    | _, _ => .bad)
  | _, _ => .bad
def subF : D → D → MH → R D := fun x y h => match x, y with
  | .int i, .int j => .ok (.int (i - j)) h
  | _, _ => .bad
def mulF : D → D → MH → R D := fun x y h => match x, y with
  | .int i, .int j => if i.natAbs.log2 + j.natAbs.log2 < 100000000 then .ok (.int (i * j)) h else .bad
  | .ref a, .int k => (match lstOf h (.ref a) with
    | some l => if -1000 ≤ k ∧ k ≤ 1000 ∧ l.length ≤ 1000 then .ok (.ref h.length) (h ++ [.lst (List.replicate k.toNat l).flatten]) else .bad
    | none => .bad)
  | _, _ => .bad
def modF : D → D → MH → R D := fun x y h => match x, y with
  | .int i, .int j => if 0 < j then .ok (.int (i % j)) h else .bad
  | _, _ => .bad
def fdivF : D → D → MH → R D := fun x y h => match x, y with
  | .int i, .int j => if 0 < j ∧ j.natAbs.log2 < 9000 then .ok (.int (i / j)) h else .bad
  | _, _ => .bad
def powF : D → D → MH → R D := fun x y h => match x, y with
  | .int i, .int j => if 0 ≤ j ∧ ((i.natAbs.log2 + 1 : Nat) : Int) * j ≤ 2 ^ 27 then .ok (.int (i ^ j.toNat)) h else .bad
  | _, _ => .bad
section
variable {X : Cx} {g : Gd} {ρ : List Addr} {H : Hp} {h : MH}
theorem OpR.or3 {f : Value → Value → Sem Value} {r r' : R2} (h : OpR X f r) (h' : OpR X f r') : OpR X f (fun x y H Q => r x y H Q ∨ r' x y H Q) := OpR.or h h'
theorem lst_v (hh : RH g ρ H h) {x : D} {v : V} {l : List D} (r : RD g ρ H x v) (e : lstOf h x = some l) : ∃ n a vs, x = .ref n ∧ h[n]? = some (.lst l) ∧ ρ[n]? = some a ∧ v = .ref a ∧ H a = some (.lst vs) ∧ RDs g ρ H l vs := by
  cases x <;> first | (cases e; done) | skip
  rename_i n
  obtain ⟨a, e1, e2⟩ := RD_ref r
  unfold lstOf at e
  dsimp only at e
  split at e
  · rename_i m hm
    cases e
    obtain ⟨vs, e3, rs⟩ := hh.obj n _ a hm e1
    exact ⟨n, a, vs, rfl, hm, e1, e2, e3, rs⟩
  · cases e
def rAddM (K : PySem.W.Frag) : R2 := fun x y H Q => (rI0 fun i j => .int (i + j)) x y H Q ∨ (∃ i j, x = .str i ∧ y = .str j ∧ i.length + j.length ≤ sizeLine ∧ Q (.str (i ++ j)) H) ∨ rCatA K x y H Q ∨ rCat x y H Q
theorem op_addM : OpR X (binaryOp .Add) (rAddM X.K) := OpR.or op_add (OpR.or op_add_str (OpR.or op_catA op_cat))
theorem RD.tupN {l : List D} {a : Addr} {vs : List V} (sq : SqT g.K H a vs) (r : RDs g ρ H l vs) : RD g ρ H (.tup l) (.ref a) := by unfold RD; exact ⟨a, vs, rfl, sq, r⟩
theorem RD.intN {i : Int} : RD g ρ H (.int i) (.int i) := by unfold RD; rfl
theorem RD.strN {i : Str} : RD g ρ H (.str i) (.str i) := by unfold RD; rfl
theorem RD.blN {i : Bool} : RD g ρ H (.bl i) (.bl i) := by unfold RD; rfl
theorem RD.nonN : RD g ρ H .non .non := by unfold RD; rfl
/-- a new tuple -/
theorem Post.newTup {Wf : XK} {Q : VK} {l : List D} {vs : List V} {q : Addr} (p : Post g (RD g) Wf ρ H (.ok (.tup l) h) Q) (hh : RH g ρ H h) (hq : H q = none) (r : RDs g ρ H l vs) : Q (.ref q) (L2.upd H q (.tup vs)) := by
  have l1 := Lat.upd (g := g) (ρ := ρ) (u := .tup vs) (Soft.none hq)
  exact p ρ _ _ l1 (hh.upd hq) (.tupN (.of upd_same) (l1.rds l r))
/-- a new list -/
theorem Post.newLst {Wf : XK} {Q : VK} {l : List D} {vs : List V} {q : Addr} (p : Post g (RD g) Wf ρ H (.ok (.ref h.length) (h ++ [.lst l])) Q) (hh : RH g ρ H h) (hq : H q = none) (r : RDs g ρ H l vs) : Q (.ref q) (L2.upd H q (.lst vs)) := by
  obtain ⟨l1, l2, l3⟩ := hh.newLst hq r
  exact p _ _ _ l1 l2 l3
theorem rf_add : RF2 (gd X) addF (rAddM X.K) := fun Wf Q ρ H h x y vx vy hh rx ry p => by
  unfold addF at p
  split at p
  · exact .inl ⟨_, _, RD_int rx, RD_int ry, p.okk hh .intN⟩
  · split at p
    · rename_i hl
      exact .inr (.inl ⟨_, _, RD_str rx, RD_str ry, big_le hl, p.okk hh .strN⟩)
    · exact p.elim
  · split at p
    · rename_i l m hl
      obtain ⟨a, vs, e1, s1, r1⟩ := RD_tup rx
      obtain ⟨b, ws, e2, s2, r2⟩ := RD_tup ry
      refine .inr (.inr (.inl ⟨a, b, vs, ws, e1, e2, s1, s2, big_le (by rw [← r1.length, ← r2.length]; exact hl), fun z => ?_, fun _ z => ?_, fun _ _ q hq => p.newTup hh hq (r1.append r2)⟩))
      · subst z
        have : l = [] := List.eq_nil_of_length_eq_zero r1.length
        subst this
        exact p.okk hh (.tupN s2 r2)
      · subst z
        have : m = [] := List.eq_nil_of_length_eq_zero r2.length
        subst this
        rw [List.append_nil] at p
        exact p.okk hh (.tupN s1 r1)
    · exact p.elim
  · split at p
    · rename_i l m hl hm
      split at p
      · rename_i hz
        obtain ⟨n, a, vs, _, _, _, e1, e2, r1⟩ := lst_v hh rx hl
        obtain ⟨n', b, ws, _, _, _, e3, e4, r2⟩ := lst_v hh ry hm
        exact .inr (.inr (.inr ⟨a, b, vs, ws, e1, e3, e2, e4, big_le (by rw [← r1.length, ← r2.length]; exact hz), fun q hq => p.newLst hh hq (r1.append r2)⟩))
      · exact p.elim
    · exact p.elim
  · exact p.elim
theorem rf_sub : RF2 (gd X) subF (rI0 fun i j => .int (i - j)) := fun Wf Q ρ H h x y vx vy hh rx ry p => by
  unfold subF at p
  split at p
  · exact ⟨_, _, RD_int rx, RD_int ry, p.okk hh .intN⟩
  · exact p.elim
def CMulM (i j : Int) : Prop := i.natAbs.log2 + j.natAbs.log2 < 100000000
theorem CMulM.ok {i j : Int} (c : CMulM i j) : IntMulOk i j := fun z => by
  have bits : ∀ x : Int, Builtin.Int.intBits x ≤ x.natAbs.log2 + 1 := fun x => by unfold Builtin.Int.intBits; split <;> omega
  have b1 := bits i
  have b2 := bits j
  have c' : i.natAbs.log2 + j.natAbs.log2 < 100000000 := c
  have line : bitsLine = 134217728 := by decide
  have z2 := (Bool.and_eq_true_iff.mp z).2
  unfold Builtin.Int.intTooBig at z2
  have z3 := of_decide_eq_true z2
  rw [line] at z3
  omega
theorem op_mulM : OpR X (binaryOp .Mult) (rI CMulM fun i j => .int (i * j)) := opI fun _ _ _ _ _ _ _ c q => mul_int q c.ok
theorem rf_mul : RF2 (gd X) mulF (fun x y H Q => (rI CMulM fun i j => .int (i * j)) x y H Q ∨ rRep x y H Q) := fun Wf Q ρ H h x y vx vy hh rx ry p => by
  unfold mulF at p
  split at p
  · split at p
    · rename_i c
      exact .inl ⟨_, _, RD_int rx, RD_int ry, c, p.okk hh .intN⟩
    · exact p.elim
  · rename_i ra k
    split at p
    · rename_i l hl
      split at p
      · rename_i hk
        obtain ⟨n, a, vs, _, _, _, e1, e2, r1⟩ := lst_v hh rx hl
        obtain ⟨k1, k2, k3⟩ := hk
        have kn : k.toNat ≤ 1000 := by omega
        have sz : vs.length * k.toNat ≤ 1000 * 1000 := Nat.mul_le_mul (by rw [← r1.length]; exact k3) kn
        refine .inr ⟨a, k, vs, e1, RD_int ry, e2, by omega, by omega, big_le sz, fun q hq => p.newLst hh hq ?_⟩
        generalize k.toNat = j
        induction j with
        | zero => exact .nil
        | succ j ih =>
          rw [List.replicate_succ, List.replicate_succ, List.flatten_cons, List.flatten_cons]
          exact r1.append ih
      · exact p.elim
    · exact p.elim
  · exact p.elim
theorem rf_mod : RF2 (gd X) modF (rI (fun _ j => 0 < j) fun i j => .int (i % j)) := fun Wf Q ρ H h x y vx vy hh rx ry p => by
  unfold modF at p
  split at p
  · split at p
    · rename_i c
      exact ⟨_, _, RD_int rx, RD_int ry, c, p.okk hh .intN⟩
    · exact p.elim
  · exact p.elim
theorem rf_fdiv : RF2 (gd X) fdivF (rI CDivW fun i j => .int (i / j)) := fun Wf Q ρ H h x y vx vy hh rx ry p => by
  unfold fdivF at p
  split at p
  · split at p
    · rename_i c
      exact ⟨_, _, RD_int rx, RD_int ry, c, p.okk hh .intN⟩
    · exact p.elim
  · exact p.elim
def CPowM (i j : Int) : Prop := 0 ≤ j ∧ ((i.natAbs.log2 + 1 : Nat) : Int) * j ≤ 2 ^ 27
theorem op_powM : OpR X (binaryOp .Pow) (rI CPowM fun i j => .int (i ^ j.toNat)) := opI fun i j _ _ _ _ _ c q => by
  refine pow_int c.1 ?_ q
  have b : Builtin.Int.intBits i ≤ i.natAbs.log2 + 1 := by unfold Builtin.Int.intBits; split <;> omega
  have c2 : ((i.natAbs.log2 + 1 : Nat) : Int) * j ≤ 2 ^ 27 := c.2
  exact Int.le_trans (Int.mul_le_mul_of_nonneg_right (by omega) c.1) c2
theorem rf_pow : RF2 (gd X) powF (rI CPowM fun i j => .int (i ^ j.toNat)) := fun Wf Q ρ H h x y vx vy hh rx ry p => by
  unfold powF at p
  split at p
  · split at p
    · rename_i c
      exact ⟨_, _, RD_int rx, RD_int ry, c, p.okk hh .intN⟩
    · exact p.elim
  · exact p.elim
end

/-! ### order, in, is None -/
def ordF (fi : Int → Int → Bool) (fs : List Nat → List Nat → Bool) : D → D → MH → R D := fun x y h => match x, y with
  | .int i, .int j => .ok (.bl (fi i j)) h
  | .str a, .str b => .ok (.bl (fs a.cps.toList b.cps.toList)) h
  | _, _ => .bad
def ltF := ordF (fun i j => decide (i < j)) fun a b => decide (a < b)
def leF := ordF (fun i j => decide (i ≤ j)) fun a b => !decide (b < a)
def gtF := ordF (fun i j => decide (j < i)) fun a b => decide (b < a)
def geF := ordF (fun i j => decide (j ≤ i)) fun a b => !decide (a < b)
def keyOf : D → Option Key
  | .int i => some (.inl i)
  | .str s => some (.inr s)
  | _ => none
def dctOf (h : MH) : D → Option (List (Key × D))
  | .ref n => (match h[n]? with
    | some (.dct l) => some l
    | _ => none)
  | _ => none
def findK (l : List (Key × D)) (k : Key) : Option D := (l.find? fun kv => decide (kv.1 = k)).map (·.2)
/-- a text of one sign in a text; a text in a text; a thing in a list or tuple; a key in a dict -/
def inT (h : MH) (x y : D) : Option Bool := match y with
  | .str b => (match x with
    | .str a => some (match a.cps.toList with
      | [c] => decide (c ∈ b.cps.toList)
      | _ => !(Builtin.Str.occurrences b a 0 b.length 1).isEmpty)
    | _ => none)
  | _ => (match dctOf h y with
    | some l => (match keyOf x with
      | some k => some (findK l k).isSome
      | none => none)
    | none => memT h x y)
def inF : D → D → MH → R D := fun x y h => match inT h x y with
  | some b => .ok (.bl b) h
  | none => .bad
def ninF : D → D → MH → R D := fun x y h => match inT h x y with
  | some b => .ok (.bl (!b)) h
  | none => .bad
def isNF : D → D → MH → R D := fun x y h => match x, y with
  | .non, .non => .ok (.bl true) h
  | _, .non => .ok (.bl false) h
  | _, _ => .bad
def isntNF : D → D → MH → R D := fun x y h => match x, y with
  | .non, .non => .ok (.bl false) h
  | _, .non => .ok (.bl true) h
  | _, _ => .bad
section
variable {X : Cx} {g : Gd} {ρ : List Addr} {H : Hp} {h : MH}
theorem rf_ord {fi : Int → Int → Bool} {fs : List Nat → List Nat → Bool} {r1 r2 : R2} (h1 : ∀ i j H Q, Q (.bl (fi i j)) H → r1 (.int i) (.int j) H Q) (h2 : ∀ (i j : Str) H Q, Q (.bl (fs i.cps.toList j.cps.toList)) H → r2 (.str i) (.str j) H Q) :
    RF2 (gd X) (ordF fi fs) (fun x y H Q => r1 x y H Q ∨ r2 x y H Q) := fun Wf Q ρ H h x y vx vy hh rx ry p => by
  unfold ordF at p
  split at p
  · rw [RD_int rx, RD_int ry]
    exact .inl (h1 _ _ _ _ (p.okk hh .blN))
  · rw [RD_str rx, RD_str ry]
    exact .inr (h2 _ _ _ _ (p.okk hh .blN))
  · exact p.elim
theorem op_ltM : OpR X (compareOp .Lt) (fun x y H Q => (rI0 fun i j => .bl (decide (i < j))) x y H Q ∨ ∃ i j, x = .str i ∧ y = .str j ∧ Q (.bl (decide (i.cps.toList < j.cps.toList))) H) := OpR.or op_lt op_lt_str
theorem op_leM : OpR X (compareOp .LtE) (fun x y H Q => (rI0 fun i j => .bl (decide (i ≤ j))) x y H Q ∨ ∃ i j, x = .str i ∧ y = .str j ∧ Q (.bl (!decide (j.cps.toList < i.cps.toList))) H) := OpR.or op_le op_le_str
theorem op_gtM : OpR X (compareOp .Gt) (fun x y H Q => (rI0 fun i j => .bl (decide (j < i))) x y H Q ∨ ∃ i j, x = .str i ∧ y = .str j ∧ Q (.bl (decide (j.cps.toList < i.cps.toList))) H) := OpR.or op_gt op_gt_str
theorem op_geM : OpR X (compareOp .GtE) (fun x y H Q => (rI0 fun i j => .bl (decide (j ≤ i))) x y H Q ∨ ∃ i j, x = .str i ∧ y = .str j ∧ Q (.bl (!decide (i.cps.toList < j.cps.toList))) H) := OpR.or op_ge op_ge_str
theorem rf_lt : RF2 (gd X) ltF (fun x y H Q => (rI0 fun i j => .bl (decide (i < j))) x y H Q ∨ ∃ i j, x = .str i ∧ y = .str j ∧ Q (.bl (decide (i.cps.toList < j.cps.toList))) H) := rf_ord (fun i j H Q q => ⟨i, j, rfl, rfl, q⟩) fun i j H Q q => ⟨i, j, rfl, rfl, q⟩
theorem rf_le : RF2 (gd X) leF (fun x y H Q => (rI0 fun i j => .bl (decide (i ≤ j))) x y H Q ∨ ∃ i j, x = .str i ∧ y = .str j ∧ Q (.bl (!decide (j.cps.toList < i.cps.toList))) H) := rf_ord (fun i j H Q q => ⟨i, j, rfl, rfl, q⟩) fun i j H Q q => ⟨i, j, rfl, rfl, q⟩
theorem rf_gt : RF2 (gd X) gtF (fun x y H Q => (rI0 fun i j => .bl (decide (j < i))) x y H Q ∨ ∃ i j, x = .str i ∧ y = .str j ∧ Q (.bl (decide (j.cps.toList < i.cps.toList))) H) := rf_ord (fun i j H Q q => ⟨i, j, rfl, rfl, q⟩) fun i j H Q q => ⟨i, j, rfl, rfl, q⟩
theorem rf_ge : RF2 (gd X) geF (fun x y H Q => (rI0 fun i j => .bl (decide (j ≤ i))) x y H Q ∨ ∃ i j, x = .str i ∧ y = .str j ∧ Q (.bl (!decide (i.cps.toList < j.cps.toList))) H) := rf_ord (fun i j H Q q => ⟨i, j, rfl, rfl, q⟩) fun i j H Q q => ⟨i, j, rfl, rfl, q⟩
theorem rf_in : RF2 g inF (rM g inT false) := fun Wf Q ρ H h x y vx vy hh rx ry p => by
  unfold inF at p
  split at p
  · rename_i b hb
    exact ⟨ρ, h, x, y, b, hh, rx, ry, hb, p.okk hh .blN⟩
  · exact p.elim
theorem rf_nin : RF2 g ninF (rM g inT true) := fun Wf Q ρ H h x y vx vy hh rx ry p => by
  unfold ninF at p
  split at p
  · rename_i b hb
    exact ⟨ρ, h, x, y, b, hh, rx, ry, hb, p.okk hh .blN⟩
  · exact p.elim
theorem keyOf_v {x : D} {v : V} {k : Key} (r : RD g ρ H x v) (e : keyOf x = some k) : v = kV k := by
  cases x <;> first | (cases e; done) | skip
  · cases e; exact RD_int r
  · cases e; exact RD_str r
theorem dct_v (hh : RH g ρ H h) {x : D} {v : V} {l : List (Key × D)} (r : RD g ρ H x v) (e : dctOf h x = some l) : ∃ n a ws, x = .ref n ∧ h[n]? = some (.dct l) ∧ ρ[n]? = some a ∧ v = .ref a ∧ H a = some (.dK ws) ∧ RP g ρ H l ws := by
  cases x <;> first | (cases e; done) | skip
  rename_i n
  obtain ⟨a, e1, e2⟩ := RD_ref r
  unfold dctOf at e
  dsimp only at e
  split at e
  · rename_i m hm
    cases e
    obtain ⟨ws, e3, rs⟩ := hh.obj n _ a hm e1
    exact ⟨n, a, ws, rfl, hm, e1, e2, e3, rs⟩
  · cases e
theorem RP.find {k : Key} : ∀ {l : List (Key × D)} {ws : List (Key × V)}, RP g ρ H l ws → (∃ d v, findK l k = some d ∧ valV ws k = some v ∧ RD g ρ H d v) ∨ (findK l k = none ∧ valV ws k = none)
  | [], ws, q => .inr ⟨rfl, by have q' : ws = [] := q; subst q'; rfl⟩
  | (f, d) :: l, ws, q => by
    obtain ⟨v, r, e, q1, q2⟩ := q
    subst e
    by_cases hf : f = k
    · exact .inl ⟨d, v, by unfold findK; simp [List.find?_cons, hf], valV_pos (p := (f, v)) hf, q1⟩
    · rw [valV_neg (p := (f, v)) hf, show findK ((f, d) :: l) k = findK l k by unfold findK; simp [List.find?_cons, hf]]
      exact RP.find q2
theorem anyF_map {f : D → Option Bool} : ∀ {l : List D} {b : Bool}, anyF f l = some b → (∀ (j : Nat) x, l[j]? = some x → ∃ c, f x = some c) ∧ (b = true ↔ ∃ (j : Nat) (x : D), l[j]? = some x ∧ f x = some true)
  | [], b, e => by
    unfold anyF at e
    cases e
    exact ⟨fun j x h => by simp at h, by simp⟩
  | y :: l, b, e => by
    unfold anyF at e
    cases q : f y with
    | none => rw [q] at e; cases e
    | some a =>
      rw [q] at e
      dsimp only at e
      cases q2 : anyF f l with
      | none => rw [q2] at e; cases e
      | some c =>
        rw [q2] at e
        cases e
        obtain ⟨h1, h2⟩ := anyF_map q2
        refine ⟨fun j x hj => ?_, ?_⟩
        · cases j with
          | zero => simp at hj; subst hj; exact ⟨a, q⟩
          | succ j => exact h1 j x (by simpa using hj)
        · constructor
          · intro z
            rcases Bool.or_eq_true_iff.mp z with z | z
            · subst z; exact ⟨0, y, rfl, q⟩
            · obtain ⟨j, x, e1, e2⟩ := h2.mp z
              exact ⟨j + 1, x, by simpa using e1, e2⟩
          · rintro ⟨j, x, e1, e2⟩
            cases j with
            | zero =>
              simp at e1
              subst e1
              rw [q] at e2
              cases e2
              rfl
            | succ j => rw [h2.mpr ⟨j, x, by simpa using e1, e2⟩, Bool.or_true]
end
section
variable {X : Cx}
/-- the answer for the items' values, and that it is the answer for each of them -/
theorem mem_vals {pins : List (Addr × Obj)} {σ : L2.St} {H : Hp} {s : Shared} {ρ : List Addr} {h : MH} (I : Inv X pins σ H s) (hh : RH (gd X) ρ H h) {A : Around} (hu : A.units + deep < cLine) {x : D} {v : V} {t : Value} (rx : RD (gd X) ρ H x v) (rt : RelV v t)
    {l : List D} {vs : List V} {its : List Value} {b : Bool} (rs : RDs (gd X) ρ H l vs) (ri : Vals vs its) (e : anyF (fun z => eqv h deep z x) l = some b) : ∃ f : Value → Bool, (∀ w, w ∈ its → SeqAt.EqAt A s w t (f w)) ∧ its.any f = b := by
  classical
  obtain ⟨h1, h2⟩ := anyF_map e
  have at_ : ∀ {w : Value}, w ∈ its → ∃ (j : Nat) (y : D) (u : V), l[j]? = some y ∧ RD (gd X) ρ H y u ∧ RelV u w := fun {w} hw => by
    obtain ⟨j, hj, ej⟩ := List.getElem_of_mem hw
    obtain ⟨y, u, e1, e2, e3⟩ := vals_at ri rs hj
    exact ⟨j, y, u, e1, e2, by rw [← ej]; exact e3⟩
  refine ⟨fun w => decide (∃ (j : Nat) (y : D) (u : V), l[j]? = some y ∧ RD (gd X) ρ H y u ∧ RelV u w ∧ eqv h deep y x = some true), fun w hw => ?_, ?_⟩
  · obtain ⟨j, y, u, e1, e2, e3⟩ := at_ hw
    obtain ⟨c, ec⟩ := h1 j y e1
    have q := eqv_at I hh deep A y x u v w t c hu e2 rx e3 rt ec
    suffices hc : decide (∃ (j : Nat) (y : D) (u : V), l[j]? = some y ∧ RD (gd X) ρ H y u ∧ RelV u w ∧ eqv h deep y x = some true) = c by show SeqAt.EqAt A s w t (decide _); rw [hc]; exact q
    cases c with
    | true => exact decide_eq_true ⟨j, y, u, e1, e2, e3, ec⟩
    | false =>
      refine decide_eq_false ?_
      rintro ⟨j', y', u', f1, f2, f3, f4⟩
      have : u' = u := f3.inj e3
      subst this
      have := eqv_det I hh deep deep y y' x x u' v false true e2 f2 rx rx ec f4
      cases this
  · rw [Bool.eq_iff_iff, List.any_eq_true, h2]
    constructor
    · rintro ⟨w, hw, z⟩
      obtain ⟨j, y, u, f1, f2, f3, f4⟩ := of_decide_eq_true z
      exact ⟨j, y, f1, f4⟩
    · rintro ⟨j, y, f1, f4⟩
      obtain ⟨u, g1, g2⟩ := rs.get f1
      obtain ⟨w, g3, g4⟩ := ri.get g1
      exact ⟨w, List.mem_of_getElem? g3, decide_eq_true ⟨j, y, u, f1, g2, g4, f4⟩⟩
theorem op_inM (hu : X.A.units + 64 < cLine) : OpR X (compareOp .In) (rM (gd X) inT false) := by
  intro pins s σ H vx vy u t Q I ru rt hq
  obtain ⟨ρ, h, x, y, b, hh, rx, ry, e, q⟩ := hq
  have fin : ∀ {s' : Shared}, Inv X pins σ H s' → EP X pins σ Q (.bool b) s' := fun I' => ⟨.bl b, H, I', rfl, q⟩
  have hu1 : X.A.in1.units + deep < cLine := by show X.A.units + 1 + 12 < cLine; omega
  unfold inT at e
  split at e
  · rename_i z
    cases x <;> first | (cases e; done) | skip
    rename_i a
    rw [RD_str ry] at rt
    rw [RD_str rx] at ru
    simp only [Option.some.injEq] at e
    split at e
    · rename_i c hc
      have ha : a = ⟨#[c]⟩ := by
        obtain ⟨arr⟩ := a
        have : arr = #[c] := by
          apply Array.ext'
          simpa using hc
        rw [this]
      subst ha
      refine op_in_sign pins s σ H _ _ u t Q I ru rt ⟨c, z, rfl, rfl, ?_⟩
      rw [e]
      exact q
    · refine op_in_str pins s σ H _ _ u t Q I ru rt ⟨a, z, rfl, rfl, ?_⟩
      rw [e]
      exact q
  · rename_i hns
    split at e
    · rename_i l hl
      split at e
      · rename_i k hk
        cases e
        obtain ⟨n, a, ws, _, _, _, e1, e2, rp⟩ := dct_v hh ry hl
        subst e1
        cases rt
        rw [keyOf_v rx hk] at ru
        refine d_in (by omega) I (DGet.k e2) ru fun s' I' => ?_
        have eb : (valV ws k).isSome = (findK l k).isSome := by
          rcases RP.find (k := k) rp with ⟨d, v, f1, f2, _⟩ | ⟨f1, f2⟩ <;> rw [f1, f2] <;> rfl
        rw [eb]
        exact fin I'
      · cases e
    · unfold memT at e
      split at e
      · rename_i k l hl
        obtain ⟨a, vs, e1, rs, c1⟩ := seq_v hh ry hl
        subst e1
        cases rt
        rcases c1 with ⟨_, c1⟩ | ⟨_, c1⟩
        · obtain ⟨its, rv, pl, _⟩ := I.tuple c1
          obtain ⟨f, g1, g2⟩ := mem_vals I hh hu1 rx ru rs rv e
          refine SeqAt.in_tupleAt f pl (fun w hw => g1 w (by simpa using hw)) ?_
          rw [show its.toArray.any f = its.any f by simp, g2]
          exact fin I
        · obtain ⟨its, rv, pl, _⟩ := I.list c1
          obtain ⟨f, g1, g2⟩ := mem_vals I hh hu1 rx ru rs rv e
          refine SeqAt.in_listAt f pl.isList (fun w hw => g1 w (by simpa using hw)) ?_
          rw [show its.toArray.any f = its.any f by simp, g2]
          exact fin I
      · cases e
theorem op_ninM (hu : X.A.units + 64 < cLine) : OpR X (compareOp .NotIn) (rM (gd X) inT true) := by
  intro pins s σ H vx vy u t Q I ru rt hq
  obtain ⟨ρ, h, x, y, b, hh, rx, ry, e, q⟩ := hq
  have fin : ∀ {s' : Shared}, Inv X pins σ H s' → EP X pins σ Q (.bool (!b)) s' := fun I' => ⟨.bl (!b), H, I', rfl, q⟩
  have hu1 : X.A.in1.units + deep < cLine := by show X.A.units + 1 + 12 < cLine; omega
  unfold inT at e
  split at e
  · rename_i z
    cases x <;> first | (cases e; done) | skip
    rename_i a
    rw [RD_str ry] at rt
    rw [RD_str rx] at ru
    simp only [Option.some.injEq] at e
    split at e
    · rename_i c hc
      have ha : a = ⟨#[c]⟩ := by
        obtain ⟨arr⟩ := a
        have : arr = #[c] := by
          apply Array.ext'
          simpa using hc
        rw [this]
      subst ha
      refine op_notIn_sign pins s σ H _ _ u t Q I ru rt ⟨c, z, rfl, rfl, ?_⟩
      rw [e]
      exact q
    · refine L2.op_notIn_str pins s σ H _ _ u t Q I ru rt ⟨a, z, rfl, rfl, ?_⟩
      rw [e]
      exact q
  · rename_i hns
    split at e
    · rename_i l hl
      split at e
      · rename_i k hk
        cases e
        obtain ⟨n, a, ws, _, _, _, e1, e2, rp⟩ := dct_v hh ry hl
        subst e1
        cases rt
        rw [keyOf_v rx hk] at ru
        refine d_notIn (by omega) I (DGet.k e2) ru fun s' I' => ?_
        have eb : (valV ws k).isSome = (findK l k).isSome := by
          rcases RP.find (k := k) rp with ⟨d, v, f1, f2, _⟩ | ⟨f1, f2⟩ <;> rw [f1, f2] <;> rfl
        rw [eb]
        exact fin I'
      · cases e
    · unfold memT at e
      split at e
      · rename_i k l hl
        obtain ⟨a, vs, e1, rs, c1⟩ := seq_v hh ry hl
        subst e1
        cases rt
        rcases c1 with ⟨_, c1⟩ | ⟨_, c1⟩
        · obtain ⟨its, rv, pl, _⟩ := I.tuple c1
          obtain ⟨f, g1, g2⟩ := mem_vals I hh hu1 rx ru rs rv e
          refine SeqAt.notIn_tupleAt f pl (fun w hw => g1 w (by simpa using hw)) ?_
          rw [show its.toArray.any f = its.any f by simp, g2]
          exact fin I
        · obtain ⟨its, rv, pl, _⟩ := I.list c1
          obtain ⟨f, g1, g2⟩ := mem_vals I hh hu1 rx ru rs rv e
          refine SeqAt.notIn_listAt f pl.isList (fun w hw => g1 w (by simpa using hw)) ?_
          rw [show its.toArray.any f = its.any f by simp, g2]
          exact fin I
      · cases e
theorem nonV {g : Gd} {ρ : List Addr} {H : Hp} {x : D} {v : V} (r : RD g ρ H x v) : decide (v = .non) = (match x with | .non => true | _ => false) := by
  cases x with
  | non => unfold RD at r; subst r; rfl
  | bl b => unfold RD at r; subst r; rfl
  | int b => unfold RD at r; subst r; rfl
  | str b => unfold RD at r; subst r; exact decide_eq_false (fun z => nomatch z)
  | ty b => unfold RD at r; subst r; exact decide_eq_false (fun z => nomatch z)
  | tup l => obtain ⟨a, vs, e, _⟩ := RD_tup r; subst e; rfl
  | ref n => obtain ⟨a, _, e⟩ := RD_ref r; subst e; rfl
  | glb n => unfold RD at r; obtain ⟨a, _, e⟩ := r; subst e; rfl
theorem rf_isN {g : Gd} : RF2 g isNF (fun x y H Q => y = .non ∧ Q (.bl (decide (x = .non))) H) := fun Wf Q ρ H h x y vx vy hh rx ry p => by
  show vy = .non ∧ Q (.bl (decide (vx = .non))) H
  rw [nonV rx]
  unfold isNF at p
  cases y <;> first | (cases x <;> exact p.elim) | skip
  unfold RD at ry
  refine ⟨ry, ?_⟩
  cases x <;> exact p.okk hh .blN
theorem rf_isntN {g : Gd} : RF2 g isntNF (fun x y H Q => y = .non ∧ Q (.bl (!decide (x = .non))) H) := fun Wf Q ρ H h x y vx vy hh rx ry p => by
  show vy = .non ∧ Q (.bl (!decide (vx = .non))) H
  rw [nonV rx]
  unfold isntNF at p
  cases y <;> first | (cases x <;> exact p.elim) | skip
  unfold RD at ry
  refine ⟨ry, ?_⟩
  cases x <;> exact p.okk hh .blN
end
end ML

/-! ML 7: built-in calls, isinstance, items, slices, methods of lists -/
namespace ML
open PySem PySem.Spec PyProof.Rows L2

section
variable {X : Cx} {W : Wx} {x : Str} {p pos : Pos} {e : Expr} {es : List Expr} {mas : AM} {id T : String} {r : List V → Hp → VK → Prop} {f : List D → MH → R D}
theorem e_callB (hc : CallR X (.builtin id) r) (hf : RFs (gd X) f r) (hg : Gl X x) (hm : X.mg x = none) (hv : bootBuiltins x = some (.builtin id)) (ha : PA X (e :: es) (tA (gd X) W mas)) (hn : x ≠ "__name__" := by decide) (hdb : (x == ("__debug__" : Str)) = false := by decide)
    (he : starEach (e :: es) X.env = (false, eval e X.env) :: starEach es X.env := by rfl) (hpl : (backTo pos (starEach es X.env)).any (·.1) = false := by rfl) : PE X (.Call (.Name x p) (e :: es) [] pos) (tE (gd X) W (onA f mas)) :=
  PE_of (pe_callB hc hg hm hv ha hn hdb he hpl) fun σ H Q q => one q fun ρ e H h xs vs s hh rx p => hf _ _ ρ H h xs vs hh rx p
theorem e_callTy (hc : CallR X (.type T) r) (hf : RFs (gd X) f r) (hg : Gl X x) (hm : X.mg x = none) (hv : bootBuiltins x = some (.type T)) (ha : PA X (e :: es) (tA (gd X) W mas)) (hn : x ≠ "__name__" := by decide) (hdb : (x == ("__debug__" : Str)) = false := by decide)
    (he : starEach (e :: es) X.env = (false, eval e X.env) :: starEach es X.env := by rfl) (hpl : (backTo pos (starEach es X.env)).any (·.1) = false := by rfl) : PE X (.Call (.Name x p) (e :: es) [] pos) (tE (gd X) W (onA f mas)) :=
  PE_of (pe_callTy hc hg hm hv ha hn hdb he hpl) fun σ H Q q => one q fun ρ e H h xs vs s hh rx p => hf _ _ ρ H h xs vs hh rx p
end

/-! ### len, list, tuple, int, all, any, max, min -/
def lenF : List D → MH → R D := fun ds h => match ds with
  | [.str z] => if z.length ≤ 1000000 then .ok (.int z.length) h else .bad
  | [x] => (match seqOf h x with
    | some (_, l) => .ok (.int l.length) h
    | none => (match dctOf h x with
      | some l => .ok (.int l.length) h
      | none => .bad))
  | _ => .bad
def listF : List D → MH → R D := fun ds h => match ds with
  | [x] => (match seqOf h x with
    | some (_, l) => .ok (.ref h.length) (h ++ [.lst l])
    | none => .bad)
  | _ => .bad
def tupleF : List D → MH → R D := fun ds h => match ds with
  | [x] => (match seqOf h x with
    | some (_, l) => .ok (.tup l) h
    | none => .bad)
  | _ => .bad
def intF : List D → MH → R D := fun ds h => match ds with
  | [.int i] => .ok (.int i) h
  | [.bl b] => .ok (.int (if b then 1 else 0)) h
  | _ => .bad
def bools : List D → Option (List Bool)
  | [] => some []
  | .bl b :: r => (match bools r with
    | some l => some (b :: l)
    | none => none)
  | _ => none
def allF : List D → MH → R D := fun ds h => match ds with
  | [x] => (match lstOf h x with
    | some l => (match bools l with
      | some bs => .ok (.bl (bs.all fun b => b)) h
      | none => .bad)
    | none => .bad)
  | _ => .bad
def anyBF : List D → MH → R D := fun ds h => match ds with
  | [x] => (match lstOf h x with
    | some l => (match bools l with
      | some bs => .ok (.bl (bs.any fun b => b)) h
      | none => .bad)
    | none => .bad)
  | _ => .bad
def max2F : List D → MH → R D := fun ds h => match ds with
  | [.int i, .int j] => .ok (.int (if j > i then j else i)) h
  | _ => .bad
def min2F : List D → MH → R D := fun ds h => match ds with
  | [.int i, .int j] => .ok (.int (if j < i then j else i)) h
  | _ => .bad
section
variable {X : Cx} {g : Gd} {ρ : List Addr} {H : Hp} {h : MH}
theorem RDs.inv1 {d : D} {vs : List V} (q : RDs g ρ H [d] vs) : ∃ v, vs = [v] ∧ RD g ρ H d v := by
  obtain ⟨v, r, e, a, b⟩ := q.inv
  rw [b.invNil] at e
  exact ⟨v, e, a⟩
theorem RDs.inv2 {d d2 : D} {vs : List V} (q : RDs g ρ H [d, d2] vs) : ∃ v w, vs = [v, w] ∧ RD g ρ H d v ∧ RD g ρ H d2 w := by
  obtain ⟨v, r, e, a, b⟩ := q.inv
  obtain ⟨w, e', c⟩ := b.inv1
  rw [e'] at e
  exact ⟨v, w, e, a, c⟩
def rLenD : List V → Hp → VK → Prop := fun xs H Q => ∃ a kvs, xs = [.ref a] ∧ H a = some (.dK kvs) ∧ Q (.int kvs.length) H
theorem call_lenDM : CallR X (.builtin "len") rLenD := by
  intro pins s σ H xs us Q I rr hq
  obtain ⟨a, kvs, rfl, e, q⟩ := hq
  obtain ⟨u, rfl, ru⟩ := vals1 rr
  cases ru
  exact d_len I (.inl e) fun t s' I' => ⟨.int kvs.length, H, I', ⟨t, rfl⟩, q⟩
theorem call_lenM : CallR X (.builtin "len") (fun xs H Q => (∃ x n, xs = [x] ∧ LenV X.K x H n ∧ Q (.int n) H) ∨ rLenD xs H Q) := CallR.or call_len call_lenDM
theorem RP.length {α : Type} : ∀ {l : List (α × D)} {ws : List (α × V)}, RP g ρ H l ws → l.length = ws.length
  | [], ws, q => by have q' : ws = [] := q; subst q'; rfl
  | (f, d) :: l, ws, q => by
    obtain ⟨v, r, e, _, q2⟩ := q
    subst e
    simp [RP.length q2]
theorem rf_len : RFs (gd X) lenF (fun xs H Q => (∃ x n, xs = [x] ∧ LenV X.K x H n ∧ Q (.int n) H) ∨ rLenD xs H Q) := fun Wf Q ρ H h xs vs hh rx p => by
  unfold lenF at p
  split at p
  · split at p
    · rename_i z hz
      obtain ⟨v, e, r⟩ := rx.inv1
      rw [RD_str r] at e
      exact .inl ⟨.str z, z.length, e, ⟨big_le hz, rfl⟩, p.okk hh .intN⟩
    · exact p.elim
  · obtain ⟨v, e, r⟩ := rx.inv1
    split at p
    · rename_i k l hl
      obtain ⟨a, ws, e1, rs, c⟩ := seq_v hh r hl
      subst e1
      refine .inl ⟨.ref a, l.length, e, ?_, p.okk hh .intN⟩
      rcases c with ⟨_, c⟩ | ⟨_, c⟩
      · exact .inr ⟨ws, c, rs.length⟩
      · exact .inl ⟨ws, c, rs.length⟩
    · split at p
      · rename_i l hl
        obtain ⟨n, a, ws, _, _, _, e1, e2, rp⟩ := dct_v hh r hl
        subst e1
        exact .inr ⟨a, ws, e, e2, by rw [← rp.length]; exact p.okk hh .intN⟩
      · exact p.elim
  · exact p.elim
theorem rf_list : RFs (gd X) listF (fun xs H Q => ∃ p ys, xs = [.ref p] ∧ (SqL X.K H p ys ∨ SqT X.K H p ys) ∧ ∀ l, H l = none → Q (.ref l) (L2.upd H l (.lst ys))) := fun Wf Q ρ H h xs vs hh rx p => by
  unfold listF at p
  split at p
  · obtain ⟨v, e, r⟩ := rx.inv1
    split at p
    · rename_i k l hl
      obtain ⟨a, ws, e1, rs, c⟩ := seq_v hh r hl
      subst e1
      refine ⟨a, ws, e, ?_, fun q hq => p.newLst hh hq rs⟩
      rcases c with ⟨_, c⟩ | ⟨_, c⟩
      · exact .inr c
      · exact .inl c
    · exact p.elim
  · exact p.elim
theorem rf_tuple : RFs (gd X) tupleF (fun xs H Q => ∃ p ys, xs = [.ref p] ∧ ((SqL X.K H p ys ∧ ∀ l, H l = none → Q (.ref l) (L2.upd H l (.tup ys))) ∨ (SqT X.K H p ys ∧ Q (.ref p) H))) := fun Wf Q ρ H h xs vs hh rx p => by
  unfold tupleF at p
  split at p
  · obtain ⟨v, e, r⟩ := rx.inv1
    split at p
    · rename_i k l hl
      obtain ⟨a, ws, e1, rs, c⟩ := seq_v hh r hl
      subst e1
      refine ⟨a, ws, e, ?_⟩
      rcases c with ⟨_, c⟩ | ⟨_, c⟩
      · exact .inr ⟨c, p.okk hh (.tupN c rs)⟩
      · exact .inl ⟨c, fun q hq => p.newTup hh hq rs⟩
    · exact p.elim
  · exact p.elim
theorem rf_int : RFs (gd X) intF (fun xs H Q => (∃ i, xs = [.int i] ∧ Q (.int i) H) ∨ ∃ k, xs = [.bl k] ∧ Q (.int (if k then 1 else 0)) H) := fun Wf Q ρ H h xs vs hh rx p => by
  unfold intF at p
  split at p
  · obtain ⟨v, e, r⟩ := rx.inv1
    rw [RD_int r] at e
    exact .inl ⟨_, e, p.okk hh .intN⟩
  · obtain ⟨v, e, r⟩ := rx.inv1
    rw [RD_bl r rfl] at e
    exact .inr ⟨_, e, p.okk hh .intN⟩
  · exact p.elim
theorem bools_v : ∀ {l : List D} {bs : List Bool} {vs : List V}, RDs g ρ H l vs → bools l = some bs → vs = bs.map V.bl
  | [], bs, vs, q, e => by unfold bools at e; cases e; exact q.invNil
  | d :: l, bs, vs, q, e => by
    obtain ⟨v, r, e1, q1, q2⟩ := q.inv
    cases d <;> first | (unfold bools at e; cases e; done) | skip
    unfold bools at e
    split at e
    · rename_i bs' hb
      cases e
      rw [e1, bools_v q2 hb, RD_bl q1 rfl]
      rfl
    · cases e
theorem rf_all : RFs (gd X) allF (rAll X.K) := fun Wf Q ρ H h xs vs hh rx p => by
  unfold allF at p
  split at p
  · obtain ⟨v, e, r⟩ := rx.inv1
    split at p
    · rename_i l hl
      split at p
      · rename_i bs hb
        obtain ⟨n, a, ws, _, _, _, e1, e2, rs⟩ := lst_v hh r hl
        subst e1
        rw [bools_v rs hb] at e2
        exact ⟨a, bs, e, .of e2, p.okk hh .blN⟩
      · exact p.elim
    · exact p.elim
  · exact p.elim
theorem rf_any : RFs (gd X) anyBF (rAny X.K) := fun Wf Q ρ H h xs vs hh rx p => by
  unfold anyBF at p
  split at p
  · obtain ⟨v, e, r⟩ := rx.inv1
    split at p
    · rename_i l hl
      split at p
      · rename_i bs hb
        obtain ⟨n, a, ws, _, _, _, e1, e2, rs⟩ := lst_v hh r hl
        subst e1
        rw [bools_v rs hb] at e2
        exact ⟨a, bs, e, .of e2, p.okk hh .blN⟩
      · exact p.elim
    · exact p.elim
  · exact p.elim
theorem rf_max2 : RFs (gd X) max2F (fun xs H Q => ∃ i j, xs = [.int i, .int j] ∧ Q (.int (if j > i then j else i)) H) := fun Wf Q ρ H h xs vs hh rx p => by
  unfold max2F at p
  split at p
  · obtain ⟨v, w, e, r1, r2⟩ := rx.inv2
    rw [RD_int r1, RD_int r2] at e
    exact ⟨_, _, e, p.okk hh .intN⟩
  · exact p.elim
theorem rf_min2 : RFs (gd X) min2F (fun xs H Q => ∃ i j, xs = [.int i, .int j] ∧ Q (.int (if j < i then j else i)) H) := fun Wf Q ρ H h xs vs hh rx p => by
  unfold min2F at p
  split at p
  · obtain ⟨v, w, e, r1, r2⟩ := rx.inv2
    rw [RD_int r1, RD_int r2] at e
    exact ⟨_, _, e, p.okk hh .intN⟩
  · exact p.elim
end

/-! ### isinstance against built-in classes -/
def tyD (h : MH) : D → Option String
  | .non => some "NoneType"
  | .bl _ => some "bool"
  | .int _ => some "int"
  | .str _ => some "str"
  | .tup _ => some "tuple"
  | .ref n => (match h[n]? with
    | some (.lst _) => some "list"
    | some (.rdl _) => some "list"
    | some (.dct _) => some "dict"
    | _ => none)
  | _ => none
def kinds : List String := ["NoneType", "bool", "int", "str", "tuple", "list", "dict"]
def isB (T c : String) : Bool := T == c || (T == "bool" && c == "int")
theorem isB_ok : (kinds.all fun T => ["bool", "int", "str", "tuple", "list", "dict"].all fun c => decide (kitB T c = some (isB T c))) = true := by decide +kernel
theorem kit_of_isB {K : PySem.W.Frag} {T c : String} (hT : T ∈ kinds) (hc : c ∈ ["bool", "int", "str", "tuple", "list", "dict"]) : PySem.W.kitOne K (.type T) (.type c) = some (isB T c) :=
  kit_ty (of_decide_eq_true (List.all_eq_true.mp (List.all_eq_true.mp isB_ok T hT) c hc))
def isiF (c : String) : List D → MH → R D := fun ds h => match ds with
  | [x, .ty n] => if n = c then (match tyD h x with
    | some T => .ok (.bl (isB T c)) h
    | none => .bad) else .bad
  | _ => .bad
def isiT (cs : List String) : D → MH → R D := fun x h => match tyD h x with
  | some T => .ok (.bl (cs.any fun c => isB T c)) h
  | none => .bad
section
variable {X : Cx} {g : Gd} {ρ : List Addr} {H : Hp} {h : MH}
theorem RdL.ty {K : PySem.W.Frag} {a : Addr} {vs : List V} (q : RdL K H a vs) : TyX K H (.ref a) (.type "list") := by
  rcases q with ⟨o, q⟩ | ⟨o, its, n, e, c, _⟩
  · exact .base (.frz q)
  · exact .kList e c
theorem tyD_v (hh : RH g ρ H h) {x : D} {v : V} {T : String} (r : RD g ρ H x v) (e : tyD h x = some T) : TyX g.K H v (.type T) ∧ T ∈ kinds := by
  cases x <;> first | (cases e; done) | skip
  · cases e; unfold RD at r; subst r; exact ⟨.base .non, by decide⟩
  · cases e; unfold RD at r; subst r; exact ⟨.base (.bl _), by decide⟩
  · cases e; unfold RD at r; subst r; exact ⟨.base (.int _), by decide⟩
  · cases e; unfold RD at r; subst r; exact ⟨.base (.str _), by decide⟩
  · cases e
    obtain ⟨a, vs, e1, sq, _⟩ := RD_tup r
    subst e1
    rcases sq with (sq | ⟨o, sq⟩) | ⟨o, its, n, k, c, _⟩
    · exact ⟨.base (.tup sq), by decide⟩
    · exact ⟨.fTuple sq, by decide⟩
    · exact ⟨.kTuple k c, by decide⟩
  · rename_i n
    obtain ⟨a, e1, e2⟩ := RD_ref r
    subst e2
    unfold tyD at e
    dsimp only at e
    split at e
    · rename_i l hl
      cases e
      obtain ⟨vs, e3, _⟩ := hh.obj n _ a hl e1
      exact ⟨.base (.lst e3), by decide⟩
    · rename_i l hl
      cases e
      obtain ⟨vs, e3, _⟩ := hh.obj n _ a hl e1
      exact ⟨e3.ty, by decide⟩
    · rename_i l hl
      cases e
      obtain ⟨vs, e3, _⟩ := hh.obj n _ a hl e1
      exact ⟨.base (.dK e3), by decide⟩
    · cases e
theorem rf_isi {c : String} (hc : c ∈ ["bool", "int", "str", "tuple", "list", "dict"]) : RFs (gd X) (isiF c) (rIsi X.K) := fun Wf Q ρ H h xs vs hh rx p => by
  unfold isiF at p
  split at p
  · rename_i x n
    split at p
    · rename_i hn
      subst hn
      split at p
      · rename_i T hT
        obtain ⟨v, w, e, r1, r2⟩ := rx.inv2
        unfold RD at r2
        subst r2
        obtain ⟨t1, t2⟩ := tyD_v hh r1 hT
        exact ⟨v, .ty n, _, _, _, e, .ty n, t1, kit_of_isB t2 hc, p.okk hh .blN⟩
      · exact p.elim
    · exact p.elim
  · exact p.elim
theorem kitAny_of {K : PySem.W.Frag} {T : String} (hT : T ∈ kinds) : ∀ (cs : List String), (∀ c ∈ cs, c ∈ ["bool", "int", "str", "tuple", "list", "dict"]) → PySem.W.kitAny K (.type T) (cs.map Value.type) = some (cs.any fun c => isB T c)
  | [], _ => rfl
  | c :: cs, hc => by
    rw [List.map_cons, List.any_cons]
    refine kitAny_cons (kit_of_isB hT (hc c List.mem_cons_self)) (fun e => ?_) (fun e => by rw [e]; rfl)
    rw [e, Bool.false_or]
    exact kitAny_of hT cs fun c' h' => hc c' (List.mem_cons_of_mem _ h')
end
section
variable {X : Cx} {W : Wx} {a c1 c2 : Expr} {ma : EM} {p pos tp : Pos} {k : Nat} {n1 n2 : String}
/-- isinstance(x, (A, B)), A and B built-in -/
theorem e_isi2 (hg : Gl X "isinstance") (hm : X.mg "isinstance" = none) (ha : PE X a (tE (gd X) W ma)) (h1 : PE X c1 (tC (.ty n1))) (h2 : PE X c2 (tC (.ty n2))) (m1 : n1 ∈ ["bool", "int", "str", "tuple", "list", "dict"] := by decide) (m2 : n2 ∈ ["bool", "int", "str", "tuple", "list", "dict"] := by decide)
    (s1 : starEach [c1, c2] X.env = (false, eval c1 X.env) :: starEach [c2] X.env := by rfl) (s2 : starEach [c2] X.env = (false, eval c2 X.env) :: starEach [] X.env := by rfl) (s3 : starEach [a, .Tuple [c1, c2] k tp] X.env = (false, eval a X.env) :: starEach [.Tuple [c1, c2] k tp] X.env := by rfl) (s4 : starEach [.Tuple [c1, c2] k tp] X.env = (false, eval (.Tuple [c1, c2] k tp) X.env) :: starEach [] X.env := by rfl)
    (hpl : (backTo pos (starEach [.Tuple [c1, c2] k tp] X.env)).any (·.1) = false := by rfl) :
    PE X (.Call (.Name "isinstance" p) [a, .Tuple [c1, c2] k tp] [] pos) (tE (gd X) W (un (isiT [n1, n2]) ma)) :=
  PE_of (pe_callB call_isiT hg hm (by decide +kernel) (pa_cons ha (pa_cons (pe_tup (pa_cons h1 (pa_cons h2 pa_nil s2) s1)) pa_nil s4) s3) (by decide) (by decide) s3 hpl) fun σ H Q q => by
    refine one q fun ρ e H h x vx s hh rx p => ?_
    refine ⟨by show 2 ≤ sizeLine; decide, fun t ht => ?_⟩
    unfold isiT at p
    split at p
    · rename_i T hT
      obtain ⟨t1, t2⟩ := tyD_v hh rx hT
      have l1 := Lat.upd (g := gd X) (ρ := ρ) (u := .tup [V.ty n1, V.ty n2]) (Soft.none ht)
      have t3 := tyD_v (hh.upd (u := .tup [V.ty n1, V.ty n2]) ht) (l1.rd x rx) hT
      exact ⟨vx, t, [.ty n1, .ty n2], _, [.type n1, .type n2], _, rfl, upd_same, .cons (.ty _) (.cons (.ty _) .nil), t3.1, kitAny_of t2 [n1, n2] (fun c hc => by
        rcases List.mem_cons.mp hc with e | hc
        · rw [e]; exact m1
        · rcases List.mem_cons.mp hc with e | hc
          · rw [e]; exact m2
          · cases hc), p ρ _ _ l1 (hh.upd ht) .blN⟩
    · exact p.elim
end

/-! ### items and slices -/
def ixF : D → D → MH → R D := fun x y h => match x, y with
  | .str z, .int i => if z.length ≤ 1000000 then (match atI z.cps.toList i with
    | some c => .ok (.str ⟨#[c]⟩) h
    | none => .bad) else .bad
  | x, y => (match seqOf h x, y with
    | some (_, l), .int i => (match atI l i with
      | some d => .ok d h
      | none => .bad)
    | none, y => (match dctOf h x, keyOf y with
      | some l, some k => (match findK l k with
        | some d => .ok d h
        | none => .bad)
      | _, _ => .bad)
    | _, _ => .bad)
def cutD (l : List D) (lo hi : Option Int) : List D := (l.drop (HT.sIx l.length 0 lo)).take (HT.sIx l.length l.length hi - HT.sIx l.length 0 lo)
def slF : D → Option Int → Option Int → MH → R D := fun x lo hi h => match x with
  | .str z => if z.length ≤ 1000000 then .ok (.str (cutS z lo hi)) h else .bad
  | .tup l => .ok (.tup (cutD l lo hi)) h
  | x => (match seqOf h x with
    | some (_, l) => .ok (.ref h.length) (h ++ [.lst (cutD l lo hi)])
    | none => .bad)
/-- xs[::-1] of a list, of a tuple, of a text -/
def revF : D → MH → R D := fun x h => match x with
  | .tup l => .ok (.tup l.reverse) h
  | .str z => .ok (.str ⟨z.cps.reverse⟩) h
  | x => (match lstOf h x with
    | some l => .ok (.ref h.length) (h ++ [.lst l.reverse])
    | none => .bad)
abbrev OM := Env → MH → R (Option Int)
def noO : OM := fun _ h => .ok none h
def someO (m : EM) : OM := fun e h => (m e h).bind fun d h1 => match d with
  | .int i => .ok (some i) h1
  | _ => .bad
def slE (a : EM) (lo hi : OM) : EM := fun e h => (a e h).bind fun x h1 => (lo e h1).bind fun l h2 => (hi e h2).bind fun u h3 => slF x l u h3
def RO_ : List Addr → Hp → Option Int → Option Int → Prop := fun _ _ a b => b = a
abbrev tO (g : Gd) (W : Wx) (m : OM) : TO := tG g RO_ W m
section
variable {X : Cx} {W : Wx} {a b : Expr} {ma mb : EM} {lo hi : Option Expr} {ml mh : OM} {pos p2 : Pos} {g : Gd} {ρ : List Addr} {H : Hp} {h : MH}
def rIxD : R2 := fun x y H Q => ∃ a kvs k v, x = .ref a ∧ y = kV k ∧ H a = some (.dK kvs) ∧ valV kvs k = some v ∧ Q v H
theorem ix_dictM (hu : X.A.units + 1 < cLine) : IxR X rIxD := by
  intro value slice pins s σ H x y v u Q I rx ry hq hs
  obtain ⟨a, kvs, k, w, rfl, rfl, e, l, q⟩ := hq
  have gd' : DGet H a (kV k) (some w) := by rw [← l]; exact DGet.k e
  cases rx
  have dd := dict_noDict I gd'
  have ty := dict_typeIs I gd'
  exact tail_any (ops := [.ref a, u]) ty PySem.slot_dict_getitem.lookup (d_getItem hu I gd' ry fun w' s' I' r' => ⟨w, H, I', r', q⟩) hs
end
end ML

/-! ML 8: subscripts, slices, stores, methods of lists and dicts -/
namespace ML
open PySem PySem.Spec PyProof.Rows L2

section
variable {X : Cx} {W : Wx} {W0 : WX} {a b : Expr} {ma mb : EM} {lo hi : Option Expr} {ml mh : OM} {pos p2 : Pos} {g : Gd} {ρ : List Addr} {H : Hp} {h : MH}
theorem RDs.at {l : List D} {vs : List V} {i : Int} {d : D} (r : RDs g ρ H l vs) (e : atI l i = some d) : ∃ v, atI vs i = some v ∧ RD g ρ H d v := by
  unfold atI at e ⊢
  rw [← r.length]
  cases q : ixN l.length i with
  | none => rw [q] at e; cases e
  | some j =>
    rw [q] at e
    obtain ⟨v, e1, r1⟩ := r.get (i := j) (d := d) e
    exact ⟨v, e1, r1⟩
def rIxM (K : PySem.W.Frag) : R2 := fun x y H Q => rIx K x y H Q ∨ rIxD x y H Q
theorem ix_M (hu : X.A.units + 1 < cLine) : IxR X (rIxM X.K) := IxR.or ix_seq (ix_dictM hu)
theorem rf_ix : RF2 (gd X) ixF (rIxM X.K) := fun Wf Q ρ H h x y vx vy hh rx ry p => by
  unfold ixF at p
  split at p
  · rename_i z i
    split at p
    · rename_i hz
      split at p
      · rename_i c hc
        exact .inl (.inr (.inr ⟨z, i, c, RD_str rx, RD_int ry, big_le hz, hc, p.okk hh .strN⟩))
      · exact p.elim
    · exact p.elim
  · split at p
    · rename_i x2 y2 k l i hl hn
      split at p
      · rename_i d hd
        obtain ⟨a, vs, e1, rs, c⟩ := seq_v hh rx hl
        obtain ⟨v, e2, r2⟩ := rs.at hd
        rcases c with ⟨_, c⟩ | ⟨_, c⟩
        · exact .inl (.inr (.inl ⟨a, vs, i, v, e1, RD_int ry, c, e2, p.okk hh r2⟩))
        · exact .inl (.inl ⟨a, vs, i, v, e1, RD_int ry, c, e2, p.okk hh r2⟩)
      · exact p.elim
    · split at p
      · rename_i l k hl hk
        split at p
        · rename_i d hd
          obtain ⟨n, a, ws, _, _, _, e1, e2, rp⟩ := dct_v hh rx hl
          rcases rp.find (k := k) with ⟨d', v, f1, f2, f3⟩ | ⟨f1, _⟩
          · rw [hd] at f1
            cases f1
            exact .inr ⟨a, ws, k, v, e1, keyOf_v ry hk, e2, f2, p.okk hh f3⟩
          · rw [hd] at f1
            cases f1
        · exact p.elim
      · exact p.elim
    · exact p.elim
theorem e_ix (hu : X.A.units + 64 < cLine) (ha : PE X a (tE (gd X) W ma)) (hb : PE X b (tE (gd X) W mb)) (hs : PlainIx b) : PE X (.Subscript a b pos) (tE (gd X) W (bin ixF ma mb)) :=
  PE_of (pe_ix (ix_M (by omega)) ha hb hs) fun σ H Q q => two q fun ρ H h x y vx vy hh rx ry p => rf_ix _ _ ρ H h x y vx vy hh rx ry p

/-! ### slices -/
theorem PO_of {e : Option Expr} {t t' : TO} (h : PO X e t) (i : ∀ σ H Q, t' σ H Q → t σ H Q) : PO X e t' := ⟨fun pins s σ H Q I q => h.run pins s σ H Q I (i _ _ _ q)⟩
theorem o_no : PO X none (tO (gd X) W noO) := PO_of po_none fun σ H Q q => by
  obtain ⟨ρ, e, m, s, hh, p⟩ := q
  exact p.okk hh rfl
theorem o_some (ha : PE X a (tE (gd X) W ma)) : PO X (some a) (tO (gd X) W (someO ma)) := PO_of (po_some ha) fun σ H Q q => by
  refine one q fun ρ e H h x vx s hh rx p => ?_
  split at p
  · rename_i i
    exact ⟨i, RD_int rx, p.okk hh rfl⟩
  · exact p.elim
def rSlM (K : PySem.W.Frag) : V → Option Int → Option Int → Hp → VK → Prop := fun x lo hi H Q => rSlL K x lo hi H Q ∨ rSlA K x lo hi H Q ∨ rSlS x lo hi H Q
theorem sl_M : SlR X (rSlM X.K) := SlR.or sl_list (SlR.or sl_tupA sl_str)
theorem RDs.cut {l : List D} {vs : List V} (r : RDs g ρ H l vs) (lo hi : Option Int) : RDs g ρ H (cutD l lo hi) (cutV vs lo hi) := by
  unfold cutD cutV
  rw [← r.length]
  exact (r.drop _).take _
theorem cutV_whole {vs : List V} {lo hi : Option Int} (w : HT.sIx vs.length 0 lo = 0 ∧ HT.sIx vs.length vs.length hi = vs.length) : cutV vs lo hi = vs := by
  unfold cutV
  rw [w.1, w.2, List.drop_zero, Nat.sub_zero, List.take_length]
theorem rf_sl {Wf : XK} {Q : VK} {x : D} {lo hi : Option Int} {vx : V} (hh : RH (gd X) ρ H h) (rx : RD (gd X) ρ H x vx) (p : Post (gd X) (RD (gd X)) Wf ρ H (slF x lo hi h) Q) : rSlM X.K vx lo hi H Q := by
  unfold slF at p
  split at p
  · split at p
    · rename_i z hz
      exact .inr (.inr ⟨z, RD_str rx, big_le hz, p.okk hh .strN⟩)
    · exact p.elim
  · rename_i l
    obtain ⟨a, vs, e1, sq, rs⟩ := RD_tup rx
    refine .inr (.inl ⟨a, vs, e1, sq, fun w => p.okk hh (.tupN sq ?_), fun _ q hq => p.newTup hh hq (rs.cut lo hi)⟩)
    have := rs.cut lo hi
    rw [cutV_whole w] at this
    exact this
  · split at p
    · rename_i n1 n2 k l hl
      obtain ⟨a, vs, e1, rs, c⟩ := seq_v hh rx hl
      rcases c with ⟨k1, c⟩ | ⟨_, c⟩
      · exfalso
        subst k1
        cases x <;> first | exact n2 _ rfl | skip
        all_goals first | cases hl; done | skip
        · exact n1 _ rfl
        · unfold seqOf at hl
          dsimp only at hl
          split at hl <;> cases hl
      · exact .inl ⟨a, vs, e1, c, fun q hq => p.newLst hh hq (rs.cut lo hi)⟩
    · exact p.elim
theorem e_sl (ha : PE X a (tE (gd X) W ma)) (hl : PO X lo (tO (gd X) W ml)) (hh' : PO X hi (tO (gd X) W mh)) : PE X (.Subscript a (.Slice lo hi none p2) pos) (tE (gd X) W (slE ma ml mh)) :=
  PE_of (pe_slice sl_M ha hl hh') fun σ H Q q => by
    refine one q fun ρ e H h x vx s hh rx p => ?_
    refine ⟨ρ, e, h, s, hh, p.bind.mono fun o1 H1 q => ?_⟩
    obtain ⟨ρ1, l1, h1, t1, hh1, r1, p1⟩ := q
    cases r1
    refine ⟨ρ1, e, h1, s.lat t1, hh1, p1.bind.mono fun o2 H2 q => ?_⟩
    obtain ⟨ρ2, l2, h2, t2, hh2, r2, p2⟩ := q
    cases r2
    exact rf_sl hh2 (t2.rd x (t1.rd x rx)) p2

/-! ### stores -/
def putKD (l : List (Key × D)) (k : Key) (d : D) : List (Key × D) := if (l.any fun kv => decide (kv.1 = k)) = true then l.map (fun kv => if kv.1 = k then (kv.1, d) else kv) else l ++ [(k, d)]
def stF : D → D → D → MH → Option MH := fun o i v h => match o with
  | .ref n => (match h[n]? with
    | some (.lst l) => (match i with
      | .int k => (match ixN l.length k with
        | some j => some (h.set n (.lst (l.set j v)))
        | none => none)
      | _ => none)
    | some (.dct l) => (match keyOf i with
      | some k => if l.length < 1000000 then some (h.set n (.dct (putKD l k v))) else none
      | none => none)
    | _ => none)
  | _ => none
def setX (o i a : EM) : SM := fun e h => ofE e (a e h) fun v h1 => ofE e (o e h1) fun x h2 => ofE e (i e h2) fun y h3 => match stF x y v h3 with
  | some h4 => .nx e h4
  | none => .bad
theorem RP.any {k : Key} : ∀ {l : List (Key × D)} {ws : List (Key × V)}, RP g ρ H l ws → (l.any fun kv => decide (kv.1 = k)) = (ws.any fun kv => decide (kv.1 = k))
  | [], ws, q => by have q' : ws = [] := q; subst q'; rfl
  | (f, d) :: l, ws, q => by
    obtain ⟨v, r, e, _, q2⟩ := q
    subst e
    rw [List.any_cons, List.any_cons, RP.any q2]
theorem RP.mapPut {k : Key} {d : D} {v : V} (r : RD g ρ H d v) : ∀ {l : List (Key × D)} {ws : List (Key × V)}, RP g ρ H l ws → RP g ρ H (l.map (fun kv => if kv.1 = k then (kv.1, d) else kv)) (ws.map (fun kv => if kv.1 = k then (kv.1, v) else kv))
  | [], ws, q => by have q' : ws = [] := q; subst q'; exact q
  | (f, x) :: l, ws, q => by
    obtain ⟨w, t, e, q1, q2⟩ := q
    subst e
    rw [List.map_cons, List.map_cons]
    by_cases hk : f = k
    · simp only [hk, if_true]
      exact ⟨v, _, rfl, r, RP.mapPut r q2⟩
    · simp only [hk, if_false]
      exact ⟨w, _, rfl, q1, RP.mapPut r q2⟩
theorem RP.app {α : Type} : ∀ {l m : List (α × D)} {vs ws : List (α × V)}, RP g ρ H l vs → RP g ρ H m ws → RP g ρ H (l ++ m) (vs ++ ws)
  | [], m, vs, ws, q, r => by have q' : vs = [] := q; subst q'; exact r
  | (f, x) :: l, m, vs, ws, q, r => by
    obtain ⟨w, t, e, q1, q2⟩ := q
    subst e
    exact ⟨w, t ++ ws, rfl, q1, RP.app q2 r⟩
theorem RP.one {α : Type} {k : α} {d : D} {v : V} (r : RD g ρ H d v) : RP g ρ H [(k, d)] [(k, v)] := ⟨v, [], rfl, r, rfl⟩
theorem RP.put {k : Key} {d : D} {v : V} {l : List (Key × D)} {ws : List (Key × V)} (q : RP g ρ H l ws) (r : RD g ρ H d v) : RP g ρ H (putKD l k d) (putK ws k v) := by
  unfold putKD putK
  rw [q.any (k := k)]
  split
  · exact q.mapPut r
  · exact q.app (.one r)
def rSetM : TSet := fun o i v H Q => rSetL o i v H Q ∨ rSetD o i v H Q
theorem set_M (hu : X.A.units + 1 < cLine) : PSet X rSetM := by
  intro pins s σ H o i v ov iv u Q I ro ri rv q
  rcases q with q | q
  · exact set_list pins s σ H o i v ov iv u Q I ro ri rv q
  · exact set_dict hu pins s σ H o i v ov iv u Q I ro ri rv q
theorem RH.setLst {n : Nat} {a : Addr} {l l' : List D} {vs vs' : List V} (hh : RH g ρ H h) (e : h[n]? = some (.lst l)) (ea : ρ[n]? = some a) (ev : H a = some (.lst vs)) (r : RDs g ρ H l' vs') :
    Lat g ρ H ρ (L2.upd H a (.lst vs')) ∧ RH g ρ (L2.upd H a (.lst vs')) (h.set n (.lst l')) := by
  have l1 := Lat.upd (g := g) (ρ := ρ) (u := .lst vs') (Soft.lst ev)
  exact ⟨l1, hh.set e ea rfl rfl (Soft.lst ev) ⟨vs', upd_same, l1.rds _ r⟩⟩
theorem RH.setDct {n : Nat} {a : Addr} {l l' : List (Key × D)} {vs vs' : List (Key × V)} (hh : RH g ρ H h) (e : h[n]? = some (.dct l)) (ea : ρ[n]? = some a) (ev : H a = some (.dK vs)) (r : RP g ρ H l' vs') :
    Lat g ρ H ρ (L2.upd H a (.dK vs')) ∧ RH g ρ (L2.upd H a (.dK vs')) (h.set n (.dct l')) := by
  have l1 := Lat.upd (g := g) (ρ := ρ) (u := .dK vs') (Soft.dK ev)
  exact ⟨l1, hh.set e ea rfl rfl (Soft.dK ev) ⟨vs', upd_same, l1.rp _ r⟩⟩
theorem st_ok {o i v : D} {vo vi vv : V} {h' : MH} {Q : Hp → Prop} (hh : RH g ρ H h) (ro : RD g ρ H o vo) (ri : RD g ρ H i vi) (rv : RD g ρ H v vv) (e : stF o i v h = some h') (k : ∀ H', Lat g ρ H ρ H' → RH g ρ H' h' → Q H') : rSetM vo vi vv H Q := by
  unfold stF at e
  split at e
  · rename_i n
    obtain ⟨a, e1, e2⟩ := RD_ref ro
    split at e
    · rename_i l hl
      obtain ⟨vs, e3, rs⟩ := hh.obj n _ a hl e1
      split at e
      · rename_i kk
        split at e
        · rename_i j hj
          cases e
          obtain ⟨l1, l2⟩ := hh.setLst (l' := l.set j v) (vs' := vs.set j vv) hl e1 e3 (rs.set j rv)
          exact .inl ⟨a, vs, kk, j, e2, RD_int ri, e3, by rw [← rs.length]; exact hj, k _ l1 l2⟩
        · cases e
      · cases e
    · rename_i l hl
      obtain ⟨ws, e3, rp⟩ := hh.obj n _ a hl e1
      split at e
      · rename_i kk hk
        split at e
        · rename_i hn
          cases e
          obtain ⟨l1, l2⟩ := hh.setDct hl e1 e3 (rp.put (k := kk) rv)
          refine .inr ⟨a, _, e2, ?_, k _ l1 l2⟩
          rw [keyOf_v ri hk]
          exact DPut.k e3 (by have := RP.length rp; have := sizeLine_eq; omega)
        · cases e
      · cases e
    · cases e
  · cases e
theorem s_setX {mo mi : EM} {c : Expr} {spos : Pos} (hu : X.A.units + 64 < cLine) (ha : PE X a (tE (gd X) (pl W0) ma)) (ho : PE X b (tE (gd X) (pl W0) mo)) (hi : PE X c (tE (gd X) (pl W0) mi))
    (hs : swapsWithSole [.Subscript b c pos] a spos.line X.env = pure false := by rfl) (hw : swappedStores [.Subscript b c pos] a X.env = pure none := by rfl)
    (h1 : (assignEach [.Subscript b c pos] X.env).map (·.2) = [assign (.Subscript b c pos) X.env] := by rfl)
    (hx : ∀ v, assign (.Subscript b c pos) X.env v = (do
      let ov ← holding [v] (eval b X.env)
      let iv ← holding [v, ov] (eval c X.env)
      standAt pos
      holding [v, ov, iv] (setItem ov iv v)
      release [v, ov, iv] []) := by intro _; rfl) : PS X (.Assign [.Subscript b c pos] a spos) (tS (gd X) W0 (setX mo mi ma)) :=
  PS_of (ps_asg ha (pg_sub ho hi (set_M (by omega)) hx) hs hw h1) fun N σ H q => by
    refine stE q fun ρ e H h v vv s hh rv p => ?_
    have q2 : tS (gd X) W0 (fun e h => ofE e (mo e h) fun x h2 => ofE e (mi e h2) fun y h3 => match stF x y v h3 with | some h4 => .nx e h4 | none => .bad) N σ H := ⟨ρ, e, h, s, hh, p⟩
    refine ⟨ρ, e, h, s.x, hh, ?_⟩
    revert p
    generalize mo e h = r
    intro p
    cases r with
    | bad => exact p.elim
    | exc c fs h1 => exact fun ρ1 H1 C dd gs l a => p ρ1 σ H1 C dd gs l a (l.rs s)
    | ok x h1 =>
      intro ρ1 vo H1 l1 hh1 r1
      have p : PostS (gd X) W0 ρ H (ofE e (mi e h1) fun y h3 => match stF x y v h3 with | some h4 => .nx e h4 | none => .bad) N := p
      refine ⟨ρ1, e, h1, (l1.rs s).x, hh1, ?_⟩
      revert p
      generalize mi e h1 = r
      intro p
      cases r with
      | bad => exact p.elim
      | exc c fs h2 => exact fun ρ2 H2 C dd gs l a => p ρ2 σ H2 C dd gs (l1.trans l) a ((l1.trans l).rs s)
      | ok y h2 =>
        intro ρ2 vi H2 l2 hh2 r2
        have p : PostS (gd X) W0 ρ H (match stF x y v h2 with | some h4 => .nx e h4 | none => .bad) N := p
        cases z : stF x y v h2 with
        | none => rw [z] at p; exact p.elim
        | some h4 =>
          rw [z] at p
          exact st_ok hh2 (l2.rd x r1) r2 ((l1.trans l2).rd v rv) z fun H3 l3 hh3 => p ρ2 σ H3 ((l1.trans l2).trans l3) hh3 (((l1.trans l2).trans l3).rs s)
end
end ML

/-! ML 9: methods of built-in things -/
namespace ML
open PySem PySem.Spec PyProof.Rows L2

/-- a method's reading against its mirror -/
def RFm (g : Gd) (f : D → List D → MH → R D) (r : V → List V → Hp → VK → Prop) : Prop := ∀ (Wf : XK) (Q : VK) ρ H h x xs vx vs, RH g ρ H h → RD g ρ H x vx → RDs g ρ H xs vs → Post g (RD g) Wf ρ H (f x xs h) Q → r vx vs H Q
def bmE (T : String) (f : D → List D → MH → R D) (o : EM) (a : AM) : EM := fun e h => (o e h).bind fun x h1 => if tyD h1 x = some T then (a e h1).bind fun xs h2 => f x xs h2 else .bad
section
variable {X : Cx} {g : Gd} {ρ : List Addr} {H : Hp} {h : MH}
theorem tyV_of (hh : RH g ρ H h) {x : D} {v : V} {T : String} (r : RD g ρ H x v) (e : tyD h x = some T) (hT : T ∈ ["list", "dict", "str"]) : tyV g.K T v H := by
  cases x <;> first | (cases e; done) | skip
  · cases e; exact absurd hT (by decide)
  · cases e; exact absurd hT (by decide)
  · cases e; exact absurd hT (by decide)
  · cases e; unfold RD at r; subst r; rfl
  · cases e; exact absurd hT (by decide)
  · rename_i n
    obtain ⟨a, e1, e2⟩ := RD_ref r
    subst e2
    unfold tyD at e
    dsimp only at e
    split at e
    · rename_i l hl
      cases e
      obtain ⟨vs, e3, _⟩ := hh.obj n _ a hl e1
      exact .inl ⟨rfl, vs, .of e3⟩
    · rename_i l hl
      cases e
      obtain ⟨vs, e3, _⟩ := hh.obj n _ a hl e1
      exact .inl ⟨rfl, vs, e3.sq⟩
    · rename_i l hl
      cases e
      obtain ⟨vs, e3, _⟩ := hh.obj n _ a hl e1
      exact .inr (.inr (.inl ⟨rfl, .inl ⟨vs, e3⟩⟩))
    · cases e
end
section
variable {X : Cx} {W : Wx} {o e : Expr} {es : List Expr} {mo : EM} {ma : AM} {name : Str} {apos cpos : Pos} {T id : String} {r : V → List V → Hp → VK → Prop} {f : D → List D → MH → R D}
theorem e_bm (pa : PlainAttrs T) (slot : Slot T name id) (hty : typeOf (.builtin id) = pure (.type "method_descriptor")) (hm : MtR X id r) (hf : RFm (gd X) f r) (ho : PE X o (tE (gd X) W mo)) (ha : PA X (e :: es) (tA (gd X) W ma)) (hT : T ∈ ["list", "dict", "str"] := by decide)
    (hbase : attributeBase o name X.env (eval o X.env) = eval o X.env := by rfl)
    (hfew : ((backTo cpos (starEach (e :: es) X.env)).all (fun x => !x.1) && (backToKw cpos (keywordEach [] X.env)).all (fun x => x.1.isSome)
      && decide ((e :: es).length + ([] : List Keyword).length + (if ([] : List Keyword).isEmpty then 0 else 1) < 30)) = true := by rfl)
    (hline : (apos.endLine == cpos.line) = true := by rfl) (hs : starEach (e :: es) X.env = (false, eval e X.env) :: starEach es X.env := by rfl) (hplain : (backTo cpos (starEach es X.env)).any (·.1) = false := by rfl) :
    PE X (.Call (.Attribute o name apos) (e :: es) [] cpos) (tE (gd X) W (bmE T f mo ma)) :=
  PE_of (pe_bm pa slot hty hm ho ha hbase hfew hline hs hplain) fun σ H Q q => by
    refine one q fun ρ e H h x vx s hh rx p => ?_
    split at p
    · rename_i ht
      refine ⟨tyV_of hh rx ht hT, ρ, e, h, s, hh, p.bind.mono fun vs H1 q => ?_⟩
      obtain ⟨ρ1, xs, h1, l1, hh1, rxs, p1⟩ := q
      exact hf _ _ ρ1 H1 h1 x xs vx vs hh1 (l1.rd x rx) rxs p1
    · exact p.elim
theorem e_bm0 (pa : PlainAttrs T) (slot : Slot T name id) (hty : typeOf (.builtin id) = pure (.type "method_descriptor")) (hm : MtR X id r) (hf : RFm (gd X) f r) (ho : PE X o (tE (gd X) W mo)) (hT : T ∈ ["list", "dict", "str"] := by decide)
    (hbase : attributeBase o name X.env (eval o X.env) = eval o X.env := by rfl) (hline : (apos.endLine == cpos.line) = true := by rfl) : PE X (.Call (.Attribute o name apos) [] [] cpos) (tE (gd X) W (bmE T f mo nilA)) :=
  PE_of (pe_bm0 pa slot hty hm ho hbase hline) fun σ H Q q => by
    refine one q fun ρ e H h x vx s hh rx p => ?_
    split at p
    · rename_i ht
      exact ⟨tyV_of hh rx ht hT, hf _ _ ρ H h x [] vx [] hh rx .nil p⟩
    · exact p.elim
end

/-! ### lists -/
def appF : D → List D → MH → R D := fun x xs h => match x, xs with
  | .ref n, [y] => (match h[n]? with
    | some (.lst l) => if l.length < 1000000 then .ok .non (h.set n (.lst (l ++ [y]))) else .bad
    | _ => .bad)
  | _, _ => .bad
def extF : D → List D → MH → R D := fun x xs h => match x, xs with
  | .ref n, [.ref m] => (match h[n]?, h[m]? with
    | some (.lst l), some (.lst k) => if l.length + k.length ≤ 1000000 then .ok .non (h.set n (.lst (l ++ k))) else .bad
    | _, _ => .bad)
  | _, _ => .bad
def popF : D → List D → MH → R D := fun x xs h => match x, xs with
  | .ref n, [] => (match h[n]? with
    | some (.lst l) => (match l[l.length - 1]? with
      | some y => .ok y (h.set n (.lst l.dropLast))
      | none => .bad)
    | _ => .bad)
  | .ref n, [.int i] => (match h[n]? with
    | some (.lst l) => if -(2 ^ 63) ≤ i ∧ i < 2 ^ 63 then (match seqIndex? i l.length with
      | some k => (match l[k]? with
        | some y => .ok y (h.set n (.lst (l.eraseIdx k)))
        | none => .bad)
      | none => .bad) else .bad
    | _ => .bad)
  | _, _ => .bad
section
variable {X : Cx} {g : Gd} {ρ : List Addr} {H : Hp} {h : MH}
theorem RDs.dropLast {l : List D} {vs : List V} (r : RDs g ρ H l vs) : RDs g ρ H l.dropLast vs.dropLast := by
  rw [List.dropLast_eq_take, List.dropLast_eq_take, ← r.length]
  exact r.take _
theorem rf_append : RFm g appF rAppend := fun Wf Q ρ H h x xs vx vs hh rx rxs p => by
  unfold appF at p
  split at p
  · rename_i n y
    split at p
    · rename_i l hl
      split at p
      · rename_i hz
        obtain ⟨a, e1, e2⟩ := RD_ref rx
        obtain ⟨ws, e3, rs⟩ := hh.obj n _ a hl e1
        obtain ⟨v, e4, r4⟩ := rxs.inv1
        obtain ⟨l1, l2⟩ := hh.setLst hl e1 e3 (rs.append (.one r4))
        exact ⟨a, ws, v, e2, e4, e3, by rw [← rs.length, sizeLine_eq]; omega, p ρ _ _ l1 l2 .nonN⟩
      · exact p.elim
    · exact p.elim
  · exact p.elim
theorem rf_extend : RFm g extF rExtend := fun Wf Q ρ H h x xs vx vs hh rx rxs p => by
  unfold extF at p
  split at p
  · rename_i n m
    split at p
    · rename_i l k hl hk
      split at p
      · rename_i hz
        obtain ⟨a, e1, e2⟩ := RD_ref rx
        obtain ⟨ws, e3, rs⟩ := hh.obj n _ a hl e1
        obtain ⟨v, e4, r4⟩ := rxs.inv1
        obtain ⟨b, f1, f2⟩ := RD_ref r4
        obtain ⟨zs, f3, rz⟩ := hh.obj m _ b hk f1
        obtain ⟨l1, l2⟩ := hh.setLst hl e1 e3 (rs.append rz)
        exact ⟨a, b, ws, zs, e2, by rw [e4, f2], e3, f3, by rw [← rs.length, ← rz.length, sizeLine_eq]; omega, p ρ _ _ l1 l2 .nonN⟩
      · exact p.elim
    · exact p.elim
  · exact p.elim
def rPopM : V → List V → Hp → VK → Prop := fun x vs H Q => rPop x vs H Q ∨ rPopAt x vs H Q
theorem mt_popM : MtR X "list.pop" rPopM := MtR.or mt_pop mt_popAt
theorem rf_pop : RFm g popF rPopM := fun Wf Q ρ H h x xs vx vs hh rx rxs p => by
  unfold popF at p
  split at p
  · rename_i n
    split at p
    · rename_i l hl
      split at p
      · rename_i y hy
        obtain ⟨a, e1, e2⟩ := RD_ref rx
        obtain ⟨ws, e3, rs⟩ := hh.obj n _ a hl e1
        obtain ⟨v, e4, r4⟩ := rs.get hy
        rw [rs.length] at e4
        obtain ⟨l1, l2⟩ := hh.setLst hl e1 e3 rs.dropLast
        exact .inl ⟨a, ws, v, e2, rxs.invNil, e3, e4, p ρ _ _ l1 l2 (l1.rd y r4)⟩
      · exact p.elim
    · exact p.elim
  · rename_i n i
    split at p
    · rename_i l hl
      split at p
      · rename_i hz
        split at p
        · rename_i k hk
          split at p
          · rename_i y hy
            obtain ⟨a, e1, e2⟩ := RD_ref rx
            obtain ⟨ws, e3, rs⟩ := hh.obj n _ a hl e1
            obtain ⟨v, e4, r4⟩ := rs.get hy
            obtain ⟨w, e5, r5⟩ := rxs.inv1
            rw [RD_int r5] at e5
            obtain ⟨l1, l2⟩ := hh.setLst hl e1 e3 (rs.eraseIdx k)
            exact .inr ⟨a, ws, i, k, v, e2, e5, e3, hz.1, hz.2, by rw [← rs.length]; exact hk, e4, p ρ _ _ l1 l2 (l1.rd y r4)⟩
          · exact p.elim
        · exact p.elim
      · exact p.elim
    · exact p.elim
  · exact p.elim
end
end ML

/-! ML 10: errors as values: made by place or by name, their fields, isinstance -/
namespace PySem
namespace HandSPX
open PySem.W PySem.Calls PyProof.Rows
section
variable {P : Program} {w : World} {A : Around} {E : Value → Shared → Prop} {R : Result → Shared → Prop} {h : Heap} {g : Array GenState} {d : Drawn} {tk : Nat} {os : OsState} {K : PySem.W.Frag} {C f : Addr} {us : List Value} {kw : List (Str × Value)}
/-- what stands at an error class that has ValueError's maker -/
theorem oex_at (T : L2.OexC K C) (X : K.In h) : ∃ nm q N bs bm sn sub ab col dd k0 k1 k2 k3 k5, h.get? C = some (excClassObj nm q C N bs bm true sn sub ab col dd k0 k1 k2 k3 k5 "ValueError.__new__") ∧
    (∀ Y : String, (Value.ref C :: bm).contains (.type Y) = ([Value.type "ValueError", .type "Exception", .type "BaseException", .type "object"] : List Value).contains (.type Y)) := by
  obtain ⟨nm, q, N, bs, bm, sn, sub, ab, col, dd, k0, k1, k2, k3, k5, hC, hb⟩ := T.cls
  refine ⟨nm, q, N, bs, bm, sn, sub, ab, col, dd, k0, k1, k2, k3, k5, X _ _ hC, fun Y => ?_⟩
  rw [List.contains_cons, refsVE_contains Y bm hb]
  rfl
/-- the maker of such a class looks at no keyword -/
theorem xk_check (T : L2.OexC K C) (X : K.In h) {Q : Unit → Shared → Prop} (q : Q () ⟨h, g, d, tk, os⟩) : wpAny (model P w) A (checkBuiltinCall "ValueError.__new__" ⟨.ref C :: us, kw⟩) Q E ⟨h, g, d, tk, os⟩ := by
  obtain ⟨nm, qn, N, bs, bm, sn, sub, ab, col, dd, k0, k1, k2, k3, k5, hC, hb⟩ := oex_at T X
  have F := F.excBase_ValueError
  have hv : (Value.ref C :: bm).contains (.type "ValueError") = true := (hb _).trans (by decide +kernel)
  have hs := F.noStar
  simp only [checkBuiltinCall, F.newKind, F.newSplit, F.newRow]
  repeat (first | refine wpAny_loadPart_at hC ?_ | (refine wpAny_isSubtype_exc hC ?_; rw [hv]) | refine wpAny_staticBase_exc hC ?_ | refine wpAny_madeBy_exc hC ?_ | simp only [bne_self_eq_false, Bool.false_eq_true, if_false] | wp_step)
  exact q
theorem xk_new (T : L2.OexC K C) (X : K.In h) (hl : us.length ≤ sizeLine) (q : R (.ok (.ret (.ref (h.objs.size + 1)))) ⟨(h.push (PySem.W.kdv_tup us)).push (excO C h.objs.size), g, d, tk, os⟩) :
    codeAny (model P w) A (.builtin "ValueError.__new__" ⟨.ref C :: us, kw⟩) R ⟨h, g, d, tk, os⟩ := by
  obtain ⟨nm, qn, N, bs, bm, sn, sub, ab, col, dd, k0, k1, k2, k3, k5, hC, hb⟩ := oex_at T X
  have F := F.excBase_ValueError
  have he := F.ends
  have c1 : (Value.ref C :: bm).contains (.type "ValueError") = true := (hb _).trans (by decide +kernel)
  have c2 : (Value.ref C :: bm).contains (.type "AttributeError") = false := (hb _).trans (by decide +kernel)
  have c3 : (Value.ref C :: bm).contains (.type "NameError") = false := (hb _).trans (by decide +kernel)
  refine codeAny_builtinAt F.entry ?_
  unfold Builtin.«BaseException.__new__»
  refine wpAt_bind ?_
  show wpAt _ _ _ (stack >>= _) _ _ _
  refine wpAt_bind (wpAt_stack fun p below => wpAt_of_wpAny ?_)
  wp_walk
  refine wpAt_of_wpAny ?_
  rw [F.owner]
  repeat (first | with_reducible refine wpAny_madeHere_exc F.canon hC ?_ | with_reducible refine wpAny_loadPart_at hC ?_ | (with_reducible refine wpAny_isSubtype_exc hC ?_; first | rw [c1] | rw [c2] | rw [c3]) | wp_step)
  show R _ _
  rw [Heap.size_push]
  exact q
theorem two_keep {o1 o2 : Obj} {b : Addr} {o : Obj} (e : h.get? b = some o) : ((h.push o1).push o2).get? b = some o := Heap.get?_push_of_some _ (Heap.get?_push_of_some _ e)
/-- type's own call of it -/
theorem xk_type (T : L2.OexC K C) (X : K.In h) (iC : PySem.W.findIn K (.ref C) "__init__" = some (some (.ref f))) (tI : PySem.W.typeIn K (.ref f) = some (.type "function")) (hl : us.length ≤ sizeLine) {Q : Fin → Shared → Prop}
    (q : codeAny (model P w) A (.call (.ref f) ⟨.ref (h.objs.size + 1) :: us, kw⟩)
      (fun r s' => match r with | .ok (.ret v) => v = .none ∧ Q (.done (.ret (.ref (h.objs.size + 1)))) s' | .ok _ => False | .error e => E e s') ⟨(h.push (PySem.W.kdv_tup us)).push (excO C h.objs.size), g, d, tk, os⟩) :
    wpAny (model P w) A (Builtin.«type.__call__» ⟨.ref C :: us, kw⟩) Q E ⟨h, g, d, tk, os⟩ := by
  have hlook := PySem.W.looks_findIn (M := model P w) X iC
  obtain ⟨nm, qn, N, bs, bm, sn, sub, ab, col, dd, k0, k1, k2, k3, k5, hC, hb⟩ := oex_at T X
  repeat (first | with_reducible refine wpAny_loadPart_at hC ?_ | with_reducible refine wpAny_madeBy_exc hC ?_ | wp_step)
  refine codeAny_call_builtin_code (Code.quiet_builtin _ F.excBase_ValueError.quiet) (xk_check T X (xk_new T X hl ?_))
  show wpAny _ _ _ _ _ _
  have hC' := two_keep (o1 := PySem.W.kdv_tup us) (o2 := excO C h.objs.size) hC
  have hnew : ((h.push (PySem.W.kdv_tup us)).push (excO C h.objs.size)).get? (h.objs.size + 1) = some (excO C h.objs.size) := by heap_get
  have hself : (Value.ref C :: bm).contains (.ref C) = true := by simp
  have i1 := hlook.keeps fun b o e => two_keep (o1 := PySem.W.kdv_tup us) (o2 := excO C h.objs.size) e
  have b1 := (PySem.W.bind_fn (M := model P w) X (.ref (h.objs.size + 1)) tI).keeps fun b o e => two_keep (o1 := PySem.W.kdv_tup us) (o2 := excO C h.objs.size) e
  unfold isInstance
  repeat (first | with_reducible refine wpAny_loadPart_at hnew ?_ | (with_reducible refine wpAny_isSubtype_exc hC' ?_; rw [hself]) | wp_step)
  show wpAny _ _ (typeLookup (.ref C) _) _ _ _
  refine i1.at (wpAny_holding (wpAny_bind (b1.at (wpAny_bind (wpAny_call (codeAny_mono q fun r s' z => ?_))))))
  cases r with
  | error e => exact z
  | ok fl =>
    cases fl with
    | ret v =>
      obtain ⟨rfl, z⟩ := z
      first
        | exact wpAny_pure (wpAny_pure z)
        | (wp_walk; exact z)
    | next => exact z.elim
    | brk => exact z.elim
    | cont => exact z.elim
/-- C(.., k=..) for such a class with an own __init__ -/
theorem xk_call (T : L2.OexC K C) (X : K.In h) (iC : PySem.W.findIn K (.ref C) "__init__" = some (some (.ref f))) (tI : PySem.W.typeIn K (.ref f) = some (.type "function")) (hl : us.length ≤ sizeLine)
    (q : codeAny (model P w) (A.under (.builtin "type.__call__" ⟨.ref C :: us, kw⟩)) (.call (.ref f) ⟨.ref (h.objs.size + 1) :: us, kw⟩) (PySem.W.InitBack (h.objs.size + 1) R) ⟨(h.push (PySem.W.kdv_tup us)).push (excO C h.objs.size), g, d, tk, os⟩) :
    codeAny (model P w) A (.call (.ref C) ⟨us, kw⟩) R ⟨h, g, d, tk, os⟩ := by
  obtain ⟨nm, qn, N, bs, bm, sn, sub, ab, col, dd, k0, k1, k2, k3, k5, hC, hb⟩ := oex_at T X
  have f1 := tc_lookup
  have f2 := tc_bind (.ref C)
  have hTy : (⟨h, g, d, tk, os⟩ : Shared).TypeIs (.ref C) "type" := ⟨_, hC, rfl⟩
  refine codeAny_of_tree ?_
  show wpAny _ _ (callAny (.ref C) _) _ _ _
  repeat (any_goals (first | assumption | with_reducible refine wpAny_loadPart_at hC ?_ | wp_step))
  refine ⟨rfl, codeAny_call_builtin_at (Code.quiet_builtin _ (by decide +kernel)) entry_typeCall (wpAny_check_type_call_sub hC (xk_type T X iC tI hl (codeAny_mono q fun r s' z => ?_)))⟩
  rcases r with e | (v | _ | _ | _) <;> exact z
end
end HandSPX
end PySem

/-! ML 11: errors as values in the mirror -/
namespace ML
open PySem PySem.Spec PyProof.Rows L2

theorem cx_no {P : Program} {w : World} {st : List PySem.Env} {H : Hp} {s : Shared} {e : Value} {s' : Shared} (h : L2.CX P w st H s (fun _ _ _ => False) e s') : False := by
  obtain ⟨_, _, _, _, _, _, _, _, _, _, _, _, z⟩ := h
  exact z
/-- __init__ of an error class with one field f -/
def spXi (C : Addr) (f : Str) : Sp := fun vs H Q _ => ∃ a y, vs = [.ref a, y] ∧ H a = some (exo a C none) ∧ ∀ dx, H dx = none → dx ≠ a → Q .non (L2.upd (L2.upd H dx (exd dx [(f, y)])) a (exo a C (some dx)))
theorem xi_ok {P : Program} {w : World} {K : PySem.W.Frag} {mg : Str → Option Value} {base : Heap} {qual f : Str} {st : Stmt} {fI C : Addr} {fd : FuncData} {p1 p2 p3 p4 : Pos} (F : Fun K "__init__" qual st fI fd) (Sc : FnScope ["self", f] ["self", f] (defScope st))
    (hb : defBody st = [.Assign [.Attribute (.Name "self" p1) f p2] (.Name f p3) p4]) (T : OexC K C) (hno : PySem.W.findIn K (.ref C) f = some none) 
    (l1 : Vis (defScope st) ("self" : Str)) (l2 : Vis (defScope st) f) (d1 : (f == ("__debug__" : Str)) = false) (d2 : (f == ("__classdict__" : Str)) = false) : FnOk P w K mg base (L2.CX P w) 1 fI fd ["self", f] (spXi C f) := by
  refine F.okX Sc (fun vs H Q E h => ?_) (fun cdv A outer s H vs Q E hr h => ?_)
  · obtain ⟨a, y, rfl, _⟩ := h
    rfl
  · obtain ⟨a, y, rfl, ea, k⟩ := h
    rw [hb]
    refine ⟨_, pss_one (ps_ost (pe_var (i := 0) rfl l1 (by decide) (by decide)) (pe_var (i := 1) rfl l2 d1 d2)), ?_⟩
    refine ⟨y, rfl, .ref a, rfl, a, C, rfl, T, hno, .inl ⟨ea, fun dx n ne => k dx n ne⟩⟩
/-- an error class of one field, as its callers know it -/
structure XcC (P : Program) (w : World) (K : PySem.W.Frag) (mg : Str → Option Value) (base : Heap) (c f : Str) : Prop where
  ex : ∃ C fI fd, mg c = some (.ref C) ∧ OexC K C ∧ PySem.W.findIn K (.ref C) "__init__" = some (some (.ref fI)) ∧ PySem.W.typeIn K (.ref fI) = some (.type "function") ∧
    FnOk P w K mg base (L2.CX P w) 1 fI fd ["self", f] (spXi C f) ∧ Binds K fd ["self", f] [] ∧ ∀ (s : Shared) (x y : Value), K.In s.heap → BindsTo s fd ⟨[x], [(f, y)]⟩ (([("self" : Str), f] : List Str).zip [x, y])
def xcH (H : Hp) (a dx C : Addr) (f : Str) (y : V) : Hp := L2.upd (L2.upd (L2.upd H a (exo a C none)) dx (exd dx [(f, y)])) a (exo a C (some dx))
section
variable {X : Cx} {pins : List (Addr × Obj)} {σ : L2.St} {H : Hp} {s : Shared} {Q : VK} {us : List Value} {kw : List (Str × Value)} {C fI : Addr} {fd : FuncData} {f : Str} {y : V} {u : Value}
theorem run_xc (T : OexC X.K C) (iC : PySem.W.findIn X.K (.ref C) "__init__" = some (some (.ref fI))) (tI : PySem.W.typeIn X.K (.ref fI) = some (.type "function")) (G : FnOk X.prog X.w X.K X.mg X.base (L2.CX X.prog X.w) 1 fI fd ["self", f] (spXi C f)) (hr : Room 2 X.A)
    (I : Inv X pins σ H s) (ry : RelV y u) (hl : us.length ≤ 1) (hk : kw.length ≤ 1) (hb : ∀ (s : Shared) (e : Addr), X.K.In s.heap → BindsTo s fd ⟨.ref e :: us, kw⟩ (([("self" : Str), f] : List Str).zip [.ref e, u]))
    (h : ∀ a dx, H a = none → H dx = none → dx ≠ a → Q (.ref a) (xcH H a dx C f y)) : wpAny (model X.prog X.w) X.A (call (.ref C) us kw) (EP X pins σ Q) X.xe s := by
  obtain ⟨hp, g, dr, tk, os⟩ := s
  have hsz : hp.objs.size ≤ hp.objs.size + 1 := Nat.le_succ _
  have hn : H (hp.objs.size + 1) = none := I.hok.fresh hsz
  have kk : ∀ b o, hp.get? b = some o → ((hp.push (PySem.W.kdv_tup us)).push (PySem.HandSPX.excO C hp.objs.size)).get? b = some o := fun b o e => PySem.HandSPX.two_keep e
  have hget : ((hp.push (PySem.W.kdv_tup us)).push (PySem.HandSPX.excO C hp.objs.size)).get? (hp.objs.size + 1) = some (PySem.HandSPX.excO C hp.objs.size) := by heap_get
  have I2 : Inv X pins σ (L2.upd H (hp.objs.size + 1) (exo (hp.objs.size + 1) C none)) ⟨(hp.push (PySem.W.kdv_tup us)).push (PySem.HandSPX.excO C hp.objs.size), g, dr, tk, os⟩ :=
    I.laid (t' := tk) (a := hp.objs.size + 1) (o := exo (hp.objs.size + 1) C none) (h' := (hp.push (PySem.W.kdv_tup us)).push (PySem.HandSPX.excO C hp.objs.size)) kk hsz (exo_ok hget)
  have hsp : spXi C f [.ref (hp.objs.size + 1), y] (L2.upd H (hp.objs.size + 1) (exo (hp.objs.size + 1) C none)) (fun v H2 => v = .non ∧ Q (.ref (hp.objs.size + 1)) H2) (fun _ _ _ => False) :=
    ⟨_, y, rfl, upd_same, fun dx n ne => ⟨rfl, h _ dx hn (by rw [upd_ne ne] at n; exact n) ne⟩⟩
  refine wpAny_call (PySem.HandSPX.xk_call T I.kIn iC tI (Nat.le_trans hl (by decide)) (codeAny_mono (G.run _ X.stack _ _ ⟨Value.ref (hp.objs.size + 1) :: us, kw⟩ [Value.ref (hp.objs.size + 1), u] _ _ (fun _ _ _ => False) (hr.make C us kw) (I2.env0.make C us kw) (hb _ _ I2.kIn) (.cons (show RelV (V.ref (hp.objs.size + 1)) (Value.ref (hp.objs.size + 1)) from rfl) (.cons ry .nil)) hsp) fun r s' hq => ?_))
  cases r with
  | error er => exact (cx_no hq).elim
  | ok fl =>
    cases fl with
    | ret v =>
      obtain ⟨x, H3, I3, rx, ex, q⟩ := I2.after hq
      subst ex
      exact ⟨rx, V.ref (hp.objs.size + 1), H3, I3, rfl, q⟩
    | next => exact False.elim hq
    | brk => exact False.elim hq
    | cont => exact False.elim hq
end
theorem xcH_lat {g : Gd} {ρ : List Addr} {H : Hp} {a dx C : Addr} {f : Str} {y : V} (h1 : H a = none) (h2 : H dx = none) (h3 : dx ≠ a) : Lat g ρ H ρ (xcH H a dx C f y) := by
  have key : ∀ {b : Addr} {o : HO}, H b = some o → xcH H a dx C f y b = some o := fun {b o} e => by
    unfold xcH
    rw [upd_ne (ne_of_none e h1), upd_ne (ne_of_none e h2), upd_ne (ne_of_none e h1)]
    exact e
  exact ⟨⟨[], by simp⟩, fun _ _ e => key e, fun _ _ _ e => key e, fun _ _ e => key e, fun _ _ e => key e⟩
theorem RH.newXc {g : Gd} {ρ : List Addr} {H : Hp} {h : MH} {a dx C : Addr} {c f : Str} {d : D} {y : V} (hh : RH g ρ H h) (h1 : H a = none) (h2 : H dx = none) (h3 : dx ≠ a) (hm : g.mg c = some (.ref C)) (r : RD g ρ H d y) :
    Lat g ρ H (ρ ++ [a]) (xcH H a dx C f y) ∧ RH g (ρ ++ [a]) (xcH H a dx C f y) (h ++ [.xc c [(f, d)]]) ∧ RD g (ρ ++ [a]) (xcH H a dx C f y) (.ref h.length) (.ref a) := by
  have l := xcH_lat (g := g) (ρ := ρ) (C := C) (f := f) (y := y) h1 h2 h3
  have l2 : Lat g ρ H (ρ ++ [a]) (xcH H a dx C f y) := l.trans Lat.more
  have hd : xcH H a dx C f y dx = some (exd dx [(f, y)]) := by
    unfold xcH
    rw [upd_ne h3, upd_same]
  have ha : xcH H a dx C f y a = some (exo a C (some dx)) := by
    unfold xcH
    rw [upd_same]
  refine ⟨l2, ?_, by unfold RD; exact ⟨a, by rw [← hh.len]; simp, rfl⟩⟩
  -- two new things of the tracked heap, then one of the mirror's
  have q1 : RH g ρ (L2.upd H dx (exd dx [(f, y)])) h := hh.upd h2
  have e0 : L2.upd H dx (exd dx [(f, y)]) a = none := by rw [upd_ne (Ne.symm h3)]; exact h1
  have e1 : L2.upd (L2.upd H dx (exd dx [(f, y)])) a (exo a C (some dx)) = xcH H a dx C f y := by
    funext b
    unfold xcH
    by_cases hb : b = a
    · subst hb; rw [upd_same, upd_same]
    · rw [upd_ne hb, upd_ne hb]
      by_cases hb2 : b = dx
      · subst hb2; rw [upd_same, upd_same]
      · rw [upd_ne hb2, upd_ne hb2, upd_ne hb]
  have q2 := q1.new (u := exo a C (some dx)) (o := .xc c [(f, d)]) e0 (by
    rw [e1]
    exact ⟨C, dx, [(f, y)], hm, ha, hd, y, [], rfl, l2.rd d r, rfl⟩)
  rw [e1] at q2
  exact q2
def mkXF (c f : Str) : List D → MH → R D := fun ds h => match ds with
  | [d] => .ok (.ref h.length) (h ++ [.xc c [(f, d)]])
  | _ => .bad
section
variable {X : Cx} {W : Wx} {e : Expr} {es : List Expr} {mas : AM} {pos p : Pos} {c f : Str} {kws : List Keyword}
theorem e_xc (F : XcC X.prog X.w X.K X.mg X.base c f) (hr : Room 2 X.A) (hg : Gl X c) (ha : PA X (e :: es) (tA (gd X) W mas)) (hdb : (c == ("__debug__" : Str)) = false := by decide)
    (he : starEach (e :: es) X.env = (false, eval e X.env) :: starEach es X.env := by rfl) (hpl : (backTo pos (starEach es X.env)).any (·.1) = false := by rfl) : PE X (.Call (.Name c p) (e :: es) [] pos) (tE (gd X) W (onA (mkXF c f) mas)) := by
  obtain ⟨C, fI, fd, mgC, T, iC, tI, G, hb, hk⟩ := F.ex
  refine ⟨fun pins s σ H Q I h => ?_⟩
  refine wpAny_Call_Name_kw (ld_glob I hg mgC ?_ hdb)
  have q : tA (gd X) W mas σ H fun vs H1 => ∃ y, vs = [y] ∧ ∀ a dx, H1 a = none → H1 dx = none → dx ≠ a → Q (.ref a) (xcH H1 a dx C f y) := by
    refine one h fun ρ e H h x vx s hh rx p => ?_
    unfold mkXF at p
    split at p
    · obtain ⟨y, ey, ry⟩ := rx.inv1
      refine ⟨y, ey, fun a dx h1 h2 h3 => ?_⟩
      obtain ⟨l1, l2, l3⟩ := RH.newXc (f := f) hh h1 h2 h3 mgC ry
      exact p _ _ _ l1 l2 l3
    · exact p.elim
  refine PySem.W.callWith_K (h₀ := X.base) I.ok.mod.kin T.kC (thn (ha.run pos pins s σ H _ I q) fun us s1 ⟨vs, H1, I1, r1, y, ey, q1⟩ => ⟨I1.kIn, ?_⟩) he hpl
  subst ey
  obtain ⟨u, rfl, ru⟩ := Vals.one r1
  exact run_xc T iC tI G hr I1 ru (by simp) (by simp) (fun s e hK => hb s [.ref e, u] hK rfl) q1
theorem PK_of {X : Cx} {e : List Keyword} {t t' : TA} (h : PK X e t) (i : ∀ σ H Q, t' σ H Q → t σ H Q) : PK X e t' := ⟨fun pos pins s σ H Q I q => h.run pos pins s σ H Q I (i _ _ _ q)⟩
theorem k_nil : PK X [] (tA (gd X) W nilA) := PK_of pk_nil fun σ H Q q => by
  obtain ⟨ρ, e, m, s, hh, p⟩ := q
  exact p.okk hh .nil
theorem k_cons {nm : Option Str} {kpos : Pos} {ma : EM} (ha : PE X e (tE (gd X) W ma)) (hr : PK X kws (tA (gd X) W mas)) : PK X (⟨nm, e, kpos⟩ :: kws) (tA (gd X) W (consA ma mas)) :=
  PK_of (pk_cons ha hr) fun σ H Q q => by
    refine one q fun ρ e H h x vx s hh rx p => ?_
    refine ⟨ρ, e, h, s, hh, p.bind.mono fun vs H1 q => ?_⟩
    obtain ⟨ρ1, xs, h1, l1, hh1, rxs, p1⟩ := q
    exact p1.okk hh1 (.cons (l1.rd x rx) rxs)
theorem e_xck (F : XcC X.prog X.w X.K X.mg X.base c f) (hr : Room 2 X.A) (hg : Gl X c) (ha : PK X kws (tA (gd X) W mas)) (hall : (backToKw pos (keywordEach kws X.env)).all (·.1.isSome) = true := by rfl) (hks : (backToKw pos (keywordEach kws X.env)).filterMap (·.1) = [f] := by rfl)
    (hpl : ((backTo pos (starEach [] X.env)).any (·.1) || (backToKw pos (keywordEach kws X.env)).any (·.1.isNone)) = false := by rfl) (hdb : (c == ("__debug__" : Str)) = false := by decide) :
    PE X (.Call (.Name c p) [] kws pos) (tE (gd X) W (onA (mkXF c f) mas)) := by
  obtain ⟨C, fI, fd, mgC, T, iC, tI, G, hb, hk⟩ := F.ex
  refine ⟨fun pins s σ H Q I h => ?_⟩
  refine wpAny_Call_Name_kw (ld_glob I hg mgC ?_ hdb)
  have q : tA (gd X) W mas σ H fun vs H1 => ∃ y, vs = [y] ∧ ∀ a dx, H1 a = none → H1 dx = none → dx ≠ a → Q (.ref a) (xcH H1 a dx C f y) := by
    refine one h fun ρ e H h x vx s hh rx p => ?_
    unfold mkXF at p
    split at p
    · obtain ⟨y, ey, ry⟩ := rx.inv1
      refine ⟨y, ey, fun a dx h1 h2 h3 => ?_⟩
      obtain ⟨l1, l2, l3⟩ := RH.newXc (f := f) hh h1 h2 h3 mgC ry
      exact p _ _ _ l1 l2 l3
    · exact p.elim
  refine PySem.W.callWith_KW0 (h₀ := X.base) I.ok.mod.kin T.kC hall (thn (ha.run pos pins s σ H _ I q) fun us s1 ⟨vs, H1, I1, r1, y, ey, q1⟩ => ⟨I1.kIn, ?_⟩) hpl
  rw [hks]
  subst ey
  obtain ⟨u, rfl, ru⟩ := Vals.one r1
  exact run_xc T iC tI G hr I1 ru (by simp) (by simp) (fun s e hK => hk s (.ref e) u hK) q1
end
end ML

/-! ML 12: fields, isinstance against own classes -/
namespace ML
open PySem PySem.Spec PyProof.Rows L2

theorem RP.lookup {g : Gd} {ρ : List Addr} {H : Hp} {f : Str} : ∀ {fs : List (Str × D)} {gs : List (Str × V)} {d : D}, RP g ρ H fs gs → fs.lookup f = some d → ∃ v, gs.lookup f = some v ∧ RD g ρ H d v
  | [], _, _, _, e => by cases e
  | (k, x) :: fs, gs, d, q, e => by
    obtain ⟨v, r, e1, q1, q2⟩ := q
    subst e1
    unfold List.lookup at e ⊢
    split at e
    · cases e
      exact ⟨v, rfl, q1⟩
    · exact RP.lookup q2 e
/-- what the written part says of the classes whose instances (ci), of the error classes whose errors (cx) have the field f -/
def FldOk (K : PySem.W.Frag) (mg : Str → Option Value) (ci cx : List Str) (f : Str) : Prop :=
  (∀ c ∈ ci, ∀ C, mg c = some (.ref C) → Cls K C ∧ NoAttr K C f) ∧ ∀ c ∈ cx, ∀ C, mg c = some (.ref C) → XfC K C ∧ PySem.W.findIn K (.ref C) f = some none
def fldF (ci cx : List Str) (f : Str) : D → MH → R D := fun x h => match x with
  | .ref n => (match h[n]? with
    | some (.ins c fs) => if c ∈ ci then (match fs.lookup f with
      | some d => .ok d h
      | none => .bad) else .bad
    | some (.xc c fs) => if c ∈ cx then (match fs.lookup f with
      | some d => .ok d h
      | none => .bad) else .bad
    | _ => .bad)
  | _ => .bad
section
variable {X : Cx} {W : Wx} {e : Expr} {m : EM} {pos : Pos} {f : Str} {ci cx : List Str}
theorem e_fld (F : FldOk X.K X.mg ci cx f) (he : PE X e (tE (gd X) W m)) (hb : attributeBase e f X.env (eval e X.env) = eval e X.env := by rfl) : PE X (.Attribute e f pos) (tE (gd X) W (un (fldF ci cx f) m)) := by
  refine ⟨fun pins s σ H Q I h => ?_⟩
  have q : tE (gd X) W m σ H fun x H1 => ∃ a C v, x = .ref a ∧ Q v H1 ∧ ((∃ dx gs, H1 a = some (.ins C dx gs) ∧ Cls X.K C ∧ NoAttr X.K C f ∧ gs.lookup f = some v) ∨
      ∃ dx gs, H1 a = some (exo a C (some dx)) ∧ H1 dx = some (exd dx gs) ∧ XfC X.K C ∧ PySem.W.findIn X.K (.ref C) f = some none ∧ gs.lookup f = some v) := by
    refine one h fun ρ e H h x vx s hh rx p => ?_
    unfold fldF at p
    split at p
    · rename_i n
      obtain ⟨a, e1, e2⟩ := RD_ref rx
      split at p
      · rename_i c fs hc
        split at p
        · rename_i hm
          split at p
          · rename_i d hd
            obtain ⟨C, dx, gs, mgC, e3, rp⟩ := hh.obj n _ a hc e1
            obtain ⟨v, e4, r4⟩ := rp.lookup hd
            obtain ⟨c1, c2⟩ := F.1 c hm C mgC
            exact ⟨a, C, v, e2, p.okk hh r4, .inl ⟨dx, gs, e3, c1, c2, e4⟩⟩
          · exact p.elim
        · exact p.elim
      · rename_i c fs hc
        split at p
        · rename_i hm
          split at p
          · rename_i d hd
            obtain ⟨C, dx, gs, mgC, e3, e5, rp⟩ := hh.obj n _ a hc e1
            obtain ⟨v, e4, r4⟩ := rp.lookup hd
            obtain ⟨c1, c2⟩ := F.2 c hm C mgC
            exact ⟨a, C, v, e2, p.okk hh r4, .inr ⟨dx, gs, e3, e5, c1, c2, e4⟩⟩
          · exact p.elim
        · exact p.elim
      · exact p.elim
    · exact p.elim
  refine attr_of hb (thn (he.run pins s σ H _ I q) fun u s1 ⟨x, H1, I1, rx, a, C, v, ex, q1, alt⟩ => ?_)
  subst ex
  obtain rfl : u = Value.ref a := rx
  rcases alt with ⟨dx, gs, ea, c, n, l⟩ | ⟨dx, gs, ea, ed, T, hno, l⟩
  · exact getattr_ok I1 ea c n l fun u' s2 I2 ru => ⟨v, H1, I2, ru, q1⟩
  · obtain ⟨t1, ho⟩ := exo_at I1.hok ea
    obtain ⟨mA, hns, hr⟩ := exd_at I1.hok ed
    obtain ⟨od, hod, hl⟩ := lookIn_ns hns
    obtain ⟨u, hu, ru⟩ := RelO.some_of (v := v) (o := mA f) (by rw [← l]; exact hr f)
    have J : PySem.W.InstAt s1.heap a _ C (some od) := ⟨ho, rfl, rfl, hod⟩
    exact HandSPX.exc_get I1.kIn J T.ga T.gg T.exC (PySem.W.findObj_own T.hdC hno rfl (by rw [hl, hu])) (handed_of ru) ⟨v, H1, I1.tok _, ru, q1⟩
end

/-! ### isinstance(x, C), C a class of the module or a built-in error class -/
/-- what isinstance asks of the classes of x: own ones (ci), error classes (cx) -/
structure IsC (K : PySem.W.Frag) (C : Addr) : Prop where
  hdC : (PySem.W.clsIn K C).isSome = true
  ga : PySem.W.findIn K (.ref C) "__getattribute__" = some (some (.builtin "BaseException.__getattribute__"))
  gg : PySem.W.findIn K (.ref C) "__getattr__" = some none
  sub : PySem.W.subIn K (.ref C) (.type "BaseException") = some true
  ha : PySem.W.findIn K (.ref C) "__class__" = some (some (.builtin "object.__class__"))
  hn : PySem.W.specialIn K (.builtin "object.__class__") "__get__" = some (some (.builtin "getset_descriptor.__get__"))
  ht : PySem.W.takesIn K (.builtin "object.__class__") = some true
  hm : PySem.W.mroIn K C (.type "object") = some true
/-- an own class's instances are asked for their class -/
structure IsI (K : PySem.W.Frag) (C : Addr) : Prop where
  cl : Cls K C
  ha : PySem.W.findIn K (.ref C) "__class__" = some (some (.builtin "object.__class__"))
  hn : PySem.W.specialIn K (.builtin "object.__class__") "__get__" = some (some (.builtin "getset_descriptor.__get__"))
  ht : PySem.W.takesIn K (.builtin "object.__class__") = some true
  hm : PySem.W.mroIn K C (.type "object") = some true
/-- the answers of isinstance(x, c), cv what c is: by the type of a built-in x (tb), by the class of an instance (ti), of an error (tx) -/
structure IsTab (K : PySem.W.Frag) (mg : Str → Option Value) (cv : Value) (tb : List (String × Bool)) (ti tx : List (Str × Bool)) : Prop where
  b : ∀ T r, tb.lookup T = some r → PySem.W.kitOne K (.type T) cv = some r
  i : ∀ c r, ti.lookup c = some r → ∀ C, mg c = some (.ref C) → IsI K C ∧ PySem.W.kitOne K (.ref C) cv = some r
  x : ∀ c r, tx.lookup c = some r → ∀ C, mg c = some (.ref C) → IsC K C ∧ PySem.W.kitOne K (.ref C) cv = some r
def isxF (tb : List (String × Bool)) (ti tx : List (Str × Bool)) : D → MH → R D := fun x h => match tyD h x with
  | some T => (match tb.lookup T with
    | some r => .ok (.bl r) h
    | none => .bad)
  | none => (match x with
    | .ref n => (match h[n]? with
      | some (.ins c _) => (match ti.lookup c with
        | some r => .ok (.bl r) h
        | none => .bad)
      | some (.xc c _) => (match tx.lookup c with
        | some r => .ok (.bl r) h
        | none => .bad)
      | _ => .bad)
    | _ => .bad)
section
variable {X : Cx} {pins : List (Addr × Obj)} {σ : L2.St} {H : Hp} {s : Shared}
/-- isinstance of an error that stands as a value -/
def rIsX (K : PySem.W.Frag) : List V → Hp → VK → Prop := fun xs H Q => ∃ (a C : Addr) (dx : Addr) (gs : List (Str × V)) (c : V) (cv : Value) (b : Bool), xs = [.ref a, c] ∧ ClsV c cv ∧ H a = some (exo a C (some dx)) ∧ H dx = some (exd dx gs) ∧ IsC K C ∧ PySem.W.kitOne K (.ref C) cv = some b ∧ Q (.bl b) H
theorem call_isX : CallR X (.builtin "isinstance") (rIsX X.K) := by
  intro pins s σ H xs us Q I r h
  obtain ⟨a, C, dx, gs, c, cv, b, rfl, k, ea, ed, F, e, q⟩ := h
  obtain ⟨u1, u2, rfl, r1, r2⟩ := vals2 r
  have e2 := k.eq r2
  subst e2
  obtain rfl : u1 = Value.ref a := r1
  obtain ⟨t1, ho⟩ := exo_at I.hok ea
  obtain ⟨mA, hns, hr⟩ := exd_at I.hok ed
  obtain ⟨od, hod, hl⟩ := lookIn_ns hns
  have J : PySem.W.InstAt s.heap a _ C (some od) := ⟨ho, rfl, rfl, hod⟩
  exact PySem.W.kia_one (PySem.W.kitx_exc F.hdC F.ga F.gg F.sub F.ha F.hn F.ht F.hm) I.kIn J e (fun z => nomatch z) fun tk => ⟨.bl b, H, I.tok tk, rfl, q⟩
end
section
variable {X : Cx} {W : Wx} {a c : Expr} {m : EM} {p pos : Pos} {v : V} {cv : Value} {tb : List (String × Bool)} {ti tx : List (Str × Bool)}
theorem e_isx (F : IsTab X.K X.mg cv tb ti tx) (k : ClsV v cv) (hg : Gl X "isinstance") (hm : X.mg "isinstance" = none) (ha : PE X a (tE (gd X) W m)) (hc : PE X c (tC v))
    (s1 : starEach [a, c] X.env = (false, eval a X.env) :: starEach [c] X.env := by rfl) (s2 : starEach [c] X.env = (false, eval c X.env) :: starEach [] X.env := by rfl) (hpl : (backTo pos (starEach [c] X.env)).any (·.1) = false := by rfl) :
    PE X (.Call (.Name "isinstance" p) [a, c] [] pos) (tE (gd X) W (un (isxF tb ti tx) m)) :=
  PE_of (pe_callB (CallR.or call_isi call_isX) hg hm (by decide +kernel) (pa_cons ha (pa_cons hc pa_nil s2) s1) (by decide) (by decide) s1 hpl) fun σ H Q q => by
    refine one q fun ρ e H h x vx s hh rx p => ?_
    unfold isxF at p
    split at p
    · rename_i T hT
      split at p
      · rename_i r hr
        obtain ⟨t1, _⟩ := tyD_v hh rx hT
        exact .inl ⟨vx, v, .type T, cv, r, rfl, k, t1, F.b T r hr, p.okk hh .blN⟩
      · exact p.elim
    · split at p
      · rename_i n _
        obtain ⟨b, e1, e2⟩ := RD_ref rx
        split at p
        · rename_i c0 fs hn
          obtain ⟨C, dx, gs, mgC, e3, rp⟩ := hh.obj n _ b hn e1
          split at p
          · rename_i r hr
            obtain ⟨i1, i2⟩ := F.i c0 r hr C mgC
            subst e2
            exact .inl ⟨.ref b, v, .ref C, cv, r, rfl, k, .base (.ins e3 i1.cl i1.ha i1.hn i1.ht i1.hm), i2, p.okk hh .blN⟩
          · exact p.elim
        · rename_i c0 fs hn
          obtain ⟨C, dx, gs, mgC, e3, e4, rp⟩ := hh.obj n _ b hn e1
          split at p
          · rename_i r hr
            obtain ⟨i1, i2⟩ := F.x c0 r hr C mgC
            subst e2
            exact .inr ⟨b, C, dx, gs, v, cv, r, rfl, k, e3, e4, i1, i2, p.okk hh .blN⟩
          · exact p.elim
        · exact p.elim
      · exact p.elim
end
end ML

/-! ML 13: enumerate of a list, displays of dicts -/
namespace ML
open PySem PySem.Spec PyProof.Rows L2

def enumD (l : List D) : List D := l.zipIdx.map fun p => .tup [.int (p.2 : Nat), p.1]
def enumF : List D → MH → R IT := fun ds h => match ds with
  | [.ref n] => (match h[n]? with
    | some (.lst l) => .ok ⟨enumD l, [(n, l)]⟩ h
    | some (.rdl l) => .ok ⟨enumD l, []⟩ h
    | _ => .bad)
  | _ => .bad
def enumI (m : AM) : IM := fun e h => (m e h).bind enumF
theorem enumD_len (l : List D) : (enumD l).length = l.length := by unfold enumD; simp
theorem enumD_at {l : List D} {i : Nat} {d : D} (e : (enumD l)[i]? = some d) : ∃ x, l[i]? = some x ∧ d = .tup [.int (i : Nat), x] := by
  unfold enumD at e
  rw [List.getElem?_map, List.getElem?_zipIdx] at e
  cases q : l[i]? with
  | none => rw [q] at e; cases e
  | some x =>
    rw [q] at e
    refine ⟨x, rfl, ?_⟩
    have e' := Option.some.inj e
    rw [← e']
    simp
section
variable {X : Cx} {W : Wx} {g : Gd} {ρ : List Addr} {H : Hp} {h : MH}
theorem enum_step {ρ2 : List Addr} {H2 H3 : Hp} {h2 : MH} {T : Addr} {i : Nat} {x : D} {v : V} (hh : RH g ρ2 H2 h2) (hT : H2 T = none) (e : H3 = L2.upd H2 T (.tup [.int (i : Nat), v])) (r : RD g ρ2 H2 x v) :
    Lat g ρ2 H2 ρ2 H3 ∧ RH g ρ2 H3 h2 ∧ RD g ρ2 H3 (.tup [.int (i : Nat), x]) (.ref T) := by
  subst e
  have l := Lat.upd (g := g) (ρ := ρ2) (u := .tup [V.int (i : Nat), v]) (Soft.none hT)
  exact ⟨l, hh.upd hT, .tupN (.of upd_same) (.cons .intN (.one (l.rd x r)))⟩
theorem wk_enumL {a : Addr} {l : List D} {n : Nat} (en : ρ[n]? = some a) : WkD g ρ H ⟨enumD l, [(n, l)]⟩ (Ite g.K a) := by
  have key : ∀ {ρ2 H2 h2}, Lat g ρ H ρ2 H2 → RH g ρ2 H2 h2 → IT.ok h2 [(n, l)] = true → ∃ vs, H2 a = some (.lst vs) ∧ RDs g ρ2 H2 l vs := fun {ρ2 H2 h2} l2 hh ok => by
    have e := stands_eq (p := (n, l)) (by unfold IT.ok at ok; simpa using ok)
    exact hh.obj n _ a e (l2.at en)
  refine ⟨fun H => ∃ vs, SqL g.K H a vs ∧ vs.length = l.length, (Ite g.K a).yld, ⟨fun i H hi ⟨vs, q, e⟩ => ⟨vs, vs[i]'(by rw [e]; rw [enumD_len] at hi; exact hi), q, List.getElem?_eq_getElem _⟩, fun H ⟨vs, q, e⟩ => ⟨vs, q, Nat.le_of_eq (by show vs.length = (enumD l).length; rw [enumD_len, e])⟩, fun _ _ _ _ _ _ y => y⟩,
    fun ρ2 H2 h2 l2 hh ok => ?_, fun i H2 x H3 ρ2 h2 d l2 hh ok y e => ?_⟩
  · obtain ⟨vs, e, r⟩ := key l2 hh ok
    exact ⟨vs, .of e, r.length.symm⟩
  · obtain ⟨vs, e1, r⟩ := key l2 hh ok
    obtain ⟨T, z, e2, e3, e4, y⟩ := y
    obtain ⟨d', e5, e6⟩ := enumD_at e
    obtain ⟨v, e7, r7⟩ := r.get e5
    have e8 := y vs (.of e1)
    rw [e7] at e8
    cases e8
    subst e2 e6
    exact enum_step hh e3 e4 r7
theorem wk_enumR {a : Addr} {l : List D} {vs : List V} (sq : RdL g.K H a vs) (r : RDs g ρ H l vs) : WkD g ρ H ⟨enumD l, []⟩ (Ite g.K a) := by
  refine ⟨fun H => RdL g.K H a vs, (Ite g.K a).yld, ⟨fun i H hi q => ⟨vs, vs[i]'(by rw [enumD_len] at hi; rw [← r.length]; exact hi), q.sq, List.getElem?_eq_getElem _⟩, fun H q => ⟨vs, q.sq, Nat.le_of_eq (by show vs.length = (enumD l).length; rw [enumD_len, r.length])⟩, fun _ _ _ _ _ _ y => y⟩,
    fun ρ2 H2 h2 l2 hh ok => l2.rdl sq, fun i H2 x H3 ρ2 h2 d l2 hh ok y e => ?_⟩
  obtain ⟨T, z, e2, e3, e4, y⟩ := y
  obtain ⟨d', e5, e6⟩ := enumD_at e
  obtain ⟨v, e7, r7⟩ := r.get e5
  have e8 := y vs (l2.rdl sq).sq
  rw [e7] at e8
  cases e8
  subst e2 e6
  exact enum_step hh e3 e4 (l2.rd d' r7)
theorem i_enum {e : Expr} {ma : AM} {p pos tpos : Pos} {elts : List Expr} {kk : Nat} (hg : Gl X "enumerate") (hm : X.mg "enumerate" = none) (ha : PA X [e] (tA (gd X) W ma)) (hs : starEach [e] X.env = [(false, eval e X.env)] := by rfl) :
    PI X (.Tuple elts kk tpos) (.Call (.Name "enumerate" p) [e] [] pos) (iM (gd X) W (enumI ma)) := PI_of (pi_enum hg hm ha hs) fun σ H Q q => by
  refine one q fun ρ e H h xs vs s hh rx p => ?_
  unfold enumF at p
  split at p
  · rename_i n
    obtain ⟨v, e1, r1⟩ := rx.inv1
    obtain ⟨a, e2, e3⟩ := RD_ref r1
    subst e3
    split at p
    · rename_i l hl
      obtain ⟨ws, e4, r⟩ := hh.obj n _ a hl e2
      exact ⟨a, ws, e1, .of e4, p.okk hh (wk_enumL e2)⟩
    · rename_i l hl
      obtain ⟨ws, e4, r⟩ := hh.obj n _ a hl e2
      exact ⟨a, ws, e1, e4.sq, p.okk hh (wk_enumR e4 r)⟩
    · exact p.elim
  · exact p.elim
end

/-! ### displays of dicts -/
/-- the pairs of a display, from the left -/
abbrev PM := List (EM × EM)
def pairsM : PM → Env → MH → R (List (Key × D))
  | [], _, h => .ok [] h
  | (k, v) :: r, e, h => (k e h).bind fun x h1 => match keyOf x with
    | some kx => (v e h1).bind fun y h2 => (pairsM r e h2).bind fun ps h3 => .ok ((kx, y) :: ps) h3
    | none => .bad
def mergeD (kvs more : List (Key × D)) : List (Key × D) := more.foldl (fun acc kv => putKD acc kv.1 kv.2) kvs
def dctE (ps : PM) : EM := fun e h => (pairsM ps e (h ++ [.dct []])).bind fun kvs h2 => match h2[h.length]? with
  | some (.dct []) => if kvs.length ≤ 15 then .ok (.ref h.length) (h2.set h.length (.dct (mergeD [] kvs))) else .bad
  | _ => .bad
section
variable {X : Cx} {W : Wx} {pos : Pos} {g : Gd} {ρ : List Addr} {H : Hp} {h : MH}
theorem RP.merge : ∀ {kvs : List (Key × D)} {ws : List (Key × V)} {acc : List (Key × D)} {bs : List (Key × V)}, RP g ρ H kvs ws → RP g ρ H acc bs → RP g ρ H (mergeD acc kvs) (mergeK bs ws)
  | [], ws, acc, bs, q, r => by have q' : ws = [] := q; subst q'; exact r
  | (k, d) :: kvs, ws, acc, bs, q, r => by
    obtain ⟨v, t, e, q1, q2⟩ := q
    subst e
    show RP g ρ H (mergeD (putKD acc k d) kvs) (mergeK (putK bs k v) t)
    exact RP.merge q2 (r.put q1)
def RPk (g : Gd) : List Addr → Hp → List (Key × D) → List (Key × V) → Prop := fun ρ H => RP g ρ H
theorem pairs_read : ∀ (ps : PM) {σ : L2.St} {H : Hp} {Q : List (V × V) → Hp → Prop},
    tG g (RPk g) W (pairsM ps) σ H (fun ws H' => Q (ws.map fun kv => (kV kv.1, kv.2)) H') → tPairs (ps.map fun p => (tE g W p.1, tE g W p.2)) σ H Q
  | [], σ, H, Q, q => by
    obtain ⟨ρ, e, h, s, hh, p⟩ := q
    exact p ρ [] H Lat.refl hh rfl
  | (k, v) :: r, σ, H, Q, q => by
    show tE g W k σ H fun x H1 => tE g W v σ H1 fun y H2 => tPairs _ σ H2 fun ps H3 => Q ((x, y) :: ps) H3
    refine one q fun ρ e H h x vx s hh rx p => ?_
    split at p
    · rename_i kx hk
      refine ⟨ρ, e, h, s, hh, p.bind.mono fun vy H1 q1 => ?_⟩
      obtain ⟨ρ1, y, h1, l1, hh1, ry, p1⟩ := q1
      refine pairs_read r ⟨ρ1, e, h1, s.lat l1, hh1, p1.bind.mono fun ws H2 q2 => ?_⟩
      obtain ⟨ρ2, kvs, h2, l2, hh2, rk, p2⟩ := q2
      have z := p2.okk (v := (kx, vy) :: ws) hh2 ⟨vy, ws, rfl, l2.rd y ry, rk⟩
      rw [List.map_cons] at z
      rw [keyOf_v rx hk]
      exact z
    · exact p.elim
theorem e_dct {keys : List (Option Expr)} {values : List Expr} (ps : PM) (h : PPs X pos keys values (ps.map fun p => (tE (gd X) W p.1, tE (gd X) W p.2))) (hall : keys.all (·.isSome) = true := by rfl) (hl : keys.length = values.length := by rfl) (h0 : keys ≠ [] := by decide)
    (h15 : keys.length ≤ 15 := by decide) : PE X (.Dict keys values pos) (tE (gd X) W (dctE ps)) :=
  PE_of (pe_disp h hall hl h0 h15) fun σ H Q q => by
    intro a ha
    obtain ⟨ρ, e, m, s, hh, p⟩ := q
    have l1 := Lat.new (g := gd X) (ρ := ρ) (u := .dK []) (Soft.none ha)
    have hh1 : RH (gd X) (ρ ++ [a]) (L2.upd H a (.dK [])) (m ++ [.dct []]) := hh.new ha ⟨[], upd_same, rfl⟩
    have p := Post.later l1 p
    refine pairs_read ps ⟨_, e, _, s.lat l1, hh1, p.bind.mono fun ws H2 q2 => ?_⟩
    obtain ⟨ρ2, kvs, h2, l2, hh2, rk, p2⟩ := q2
    split at p2
    · rename_i hd
      split at p2
      case isFalse => exact p2.elim
      rename_i h15
      have ea : ρ2[m.length]? = some a := l2.at (by rw [← hh.len]; simp)
      obtain ⟨bs, e3, r3⟩ := hh2.obj _ _ a hd ea
      have e0 : bs = [] := r3
      subst e0
      refine ⟨e3, ws, rfl, ?_, ?_⟩
      · have := RP.length rk; omega
      · obtain ⟨l3, hh3⟩ := hh2.setDct hd ea e3 (RP.merge (acc := []) (bs := []) rk rfl)
        exact p2 _ _ _ l3 hh3 (by unfold RD; exact ⟨a, ea, rfl⟩)
    · exact p2.elim
end
end ML

/-! ML 14: assignment to any target, names of built-ins, small things for printed derivations -/
namespace ML
open PySem PySem.Spec PyProof.Rows L2

def asgS (g : GM) (a : EM) : SM := fun e h => ofE e (a e h) fun d h1 => match g d e h1 with
  | some e1 => .nx e1 h1
  | none => .bad
section
variable {X : Cx} {W : WX} {tg a : Expr} {ma : EM} {mg : GM} {own : List Nat} {pos : Pos}
theorem s_asg (ha : PE X a (tE (gd X) (pl W) ma)) (hg : PG X tg (tGm (gd X) own mg)) (hs : swapsWithSole [tg] a pos.line X.env = pure false := by rfl) (hw : swappedStores [tg] a X.env = pure none := by rfl)
    (h1 : (assignEach [tg] X.env).map (·.2) = [assign tg X.env] := by rfl) : PS X (.Assign [tg] a pos) (tS (gd X) W (asgS mg ma)) :=
  PS_of (ps_asg ha hg hs hw h1) fun N σ H q => stE q fun ρ e H h d v s hh r p => by
    cases z : mg d e h with
    | none => rw [z] at p; exact p.elim
    | some e1 =>
      rw [z] at p
      exact ⟨ρ, e, h, d, e1, s, hh, r, z, fun σ2 s2 _ => p ρ σ2 H Lat.refl hh s2⟩
theorem takes_no {X : Cx} : Takes X noW := fun u s' x => by
  obtain ⟨_, _, _, _, _, _, _, _, _, _, _, _, _, _, _, _, z⟩ := x
  exact z.elim
end
theorem Post.cyc : True := True.intro
/-! names -/
theorem bb_len : bootBuiltins "len" = some (.builtin "len") := by decide +kernel
theorem bb_all : bootBuiltins "all" = some (.builtin "all") := by decide +kernel
theorem bb_any : bootBuiltins "any" = some (.builtin "any") := by decide +kernel
theorem bb_max : bootBuiltins "max" = some (.builtin "max") := by decide +kernel
theorem bb_min : bootBuiltins "min" = some (.builtin "min") := by decide +kernel
theorem bb_isinstance : bootBuiltins "isinstance" = some (.builtin "isinstance") := by decide +kernel
theorem bb_int : bootBuiltins "int" = some (.type "int") := by decide +kernel
theorem bb_str : bootBuiltins "str" = some (.type "str") := by decide +kernel
theorem bb_bool : bootBuiltins "bool" = some (.type "bool") := by decide +kernel
theorem bb_list : bootBuiltins "list" = some (.type "list") := by decide +kernel
theorem bb_tuple : bootBuiltins "tuple" = some (.type "tuple") := by decide +kernel
theorem bb_dict : bootBuiltins "dict" = some (.type "dict") := by decide +kernel
theorem bb_VE : bootBuiltins "ValueError" = some (.type "ValueError") := by decide +kernel
end ML

/-! ML 15: repr of a list of the mirror, where no other repr is under way -/
namespace ML
open PySem PySem.Spec PyProof.Rows L2

def allO (f : D → Option PyData) : List D → Option (List PyData)
  | [] => some []
  | d :: r => match f d with
    | some p => (match allO f r with
      | some ps => some (p :: ps)
      | none => none)
    | none => none
def keyP : Key → PyData
  | .inl i => .int i
  | .inr x => .str x
def kvO (f : D → Option PyData) : List (Key × D) → Option (List (PyData × PyData))
  | [] => some []
  | (k, d) :: r => match f d with
    | some p => (match kvO f r with
      | some ps => some ((keyP k, p) :: ps)
      | none => none)
    | none => none
def small (p : PyData) : Option PyData := if p.showable = true ∧ p.shown.length ≤ 1000000 ∧ p.depth ≤ 40 then some p else none
def smalls : List PyData → Bool
  | [] => true
  | p :: ps => (small p).isSome && smalls ps
/-- what stands at d, as a tree -/
def toP (h : MH) : Nat → D → Option PyData
  | 0, _ => none
  | _ + 1, .non => some .none
  | _ + 1, .bl b => some (.bool b)
  | _ + 1, .int i => small (.int i)
  | _ + 1, .str x => small (.str x)
  | n + 1, .tup l => match allO (toP h n) l with
    | some ps => small (.tuple ps)
    | none => none
  | n + 1, .ref k => match h[k]? with
    | some (.lst l) => (match allO (toP h n) l with
      | some ps => small (.list ps)
      | none => none)
    | some (.dct kvs) => (match kvO (toP h n) kvs with
      | some ps => if ps.all (fun p => (small p.1).isSome) then small (.dict ps) else none
      | none => none)
    | _ => none
  | _ + 1, _ => none
theorem small_eq {p q : PyData} (e : small p = some q) : q = p ∧ p.showable = true ∧ p.shown.length ≤ 1000000 ∧ p.depth ≤ 40 := by
  unfold small at e
  split at e
  · rename_i h
    cases e
    exact ⟨rfl, h⟩
  · cases e
/-- all that the library asks of a value whose text is wanted -/
structure Shw (P : Program) (w : World) (h : Heap) (u : Value) (p : PyData) : Prop where
  len : p.shown.length ≤ sizeLine
  rd : ∃ as, Reads h u p as
  rp : ∃ bs, ReadAtMost h p.depth bs ∧ ReprK P w bs h p.depth u p.shown
structure ShwAll (P : Program) (w : World) (h : Heap) (us : List Value) (ps : List PyData) : Prop where
  rd : ∃ as, ReadsAll h us ps as
  rp : ∃ bs, ReadAtMost h (PyData.depthAll ps) bs ∧ ReprAllK P w bs h (PyData.depthAll ps) us (PyData.shownAll ps)
section
variable {P : Program} {w : World} {h : Heap}
theorem ShwAll.nil : ShwAll P w h [] [] := ⟨⟨[], .nil⟩, [], fun _ z => (nomatch z), by simp only [PyData.shownAll]; exact .nil⟩
theorem ShwAll.cons {u : Value} {us : List Value} {p : PyData} {ps : List PyData} (a : Shw P w h u p) (b : ShwAll P w h us ps) : ShwAll P w h (u :: us) (p :: ps) := by
  obtain ⟨x1, r1⟩ := a.rd
  obtain ⟨x2, r2⟩ := b.rd
  obtain ⟨b1, m1, k1⟩ := a.rp
  obtain ⟨b2, m2, k2⟩ := b.rp
  refine ⟨⟨_, .cons r1 r2⟩, b1 ++ b2, ?_, ?_⟩
  · simp only [PyData.depthAll]
    exact (m1.mono (Nat.le_max_left _ _)).append (m2.mono (Nat.le_max_right _ _))
  · simp only [PyData.depthAll, PyData.shownAll]
    exact .cons ((k1.more fun b hb => List.mem_append_left _ hb).level_le (Nat.le_max_left _ _)) (k2.more_le (fun b hb => List.mem_append_right _ hb) (Nat.le_max_right _ _))
theorem shw_leaf {u : Value} {p : PyData} (r : Reads h u p []) (k : ReprIs P w u p.shown) (l : p.shown.length ≤ sizeLine) : Shw P w h u p := ⟨l, ⟨_, r⟩, [], fun _ z => (nomatch z), .of_is k _ _ _⟩
theorem line_of {n : Nat} (h : n ≤ 1000000) : n ≤ sizeLine := big_le h
theorem shw_list {a : Addr} {o : Obj} {its : List Value} {n : Nat} {ps : List PyData} (e : h.get? a = some o) (c : o.cls = .type "list") (d : o.data = .seq its.toArray n) (k : ShwAll P w h its ps) (l : (PyData.list ps).shown.length ≤ sizeLine) : Shw P w h (.ref a) (.list ps) := by
  obtain ⟨x1, r1⟩ := k.rd
  obtain ⟨bs, m, rk⟩ := k.rp
  have r : Reads h (.ref a) (.list ps) (a :: x1) := .list e c d (by simpa using r1)
  have hna : a ∉ bs := not_mem_of_deeper r (by simp only [PyData.depth]; omega) m
  cases its with
  | nil =>
    cases r1
    refine ⟨l, ⟨_, r⟩, [], fun _ z => (nomatch z), ?_⟩
    simp only [PyData.shown, PyData.shownAll, listText_nil]
    exact ReprK.listEmpty e c (by simpa using d)
  | cons x xs =>
    refine ⟨l, ⟨_, r⟩, a :: bs, ReadAtMost.cons r (by simp only [PyData.depth]; omega) m, ?_⟩
    simp only [PyData.shown, PyData.depth]
    exact ReprK.list e c d hna (by simpa using rk.length_eq) fun i y q => rk.item i y (by simpa using q)
theorem shw_tup {a : Addr} {o : Obj} {its : Array Value} {n : Nat} {ps : List PyData} (e : h.get? a = some o) (c : o.cls = .type "tuple") (d : o.data = .seq its n) (k : ShwAll P w h its.toList ps) (l : (PyData.tuple ps).shown.length ≤ sizeLine) : Shw P w h (.ref a) (.tuple ps) := by
  obtain ⟨x1, r1⟩ := k.rd
  obtain ⟨bs, m, rk⟩ := k.rp
  have r : Reads h (.ref a) (.tuple ps) x1 := .tuple e c d r1
  have hna : a ∉ bs := not_mem_of_deeper r (by simp only [PyData.depth]; omega) m
  refine ⟨l, ⟨_, r⟩, a :: bs, ReadAtMost.cons r (by simp only [PyData.depth]; omega) m, ?_⟩
  simp only [PyData.shown, PyData.depth]
  exact ReprK.tuple e c d hna rk
theorem shw_dict {a : Addr} {o : Obj} {es : Array DictEntry} {n : Nat} {ps : List (PyData × PyData)} (e : h.get? a = some o) (c : o.cls = .type "dict") (d : o.data = .dict es n) (hs : (a == sysModules) = false) (k1 : ShwAll P w h (es.toList.map (·.key)) (ps.map (·.1))) (k2 : ShwAll P w h (es.toList.map (·.val)) (ps.map (·.2)))
    (l : (PyData.dict ps).shown.length ≤ sizeLine) : Shw P w h (.ref a) (.dict ps) := by
  obtain ⟨x1, r1⟩ := k1.rd
  obtain ⟨x2, r2⟩ := k2.rd
  obtain ⟨b1, m1, rk1⟩ := k1.rp
  obtain ⟨b2, m2, rk2⟩ := k2.rp
  have r : Reads h (.ref a) (.dict ps) (a :: x1 ++ x2) := .dict e c d r1 r2
  have m : ReadAtMost h (PyData.depthKv ps) (b1 ++ b2) := (m1.mono (PyData.depthAll_keys_le ps)).append (m2.mono (PyData.depthAll_vals_le ps))
  have hna : a ∉ b1 ++ b2 := not_mem_of_deeper r (by simp only [PyData.depth]; omega) m
  refine ⟨l, ⟨_, r⟩, a :: (b1 ++ b2), ReadAtMost.cons r (by simp only [PyData.depth]; omega) m, ?_⟩
  simp only [PyData.shown, PyData.depth, PyData.shownKv_eq]
  exact ReprK.dict e c d hs hna (ReprEntriesK.of_two es.toList _ _ (rk1.more_le (fun b hb => List.mem_append_left _ hb) (PyData.depthAll_keys_le ps)) (rk2.more_le (fun b hb => List.mem_append_right _ hb) (PyData.depthAll_vals_le ps)))
end
section
variable {X : Cx} {pins : List (Addr × Obj)} {σ : L2.St} {H : Hp} {s : Shared} {ρ : List Addr} {h : MH}
theorem shw_all (f : D → Option PyData) (hf : ∀ d v u p, RD (gd X) ρ H d v → RelV v u → f d = some p → Shw X.prog X.w s.heap u p) : ∀ {l : List D} {vs : List V} {us : List Value} {ps : List PyData}, RDs (gd X) ρ H l vs → Vals vs us → allO f l = some ps → ShwAll X.prog X.w s.heap us ps
  | [], vs, us, ps, q, r, e => by
    have := q.invNil
    subst this
    cases r
    cases e
    exact .nil
  | d :: l, vs, us, ps, q, r, e => by
    obtain ⟨v, t, e1, q1, q2⟩ := q.inv
    subst e1
    cases r with
    | cons r1 r2 =>
      unfold allO at e
      split at e
      · rename_i p hp
        split at e
        · rename_i ps' hps
          cases e
          exact .cons (hf _ _ _ _ q1 r1 hp) (shw_all f hf q2 r2 hps)
        · cases e
      · cases e
theorem shw_small {u : Value} {x : PyData} (hx : (small x).isSome = true) (k : ∀ p, small x = some p → Shw X.prog X.w s.heap u p) : Shw X.prog X.w s.heap u x := by
  obtain ⟨p, hp⟩ := Option.isSome_iff_exists.mp hx
  have := (small_eq hp).1
  subst this
  exact k _ hp
theorem shw_int {i : Int} {u : Value} {p : PyData} (r : RelV (.int i) u) (e : small (.int i) = some p) : Shw X.prog X.w s.heap u p := by
  obtain ⟨e1, e2, e3, _⟩ := small_eq e
  subst e1
  obtain ⟨t, rfl⟩ := r
  have hs : i.natAbs.log2 < 1920 := by simpa [PyData.showable] using e2
  exact shw_leaf (.int i t) (by simp only [PyData.shown]; exact ReprIs.int t hs) (line_of e3)
theorem shw_str {x : Str} {u : Value} {p : PyData} (r : RelV (.str x) u) (e : small (.str x) = some p) : Shw X.prog X.w s.heap u p := by
  obtain ⟨e1, e2, e3, _⟩ := small_eq e
  subst e1
  obtain ⟨t, rfl⟩ := r
  exact shw_leaf (.str x t) (by simp only [PyData.shown] at e3 ⊢; exact ReprIs.str x t (line_of e3)) (line_of e3)
theorem shw_key {k : Key} {u : Value} (r : keyIs k u = true) (e : (small (keyP k)).isSome = true) : Shw X.prog X.w s.heap u (keyP k) := by
  obtain ⟨p, hp⟩ := Option.isSome_iff_exists.mp e
  have e1 := (small_eq hp).1
  rw [← e1]
  cases k with
  | inl i =>
    cases u <;> first | (cases r; done) | skip
    rename_i j t
    have : j = i := by simpa [keyIs, Value.isInt] using r
    subst this
    exact shw_int ⟨t, rfl⟩ hp
  | inr x =>
    cases u <;> first | (cases r; done) | skip
    rename_i y t
    have : y = x := by simpa [keyIs, Value.isStrOf] using r
    subst this
    exact shw_str ⟨t, rfl⟩ hp
theorem shw_kv (f : D → Option PyData) (hf : ∀ d v u p, RD (gd X) ρ H d v → RelV v u → f d = some p → Shw X.prog X.w s.heap u p) : ∀ {l : List (Key × D)} {ws : List (Key × V)} {rs : List (Key × Value)} {es : List DictEntry} {ps : List (PyData × PyData)},
    RP (gd X) ρ H l ws → KV ws rs → Pairs (mixKind X.prog X.w) es rs → kvO f l = some ps → ps.all (fun p => (small p.1).isSome) = true → ShwAll X.prog X.w s.heap (es.map (·.key)) (ps.map (·.1)) ∧ ShwAll X.prog X.w s.heap (es.map (·.val)) (ps.map (·.2))
  | [], ws, rs, es, ps, q, r, t, e, z => by
    have q' : ws = [] := q
    subst q'
    cases r
    cases t
    cases e
    exact ⟨.nil, .nil⟩
  | (k, d) :: l, ws, rs, es, ps, q, r, t, e, z => by
    obtain ⟨v, ws', e1, q1, q2⟩ := q
    subst e1
    cases r with
    | cons r1 r2 =>
      cases t with
      | cons t1 t2 t3 =>
        unfold kvO at e
        split at e
        · rename_i p hp
          split at e
          · rename_i ps' hps
            cases e
            rw [List.all_cons, Bool.and_eq_true] at z
            obtain ⟨i1, i2⟩ := shw_kv f hf q2 r2 t3 hps z.2
            obtain ⟨r3, r4⟩ := r1
            have r3' : k = _ := r3
            refine ⟨.cons (shw_key (by rw [r3']; exact t1) z.1) i1, .cons ?_ i2⟩
            have q3 := hf _ _ _ _ q1 r4 hp
            rw [← t2] at q3
            exact q3
          · cases e
        · cases e
theorem shw_of (I : Inv X pins σ H s) (hh : RH (gd X) ρ H h) : ∀ (n : Nat) (d : D) (v : V) (u : Value) (p : PyData), RD (gd X) ρ H d v → RelV v u → toP h n d = some p → Shw X.prog X.w s.heap u p
  | 0, _, _, _, _, _, _, e => by cases e
  | n + 1, d, v, u, p, r, ru, e => by
    have ih := shw_of I hh n
    cases d with
    | non =>
      cases e
      unfold RD at r
      subst r
      obtain rfl : u = Value.none := ru
      exact shw_leaf .none (by simp only [PyData.shown]; exact ReprIs.none) (by decide +kernel)
    | bl b =>
      cases e
      unfold RD at r
      subst r
      obtain rfl : u = Value.bool b := ru
      exact shw_leaf (.bool b) (by simp only [PyData.shown]; exact ReprIs.bool b) (by cases b <;> decide +kernel)
    | int i => rw [RD_int r] at ru; exact shw_int ru e
    | str x => rw [RD_str r] at ru; exact shw_str ru e
    | ty _ => cases e
    | glb _ => cases e
    | tup l =>
      unfold toP at e
      split at e
      · rename_i ps hps
        obtain ⟨e1, e2, e3, _⟩ := small_eq e
        subst e1
        obtain ⟨a, vs, ev, sq, rs⟩ := RD_tup r
        subst ev
        obtain rfl : u = Value.ref a := ru
        obtain ⟨its, rv, ⟨o, ho, hc, m, hd⟩, _⟩ := I.tuple sq
        exact shw_tup ho hc hd (shw_all _ ih rs rv hps) (line_of e3)
      · cases e
    | ref k =>
      obtain ⟨a, ea, ev⟩ := RD_ref r
      subst ev
      obtain rfl : u = Value.ref a := ru
      unfold toP at e
      split at e
      · rename_i l hl
        split at e
        · rename_i ps hps
          obtain ⟨e1, e2, e3, _⟩ := small_eq e
          subst e1
          obtain ⟨vs, e4, rs⟩ := hh.obj k _ a hl ea
          obtain ⟨z, its, m, rv, _, ho⟩ := I.lstM e4
          exact shw_list ho rfl rfl (shw_all _ ih rs rv hps) (line_of e3)
        · cases e
      · rename_i kvs hl
        split at e
        · rename_i ps hps
          split at e
          · rename_i hk
            obtain ⟨e1, e2, e3, _⟩ := small_eq e
            subst e1
            obtain ⟨ws, e4, rp⟩ := hh.obj k _ a hl ea
            obtain ⟨_, hsys, rs, rk, o, es, ep, ho, hx, hd, _, hp, _⟩ := dk_of I.hok e4
            obtain ⟨i1, i2⟩ := shw_kv _ ih rp rk hp hps hk
            exact shw_dict ho hx.1 hd hsys i1 i2 (line_of e3)
          · cases e
        · cases e
      · cases e
end
def reprF : D → MH → R D := fun x h => match x with
  | .ref n => (match h[n]? with
    | some (.lst (d :: l)) => (match toP h 12 x with
      | some p => .ok (.str p.shown) h
      | none => .bad)
    | _ => .bad)
  | _ => .bad
def rRp (g : Gd) : List V → Hp → VK → Prop := fun xs H Q => ∃ ρ h n d l p a, RH g ρ H h ∧ xs = [.ref a] ∧ ρ[n]? = some a ∧ h[n]? = some (.lst (d :: l)) ∧ toP h 12 (.ref n) = some p ∧ Q (.str p.shown) H
section
variable {X : Cx} {W : Wx} {a : Expr} {m : EM} {p pos : Pos}
theorem call_reprM (hg : X.A.guards = some []) (hu : X.A.units + 64 < cLine) : CallR X (.builtin "repr") (rRp (gd X)) := by
  intro pins s σ H xs us Q I r h
  obtain ⟨ρ, h, n, d, l, p, a, hh, rfl, ea, hl, hp, q⟩ := h
  obtain ⟨u, rfl, ru⟩ := vals1 r
  obtain rfl : u = Value.ref a := ru
  unfold toP at hp
  simp only [hl] at hp
  split at hp
  · rename_i ps hps
    obtain ⟨e1, e2, e3, e4⟩ := small_eq hp
    subst e1
    obtain ⟨vs, ev, rs⟩ := hh.obj n _ a hl ea
    obtain ⟨z, its, k, rv, _, ho⟩ := I.lstM ev
    have sa := shw_all _ (shw_of I hh 11) rs rv hps
    obtain ⟨x1, r1⟩ := sa.rd
    obtain ⟨bs, mm, rk⟩ := sa.rp
    have rd : Reads s.heap (.ref a) (.list ps) (a :: x1) := .list ho rfl rfl (by simpa using r1)
    have hna : a ∉ bs := not_mem_of_deeper rd (by simp only [PyData.depth]; omega) mm
    simp only [PyData.depth] at e4
    cases its with
    | nil =>
      cases rv
      have := rs.length
      simp at this
    | cons y ys =>
      refine call_repr_slot (by omega) ⟨_, ho, rfl⟩ F.slot_list_repr.toG (call_list_reprK ho rfl rfl hna (by simpa using rk.length_eq) (fun i y e => rk.item i y (by simpa using e)) hg (fun b _ => Clear.nil b) (by show X.A.units + 1 + _ < cLine; omega) (fun _ _ e => e) (fun h' u tk hk => ⟨_, _, rfl, ?_⟩) (by simpa only [PyData.shown] using line_of e3))
      simp only [PyData.shown] at q
      exact ⟨V.str (listText (PyData.shownAll ps)), H, I.kept (t' := tk) hk, ⟨u, rfl⟩, q⟩
  · cases hp
theorem e_repr (hgd : X.A.guards = some []) (hu : X.A.units + 64 < cLine) (hg : Gl X "repr") (hm : X.mg "repr" = none) (ha : PE X a (tE (gd X) W m)) (hs : starEach [a] X.env = (false, eval a X.env) :: starEach [] X.env := by rfl) :
    PE X (.Call (.Name "repr" p) [a] [] pos) (tE (gd X) W (un reprF m)) :=
  PE_of (pe_callB (call_reprM hgd hu) hg hm (by decide +kernel) (pa_cons ha pa_nil hs) (by decide) (by decide) hs rfl) fun σ H Q q => by
    refine one q fun ρ e H h x vx s hh rx p => ?_
    unfold reprF at p
    split at p
    · rename_i n
      obtain ⟨a, e1, e2⟩ := RD_ref rx
      split at p
      · rename_i d l hl
        split at p
        · rename_i pd hp
          subst e2
          exact ⟨ρ, h, n, d, l, pd, a, hh, rfl, e1, hl, hp, p.okk hh .strN⟩
        · exact p.elim
      · exact p.elim
    · exact p.elim
end
end ML

/-! ML 16: the law's own def, run where no repr is under way -/
namespace ML
open PySem PySem.Spec PyProof.Rows L2

section
variable {P : Program} {w : World} {K : PySem.W.Frag} {mg : Str → Option Value} {base : Heap}
/-- one call of a def, at one place of the stack -/
theorem fn_run {x qual : Str} {st : Stmt} {f : Addr} {fd : FuncData} {N ps : List Str} {k : Nat} {A : Around} {outer : List PySem.Env} {s : Shared} {H : Hp} {args : Args} {us : List Value} {vs : List V} {Q : VK} {E : XK} {t : TS} (F : Fun K x qual st f fd) (S : FnScope N ps (defScope st))
    (hr : Room (k + 1) A) (e0 : Env0 P w K mg base A outer s H) (hb : BindsTo s fd args (ps.zip us)) (r : Vals vs us) (hl : vs.length = ps.length)
    (ht : ∀ cdv, Room k (A.deeper (envOfC qual (defScope st) s.heap.objs.size f cdv)) → PSs (cxOf (L2.CX P w) P w K mg base N qual (defScope st) f cdv A outer s H E) (defBody st) t) (q : t { nx := fun _ H' => Q .non H', rt := Q } (start N vs) H) :
    codeAny (model P w) A (.call (.ref f) args) (CR (L2.CX P w) outer P w H s Q E) s := by
  obtain ⟨oc, od, kV, doc, pm, an, cdv, ct, osl, rfl, lk, hcd⟩ := F.ex
  have stay := fun b o (e : base.get? b = some o) => (e0.bs b o e).1
  have KX : K.In s.heap := e0.mod.kin.keeps stay
  refine codeAny_call_function hr.depth (KX _ _ lk) rfl S.co S.gen rfl (PySem.W.codeRec_of KX hcd) (hb _ _ _ _ (wpAny_newFunctionEnv_cells S.kind (fun y hy => ?_) fun env he s1 i => ?_))
  · obtain ⟨n, v⟩ := y
    exact (S.par n (List.of_mem_zip hy).1).imp id fun z => ⟨z, PySem.W.cellsFrom_some _ _ _ (.inl z)⟩
  · subst he
    have I : Inv (cxOf (L2.CX P w) P w K mg base N qual (defScope st) f cdv A outer s H E) [] (start N vs) H s1 := inv_start S hr.hd e0 hl r i
    refine ⟨(e0.mod.nolimit.keeps stay).keeps i.toInCall.keep, codeAny_func (wpAny_mono ((ht cdv (hr.deeper _)).run [] s1 (start N vs) H _ I q) (fun fl s' hs => ?_) fun _ _ hs => hs)⟩
    cases fl with
    | ret u =>
      obtain ⟨v, _, H', J, rv, hq⟩ := hs
      exact ⟨v, H', J.os, J.bare, J.base, J.hok, rv, hq⟩
    | next =>
      obtain ⟨_, H', J, hq⟩ := hs
      exact ⟨V.non, H', J.os, J.bare, J.base, J.hok, rfl, hq⟩
    | brk =>
      obtain ⟨_, _, _, z⟩ := hs
      exact z.elim
    | cont =>
      obtain ⟨_, _, _, z⟩ := hs
      exact z.elim
/-- the tracked heap ahead of the law: the script alone, where the written part does not hold it -/
def scH (o : Option Obj) (a : Addr) (vs : List Value) (ns : List Int) : Hp := match o with
  | some _ => fun _ => none
  | none => fun b => if b = a then some (.frz { cls := .type "list", data := .seq vs.toArray } (.lst (ns.map V.int))) else none
/-- the call of the law, from what its body does at the caller's own place -/
theorem law_top {mb : Str → Option Value} {fa a : Addr} {s₁ : Shared} {vs : List Value} {ns : List Int} (KX : K.In s₁.heap) (hns : s₁.heap.Ns mainGlobals mg) (hb : s₁.heap.Ns builtinsNs mb) (hbb : ∀ x : Str, x ≠ "__name__" → mb x = bootBuiltins x) (hlim : s₁.heap.NoLimit)
    (hg : s₁.gens = #[]) (ha : s₁.heap.get? a = some { cls := .type "list", data := .seq vs.toArray }) (hi : IntsAre vs ns) (hl : ns.length ≤ sizeLine)
    (go : ∀ (base : Heap) (H : Hp), Env0 P w K mg base callerA [] s₁ H → RdL K H a (ns.map V.int) → codeAny (model P w) callerA (.call (.ref fa) ⟨[.ref a], []⟩) (CR (L2.CX P w) [] P w H s₁ (fun v _ => v = .bl true) fun _ _ _ => False) s₁) :
    codeAny (model P w) callerA (.call (.ref fa) ⟨[.ref a], []⟩) (fun r s' => r = .ok (.ret (.bool true)) ∧ OldK s₁.heap s'.heap ∧ s'.os = s₁.os ∧ AllBare s'.gens) s₁ := by
  have rv := vals_ints hi
  -- what is tracked: nothing, or the script that nobody writes
  have only : ∀ {b : Addr} {u : HO}, scH (K.lookup a) a vs ns b = some u → b = a ∧ K.lookup a = none ∧ u = .frz { cls := .type "list", data := .seq vs.toArray } (.lst (ns.map V.int)) := fun {b u} z => by
    cases hk : K.lookup a with
    | some o =>
      rw [hk] at z
      cases (show (none : Option HO) = some u from z)
    | none =>
      rw [hk] at z
      have z' : (if b = a then some (HO.frz { cls := .type "list", data := .seq vs.toArray } (.lst (ns.map V.int))) else none) = some u := z
      by_cases hb : b = a
      · rw [if_pos hb] at z'
        cases z'
        exact ⟨hb, rfl, rfl⟩
      · rw [if_neg hb] at z'
        cases z'
  have hS : RdL K (scH (K.lookup a) a vs ns) a (ns.map V.int) := by
    cases hk : K.lookup a with
    | none => exact .inl ⟨_, if_pos rfl⟩
    | some o =>
      have e := KX a o hk
      rw [ha] at e
      cases e
      exact .inr ⟨_, vs.toArray, _, hk, rfl, rfl, rfl, by rw [List.size_toArray, hi.length]; exact hl, by simpa using rv⟩
  have free : ∀ {b : Addr} {o : Obj}, s₁.heap.get? b = some o → (b = a → K.lookup a ≠ none ∨ False) → scH (K.lookup a) a vs ns b = none := fun {b o} e hn => by
    cases q : scH (K.lookup a) a vs ns b with
    | none => rfl
    | some u =>
      obtain ⟨h1, h2, _⟩ := only q
      rcases hn h1 with h | h
      · exact absurd h2 h
      · exact h.elim
  have dict : ∀ {b : Addr} {m : Str → Option Value}, s₁.heap.Ns b m → (hidT s₁.heap (scH (K.lookup a) a vs ns)).Ns b m := fun {b m} ⟨o, es, ep, e, d, r⟩ =>
    ⟨o, es, ep, hidT_get e (free e fun hb => by
      subst hb
      rw [ha] at e
      cases e
      cases d), d, r⟩
  have hK : K.In (hidT s₁.heap (scH (K.lookup a) a vs ns)) := fun b o e => hidT_get (KX b o e) (free (KX b o e) fun hb => .inl (by subst hb; rw [e]; simp))
  have hok : HOk P w (scH (K.lookup a) a vs ns) s₁.heap := fun b u q => by
    obtain ⟨h1, _, h3⟩ := only q
    subst h1 h3
    exact ⟨ha, by rw [List.length_map]; exact hl, vs, _, rv, ha⟩
  obtain ⟨mc, l1, l2⟩ := hlim
  have e0 : Env0 P w K mg (hidT s₁.heap (scH (K.lookup a) a vs ns)) callerA [] s₁ (scH (K.lookup a) a vs ns) :=
    ⟨rfl, ⟨hK, dict hns, ⟨mb, dict hb, hbb⟩, ⟨mc, dict l1, l2⟩⟩, fun b o e => of_hidT e, Nat.le_of_eq (hidT_size _ _), trivial, fun b z => absurd (show b ∈ ([] : List Addr) from z) (by simp), hok, .of_eq hg⟩
  refine codeAny_mono (go _ _ e0 hS) fun r s' h => ?_
  cases r with
  | error e => exact (cx_no h).elim
  | ok fl =>
    cases fl with
    | next => exact False.elim h
    | brk => exact False.elim h
    | cont => exact False.elim h
    | ret u =>
      obtain ⟨v, H', os, bare, un, hok', r', q⟩ := h
      have q' : v = .bl true := q
      subst q'
      obtain rfl : u = Value.bool true := r'
      refine ⟨rfl, OldK.of_keep fun b o e => ?_, os, bare⟩
      cases z : scH (K.lookup a) a vs ns b with
      | none => exact un.keep b o e z (by intro y; exact absurd (show b ∈ ([] : List Addr) from y) (by simp)) (by simp)
      | some u =>
        obtain ⟨h1, _, h3⟩ := only z
        subst h3
        obtain ⟨e1, _⟩ := hok b _ z
        obtain ⟨e2, _⟩ := hok' b _ (un.frzs b _ _ z)
        rw [e] at e1
        cases e1
        exact e2
end
end ML

/-! ML 17: the head of a law: classes of the written part, the law from its mirror -/
namespace ML
open PySem PySem.Spec PyProof.Rows L2

/-! ### error classes -/
def xcB (K : PySem.W.Frag) (C fI : Addr) (f : Str) : Bool :=
  decide (PySem.W.findIn K (.ref C) "__setattr__" = some (some (.builtin "object.__setattr__"))) && (decide (PySem.W.subIn K (.ref C) (.type "BaseException") = some true) && (decide (PySem.W.typeIn K (.ref C) = some (.type "type")) && (PySem.W.keepIn K (.ref C) &&
  (decide (PySem.W.findIn K (.ref C) "__init__" = some (some (.ref fI))) && (decide (PySem.W.typeIn K (.ref fI) = some (.type "function")) && (decide (PySem.W.findIn K (.ref C) f = some none) && (xfB K C && ((PySem.W.clsIn K C).isSome &&
  (decide (PySem.W.findIn K (.ref C) "__class__" = some (some (.builtin "object.__class__"))) && (decide (PySem.W.specialIn K (.builtin "object.__class__") "__get__" = some (some (.builtin "getset_descriptor.__get__"))) &&
  (decide (PySem.W.takesIn K (.builtin "object.__class__") = some true) && decide (PySem.W.mroIn K C (.type "object") = some true))))))))))))
structure XcB (K : PySem.W.Frag) (C fI : Addr) (f : Str) : Prop where
  sa : PySem.W.findIn K (.ref C) "__setattr__" = some (some (.builtin "object.__setattr__"))
  exC : PySem.W.subIn K (.ref C) (.type "BaseException") = some true
  tyC : PySem.W.typeIn K (.ref C) = some (.type "type")
  kC : PySem.W.keepIn K (.ref C) = true
  iC : PySem.W.findIn K (.ref C) "__init__" = some (some (.ref fI))
  tI : PySem.W.typeIn K (.ref fI) = some (.type "function")
  no : PySem.W.findIn K (.ref C) f = some none
  xf : XfC K C
  is : IsC K C
theorem xcB_ok {K : PySem.W.Frag} {C fI : Addr} {f : Str} (h : xcB K C fI f = true) : XcB K C fI f := by
  unfold xcB at h
  simp only [Bool.and_eq_true, decide_eq_true_eq] at h
  obtain ⟨h1, h2, h3, h4, h5, h6, h7, h8, h9, h10, h11, h12, h13⟩ := h
  have x := xfB_ok h8
  exact ⟨h1, h2, h3, h4, h5, h6, h7, x, ⟨h9, x.ga, x.gg, h2, h10, h11, h12, h13⟩⟩
section
variable {P : Program} {w : World} {K : PySem.W.Frag} {mg : Str → Option Value} {base : Heap}
/-- the class object of such a class -/
def XcO (K : PySem.W.Frag) (C : Addr) : Prop := ∃ nm q N bs bm sn sub ab col dd k0 k1 k2 k3 k5, K.lookup C = some (excClassObj nm q C N bs bm true sn sub ab col dd k0 k1 k2 k3 k5 "ValueError.__new__") ∧ PySem.HandSPX.refsVE bm = true
theorem xco_mk {C N : Addr} {nm q : Str} {bs bm sub : List Value} {sn : List Str} {ab : Bool} {col : Option Bool} {dd : Option Addr} {k0 k1 k2 k3 k5 : Option Value} (h1 : K.lookup C = some (excClassObj nm q C N bs bm true sn sub ab col dd k0 k1 k2 k3 k5 "ValueError.__new__"))
    (h2 : PySem.HandSPX.refsVE bm = true) : XcO K C := ⟨nm, q, N, bs, bm, sn, sub, ab, col, dd, k0, k1, k2, k3, k5, h1, h2⟩
theorem fun_ex {x qual : Str} {st : Stmt} {f : Addr} {oc : Value} {od an : Option Addr} {osl : Array (Option Value)} {kV doc pm cdv ct : Value} (l : K.lookup f = some ⟨oc, od, .func (PySem.W.fnOf x qual (defArgs st) (defBody st) (defScope st) .none kV doc pm an cdv ct), osl⟩)
    (c : PySem.W.codeIn K cdv qual = true) (k : PySem.W.keepIn K (.ref f) = true) : ∃ fd, Fun K x qual st f fd := ⟨_, fun_mk l c k⟩
theorem xc_mk {c f qual : Str} {st : Stmt} {C fI : Addr} {fd : FuncData} {p1 p2 p3 p4 : Pos} (hm : mg c = some (.ref C)) (oC : XcO K C) (F : Fun K "__init__" qual st fI fd) (B : XcB K C fI f)
    (Sc : FnScope ["self", f] ["self", f] (defScope st)) (hb : defBody st = [.Assign [.Attribute (.Name "self" p1) f p2] (.Name f p3) p4]) (v1 : Vis (defScope st) ("self" : Str)) (v2 : Vis (defScope st) f) (d1 : (f == ("__debug__" : Str)) = false) (d2 : (f == ("__classdict__" : Str)) = false)
    (bd : ∀ (kV doc pm : Value) (an : Option Addr) (cdv ct : Value) (us : List Value), us.length = 2 → bindArgs (PySem.W.fnOf "__init__" qual (defArgs st) (defBody st) (defScope st) .none kV doc pm an cdv ct) ⟨us, []⟩ = pure (([("self" : Str), f] : List Str).zip us))
    (bk : ∀ (kV doc pm : Value) (an : Option Addr) (cdv ct : Value) (x y : Value), bindArgs (PySem.W.fnOf "__init__" qual (defArgs st) (defBody st) (defScope st) .none kV doc pm an cdv ct) ⟨[x], [(f, y)]⟩ = pure (([("self" : Str), f] : List Str).zip [x, y])) : XcC P w K mg base c f := by
  have T : OexC K C := ⟨oC, B.sa, B.exC, B.tyC, B.kC⟩
  refine ⟨C, fI, _, hm, T, B.iC, B.tI, xi_ok F Sc hb T B.no v1 v2 d1 d2, F.binds bd, fun s x y _ => ?_⟩
  obtain ⟨oc, od, kV, doc, pm, an, cdv, ct, osl, rfl, _, _⟩ := F.ex
  exact .of_eq (bk _ _ _ _ _ _ x y)
/-! ### isinstance among the error classes -/
def kindB (K : PySem.W.Frag) (cs : List (Str × Addr)) (U : Addr) : Bool := cs.all fun p => decide (PySem.W.kitOne K (.ref p.2) (.ref U) = some true) && (decide (PySem.W.kitOne K (.ref p.2) (.type "ValueError") = some true) &&
  cs.all fun q => decide (PySem.W.kitOne K (.ref p.2) (.ref q.2) = some (decide (p.1 = q.1))))
def tabOf (ns : List Str) (g : Str → Bool) : List (Str × Bool) := ns.map fun n => (n, g n)
theorem tabOf_at {ns : List Str} {g : Str → Bool} {c : Str} {r : Bool} (e : (tabOf ns g).lookup c = some r) : c ∈ ns ∧ r = g c := by
  induction ns with
  | nil => cases e
  | cons n ns ih =>
    unfold tabOf at e
    rw [List.map_cons] at e
    unfold List.lookup at e
    split at e
    · rename_i h
      cases e
      have h' : c = n := by simpa using h
      subst h'
      exact ⟨List.mem_cons_self, rfl⟩
    · obtain ⟨a, b⟩ := ih e
      exact ⟨List.mem_cons_of_mem _ a, b⟩
theorem isTab_mk {cs : List (Str × Addr)} {cv : Value} {g : Str → Bool} (hm : ∀ p ∈ cs, mg p.1 = some (.ref p.2)) (hx : ∀ p ∈ cs, IsC K p.2) (hk : ∀ p ∈ cs, PySem.W.kitOne K (.ref p.2) cv = some (g p.1)) : IsTab K mg cv [] [] (tabOf (cs.map (·.1)) g) := by
  refine ⟨fun T r e => (by cases e), fun c r e => (by cases e), fun c r e C hC => ?_⟩
  obtain ⟨h1, h2⟩ := tabOf_at e
  subst h2
  obtain ⟨p, hp, e1⟩ := List.mem_map.mp h1
  subst e1
  have := hm p hp
  rw [hC] at this
  cases this
  exact ⟨hx p hp, hk p hp⟩
theorem kind_U {cs : List (Str × Addr)} {U : Addr} (h : kindB K cs U = true) : ∀ p ∈ cs, PySem.W.kitOne K (.ref p.2) (.ref U) = some true := fun p hp => by
  have := List.all_eq_true.mp h p hp
  simp only [Bool.and_eq_true, decide_eq_true_eq] at this
  exact this.1
theorem kind_V {cs : List (Str × Addr)} {U : Addr} (h : kindB K cs U = true) : ∀ p ∈ cs, PySem.W.kitOne K (.ref p.2) (.type "ValueError") = some true := fun p hp => by
  have := List.all_eq_true.mp h p hp
  simp only [Bool.and_eq_true, decide_eq_true_eq] at this
  exact this.2.1
theorem kind_C {cs : List (Str × Addr)} {U : Addr} (h : kindB K cs U = true) {q : Str × Addr} (hq : q ∈ cs) : ∀ p ∈ cs, PySem.W.kitOne K (.ref p.2) (.ref q.2) = some (decide (p.1 = q.1)) := fun p hp => by
  have := List.all_eq_true.mp h p hp
  simp only [Bool.and_eq_true, decide_eq_true_eq] at this
  exact of_decide_eq_true (List.all_eq_true.mp this.2.2 q hq)
/-- the fields of the error classes -/
theorem fld_mk {cs : List (Str × Addr)} {f : Str} (hm : ∀ p ∈ cs, mg p.1 = some (.ref p.2)) (hx : ∀ p ∈ cs, XfC K p.2 ∧ PySem.W.findIn K (.ref p.2) f = some none) : FldOk K mg [] (cs.map (·.1)) f := by
  refine ⟨fun c h => (by cases h), fun c h C hC => ?_⟩
  obtain ⟨p, hp, e1⟩ := List.mem_map.mp h
  subst e1
  have := hm p hp
  rw [hC] at this
  cases this
  exact hx p hp
def adr (mg : Str → Option Value) (x : Str) : Addr := match mg x with
  | some (.ref a) => a
  | _ => 0
theorem adr_of {x : Str} {a : Addr} (h : mg x = some (.ref a)) : mg x = some (.ref (adr mg x)) := by
  unfold adr
  rw [h]
theorem adr_is {x : Str} {a : Addr} (h : mg x = some (.ref a)) : adr mg x = a := by
  unfold adr
  rw [h]

/-! ### the law, from its mirror -/
def scriptM (ns : List Int) : MH := [.rdl (ns.map .int)]
theorem RDs.ints {g : Gd} {ρ : List Addr} {H : Hp} : ∀ (ns : List Int), RDs g ρ H (ns.map .int) (ns.map V.int)
  | [] => .nil
  | n :: ns => .cons .intN (RDs.ints ns)
theorem law_run {st : Stmt} {fa a : Addr} {fd : FuncData} {N : List Str} {k : Nat} {s : Shared} {H : Hp} {ns : List Int} {b : SM} (F : Fun K "law" "law" st fa fd) (S : FnScope N ["script"] (defScope st)) (hr : Room (k + 1) callerA) (e0 : Env0 P w K mg base callerA [] s H)
    (hb : Binds K fd ["script"] []) (hS : RdL K H a (ns.map V.int))
    (hbody : ∀ cdv, Room k (callerA.deeper (envOfC "law" (defScope st) s.heap.objs.size fa cdv)) → PSs (cxOf (L2.CX P w) P w K mg base N "law" (defScope st) fa cdv callerA [] s H (fun _ _ _ => False)) (defBody st) (tS ⟨K, mg⟩ (fun cls d _ H => (fun _ _ _ => False : XK) cls d H) b))
    (hm : ∃ h', b ([some (.ref 0)] ++ List.replicate (N.length - 1) none) (scriptM ns) = .rt (.bl true) h') : codeAny (model P w) callerA (.call (.ref fa) ⟨[.ref a], []⟩) (CR (L2.CX P w) [] P w H s (fun v _ => v = .bl true) fun _ _ _ => False) s := by
  obtain ⟨h', hm⟩ := hm
  have hh : RH ⟨K, mg⟩ [a] H (scriptM ns) := by
    have one : ∀ {n : Nat} {o : O} {x : Addr}, (scriptM ns)[n]? = some o → ([a] : List Addr)[n]? = some x → o = .rdl (ns.map .int) ∧ x = a := fun {n o x} e1 e2 => by
      cases n with
      | zero => cases e1; cases e2; exact ⟨rfl, rfl⟩
      | succ n => simp at e2
    refine ⟨rfl, fun n o x e1 e2 => ?_, fun n m o o' x e1 e2 m1 m2 e3 e4 => ?_⟩
    · obtain ⟨h1, h2⟩ := one e1 e2
      subst h1 h2
      exact ⟨_, hS, RDs.ints ns⟩
    · obtain ⟨h1, _⟩ := one e1 e3
      subst h1
      cases m1
  have rd : RDs ⟨K, mg⟩ [a] H [D.ref 0] [V.ref a] := .one (by unfold RD; exact ⟨a, rfl, rfl⟩)
  refine fn_run F S hr e0 (hb s [.ref a] (e0.mod.kin.keeps fun b o e => (e0.bs b o e).1) rfl) (us := [.ref a]) (vs := [.ref a]) (.cons rfl .nil) rfl hbody ⟨[a], _, _, RS.start rd, hh, ?_⟩
  show PostS _ _ _ _ (b ([some (.ref 0)] ++ List.replicate (N.length - 1) none) (scriptM ns)) _
  rw [hm]
  intro ρ' v H' l _ r
  exact RD_bl r rfl
end
theorem walk {l : PySem.W.OpenLaw} {q : Program} {loose : List Str} {XP : (Str → Option Value) → Heap → Prop} {YP : World → Heap → Prop} {d : DefRec} {K : Params → PySem.W.Frag} (hn : l.most = some 63) (hdf : d.params.defaults = []) (hY : ∀ (w : World) (h : Heap), YP w h → (K w.params).In h)
    (F : ∀ (w : World) (mg : Str → Option Value) (fa : Addr) (h : Heap), (K w.params).In h → h.Ns mainGlobals mg → mg d.name = some (.ref fa) →
      ∀ (base : Heap) (s : Shared) (H : Hp) (a : Addr) (ns : List Int), ns.length ≤ 63 → (∀ z ∈ ns, Builtin.Int.intBits z ≤ 1048576) → Env0 l.prog w (K w.params) mg base callerA [] s H → RdL (K w.params) H a (ns.map V.int) →
        codeAny (model l.prog w) callerA (.call (.ref fa) ⟨[.ref a], []⟩) (CR (L2.CX l.prog w) [] l.prog w H s (fun v _ => v = .bl true) fun _ _ _ => False) s) :
    PySem.W.WalkO q loose XP YP l.row.toRowW d [] (fun f vs => PySem.call f vs) := by
  refine Att.attach_callB hn hdf fun w s₀ s₁ mg mb fa o pm cd doc a vs ns G Y ho hd hcd hmg hobj hints hlen hbits hg => ?_
  exact law_top (hY w _ Y) G.T.g G.T.b G.T.builtins G.T.nolimit hg hobj hints (Nat.le_trans hlen (by decide)) fun base H e0 hS => F w mg fa _ (hY w _ Y) G.T.g hmg base s₁ H a ns hlen hbits e0 hS
end ML

/-! Mp: running mirrors step by step (no program in sight) -/
namespace ML
open PySem PySem.Spec PyProof.Rows L2
section
variable {α β : Type} {e e1 e2 : Env} {h h1 h2 h3 h4 : MH} {x y z d : D} {xs : List D} {a b c : EM} {as : AM} {t t2 : TM} {m m2 : SM} {i n : Nat} {v : Bool} {r : R D} {s : S}
theorem ev_var (p : e[i]? = some (some d)) : varE i e h = .ok d h := by unfold varE; rw [p]
theorem ev_con : conE d e h = .ok d h := rfl
theorem ev_bin {f : D → D → MH → R D} (p : a e h = .ok x h1) (q : b e h1 = .ok y h2) (k : f x y h2 = r) : bin f a b e h = r := by unfold bin; rw [p]; show R.bind (b e h1) _ = r; rw [q]; exact k
theorem ev_un {f : D → MH → R D} (p : a e h = .ok x h1) (k : f x h1 = r) : un f a e h = r := by unfold un; rw [p]; exact k
theorem ev_nil : nilA e h = .ok [] h := rfl
theorem ev_cons (p : a e h = .ok x h1) (q : as e h1 = .ok xs h2) : consA a as e h = .ok (x :: xs) h2 := by unfold consA; rw [p]; show R.bind (as e h1) _ = _; rw [q]; rfl
theorem ev_on {f : List D → MH → R D} (p : as e h = .ok xs h1) (k : f xs h1 = r) : onA f as e h = r := by unfold onA; rw [p]; exact k
theorem ev_bm {T : String} {f : D → List D → MH → R D} (p : a e h = .ok x h1) (ty : tyD h1 x = some T) (q : as e h1 = .ok xs h2) (k : f x xs h2 = r) : bmE T f a as e h = r := by
  unfold bmE
  rw [p]
  show (if tyD h1 x = some T then (as e h1).bind (fun xs h2 => f x xs h2) else .bad) = r
  rw [if_pos ty, q]
  exact k
theorem ev_val (p : a e h = .ok (.bl v) h1) : valT a e h = .ok v h1 := by unfold valT; rw [p]; rfl
theorem ev_not (p : t e h = .ok v h1) : notT t e h = .ok (!v) h1 := by unfold notT; rw [p]; rfl
theorem ev_andF (p : t e h = .ok false h1) : andT t t2 e h = .ok false h1 := by unfold andT; rw [p]; rfl
theorem ev_andT (p : t e h = .ok true h1) (q : t2 e h1 = .ok v h2) : andT t t2 e h = .ok v h2 := by unfold andT; rw [p]; exact q
theorem ev_orT (p : t e h = .ok true h1) : orT t t2 e h = .ok true h1 := by unfold orT; rw [p]; rfl
theorem ev_orF (p : t e h = .ok false h1) (q : t2 e h1 = .ok v h2) : orT t t2 e h = .ok v h2 := by unfold orT; rw [p]; exact q
theorem ev_ifT (p : t e h = .ok true h1) (q : a e h1 = r) : ifE t a b e h = r := by unfold ifE; rw [p]; exact q
theorem ev_ifF (p : t e h = .ok false h1) (q : b e h1 = r) : ifE t a b e h = r := by unfold ifE; rw [p]; exact q
/-! statements -/
theorem es_set (p : a e h = .ok d h1) : setS i a e h = .nx (e.set i (some d)) h1 := by unfold setS ofE; rw [p]
theorem es_set' (p : a e h = .ok d h1) (q : e.set i (some d) = e1) : setS i a e h = .nx e1 h1 := by rw [← q]; exact es_set p
theorem es_exp (p : a e h = .ok d h1) : expS a e h = .nx e h1 := by unfold expS ofE; rw [p]
theorem es_ret (p : a e h = .ok d h1) : retS a e h = .rt d h1 := by unfold retS ofE; rw [p]
theorem es_pass : passS e h = .nx e h := rfl
theorem es_seq (p : m e h = .nx e1 h1) (q : m2 e1 h1 = s) : seqS m m2 e h = s := by unfold seqS; rw [p]; exact q
theorem es_seqR (p : m e h = .rt d h1) : seqS m m2 e h = .rt d h1 := by unfold seqS; rw [p]
theorem es_ifT (p : t e h = .ok true h1) (q : m e h1 = s) : ifS t m m2 e h = s := by unfold ifS ofT; rw [p]; exact q
theorem es_ifF (p : t e h = .ok false h1) (q : m2 e h1 = s) : ifS t m m2 e h = s := by unfold ifS ofT; rw [p]; exact q
theorem es_setX (p : c e h = .ok z h1) (q : a e h1 = .ok x h2) (k : b e h2 = .ok y h3) (w : stF x y z h3 = some h4) : setX a b c e h = .nx e h4 := by
  unfold setX ofE
  rw [p]
  dsimp only
  rw [q]
  dsimp only
  rw [k]
  dsimp only
  rw [w]
theorem es_par2 {j : Nat} (p : as e h = .ok [x, y] h1) : parS [i, j] as e h = .nx ((e.set i (some x)).set j (some y)) h1 := by unfold parS ofA; rw [p]; rfl
theorem ef_rt {np n : Nat} {ds : List D} {b : SM} (hl : ds.length = np) (p : b (ds.map some ++ List.replicate (n - ds.length) none) h = .rt d h1) : fnM np n b ds h = .ok d h1 := by unfold fnM; rw [if_pos hl, p]
/-! numbers -/
variable {l : List D} {k j : Int}
theorem set_get {k : Nat} {o o' : O} (e : h[k]? = some o) : (h.set k o')[k]? = some o' := by
  rw [List.getElem?_set_self (List.getElem?_eq_some_iff.mp e).1]
theorem ix0 {x : D} {r : List D} (e : h[n]? = some (.lst (x :: r))) : ixF (.ref n) (.int 0) h = .ok x h := by
  simp [ixF, seqOf, e, atI, ixN]
theorem ix1 {x y : D} {r : List D} (e : h[n]? = some (.lst (x :: y :: r))) : ixF (.ref n) (.int 1) h = .ok y h := by
  have : (1 : Int) < (r.length : Int) + 1 + 1 := by omega
  simp [ixF, seqOf, e, atI, ixN, this]
theorem int_i : intF [.int k] h = .ok (.int k) h := rfl
theorem add_i : addF (.int k) (.int j) h = .ok (.int (k + j)) h := rfl
theorem sub_i : subF (.int k) (.int j) h = .ok (.int (k - j)) h := rfl
theorem mod_i (p : 0 < j) : modF (.int k) (.int j) h = .ok (.int (k % j)) h := by unfold modF; dsimp only; rw [if_pos p]
theorem div_i (p : 0 < j) (q : j.natAbs.log2 < 9000) : fdivF (.int k) (.int j) h = .ok (.int (k / j)) h := by unfold fdivF; dsimp only; rw [if_pos ⟨p, q⟩]
theorem mul_i (p : k.natAbs.log2 + j.natAbs.log2 < 100000000) : mulF (.int k) (.int j) h = .ok (.int (k * j)) h := by unfold mulF; dsimp only; rw [if_pos p]
theorem pow_i (p : 0 ≤ j) (q : ((k.natAbs.log2 + 1 : Nat) : Int) * j ≤ 2 ^ 27) : powF (.int k) (.int j) h = .ok (.int (k ^ j.toNat)) h := by unfold powF; dsimp only; rw [if_pos ⟨p, q⟩]
theorem ge_T (p : j ≤ k) : geF (.int k) (.int j) h = .ok (.bl true) h := by unfold geF ordF; dsimp only; rw [decide_eq_true p]
theorem ge_F (p : ¬ j ≤ k) : geF (.int k) (.int j) h = .ok (.bl false) h := by unfold geF ordF; dsimp only; rw [decide_eq_false p]
theorem lt_T (p : k < j) : ltF (.int k) (.int j) h = .ok (.bl true) h := by unfold ltF ordF; dsimp only; rw [decide_eq_true p]
theorem lt_F (p : ¬ k < j) : ltF (.int k) (.int j) h = .ok (.bl false) h := by unfold ltF ordF; dsimp only; rw [decide_eq_false p]
theorem log_lt {k : Nat} {z : Int} (hk : 0 < k) (p : z.natAbs < 2 ^ k) : z.natAbs.log2 < k := by
  rcases Nat.eq_zero_or_pos z.natAbs with e | e
  · rw [e]; simpa using hk
  · exact (Nat.log2_lt (by omega)).mpr p
theorem st0 {a b v : D} (e : h[n]? = some (.lst [a, b])) : stF (.ref n) (.int 0) v h = some (h.set n (.lst [v, b])) := by simp [stF, e, ixN]
theorem st1 {a b v : D} (e : h[n]? = some (.lst [a, b])) : stF (.ref n) (.int 1) v h = some (h.set n (.lst [a, v])) := by simp [stF, e, ixN]
theorem lst_new (hl : xs.length ≤ 1000000) : lstF xs h = .ok (.ref h.length) (h ++ [.lst xs]) := by unfold lstF; rw [if_pos hl]
theorem tup_new (hl : xs.length ≤ 1000000) : tupF xs h = .ok (.tup xs) h := by unfold tupF; rw [if_pos hl]
/-! walks -/
theorem loop_nil {srcs : List (Nat × List D)} {g : GM} (ok : IT.ok h srcs = true) : loopS srcs g m [] e h = .nx e h := by unfold loopS; rw [if_pos ok]
theorem loop_cons {srcs : List (Nat × List D)} {g : GM} (ok : IT.ok h srcs = true) (p : g d e h = some e1) (q : m e1 h = .nx e2 h2) : loopS srcs g m (d :: xs) e h = loopS srcs g m xs e2 h2 := by
  rw [loopS, if_pos ok, p]
  dsimp only
  rw [q]
theorem es_for {it : IM} {g : GM} {I : IT} (p : it e h = .ok I h1) (q : loopS I.srcs g m I.items e h1 = s) : forS it g m e h = s := by unfold forS; rw [p]; exact q
theorem ei_rdl {l : List D} (p : a e h = .ok (.ref n) h1) (q : h1[n]? = some (.rdl l)) : seqI a e h = .ok ⟨l, []⟩ h1 := by
  unfold seqI
  rw [p]
  show seqF (.ref n) h1 = _
  unfold seqF
  dsimp only
  rw [q]
theorem ei_lst {l : List D} (p : a e h = .ok (.ref n) h1) (q : h1[n]? = some (.lst l)) : seqI a e h = .ok ⟨l, [(n, l)]⟩ h1 := by
  unfold seqI
  rw [p]
  show seqF (.ref n) h1 = _
  unfold seqF
  dsimp only
  rw [q]
theorem ei_rng {j : Int} (p : as e h = .ok [.int j] h1) (c : -(2 ^ 62) ≤ j ∧ j < 2 ^ 62) : rng1I as e h = .ok ⟨rangeD 0 j.toNat, []⟩ h1 := by
  unfold rng1I
  rw [p]
  show (if -(2 ^ 62) ≤ j ∧ j < 2 ^ 62 then _ else _) = _
  rw [if_pos c]
theorem len_rdl {l : List D} (q : h[n]? = some (.rdl l)) : lenF [.ref n] h = .ok (.int l.length) h := by simp [lenF, seqOf, q]
theorem len_lst {l : List D} (q : h[n]? = some (.lst l)) : lenF [.ref n] h = .ok (.int l.length) h := by simp [lenF, seqOf, q]
theorem len_tup {l : List D} : lenF [.tup l] h = .ok (.int l.length) h := by simp [lenF, seqOf]
theorem ixN_ok {n : Nat} {i : Int} (h0 : 0 ≤ i) (h1 : i < n) : ixN n i = some i.toNat := by unfold ixN; rw [if_pos h0, if_pos h1]
theorem ix_rdl {l : List D} {i : Int} {d : D} (q : h[n]? = some (.rdl l)) (h0 : 0 ≤ i) (h1 : l[i.toNat]? = some d) : ixF (.ref n) (.int i) h = .ok d h := by
  have hl : i.toNat < l.length := (List.getElem?_eq_some_iff.mp h1).1
  have : atI l i = some d := by unfold atI; rw [ixN_ok h0 (by omega)]; exact h1
  simp [ixF, seqOf, q, this]
theorem ix_lst {l : List D} {i : Int} {d : D} (q : h[n]? = some (.lst l)) (h0 : 0 ≤ i) (h1 : l[i.toNat]? = some d) : ixF (.ref n) (.int i) h = .ok d h := by
  have hl : i.toNat < l.length := (List.getElem?_eq_some_iff.mp h1).1
  have : atI l i = some d := by unfold atI; rw [ixN_ok h0 (by omega)]; exact h1
  simp [ixF, seqOf, q, this]
theorem ix_tup {l : List D} {i : Int} {d : D} (h0 : 0 ≤ i) (h1 : l[i.toNat]? = some d) : ixF (.tup l) (.int i) h = .ok d h := by
  have hl : i.toNat < l.length := (List.getElem?_eq_some_iff.mp h1).1
  have : atI l i = some d := by unfold atI; rw [ixN_ok h0 (by omega)]; exact h1
  simp [ixF, seqOf, this]
/-! numbers of any size -/
theorem bits_lt (z : Int) : z.natAbs < 2 ^ (Builtin.Int.intBits z) := by
  unfold Builtin.Int.intBits
  split
  · rename_i hz
    have : z = 0 := by simpa using hz
    subst this
    decide
  · exact Nat.lt_log2_self
theorem log_add {x y : Int} {k : Nat} (hx : x.natAbs < 2 ^ k) (hy : y.natAbs < 2 ^ k) : (x + y).natAbs.log2 ≤ k := by
  have h1 : (x + y).natAbs < 2 ^ (k + 1) := by
    have := Int.natAbs_add_le x y
    rw [Nat.pow_succ]
    omega
  have := log_lt (Nat.succ_pos k) h1
  omega
theorem pow_up {k j : Nat} {x : Nat} (h : x < 2 ^ k) (hk : k ≤ j) : x < 2 ^ j := Nat.lt_of_lt_of_le h (Nat.pow_le_pow_right (by decide) hk)
end
end ML

/-! ML 18: constants of the module, starred arguments, chains, a, b, c = x, y, z, insert -/
namespace ML
open PySem PySem.Spec PyProof.Rows L2

/-! ### constants of the module -/
/-- the tuple of texts that the module's name x holds -/
def TupG (K : PySem.W.Frag) (mg : Str → Option Value) (x : Str) (l : List Str) : Prop := ∃ a dd its n sl, mg x = some (.ref a) ∧ K.lookup a = some ⟨.type "tuple", dd, .seq its n, sl⟩ ∧ its.size ≤ sizeLine ∧ Vals (l.map V.str) its.toList
/-- the text, the number that it holds -/
def StrG (mg : Str → Option Value) (x : Str) (s : Str) : Prop := ∃ t, mg x = some (.str s t)
def IntG (mg : Str → Option Value) (x : Str) (i : Int) : Prop := ∃ t, mg x = some (.int i t)
def strsD (l : List Str) : D := .tup (l.map .str)
theorem RDs.strs {g : Gd} {ρ : List Addr} {H : Hp} : ∀ (l : List Str), RDs g ρ H (l.map .str) (l.map V.str)
  | [] => .nil
  | s :: l => .cons .strN (RDs.strs l)
section
variable {X : Cx} {W : Wx} {W0 : WX} {x : Str} {pos : Pos} {l : List Str} {s : Str} {i : Int}
theorem e_gtup (G : TupG X.K X.mg x l) (hg : Gl X x) (hd : (x == ("__debug__" : Str)) = false := by decide) : PE X (.Name x pos) (tE (gd X) W (conE (strsD l))) := by
  obtain ⟨a, dd, its, n, sl, hm, hk, hz, rv⟩ := G
  exact e_con (pe_glob (v := .ref a) hg hm rfl hd) fun ρ H => .tupN (.inr ⟨_, its, n, hk, rfl, rfl, hz, rv⟩) (RDs.strs l)
theorem e_gstr (G : StrG X.mg x s) (hg : Gl X x) (hd : (x == ("__debug__" : Str)) = false := by decide) : PE X (.Name x pos) (tE (gd X) W (conE (.str s))) := by
  obtain ⟨t, hm⟩ := G
  exact e_con (pe_glob (v := .str s) hg hm ⟨t, rfl⟩ hd) fun ρ H => .strN
theorem e_gint (G : IntG X.mg x i) (hg : Gl X x) (hd : (x == ("__debug__" : Str)) = false := by decide) : PE X (.Name x pos) (tE (gd X) W (conE (.int i))) := by
  obtain ⟨t, hm⟩ := G
  exact e_con (pe_glob (v := .int i) hg hm ⟨t, rfl⟩ hd) fun ρ H => .intN
end

/-! ### starred arguments -/
def starA (a : EM) (r : AM) : AM := fun e h => (a e h).bind fun x h1 => match seqOf h1 x with
  | some (_, l) => (r e h1).bind fun ys h2 => .ok (l ++ ys) h2
  | none => .bad
section
variable {X : Cx} {W : Wx} {a b c : Expr} {ma mb mc : EM} {es : List Expr} {mas : AM} {p pos : Pos}
theorem a_star (ha : PE X a (tE (gd X) W ma)) (hr : PA X es (tA (gd X) W mas)) (hs : starEach (.Starred a p :: es) X.env = (true, eval a X.env) :: starEach es X.env := by rfl) : PA X (.Starred a p :: es) (tA (gd X) W (starA ma mas)) :=
  PA_of (StX.pa_star ha hr hs) fun σ H Q q => by
    refine one q fun ρ e H h x vx s hh rx p => ?_
    split at p
    · rename_i k l hl
      obtain ⟨q, vs, e1, rs, alt⟩ := seq_v hh rx hl
      refine ⟨q, vs, e1, ?_, ρ, e, h, s, hh, p.bind.mono fun ws H1 q1 => ?_⟩
      · rcases alt with ⟨_, z⟩ | ⟨_, z⟩
        · exact .inl z
        · exact .inr z
      · obtain ⟨ρ1, ys, h1, l1, hh1, ry, p1⟩ := q1
        exact p1.okk hh1 ((l1.rds l rs).append ry)
    · exact p.elim

/-! ### chains a < b < c -/
def chainE (f g : D → D → MH → R D) (a b c : EM) : EM := fun e h => (a e h).bind fun x h1 => (b e h1).bind fun y h2 => (f x y h2).bind fun z h3 => (toB z h3).bind fun k h4 => if k then (c e h4).bind fun w h5 => g y w h5 else .ok (.bl false) h4
theorem chain_read {f g : D → D → MH → R D} {r r' : R2} (hf : RF2 (gd X) f r) (hg : RF2 (gd X) g r') {σ : L2.St} {H : Hp} {Q : VK} (q : tE (gd X) W (chainE f g ma mb mc) σ H Q) : tChain r r' (tE (gd X) W ma) (tE (gd X) W mb) (tE (gd X) W mc) σ H Q := by
  refine one q fun ρ e H h x vx s hh rx p => ?_
  refine ⟨ρ, e, h, s, hh, p.bind.mono fun vy H1 q1 => ?_⟩
  obtain ⟨ρ1, y, h1, l1, hh1, ry, p1⟩ := q1
  refine hf _ _ ρ1 H1 h1 x y vx vy hh1 (l1.rd x rx) ry (p1.bind.mono fun vz H2 q2 => ?_)
  obtain ⟨ρ2, z, h2, l2, hh2, rz, p2⟩ := q2
  obtain ⟨k, e1, p3⟩ := toB_ok rz p2
  refine ⟨k, e1, ?_⟩
  cases k with
  | false =>
    rw [if_neg (by decide)]
    exact p3.okk hh2 .blN
  | true =>
    rw [if_pos rfl]
    rw [if_pos rfl] at p3
    refine ⟨ρ2, e, h2, (s.lat l1).lat l2, hh2, p3.bind.mono fun vw H3 q3 => ?_⟩
    obtain ⟨ρ3, w, h3, l3, hh3, rw', p4⟩ := q3
    exact hg _ _ ρ3 H3 h3 y w vy vw hh3 (l3.rd y (l2.rd y ry)) rw' p4
theorem e_chain {op op' : CmpOp} {r r' : R2} {f g : D → D → MH → R D} (ho : OpR X (compareOp op) r) (hf : RF2 (gd X) f r) (ho' : OpR X (compareOp op') r') (hg : RF2 (gd X) g r') (ha : PE X a (tE (gd X) W ma)) (hb : PE X b (tE (gd X) W mb)) (hc : PE X c (tE (gd X) W mc))
    (hm : lastMarks [op, op'] [b, c] = false := by with_unfolding_all rfl) : PE X (.Compare a [op, op'] [b, c] pos) (tE (gd X) W (chainE f g ma mb mc)) :=
  PE_of (pe_chain ho ho' ha hb hc hm) fun σ H Q q => chain_read hf hg q
theorem t_chain {op op' : CmpOp} {r r' : R2} {f g : D → D → MH → R D} (ho : OpR X (compareOp op) r) (hf : RF2 (gd X) f r) (ho' : OpR X (compareOp op') r') (hg : RF2 (gd X) g r') (ha : PE X a (tE (gd X) W ma)) (hb : PE X b (tE (gd X) W mb)) (hc : PE X c (tE (gd X) W mc))
    (hm : lastMarks [op, op'] [b, c] = false := by with_unfolding_all rfl) : PT X (.Compare a [op, op'] [b, c] pos) (tT (gd X) W (valT (chainE f g ma mb mc))) :=
  PT_of (pt_chain ho ho' ha hb hc hm) fun σ H Q q => chain_read hf hg (testOf q)
/-! ### -x -/
def negF : D → MH → R D := fun x h => match x with
  | .int i => .ok (.int (-i)) h
  | _ => .bad
theorem rf_neg : RF1 (gd X) negF (rU fun i => .int (-i)) := fun Wf Q ρ H h x vx hh rx p => by
  unfold negF at p
  split at p
  · exact ⟨_, RD_int rx, p.okk hh .intN⟩
  · exact p.elim
end
section
variable {X : Cx} {W : WX} {ma : AM} {pos : Pos}
theorem s_par3 (i j l : Nat) {x y z : Str} {a b c : Expr} {px py pz pt : Pos} {kt k2 pt2} (hc : X.calm = true) (hN : X.N.Nodup) (hi : X.N[i]? = some x) (hj : X.N[j]? = some y) (hl : X.N[l]? = some z) (hij : i ≠ j) (hil : i ≠ l) (hjl : j ≠ l)
    (hx : X.env.scope.names.lookup x = some .local) (hy : X.env.scope.names.lookup y = some .local) (hz : X.env.scope.names.lookup z = some .local) (ha : PA X [a, b, c] (tA (gd X) (pl W) ma))
    (hw : swappedStores [.Tuple [.Name x px, .Name y py, .Name z pz] kt pt] (.Tuple [a, b, c] k2 pt2) X.env = pure (some [x, y, z]))
    (hs : swapsWithSole [.Tuple [.Name x px, .Name y py, .Name z pz] kt pt] (.Tuple [a, b, c] k2 pt2) pos.line X.env = pure false := by rfl) :
    PS X (.Assign [.Tuple [.Name x px, .Name y py, .Name z pz] kt pt] (.Tuple [a, b, c] k2 pt2) pos) (tS (gd X) W (parS [i, j, l] ma)) :=
  PS_of (ps_par3 hc hN hi hj hl hij hil hjl hx hy hz ha hw hs) fun N σ H q => stA q fun ρ e H h ds vs s hh r p => by
    match ds, r, p with
    | [d1, d2, d3], r, p =>
      obtain ⟨v, r1, e1, q1, q2⟩ := r.inv
      obtain ⟨w, r2, e2, q3, q4⟩ := q2.inv
      obtain ⟨u, e3, q5⟩ := q4.inv1
      rw [e3] at e2
      rw [e2] at e1
      exact ⟨v, w, u, e1, p ρ _ H Lat.refl hh (((s.set q1 i).set q3 j).set q5 l)⟩
    | [], r, p => exact p.elim
    | [_], r, p => exact p.elim
    | [_, _], r, p => exact p.elim
    | _ :: _ :: _ :: _ :: _, r, p =>
      rw [if_neg (by simp)] at p
      exact p.elim
end
/-! ### xs.insert(i, x) -/
def insF : D → List D → MH → R D := fun x xs h => match x, xs with
  | .ref n, [.int i, y] => (match h[n]? with
    | some (.lst l) => if l.length < 1000000 ∧ 0 ≤ i ∧ i < 2 ^ 62 then .ok .non (h.set n (.lst (l.take i.toNat ++ [y] ++ l.drop i.toNat))) else .bad
    | _ => .bad)
  | _, _ => .bad
theorem rf_insert {g : Gd} : RFm g insF (fun x vs H Q => ∃ (l : Addr) (xs : List V) (i : Int) (y : V), x = .ref l ∧ vs = [.int i, y] ∧ H l = some (.lst xs) ∧ xs.length < sizeLine ∧ 0 ≤ i ∧ i < 2 ^ 63 ∧
    Q .non (L2.upd H l (.lst (xs.take i.toNat ++ [y] ++ xs.drop i.toNat)))) := fun Wf Q ρ H h x xs vx vs hh rx rxs p => by
  unfold insF at p
  split at p
  · rename_i n i y
    split at p
    · rename_i l hl
      split at p
      · rename_i hz
        obtain ⟨a, e1, e2⟩ := RD_ref rx
        obtain ⟨ws, e3, rs⟩ := hh.obj n _ a hl e1
        obtain ⟨v1, v2, e4, r4, r5⟩ := rxs.inv2
        rw [RD_int r4] at e4
        obtain ⟨l1, l2⟩ := hh.setLst hl e1 e3 (((rs.take i.toNat).append (.one r5)).append (rs.drop i.toNat))
        exact ⟨a, ws, i, v2, e2, e4, e3, by rw [← rs.length, sizeLine_eq]; omega, hz.2.1, by omega, p ρ _ _ l1 l2 .nonN⟩
      · exact p.elim
    · exact p.elim
  · exact p.elim
end ML

/-! ML 19: instances: made, their attributes stored, raise -/
namespace ML
open PySem PySem.Spec PyProof.Rows L2

/-! ### C(..): the class's __init__ lets nothing out -/
def makeF (c : Str) (m : FM) : FM := fun ds h => match m (.ref h.length :: ds) (h ++ [.ins c []]) with
  | .ok .non h' => .ok (.ref h.length) h'
  | _ => .bad
/-- an own class with its __init__, as its callers know it -/
structure InC (P : Program) (w : World) (K : PySem.W.Frag) (mg : Str → Option Value) (base : Heap) (c : Str) (k np : Nat) (m : FM) : Prop where
  ex : ∃ C f fd ps, mg c = some (.ref C) ∧ Mk K C f ∧ Binds K fd ps [] ∧ ps.length = np ∧ FnOk P w K mg base (L2.CX P w) k f fd ps (spM ⟨K, mg⟩ ps.length m)
section
variable {X : Cx} {W : Wx} {g : Gd} {e : Expr} {es : List Expr} {mas : AM} {pos p : Pos} {c : Str} {k np : Nat} {m : FM} {ρ : List Addr} {H : Hp} {h : MH}
theorem RH.newIns {x dx C : Addr} (hh : RH g ρ H h) (h1 : H x = none) (h2 : H dx = none) (h3 : dx ≠ x) (hm : g.mg c = some (.ref C)) :
    Lat g ρ H (ρ ++ [x]) (L2.upd (L2.upd H dx (.own x)) x (.ins C dx [])) ∧ RH g (ρ ++ [x]) (L2.upd (L2.upd H dx (.own x)) x (.ins C dx [])) (h ++ [.ins c []]) ∧ RD g (ρ ++ [x]) (L2.upd (L2.upd H dx (.own x)) x (.ins C dx [])) (.ref h.length) (.ref x) := by
  have q1 : RH g ρ (L2.upd H dx (.own x)) h := hh.upd h2
  have l1 := Lat.upd (g := g) (ρ := ρ) (u := .own x) (Soft.none h2)
  have e0 : L2.upd H dx (.own x) x = none := by rw [upd_ne (Ne.symm h3)]; exact h1
  have l2 := Lat.new (g := g) (ρ := ρ) (u := .ins C dx []) (Soft.none e0)
  refine ⟨l1.trans l2, q1.new e0 ⟨C, dx, [], hm, upd_same, rfl⟩, ?_⟩
  unfold RD
  exact ⟨x, by rw [← hh.len]; simp, rfl⟩
theorem make_read {C : Addr} {ps : List Str} (mgC : X.mg c = some (.ref C)) {σ : L2.St} {H : Hp} {Q : VK} (hn : ∀ ds h, ds.length ≠ ps.length → m ds h = .bad) (q : tE (gd X) W (onA (makeF c m) mas) σ H Q) :
    tMake C (spM (gd X) ps.length m) [] (fun _ _ _ => False) (tA (gd X) W mas) σ H Q := by
  refine one q fun ρ e H h xs vs s hh rx p => ?_
  intro x dx h1 h2 h3
  obtain ⟨l1, l2, l3⟩ := hh.newIns (c := c) h1 h2 h3 mgC
  unfold makeF at p
  have rd : RDs (gd X) (ρ ++ [x]) (L2.upd (L2.upd H dx (.own x)) x (.ins C dx [])) (.ref h.length :: xs) (.ref x :: (vs ++ [])) := by
    rw [List.append_nil]
    exact .cons l3 (l1.rds xs rx)
  have hx0 : ∃ h', m (.ref h.length :: xs) (h ++ [.ins c []]) = .ok .non h' ∧ Post (gd X) (RD (gd X)) (fun c d H' => W.W c d σ H') ρ H (.ok (.ref h.length) h') Q := by
    split at p
    · rename_i h' e1
      exact ⟨h', e1, p⟩
    · exact p.elim
  obtain ⟨h', e1, p⟩ := hx0
  refine ⟨?_, ρ ++ [x], _, _, rd, l2, ?_⟩
  · by_cases hl : (D.ref h.length :: xs).length = ps.length
    · rw [← hl, ← rd.length]
    · rw [hn _ _ hl] at e1
      cases e1
  · rw [e1]
    intro ρ2 v H2 a b r
    refine ⟨by unfold RD at r; exact r, ?_⟩
    refine p ρ2 (.ref x) H2 (l1.trans a) b ?_
    exact a.rd _ l3
theorem e_make (F : InC X.prog X.w X.K X.mg X.base c k np m) (hn : ∀ ds h, ds.length ≠ np → m ds h = .bad) (hr : Room (k + 1) X.A) (hg : Gl X c) (ha : PA X (e :: es) (tA (gd X) W mas)) (hdb : (c == ("__debug__" : Str)) = false := by decide)
    (he : starEach (e :: es) X.env = (false, eval e X.env) :: starEach es X.env := by rfl) (hpl : (backTo pos (starEach es X.env)).any (·.1) = false := by rfl) : PE X (.Call (.Name c p) (e :: es) [] pos) (tE (gd X) W (onA (makeF c m) mas)) := by
  obtain ⟨C, f, fd, ps, mgC, M, hb, hnp, G⟩ := F.ex
  subst hnp
  exact PE_of (pe_make M G hr hg mgC hb .nil (fun _ _ _ _ _ _ _ z => (cx_no z).elim) ha hdb he hpl) fun σ H Q q => make_read mgC hn q
end

/-! ### o.f = v -/
def putFD (f : Str) (v : D) : List (Str × D) → List (Str × D)
  | [] => [(f, v)]
  | (g, x) :: r => if g = f then (g, v) :: r else (g, x) :: putFD f v r
theorem RP.putF {g : Gd} {ρ : List Addr} {H : Hp} {f : Str} {d : D} {v : V} (r : RD g ρ H d v) : ∀ {fs : List (Str × D)} {gs : List (Str × V)}, RP g ρ H fs gs → RP g ρ H (putFD f d fs) (L2.putF f v gs)
  | [], gs, q => by
    have q' : gs = [] := q
    subst q'
    exact ⟨v, [], rfl, r, rfl⟩
  | (k, x) :: fs, gs, q => by
    obtain ⟨u, t, e, q1, q2⟩ := q
    subst e
    show RP g ρ H (if k = f then (k, d) :: fs else (k, x) :: putFD f d fs) (if k = f then (k, v) :: t else (k, u) :: L2.putF f v t)
    by_cases hk : k = f
    · rw [if_pos hk, if_pos hk]
      exact ⟨v, t, rfl, r, q2⟩
    · rw [if_neg hk, if_neg hk]
      exact ⟨u, _, rfl, q1, RP.putF r q2⟩
def putO (ci : List Str) (f : Str) : D → D → MH → Option MH := fun x v h => match x with
  | .ref n => (match h[n]? with
    | some (.ins c fs) => if c ∈ ci ∧ fs.length < 1000 then some (h.set n (.ins c (putFD f v fs))) else none
    | _ => none)
  | _ => none
def stFld (ci : List Str) (f : Str) (o a : EM) : SM := fun e h => ofE e (a e h) fun v h1 => ofE e (o e h1) fun x h2 => match putO ci f x v h2 with
  | some h3 => .nx e h3
  | none => .bad
section
variable {X : Cx} {W : WX} {o a : Expr} {mo ma : EM} {pos pos' : Pos} {f : Str} {ci cx : List Str}
theorem put_ok (F : FldOk X.K X.mg ci cx f) {ρ : List Addr} {H : Hp} {h h' : MH} {x v : D} {vx vv : V} {Q : Hp → Prop} (hh : RH (gd X) ρ H h) (rx : RD (gd X) ρ H x vx) (rv : RD (gd X) ρ H v vv) (e : putO ci f x v h = some h') (k : ∀ H', Lat (gd X) ρ H ρ H' → RH (gd X) ρ H' h' → Q H') :
    ∃ a C dx fs, vx = .ref a ∧ H a = some (.ins C dx fs) ∧ Cls X.K C ∧ NoAttr X.K C f ∧ fs.length < 1000 ∧ Q (L2.upd H a (.ins C dx (L2.putF f vv fs))) := by
  unfold putO at e
  split at e
  · rename_i n
    obtain ⟨b, e1, e2⟩ := RD_ref rx
    split at e
    · rename_i c fs hn
      split at e
      · rename_i hc
        cases e
        obtain ⟨C, dx, gs, mgC, e3, rp⟩ := hh.obj n _ b hn e1
        obtain ⟨c1, c2⟩ := F.1 c hc.1 C mgC
        have rp2 := rp.putF (f := f) rv
        have l2 := Lat.upd (g := gd X) (ρ := ρ) (u := .ins C dx (L2.putF f vv gs)) (Soft.ins e3)
        have hh2 := hh.set (u := .ins C dx (L2.putF f vv gs)) (o' := .ins c (putFD f v fs)) hn e1 rfl rfl (Soft.ins e3) ⟨C, dx, _, mgC, upd_same, l2.rp _ rp2⟩
        exact ⟨b, C, dx, gs, e2, e3, c1, c2, by rw [← RP.length rp]; exact hc.2, k _ l2 hh2⟩
      · cases e
    · cases e
  · cases e
theorem s_fld (F : FldOk X.K X.mg ci cx f) (ho : PE X o (tE (gd X) (pl W) mo)) (ha : PE X a (tE (gd X) (pl W) ma)) (hs : swapsWith a (some (.Attribute o f pos')) pos.line X.env = pure false := by rfl) : PS X (.Assign [.Attribute o f pos'] a pos) (tS (gd X) W (stFld ci f mo ma)) :=
  PS_of (ps_fld ho ha hs) fun N σ H q => by
    refine stE q fun ρ e H h v vv s hh rv p => ?_
    refine ⟨ρ, e, h, s.x, hh, ?_⟩
    revert p
    generalize mo e h = r
    intro p
    cases r with
    | bad => exact p.elim
    | exc c fs h1 => exact fun ρ1 H1 C dd gs l a => p ρ1 σ H1 C dd gs l a (l.rs s)
    | ok x h1 =>
      intro ρ1 vo H1 l1 hh1 r1
      have p : PostS (gd X) W ρ H (match putO ci f x v h1 with | some h3 => .nx e h3 | none => .bad) N := p
      cases z : putO ci f x v h1 with
      | none => rw [z] at p; exact p.elim
      | some h3 =>
        rw [z] at p
        exact put_ok F hh1 r1 (l1.rd v rv) z fun H3 l3 hh3 => p ρ1 σ H3 (l1.trans l3) hh3 ((l1.trans l3).rs s)
end

/-! ### raise C(x), C an error class of one field -/
def raiseS (c f : Str) (a : AM) : SM := fun e h => ofA e (a e h) fun ds h1 => match ds with
  | [d] => .exc c [(f, d)] e h1
  | _ => .bad
section
variable {X : Cx} {W : WX} {e : Expr} {es : List Expr} {mas : AM} {pos p pos' : Pos} {c f : Str}
theorem del_xc {H : Hp} {a dx C : Addr} {y : V} (h1 : H a = none) (h3 : dx ≠ a) : L2.upd (L2.del (xcH H a dx C f y) a) dx (.xd [(f, y)]) = L2.upd H dx (.xd [(f, y)]) := by
  funext b
  by_cases hb : b = dx
  · subst hb; rw [upd_same, upd_same]
  · rw [upd_ne hb, upd_ne hb]
    by_cases ha : b = a
    · subst ha; rw [del_same, h1]
    · rw [del_ne ha]
      unfold xcH
      rw [upd_ne ha, upd_ne hb, upd_ne ha]
theorem s_raise (tk : Takes X W) (hc : X.calm = true) (F : XcC X.prog X.w X.K X.mg X.base c f) (hr : Room 2 X.A) (hg : Gl X c) (ha : PA X (e :: es) (tA (gd X) (pl W) mas)) (hdb : (c == ("__debug__" : Str)) = false := by decide)
    (he : starEach (e :: es) X.env = (false, eval e X.env) :: starEach es X.env := by rfl) (hpl : (backTo pos (starEach es X.env)).any (·.1) = false := by rfl) : PS X (.Raise (some (.Call (.Name c p) (e :: es) [] pos)) none pos') (tS (gd X) W (raiseS c f mas)) := by
  obtain ⟨C, fI, fd, mgC, T, iC, tI, G, hb, hk⟩ := F.ex
  refine PS_of (ps_raise hc tk (pmk_oex (k := 1) T iC tI G hr hb .nil (fun _ _ _ _ _ _ _ z => (cx_no z).elim) hg mgC ha hdb he hpl)) fun N σ H q => ?_
  refine stA q fun ρ e H h ds vs s hh rd p => ?_
  have hd : ∃ d, ds = [d] ∧ PostS (gd X) W ρ H (.exc c [(f, d)] e h) N := by
    split at p
    · exact ⟨_, rfl, p⟩
    · exact p.elim
  obtain ⟨d, ed, p⟩ := hd
  subst ed
  obtain ⟨y, ey, ry⟩ := rd.inv1
  subst ey
  refine ⟨by simp, fun a ha => ⟨a, y, rfl, upd_same, fun dx n ne => ?_⟩⟩
  have n' : H dx = none := by rw [upd_ne ne] at n; exact n
  refine ⟨rfl, dx, [(f, y)], upd_same, by rw [upd_ne ne, upd_same], n', ?_⟩
  have e1 := del_xc (C := C) (f := f) (y := y) ha ne
  unfold xcH at e1
  rw [e1]
  have l := Lat.upd (g := gd X) (ρ := ρ) (u := .xd [(f, y)]) (Soft.none n')
  exact p ρ σ _ C dx [(f, y)] l (hh.upd n') (l.rs s) mgC upd_same (RP.one (l.rd d ry))
end
def neverS : SM := fun _ _ => .bad
section
variable {X : Cx} {W : WX} {st : Stmt} {sts : List Stmt}
theorem s_never : PS X st (tS (gd X) W neverS) := PS_of ps_never fun N σ H q => by
  obtain ⟨ρ, e, h, s, hh, p⟩ := q
  exact p.elim
theorem ss_never : PSs X sts (tS (gd X) W neverS) := PSs_of pss_never fun N σ H q => by
  obtain ⟨ρ, e, h, s, hh, p⟩ := q
  exact p.elim
end
end ML

/-! ML 20: try .. except C as e: one statement -/
namespace ML
open PySem PySem.Spec PyProof.Rows L2

/-- in an except suite: where the error stands and what it holds -/
def sufW (g : Gd) (i : Nat) (a dd : Addr) (gs : List (Str × V)) (fs : List (Str × D)) : Wx :=
  ⟨noW, fun ρ H σ => σ[i]? = some (some (.ref a)) ∧ H dd = some (.xd gs) ∧ RP g ρ H fs gs, fun g' ρ H ρ' H' σ l j => ⟨j.1, l.xd _ _ j.2.1, (show Lat g ρ H ρ' H' from ⟨l.pre, l.tup, l.frz, l.xd, l.ext⟩).rp _ j.2.2⟩⟩
/-- which classes are caught by the class that stands in the clause -/
def CatTab (K : PySem.W.Frag) (mg : Str → Option Value) (cv : Value) (ct : List (Str × Bool)) : Prop := ∀ c b, ct.lookup c = some b → ∀ C, mg c = some (.ref C) → PySem.W.exmOne K (.ref C) cv = some b
def tryAs (b : SM) (ct : List (Str × Bool)) (i : Nat) (s : Str → List (Str × D) → SM) : SM := fun e h => match b e h with
  | .exc c fs e1 h1 => (match ct.lookup c with
    | some true => if i < e1.length then (match s c fs (e1.set i none) h1 with
      | .nx e2 h2 => .nx (e2.set i none) h2
      | .rt d h2 => .rt d h2
      | _ => .bad) else .bad
    | some false => .exc c fs e1 h1
    | none => .bad)
  | r => r
/-- error.f in the suite -/
def xfE (cx : List Str) (c : Str) (fs : List (Str × D)) (f : Str) : EM := fun _ h => if c ∈ cx then (match fs.lookup f with
  | some d => .ok d h
  | none => .bad) else .bad
/-- isinstance(error, ..) in the suite -/
def xiE (tx : List (Str × Bool)) (c : Str) : EM := fun _ h => match tx.lookup c with
  | some b => .ok (.bl b) h
  | none => .bad
section
variable {X : Cx} {a C dd : Addr} {oe : Obj} {pn : List (Addr × Obj)} {i : Nat} {gs : List (Str × V)} {fs : List (Str × D)} {c f n : Str} {p pos : Pos} {ci cx : List Str}
theorem x_fld (F : FldOk X.K X.mg ci cx f) (mc : X.mg c = some (.ref C)) (hz : Zc (.ref C) (some dd) oe) (hf : ∃ vs, oe.data = .fields vs) (hv : PE (X.suite a ((a, oe) :: pn)) (.Name n p) (tVar i))
    (hb : attributeBase (.Name n p) f X.env (eval (.Name n p) X.env) = eval (.Name n p) X.env := by rfl) : PE (X.suite a ((a, oe) :: pn)) (.Attribute (.Name n p) f pos) (tE (gd X) (sufW (gd X) i a dd gs fs) (xfE cx c fs f)) := by
  by_cases hc : c ∈ cx
  · obtain ⟨c1, c2⟩ := F.2 c hc C mc
    refine PE_of (pe_xf c1 c2 hz hf hv hb) fun σ H Q q => ?_
    obtain ⟨ρ, e, h, s, hh, p⟩ := q
    unfold xfE at p
    rw [if_pos hc] at p
    cases z : fs.lookup f with
    | none => rw [z] at p; exact p.elim
    | some d =>
      rw [z] at p
      obtain ⟨j1, j2, j3⟩ := s.j
      obtain ⟨v, e1, r1⟩ := j3.lookup z
      exact ⟨.ref a, j1, rfl, rfl, dd, gs, v, rfl, j2, e1, p.okk hh r1⟩
  · refine ⟨fun pins s σ H Q I q => ?_⟩
    obtain ⟨ρ, e, h, s, hh, p⟩ := q
    unfold xfE at p
    rw [if_neg hc] at p
    exact p.elim
/-- isinstance of the pinned error, whatever its dict -/
def rIsP (K : PySem.W.Frag) (a C dd : Addr) : List V → Hp → VK → Prop := fun xs H Q => ∃ (gs : List (Str × V)) (k : V) (cv : Value) (b : Bool), xs = [.ref a, k] ∧ ClsV k cv ∧ H dd = some (.xd gs) ∧ IsC K C ∧ PySem.W.kitOne K (.ref C) cv = some b ∧ Q (.bl b) H
theorem call_isP (hz : Zc (.ref C) (some dd) oe) (hf : ∃ vs, oe.data = .fields vs) : CallR (X.suite a ((a, oe) :: pn)) (.builtin "isinstance") (rIsP X.K a C dd) := by
  intro pins s σ H xs us Q I r h
  obtain ⟨gs, k, cv, b, rfl, hk, ed, F, e, q⟩ := h
  obtain ⟨u1, u2, rfl, r1, r2⟩ := vals2 r
  have e2 := hk.eq r2
  subst e2
  obtain rfl : u1 = Value.ref a := r1
  obtain ⟨ha, _⟩ := I.pin (a, oe) (List.mem_append_left _ List.mem_cons_self)
  obtain ⟨vs, hd⟩ := hf
  have hx : ObjOk X.prog X.w H s.heap dd (.xd gs) := I.hok dd _ ed
  obtain ⟨mA, hns, hr⟩ := hx
  obtain ⟨od, ho, hl⟩ := lookIn_ns hns
  have J : PySem.W.InstAt s.heap a oe C (some od) := ⟨ha, hz.1, by unfold PySem.W.notCls; rw [hd] <;> rfl, by rw [hz.2]; exact ho⟩
  exact PySem.W.kia_one (PySem.W.kitx_exc F.hdC F.ga F.gg F.sub F.ha F.hn F.ht F.hm) I.kIn J e (fun z => nomatch z) fun tk => ⟨.bl b, H, I.tok tk, rfl, q⟩
theorem x_is {k : V} {cv : Value} {tb : List (String × Bool)} {ti tx : List (Str × Bool)} {ce : Expr} (F : IsTab X.K X.mg cv tb ti tx) (mc : X.mg c = some (.ref C)) (hz : Zc (.ref C) (some dd) oe) (hf : ∃ vs, oe.data = .fields vs) (hk : ClsV k cv) (hg : Gl X "isinstance") (hm : X.mg "isinstance" = none)
    (hv : PE (X.suite a ((a, oe) :: pn)) (.Name n p) (tVar i)) (hce : PE (X.suite a ((a, oe) :: pn)) ce (tC k)) (s1 : starEach [.Name n p, ce] X.env = (false, eval (.Name n p) X.env) :: starEach [ce] X.env := by rfl) (s2 : starEach [ce] X.env = (false, eval ce X.env) :: starEach [] X.env := by rfl)
    (hpl : (backTo pos (starEach [ce] X.env)).any (·.1) = false := by rfl) {ip : Pos} : PE (X.suite a ((a, oe) :: pn)) (.Call (.Name "isinstance" ip) [.Name n p, ce] [] pos) (tE (gd X) (sufW (gd X) i a dd gs fs) (xiE tx c)) := by
  cases z : tx.lookup c with
  | none =>
    refine ⟨fun pins s σ H Q I q => ?_⟩
    obtain ⟨ρ, e, h, s, hh, p⟩ := q
    unfold xiE at p
    rw [z] at p
    exact p.elim
  | some b =>
    obtain ⟨i1, i2⟩ := F.x c b z C mc
    refine PE_of (pe_callB (call_isP hz hf) hg hm (by decide +kernel) (pa_cons hv (pa_cons hce pa_nil s2) s1) (by decide) (by decide) s1 hpl) fun σ H Q q => ?_
    obtain ⟨ρ, e, h, s, hh, p⟩ := q
    unfold xiE at p
    rw [z] at p
    obtain ⟨j1, j2, j3⟩ := s.j
    exact ⟨.ref a, j1, gs, k, cv, b, rfl, hk, j2, i1, i2, p.okk hh .blN⟩
end
section
variable {X : Cx} {Wout : WX} {i : Nat} {n x y : Str} {cv : Value} {ct : List (Str × Bool)} {body : List Stmt} {mb : SM} {np pos pos' py sp : Pos} {ex : Expr} {m : Str → List (Str × D) → EM} {j : Nat}
/-- what the suite reads -/
def tSuf (X : Cx) (i : Nat) (sm : Str → List (Str × D) → SM) (a : Addr) (cls : Value) (d : Option Addr) : TS := fun N σ H => ∃ ρ e h c C dd gs fs, cls = .ref C ∧ d = some dd ∧ X.mg c = some (.ref C) ∧ RX (gd X) (sufW (gd X) i a dd gs fs) ρ H e σ ∧ RH (gd X) ρ H h ∧
  (match sm c fs e h with
    | .nx e2 h2 => ∀ ρ' σ' H', Lat (gd X) ρ H ρ' H' → RH (gd X) ρ' H' h2 → RS (gd X) ρ' H' e2 σ' → N.nx σ' H'
    | .rt v h2 => ∀ ρ' u H', Lat (gd X) ρ H ρ' H' → RH (gd X) ρ' H' h2 → RD (gd X) ρ' H' v u → N.rt u H'
    | _ => False)
theorem RS.wipe1 {g : Gd} {ρ : List Addr} {H : Hp} {e : Env} {σ : L2.St} {v : Option V} (s : RS g ρ H e σ) (i : Nat) : RS g ρ H (e.set i none) (σ.set i v) := by
  refine ⟨by simp [s.len], fun k d z => ?_⟩
  by_cases hk : k = i
  · subst hk
    have hl : k < e.length := by
      have := (List.getElem?_eq_some_iff.mp z).1
      simpa using this
    rw [List.getElem?_set_self hl] at z
    cases z
  · rw [List.getElem?_set_ne (Ne.symm hk)] at z
    obtain ⟨u, z1, z2⟩ := s.get k d z
    exact ⟨u, by rw [List.getElem?_set_ne (Ne.symm hk)]; exact z1, z2⟩
theorem s_tryAs (tk : Takes X Wout) (hN : X.N.Nodup) (hi : X.N[i]? = some n) (hln : X.env.kindOf n = some .local) (hc : Names X x cv) (F : CatTab X.K X.mg cv ct) {b₀ : Stmt} {suite : List Stmt} {sm : Str → List (Str × D) → SM}
    (hb : ∀ (W : WX) (pn : List (Addr × Obj)) (xe : Value → Shared → Prop), Takes (X.tr pn xe) W → PassesOwn (model X.prog X.w) X.A X.env xe → PSs (X.tr pn xe) body (tS (gd X) W mb))
    (hsu : ∀ (a : Addr) (oe : Obj) (cls : Value) (d : Option Addr) (pn : List (Addr × Obj)), Zc cls d oe → (∃ vs, oe.data = .fields vs) → PSs (X.suite a ((a, oe) :: pn)) (b₀ :: suite) (tSuf X i sm a cls d))
    (hs : X.stack = X.env :: X.outer := by rfl) (hf : X.env.frame = some X.env.locals := by rfl) :
    PS X (.Try body [.ExceptHandler (some (.Name x np)) (some n) (b₀ :: suite) pos'] [] [] pos) (tS (gd X) Wout (tryAs mb ct i sm)) :=
  PS_of (ps_try_as (tb := fun W => tS (gd X) W mb) (ts := tSuf X i sm) hs hf hN hi hln hc tk hb hsu) fun D σ H q => by
    obtain ⟨ρ, e, h, s, hh, p⟩ := q
    refine ⟨ρ, e, h, s, hh, ?_⟩
    unfold tryAs at p
    revert p
    generalize mb e h = r
    intro p
    cases r with
    | nx e1 h1 => exact p
    | rt d h1 => exact p
    | bk e1 h1 => exact p
    | ct e1 h1 => exact p
    | bad => exact p
    | exc c fs e1 h1 =>
      intro ρ1 σ1 H1 C dd gs l1 hh1 s1 mc ed rp
      dsimp only at p
      cases z : ct.lookup c with
      | none => rw [z] at p; exact p.elim
      | some b =>
        rw [z] at p
        refine ⟨b, F c b z C mc, fun hb a ha => ?_, fun hb => ?_⟩
        · subst hb
          dsimp only at p
          split at p
          case isFalse => exact p.elim
          rename_i hi1
          have hlen : i < σ1.length := by rw [← s1.len]; exact hi1
          refine ⟨ρ1, e1.set i none, h1, c, C, dd, gs, fs, rfl, rfl, mc, ⟨s1.wipe1 i, ?_, ed, rp⟩, hh1, ?_⟩
          · rw [List.getElem?_set_self hlen]
          · revert p
            generalize sm c fs (e1.set i none) h1 = r
            intro p
            cases r with
            | nx e2 h2 => exact fun ρ2 σ2 H2 l2 hh2 s2 => p ρ2 _ H2 (l1.trans l2) hh2 (s2.wipe1 i)
            | rt d h2 => exact fun ρ2 u H2 l2 hh2 r2 => p ρ2 u H2 (l1.trans l2) hh2 r2
            | bk e2 h2 => exact p.elim
            | ct e2 h2 => exact p.elim
            | exc c2 f2 e2 h2 => exact p.elim
            | bad => exact p.elim
        · subst hb
          exact p ρ1 σ1 H1 C dd gs l1 hh1 s1 mc ed rp
/-- the suite is y = ex -/
theorem su_set {a : Addr} {oe : Obj} {cls : Value} {d : Option Addr} {pn : List (Addr × Obj)} (j : Nat) (hN : X.N.Nodup) (hj : X.N[j]? = some y) (hy : Loc X.env.scope y)
    (hx : ∀ (C dd : Addr) (gs : List (Str × V)) (c : Str) (fs : List (Str × D)), cls = .ref C → d = some dd → X.mg c = some (.ref C) → PE (X.suite a ((a, oe) :: pn)) ex (tE (gd X) (sufW (gd X) i a dd gs fs) (m c fs)))
    (hsw : swapsWith ex (some (.Name y py)) sp.line X.env = pure false := by rfl) (hf : X.fn y = true ∨ X.env.scope.names.lookup y = some .local := by first | exact .inl rfl | exact .inr rfl | assumption) :
    PSs (X.suite a ((a, oe) :: pn)) [.Assign [.Name y py] ex sp] (tSuf X i (fun c fs => setS j (m c fs)) a cls d) := by
  refine ⟨fun pins s σ H D I q => ?_⟩
  obtain ⟨ρ, e, h, c, C, dd, gs, fs, e1, e2, mc, rx, hh, p⟩ := q
  refine (pss_one (ps_set (X := X.suite a ((a, oe) :: pn)) hN hj hy (hx C dd gs c fs e1 e2 mc) hsw hf)).run pins s σ H D I ?_
  refine ⟨ρ, e, h, rx, hh, ?_⟩
  revert p
  show (match (match m c fs e h with | .ok d h1 => S.nx (e.set j (some d)) h1 | .exc c' fs' h1 => S.exc c' fs' e h1 | .bad => S.bad) with | .nx e2 h2 => _ | .rt v h2 => _ | _ => False) → _
  generalize m c fs e h = r
  intro p
  cases r with
  | ok d h1 => exact fun ρ1 v H1 l1 hh1 rv => p ρ1 _ H1 l1 hh1 ((l1.rs rx.s).set rv j)
  | exc c' fs' h1 => exact p.elim
  | bad => exact p.elim
end
end ML

/-! ML 21: calls with keywords -/
namespace ML
open PySem PySem.Spec PyProof.Rows L2

def gCut {α : Type} (n m : Nat) (us ws : List α) : List α := if us.length = n ∧ ws.length = m then us ++ ws else []
theorem kb_mk {K : PySem.W.Frag} {fd : FuncData} {ps ks : List Str} {n m : Nat} (hp : ps ≠ []) (h : ∀ (s : Shared) (us ws : List Value), us.length = n → ws.length = m → BindsTo s fd ⟨us, ks.zip ws⟩ (ps.zip (us ++ ws))) : KBinds K fd ps ks (gCut n m) (gCut n m) := by
  refine ⟨fun s us ws _ hl => ?_, fun {vs us zs ws} r1 r2 => ?_⟩
  · unfold gCut at hl ⊢
    split at hl
    · rename_i c
      rw [if_pos c]
      exact h s us ws c.1 c.2
    · cases ps with
      | nil => exact absurd rfl hp
      | cons p ps => simp at hl
  · unfold gCut
    by_cases c : vs.length = n ∧ zs.length = m
    · rw [if_pos c, if_pos ⟨by rw [← r1.length]; exact c.1, by rw [← r2.length]; exact c.2⟩]
      exact r1.append r2
    · rw [if_neg c, if_neg (by rw [← r1.length, ← r2.length]; exact c)]
      exact .nil
/-- what a caller with keywords knows of a def: n arguments by place, then the keywords ks -/
structure CalK (P : Program) (w : World) (K : PySem.W.Frag) (mg : Str → Option Value) (base : Heap) (x : Str) (n : Nat) (ks : List Str) (k : Nat) (m : FM) : Prop where
  ex : ∃ f fd ps, mg x = some (.ref f) ∧ PySem.W.keepIn K (.ref f) = true ∧ KBinds K fd ps ks (gCut n ks.length) (gCut n ks.length) ∧ FnOk P w K mg base (L2.CX P w) k f fd ps (spM ⟨K, mg⟩ ps.length m) ∧ ps.length = n + ks.length ∧ ∀ ds h, ds.length ≠ ps.length → m ds h = .bad
def onK (n j : Nat) (m : FM) (a b : AM) : EM := fun e h => (a e h).bind fun xs h1 => (b e h1).bind fun ys h2 => if xs.length = n ∧ ys.length = j then m (xs ++ ys) h2 else .bad
section
variable {X : Cx} {E : XK} {e : Expr} {es : List Expr} {mas mks : AM} {kws : List Keyword} {pos p : Pos} {x : Str} {k n : Nat} {ks : List Str} {m : FM}
theorem e_callK (F : CalK X.prog X.w X.K X.mg X.base x n ks k m) (hr : Room k X.A) (tk : Takes X (fun cls d _ H => E cls d H)) (hg : Gl X x) (ha : PA X (e :: es) (tA (gd X) (pl fun cls d _ H => E cls d H) mas)) (hkw : PK X kws (tA (gd X) (pl fun cls d _ H => E cls d H) mks))
    (hall : (backToKw pos (keywordEach kws X.env)).all (·.1.isSome) = true := by rfl) (hks : (backToKw pos (keywordEach kws X.env)).filterMap (·.1) = ks := by rfl)
    (hdb : (x == ("__debug__" : Str)) = false := by decide) (he : starEach (e :: es) X.env = (false, eval e X.env) :: starEach es X.env := by rfl)
    (hpl : ((backTo pos (starEach (e :: es) X.env)).any (·.1) || (backToKw pos (keywordEach kws X.env)).any (·.1.isNone)) = false := by rfl) :
    PE X (.Call (.Name x p) (e :: es) kws pos) (tE (gd X) (pl fun cls d _ H => E cls d H) (onK n ks.length m mas mks)) := by
  obtain ⟨f, fd, ps, mgf, kp, hb, G, hl, hn⟩ := F.ex
  refine PE_of (pe_callK G hr hg mgf kp hb (passes_call tk fun _ _ _ _ q => q) ha hkw hall hks hdb he hpl) fun σ H Q q => ?_
  refine one q fun ρ e H h xs vs s hh rx p => ?_
  refine ⟨ρ, e, h, s, hh, p.bind.mono fun zs H1 q1 => ?_⟩
  obtain ⟨ρ1, ys, h1, l1, hh1, ry, p1⟩ := q1
  split at p1
  · rename_i c
    unfold gCut
    rw [if_pos ⟨by rw [← rx.length]; exact c.1, by rw [← ry.length]; exact c.2⟩]
    refine ⟨?_, ρ1, xs ++ ys, h1, (l1.rds xs rx).append ry, hh1, p1⟩
    rw [List.length_append, ← rx.length, ← ry.length, c.1, c.2, hl]
  · exact p1.elim
end
theorem calk_mk {P : Program} {w : World} {K : PySem.W.Frag} {mg : Str → Option Value} {base : Heap} {x qual : Str} {st : Stmt} {f : Addr} {fd : FuncData} {ps ks : List Str} {k np nn n : Nat} {b : SM} (F : Fun K x qual st f fd) (hm : mg x = some (.ref f))
    (hb : ∀ (kV doc pm : Value) (an : Option Addr) (cdv ct : Value) (us ws : List Value), us.length = n → ws.length = ks.length → bindArgs (PySem.W.fnOf x qual (defArgs st) (defBody st) (defScope st) .none kV doc pm an cdv ct) ⟨us, ks.zip ws⟩ = pure (ps.zip (us ++ ws)))
    (G : FnOk P w K mg base (L2.CX P w) k f fd ps (spM ⟨K, mg⟩ ps.length (fnM np nn b))) (hnp : np = ps.length) (hl : ps.length = n + ks.length) (hp : ps ≠ []) : CalK P w K mg base x n ks k (fnM np nn b) := by
  refine ⟨f, fd, ps, hm, F.kp, kb_mk hp (fun s us ws h1 h2 => ?_), G, hl, fun ds h hd => by unfold fnM; rw [hnp, if_neg hd]⟩
  obtain ⟨oc, od, kV, doc, pm, an, cdv, ct, osl, rfl, _, _⟩ := F.ex
  exact .of_eq (hb _ _ _ _ _ _ us ws h1 h2)
end ML

/-! ML 22: comprehensions that make a dict -/
namespace ML
open PySem PySem.Spec PyProof.Rows L2

def dcLoop (srcs : List (Nat × List D)) (tg : GM) (tst : TM) (ky vl : EM) (n : Nat) (e0 : Env) : List D → MH → R D
  | [], h => if IT.ok h srcs = true then .ok (.ref n) h else .bad
  | d :: r, h => if IT.ok h srcs = true then (match tg d e0 h with
    | some e1 => (match tst e1 h with
      | .ok true h2 => (match ky e1 h2 with
        | .ok x h3 => (match keyOf x with
          | some k => (match vl e1 h3 with
            | .ok y h4 => (match h4[n]? with
              | some (.dct acc) => if acc.length < 1000000 then dcLoop srcs tg tst ky vl n e0 r (h4.set n (.dct (putKD acc k y))) else .bad
              | _ => .bad)
            | _ => .bad)
          | none => .bad)
        | _ => .bad)
      | .ok false h2 => dcLoop srcs tg tst ky vl n e0 r h2
      | _ => .bad)
    | none => .bad) else .bad
def dcE (own : List Nat) (it : IM) (tg : GM) (tst : TM) (ky vl : EM) : EM := fun e h => (it e h).bind fun it h1 => dcLoop it.srcs tg tst ky vl h1.length (wipeM e own) it.items (h1 ++ [.dct []])
section
variable {X : Cx} {W : Wx} {tg iter kx vx : Expr} {ifs : List Expr} {scope : Scope} {own : List (Str × Nat)} {pos : Pos} {mi : IM} {mg : GM} {mt : TM} {mk mv : EM}
theorem dc_ok {g : Gd} {ρ : List Addr} {H : Hp} {Wf : XK} {Q : VK} {srcs : List (Nat × List D)} {l : List D} {n : Nat} {e : Env} {h : MH} (p : Post g (RD g) Wf ρ H (dcLoop srcs mg mt mk mv n e l h) Q) : IT.ok h srcs = true := by
  cases l with
  | nil =>
    unfold dcLoop at p
    split at p
    · assumption
    · exact p.elim
  | cons d r =>
    unfold dcLoop at p
    split at p
    · assumption
    · exact p.elim
theorem RH.newDct {g : Gd} {ρ : List Addr} {H : Hp} {h : MH} {q : Addr} (hh : RH g ρ H h) (hq : H q = none) :
    Lat g ρ H (ρ ++ [q]) (L2.upd H q (.dK [])) ∧ RH g (ρ ++ [q]) (L2.upd H q (.dK [])) (h ++ [.dct []]) ∧ RD g (ρ ++ [q]) (L2.upd H q (.dK [])) (.ref h.length) (.ref q) := by
  have l1 := Lat.new (g := g) (ρ := ρ) (u := .dK []) (Soft.none hq)
  refine ⟨l1, hh.new hq ⟨[], upd_same, rfl⟩, ?_⟩
  unfold RD
  exact ⟨q, by rw [← hh.len]; simp, rfl⟩
theorem dc_read {σ : L2.St} {H : Hp} {Q : VK} (q : tE (gd X) W (dcE (own.map (·.2)) mi mg mt mk mv) σ H Q) :
    tDc (iM (gd X) W mi) (tGm (gd X) (own.map (·.2)) mg) (tT (gd X) (pl noW) mt) (tE (gd X) (pl noW) mk) (tE (gd X) (pl noW) mv) (own.map (·.2)) σ H Q := by
  refine one q fun ρ e H h it J s hh wk p => ?_
  intro Dd hD
  generalize hvs : own.map (·.2) = vs at p ⊢
  obtain ⟨G, Y, wlk, hG, hY⟩ := wk
  obtain ⟨l1, hh1, rD⟩ := hh.newDct hD
  have s1 : RS (gd X) (ρ ++ [Dd]) (L2.upd H Dd (.dK [])) (wipeM e vs) (L2.wipe σ vs) := (l1.rs s.s).wipe vs
  have rD' : (ρ ++ [Dd])[h.length]? = some Dd := by
    obtain ⟨a, e1, e2⟩ := RD_ref rD
    cases e2
    exact e1
  refine ⟨fun i m H' => i ≤ it.items.length ∧ m = it.items.length - i ∧ ∃ ρ2 h2, Lat (gd X) (ρ ++ [Dd]) (L2.upd H Dd (.dK [])) ρ2 H' ∧ RH (gd X) ρ2 H' h2 ∧ Post (gd X) (RD (gd X)) (fun c d H' => W.W c d σ H') ρ2 H' (dcLoop it.srcs mg mt mk mv h.length (wipeM e vs) (it.items.drop i) h2) Q,
    ⟨_, Nat.zero_le _, rfl, _, _, Lat.refl, hh1, Post.later l1 p⟩, ?_⟩
  rintro i m H' ⟨hi, em, ρ2, h2, l2, hh2, p2⟩
  have ok := dc_ok p2
  have gg := hG ρ2 H' h2 (l1.trans l2) hh2 ok
  by_cases hlt : i < it.items.length
  · refine .inr ⟨wlk.goes i H' hlt gg, fun H'' => ∃ ρ3 h3, Lat (gd X) (ρ ++ [Dd]) (L2.upd H Dd (.dK [])) ρ3 H'' ∧ RH (gd X) ρ3 H'' h3 ∧ Post (gd X) (RD (gd X)) (fun c d H' => W.W c d σ H') ρ3 H'' (dcLoop it.srcs mg mt mk mv h.length (wipeM e vs) (it.items.drop (i + 1)) h3) Q,
      fun H'' z => ⟨it.items.length - (i + 1), by omega, by omega, rfl, z⟩, fun x H'' y0 => ?_⟩
    have y := wlk.yields i H' x H'' hlt gg y0
    have ed : it.items.drop i = it.items[i] :: it.items.drop (i + 1) := List.drop_eq_getElem_cons hlt
    obtain ⟨l3, hh3, rd⟩ := hY i H' x H'' ρ2 h2 _ (l1.trans l2) hh2 ok y (List.getElem?_eq_getElem hlt)
    rw [ed] at p2
    unfold dcLoop at p2
    rw [if_pos ok] at p2
    cases q1 : mg it.items[i] (wipeM e vs) h2 with
    | none => rw [q1] at p2; exact p2.elim
    | some e3 =>
      rw [q1] at p2
      refine ⟨ρ2, _, h2, _, e3, (l2.trans l3).rs s1, hh3, rd, q1, fun σ3 s3 b3 => ⟨wipe_but b3, ?_⟩⟩
      have p3 := Post.later l3 p2
      dsimp only at p3
      refine ⟨ρ2, e3, h2, s3.x, hh3, ?_⟩
      revert p3
      generalize mt e3 h2 = r
      intro p3
      cases r with
      | bad => exact p3.elim
      | exc c fs h4 => exact p3.elim
      | ok b h4 =>
        intro ρ4 b' H4 l4 hh4 eb
        cases eb
        cases b with
        | false =>
          rw [if_neg (by decide)]
          exact ⟨ρ4, h4, (l2.trans l3).trans l4, hh4, Post.later l4 p3⟩
        | true =>
          rw [if_pos rfl]
          have p4 := Post.later l4 p3
          dsimp only at p4
          refine ⟨ρ4, e3, h4, (l4.rs s3).x, hh4, ?_⟩
          revert p4
          generalize mk e3 h4 = r
          intro p4
          cases r with
          | bad => exact p4.elim
          | exc c fs h5 => exact p4.elim
          | ok xk h5 =>
            intro ρ5 vk H5 l5 hh5 rk
            have p5 := Post.later l5 p4
            dsimp only at p5
            split at p5
            · rename_i k hk
              refine ⟨ρ5, e3, h5, ((l4.trans l5).rs s3).x, hh5, ?_⟩
              revert p5
              generalize mv e3 h5 = r
              intro p5
              cases r with
              | bad => exact p5.elim
              | exc c fs h6 => exact p5.elim
              | ok yv h6 =>
                intro ρ6 vy H6 l6 hh6 ry
                have p6 := Post.later l6 p5
                dsimp only at p6
                have lf := (((l2.trans l3).trans l4).trans l5).trans l6
                split at p6
                · rename_i acc hacc
                  split at p6
                  · rename_i hlen
                    have ea := lf.at rD'
                    obtain ⟨ws, e7, r7⟩ := hh6.obj _ _ Dd hacc ea
                    obtain ⟨l8, hh8⟩ := hh6.setDct (l' := putKD acc k yv) (vs' := putK ws k vy) hacc ea e7 (r7.put ry)
                    refine ⟨ws, k, keyOf_v rk hk, e7, Nat.lt_of_lt_of_le (by rw [← RP.length r7]; exact hlen) (big_le (Nat.le_refl _)), ρ6, _, lf.trans l8, hh8, Post.later l8 p6⟩
                  · exact p6.elim
                · exact p6.elim
            · exact p5.elim
  · have e : i = it.items.length := by omega
    subst e
    refine .inl ⟨wlk.stops H' gg, ?_⟩
    rw [List.drop_length] at p2
    unfold dcLoop at p2
    rw [if_pos ok] at p2
    exact p2.okk hh2 (l2.rd (.ref h.length) rD)
theorem e_dc (hc : X.calm = true) (hN : X.N.Nodup) (hi : PI X tg iter (iM (gd X) W mi)) (ok : BlkOk X.N X.env.scope scope own)
    (hg : ∀ (s : Shared) (H : Hp) (C : Addr) (cl : List (Str × Addr)) (fp : List Addr), PG (X.blk s H scope (compEnvC scope cl C X.env) fp) tg (tGm (gd X) (own.map (·.2)) mg))
    (ht : ∀ (s : Shared) (H : Hp) (C : Addr) (cl : List (Str × Addr)) (fp : List Addr), PTs (X.blk s H scope (compEnvC scope cl C X.env) fp) ifs (tT (gd X) (pl noW) mt))
    (hk : ∀ (s : Shared) (H : Hp) (C : Addr) (cl : List (Str × Addr)) (fp : List Addr), PE (X.blk s H scope (compEnvC scope cl C X.env) fp) kx (tE (gd X) (pl noW) mk))
    (he : ∀ (s : Shared) (H : Hp) (C : Addr) (cl : List (Str × Addr)) (fp : List Addr), PE (X.blk s H scope (compEnvC scope cl C X.env) fp) vx (tE (gd X) (pl noW) mv)) (hs : ∀ x, foldedSetIterable iter X.env x = pure x := by intro _; rfl) :
    PE X (.DictComp kx vx [⟨tg, iter, ifs, 0⟩] scope pos) (tE (gd X) W (dcE (own.map (·.2)) mi mg mt mk mv)) :=
  PE_of (pe_dc hc hN hi ok hg ht hk he hs) fun σ H Q q => dc_read q
/-- {} -/
def dct0E : EM := fun _ h => .ok (.ref h.length) (h ++ [.dct []])
theorem e_dct0 : PE X (.Dict [] [] pos) (tE (gd X) W dct0E) := PE_of pe_dnewK fun σ H Q q => by
  obtain ⟨ρ, e, h, s, hh, p⟩ := q
  intro a ha
  obtain ⟨l1, l2, l3⟩ := hh.newDct ha
  exact p _ _ _ l1 l2 l3
end
end ML

/-! ML 23: len(set(xs)) of texts, any number of them -/
namespace PySem
namespace SetM
open PyProof.Rows PySem.Calls
/-- the texts among the first i; how many different ones -/
def seen (xs : List Str) (i : Nat) : Str → Bool := fun k => (xs.take i).any (· == k)
def many (xs : List Str) : Nat → Nat
  | 0 => 0
  | i + 1 => if seen xs i (xs.getD i Str.empty) = true then many xs i else many xs i + 1
theorem many_le (xs : List Str) : ∀ i, many xs i ≤ i
  | 0 => Nat.le_refl _
  | i + 1 => by
    have := many_le xs i
    unfold many
    split <;> omega
theorem strs_val : ∀ {us : List Value} {xs : List Str}, StrsAre us xs → ∀ (i : Nat) (v : Value), us[i]? = some v → ∃ t, v = .str (xs.getD i Str.empty) t
  | _, _, .nil, i, v, h => by simp at h
  | _, _, .cons n t hr, 0, v, h => by
    simp at h
    exact ⟨t, by rw [← h]; rfl⟩
  | _, _, .cons n t hr, i + 1, v, h => by
    obtain ⟨t', e⟩ := strs_val hr i v (by simpa using h)
    exact ⟨t', by rw [e]; rfl⟩
abbrev set0 (led : Bool) : Obj := { cls := .type "set", dict := none, data := .set #[] 0 (.fresh 0 0 led) }
section
variable {prog : Program} {w : World} {A : Around} {R : Result → Shared → Prop} {I : Addr} {fp wr : List Addr} {G : Array GenState → Array GenState → Prop} {n : Nat} {P : Nat → Value → Prop} {St : Nat → Shared → Prop}
theorem seen_step {xs : List Str} {i : Nat} (hi : i < xs.length) (k : Str) : (seen xs i k || decide (k = xs.getD i Str.empty)) = seen xs (i + 1) k := by
  unfold seen
  have e1 : xs.getD i Str.empty = xs[i] := by simp [List.getD, hi]
  rw [List.take_succ_eq_append_getElem hi, List.any_append, e1]
  congr 1
  simp only [List.any_cons, List.any_nil, Bool.or_false]
  by_cases q : k = xs[i]
  · rw [← q]; simp
  · have q' : (xs[i] == k) = false := by simpa using (fun z : xs[i] = k => q z.symm)
    rw [q', decide_eq_false q]
theorem upd_loop (W : WalksS prog w A.in1 I fp wr G n P St) (S : Addr) (nf : S ∉ fp) (xs : List Str) (hsz : xs.length = n) (hn : xs.length ≤ 1000) (hval : ∀ i v, P i v → ∃ t, v = .str (xs.getD i Str.empty) t) :
    ∀ (k i : Nat) (s : Shared), n - i = k → i ≤ n → St i s → s.heap.SetOf (strKind prog w) S (seen xs i) (many xs i) →
      (∀ s', Moved (S :: wr) G s s' → s'.heap.SetOf (strKind prog w) S (seen xs xs.length) (many xs xs.length) → R (.ok (.ret .none)) s') → codeAny (model prog w) A (.builtin "set.update.loop" ⟨[.ref S, .ref I], []⟩) R s := by
  have nw : S ∉ wr := fun z => nf (W.sub _ z)
  have stay : ∀ {s s' : Shared} {f : Str → Bool} {m : Nat}, Moved wr G s s' → s.heap.SetOf (strKind prog w) S f m → s'.heap.SetOf (strKind prog w) S f m := fun {s s' f m} hm hS => by
    obtain ⟨o, es, ep, t, ho, rest⟩ := hS
    exact ⟨o, es, ep, t, hm.heap S _ nw ho, rest⟩
  have more : ∀ b ∈ wr, b ∈ S :: wr := fun b hb => List.mem_cons_of_mem _ hb
  intro k
  induction k with
  | zero =>
    intro i s hk hi hst hS hR
    obtain rfl : i = xs.length := by omega
    refine codeAny_builtin F.entry_set_update_loop ?_
    rw [Around.under_plainId F.plain_set_update_loop _]
    show wpAny _ A.in1 (pyNext (.ref I) >>= _) _ _ s
    refine wpAny_bind (W.done s _ _ (by rw [← hsz]; exact hst) fun s' hm => ?_)
    show wpAny _ A.in1 (ret Value.none) _ _ s'
    exact wpAny_pure (hR s' (hm.mono more) (stay hm hS))
  | succ k ih =>
    intro i s hk hi hst hS hR
    have hlt : i < n := by omega
    have hlx : i < xs.length := by omega
    refine codeAny_builtin F.entry_set_update_loop ?_
    rw [Around.under_plainId F.plain_set_update_loop _]
    show wpAny _ A.in1 (pyNext (.ref I) >>= _) _ _ s
    refine wpAny_bind (W.item i s _ _ hlt hst fun v s' hP hst' hm => ?_)
    obtain ⟨t, rfl⟩ := hval i v hP
    show wpAny _ A.in1 (holding [Value.str (xs.getD i Str.empty) t] (setAdd S (.str (xs.getD i Str.empty) t)) >>= _) _ _ s'
    refine wpAny_bind (wpAny_holding ?_)
    unfold setAdd
    have hm2 := many_le xs i
    have hS1 := stay hm hS
    refine wpAny_holding (wpAny_bind ((strKind prog w).pyHash (k := xs.getD i Str.empty) (strKind_is _ _ _ _) (wpAny_setAddHashed_of (knd := strKind prog w) (s := { s' with toks := s'.toks + 1 }) (strKind_is _ _ _ _) rfl hS1 (by unfold scanBound; omega) fun h' sb hS2 => ?_)))
    have hS3 : h'.SetOf (strKind prog w) S (seen xs (i + 1)) (many xs (i + 1)) := SetOf_congr hS2 (fun k' => seen_step hlx k') rfl
    refine wpAny_pure ⟨plainId_quiet F.plain_set_update_loop _, ih (i + 1) _ (by omega) hlt (W.frame _ s' _ _ hst' (Nat.le_succ _) fun b hb o e => (sb.2 b fun z => nf (by rw [← z]; exact hb)).trans e) hS3 fun s'' hm'' hS'' => hR s'' (Moved.trans W.gtrans ((hm.mono more).then_heap (Nat.le_succ _) fun b o hb e => (sb.2 b fun z => hb (by rw [z]; exact List.mem_cons_self)).trans e) hm'') hS''⟩
end
section
variable {prog : Program} {w : World} {A : Around} {E : Value → Shared → Prop} {s : Shared}

theorem set_list {l : Addr} {items : Array Value} {xs : List Str} {Q : Value → Shared → Prop} (hh : A.handled = none) (hl : s.heap.IsList l items) (hi : StrsAre items.toList xs) (hn : xs.length ≤ 1000)
    (h : ∀ (h' : Heap) (tk : Nat), h'.SetOf (strKind prog w) s.heap.objs.size (seen xs xs.length) (many xs xs.length) → (∀ b o, b < s.heap.objs.size → s.heap.get? b = some o → h'.get? b = some o) → Q (.ref s.heap.objs.size) { s with heap := h', toks := tk }) :
    wpAny (model prog w) A (call (.type "set") [.ref l]) Q E s := by
  obtain ⟨c, tl, m0⟩ := F.called_set.mro
  have m1 := F.called_set.made
  have m2 := F.called_set.sub
  have m3 := F.called_set.notType
  have m4 := F.called_set.canCreate
  have m5 := F.typeCall_set_1 (.ref l)
  refine wpAny_call (codeAny_of_tree ?_)
  show wpAny _ _ (callAny (.type "set") _) _ _ _
  refine wpAny_pure ⟨Code.quiet_builtin _ (by decide +kernel), codeAny_builtin F.entry_type_call ?_⟩
  rw [Around.under_plain (weight_type_call_type "set" [.ref l] []) rfl]
  repeat (any_goals (first | assumption | wp_step))
  -- the empty set
  refine codeAny_mono (code_set_new_1 (.ref l) (E := E) (Q₁ := fun obj s₁ => ∃ led : Bool, obj = .ref s.heap.objs.size ∧ s₁ = { s with heap := s.heap.push (set0 led) }) fun led => ⟨led, rfl, rfl⟩) fun r s₁ hr => ?_
  match r, hr with
  | .error e, hr => exact hr
  | .ok .next, hr => exact hr.elim
  | .ok .brk, hr => exact hr.elim
  | .ok .cont, hr => exact hr.elim
  | .ok (.ret obj), hr =>
    obtain ⟨led, rfl, rfl⟩ := hr
    have hS : (s.heap.push (set0 led)).get? s.heap.objs.size = some (set0 led) := Heap.get?_push_size _ rfl
    have hT : Shared.TypeIs { s with heap := s.heap.push (set0 led) } (.ref s.heap.objs.size) "set" := ⟨_, hS, rfl⟩
    have i1 := F.called_set.init.lookup
    have i2 := F.called_set.init.bind (.ref s.heap.objs.size)
    repeat (any_goals (first | assumption | wp_step))
    refine codeAny_mono (codeAny_call_builtin (R := wants (fun r s₂ => r = .none ∧ ∃ h' tk, s₂ = { s with heap := h', toks := tk } ∧ h'.SetOf (strKind prog w) s.heap.objs.size (seen xs xs.length) (many xs xs.length) ∧
      ∀ b o, b < s.heap.objs.size → s.heap.get? b = some o → h'.get? b = some o) E) F.called_set.init.plain F.entry_set_init (check_set_init_1 hT ?_)) fun r₂ s₂ hr₂ => ?_
    · obtain ⟨⟨oc, od, oda, osl⟩, hol, hcl, nl, hdl⟩ := hl
      simp only at hcl hdl
      subst hcl
      subst hdl
      have hlS : l < s.heap.objs.size := Heap.lt_size hol
      have hol' : (s.heap.push (set0 led)).get? l = some { cls := .type "list", dict := od, data := .seq items nl, slots := osl } := Heap.get?_push_of_some _ hol
      have k1 := F.sub_list_set
      have k2 := F.sub_list_frozenset
      have k3 : (Value.type "list" == Value.type "dict") = false := by decide
      have hl1 : (s.heap.push (set0 led)).IsList l items := ⟨_, hol', rfl, nl, rfl⟩
      unfold Builtin.«set.__init__» noKeywords Builtin.Frozenset.updateFrom
      generalize hPI : pyIter = PI
      wp_walk
      subst hPI
      refine wpAny_pyIter_list hl1 (wpAny_bind (wpAny_runValue ?_))
      have h3 : A.in1.in1.in1.handled = none := by simp [hh]
      have ne1 : l ≠ (s.heap.push (set0 led)).objs.size := by
        rw [Heap.size_push]
        exact Nat.ne_of_lt (Nat.lt_succ_of_lt hlS)
      have nf : s.heap.objs.size ∉ [(s.heap.push (set0 led)).objs.size, l] := by
        rw [Heap.size_push]
        simp only [List.mem_cons, List.not_mem_nil, or_false, not_or]
        exact ⟨Nat.ne_of_lt (Nat.lt_succ_self _), Nat.ne_of_gt hlS⟩
      have hsz : xs.length = items.size := by rw [← StrsAre.len_eq hi, Array.length_toList]
      refine upd_loop ((Walks.list h3 _ l ne1 items).toS) s.heap.objs.size nf xs hsz hn (fun i v hv => strs_val hi i v (by rw [Array.getElem?_toList]; exact hv)) (items.size - 0) 0 _ (by omega) (Nat.zero_le _) ⟨⟨_, Heap.get?_push_size _ rfl, rfl, rfl⟩, (hl1.push _)⟩ ?_ ?_
      · have hget : ((s.heap.push (set0 led)).push { cls := .type "list_iterator", data := .fields #[.ref l, .int 0 0] }).get? s.heap.objs.size = some (set0 led) := Heap.get?_push_of_some _ hS
        exact SetOf_congr ((setObjOf_fresh (knd := strKind prog w) led).setOf hget (by unfold scanBound; omega)) (fun _ => rfl) rfl
      · rintro ⟨h', g', d', tk', os'⟩ hm hS'
        obtain rfl : g' = s.gens := hm.gens
        obtain rfl : d' = s.drawn := hm.drawn
        obtain rfl : os' = s.os := hm.os
        show wpAny _ _ _ _ _ _
        refine wpAny_pure ?_
        show wpAny _ _ (ret Value.none) _ _ _
        refine wpAny_pure ⟨rfl, h', tk', rfl, hS', fun b o hb e => hm.heap b o ?_ (Heap.get?_push_of_some _ (Heap.get?_push_of_some _ e))⟩
        rw [Heap.size_push]
        simp only [List.mem_cons, List.not_mem_nil, or_false, not_or]
        exact ⟨Nat.ne_of_lt hb, Nat.ne_of_lt (Nat.lt_succ_of_lt hb)⟩
    · match r₂, hr₂ with
      | .error e, hr₂ => exact hr₂
      | .ok .next, hr₂ => exact hr₂.elim
      | .ok .brk, hr₂ => exact hr₂.elim
      | .ok .cont, hr₂ => exact hr₂.elim
      | .ok (.ret r), hr₂ =>
        obtain ⟨rfl, h', tk, rfl, hS', hk'⟩ := hr₂
        repeat (any_goals (first | assumption | wp_step))
        exact h _ _ hS' hk'

theorem set_tuple {l : Addr} {items : Array Value} {xs : List Str} {Q : Value → Shared → Prop} (hh : A.handled = none) (hl : s.heap.IsTuple l items) (hi : StrsAre items.toList xs) (hn : xs.length ≤ 1000)
    (h : ∀ (h' : Heap) (tk : Nat), h'.SetOf (strKind prog w) s.heap.objs.size (seen xs xs.length) (many xs xs.length) → (∀ b o, b < s.heap.objs.size → s.heap.get? b = some o → h'.get? b = some o) → Q (.ref s.heap.objs.size) { s with heap := h', toks := tk }) :
    wpAny (model prog w) A (call (.type "set") [.ref l]) Q E s := by
  obtain ⟨c, tl, m0⟩ := F.called_set.mro
  have m1 := F.called_set.made
  have m2 := F.called_set.sub
  have m3 := F.called_set.notType
  have m4 := F.called_set.canCreate
  have m5 := F.typeCall_set_1 (.ref l)
  refine wpAny_call (codeAny_of_tree ?_)
  show wpAny _ _ (callAny (.type "set") _) _ _ _
  refine wpAny_pure ⟨Code.quiet_builtin _ (by decide +kernel), codeAny_builtin F.entry_type_call ?_⟩
  rw [Around.under_plain (weight_type_call_type "set" [.ref l] []) rfl]
  repeat (any_goals (first | assumption | wp_step))
  -- the empty set
  refine codeAny_mono (code_set_new_1 (.ref l) (E := E) (Q₁ := fun obj s₁ => ∃ led : Bool, obj = .ref s.heap.objs.size ∧ s₁ = { s with heap := s.heap.push (set0 led) }) fun led => ⟨led, rfl, rfl⟩) fun r s₁ hr => ?_
  match r, hr with
  | .error e, hr => exact hr
  | .ok .next, hr => exact hr.elim
  | .ok .brk, hr => exact hr.elim
  | .ok .cont, hr => exact hr.elim
  | .ok (.ret obj), hr =>
    obtain ⟨led, rfl, rfl⟩ := hr
    have hS : (s.heap.push (set0 led)).get? s.heap.objs.size = some (set0 led) := Heap.get?_push_size _ rfl
    have hT : Shared.TypeIs { s with heap := s.heap.push (set0 led) } (.ref s.heap.objs.size) "set" := ⟨_, hS, rfl⟩
    have i1 := F.called_set.init.lookup
    have i2 := F.called_set.init.bind (.ref s.heap.objs.size)
    repeat (any_goals (first | assumption | wp_step))
    refine codeAny_mono (codeAny_call_builtin (R := wants (fun r s₂ => r = .none ∧ ∃ h' tk, s₂ = { s with heap := h', toks := tk } ∧ h'.SetOf (strKind prog w) s.heap.objs.size (seen xs xs.length) (many xs xs.length) ∧
      ∀ b o, b < s.heap.objs.size → s.heap.get? b = some o → h'.get? b = some o) E) F.called_set.init.plain F.entry_set_init (check_set_init_1 hT ?_)) fun r₂ s₂ hr₂ => ?_
    · obtain ⟨⟨oc, od, oda, osl⟩, hol, hcl, nl, hdl⟩ := hl
      simp only at hcl hdl
      subst hcl
      subst hdl
      have hlS : l < s.heap.objs.size := Heap.lt_size hol
      have hol' : (s.heap.push (set0 led)).get? l = some { cls := .type "tuple", dict := od, data := .seq items nl, slots := osl } := Heap.get?_push_of_some _ hol
      have k1 := F.sub_tuple_set
      have k2 := F.sub_tuple_frozenset
      have k3 : (Value.type "tuple" == Value.type "dict") = false := by decide
      have hl1 : (s.heap.push (set0 led)).IsTuple l items := ⟨_, hol', rfl, nl, rfl⟩
      unfold Builtin.«set.__init__» noKeywords Builtin.Frozenset.updateFrom
      generalize hPI : pyIter = PI
      wp_walk
      subst hPI
      refine wpAny_pyIter_tuple hl1 (wpAny_bind (wpAny_runValue ?_))
      have h3 : A.in1.in1.in1.handled = none := by simp [hh]
      have ne1 : l ≠ (s.heap.push (set0 led)).objs.size := by
        rw [Heap.size_push]
        exact Nat.ne_of_lt (Nat.lt_succ_of_lt hlS)
      have nf : s.heap.objs.size ∉ [(s.heap.push (set0 led)).objs.size, l] := by
        rw [Heap.size_push]
        simp only [List.mem_cons, List.not_mem_nil, or_false, not_or]
        exact ⟨Nat.ne_of_lt (Nat.lt_succ_self _), Nat.ne_of_gt hlS⟩
      have hsz : xs.length = items.size := by rw [← StrsAre.len_eq hi, Array.length_toList]
      refine upd_loop ((Walks.tuple h3 _ l ne1 items).toS) s.heap.objs.size nf xs hsz hn (fun i v hv => strs_val hi i v (by rw [Array.getElem?_toList]; exact hv)) (items.size - 0) 0 _ (by omega) (Nat.zero_le _) ⟨⟨_, Heap.get?_push_size _ rfl, rfl, rfl⟩, (hl1.push _)⟩ ?_ ?_
      · have hget : ((s.heap.push (set0 led)).push { cls := .type "tuple_iterator", data := .fields #[.ref l, .int 0 0] }).get? s.heap.objs.size = some (set0 led) := Heap.get?_push_of_some _ hS
        exact SetOf_congr ((setObjOf_fresh (knd := strKind prog w) led).setOf hget (by unfold scanBound; omega)) (fun _ => rfl) rfl
      · rintro ⟨h', g', d', tk', os'⟩ hm hS'
        obtain rfl : g' = s.gens := hm.gens
        obtain rfl : d' = s.drawn := hm.drawn
        obtain rfl : os' = s.os := hm.os
        show wpAny _ _ _ _ _ _
        refine wpAny_pure ?_
        show wpAny _ _ (ret Value.none) _ _ _
        refine wpAny_pure ⟨rfl, h', tk', rfl, hS', fun b o hb e => hm.heap b o ?_ (Heap.get?_push_of_some _ (Heap.get?_push_of_some _ e))⟩
        rw [Heap.size_push]
        simp only [List.mem_cons, List.not_mem_nil, or_false, not_or]
        exact ⟨Nat.ne_of_lt hb, Nat.ne_of_lt (Nat.lt_succ_of_lt hb)⟩
    · match r₂, hr₂ with
      | .error e, hr₂ => exact hr₂
      | .ok .next, hr₂ => exact hr₂.elim
      | .ok .brk, hr₂ => exact hr₂.elim
      | .ok .cont, hr₂ => exact hr₂.elim
      | .ok (.ret r), hr₂ =>
        obtain ⟨rfl, h', tk, rfl, hS', hk'⟩ := hr₂
        repeat (any_goals (first | assumption | wp_step))
        exact h _ _ hS' hk'
end
end SetM
end PySem
namespace ML
open PySem PySem.Spec PyProof.Rows L2
def strsOf : List D → Option (List Str)
  | [] => some []
  | .str s :: r => (match strsOf r with
    | some l => some (s :: l)
    | none => none)
  | _ => none
/-- len(set(xs)) -/
def lensetF : D → MH → R D := fun x h => match seqOf h x with
  | some (_, l) => (match strsOf l with
    | some ss => if ss.length ≤ 1000 then .ok (.int (SetM.many ss ss.length)) h else .bad
    | none => .bad)
  | none => .bad
theorem strsOf_v {g : Gd} {ρ : List Addr} {H : Hp} : ∀ {l : List D} {ss : List Str} {vs : List V}, RDs g ρ H l vs → strsOf l = some ss → vs = ss.map V.str
  | [], ss, vs, q, e => by
    cases e
    exact q.invNil
  | d :: l, ss, vs, q, e => by
    obtain ⟨v, r, e1, q1, q2⟩ := q.inv
    cases d <;> first | (cases e; done) | skip
    unfold strsOf at e
    split at e
    · rename_i l' hl
      cases e
      rw [e1, strsOf_v q2 hl, RD_str q1]
      rfl
    · cases e
theorem strs_are : ∀ {ys : List Str} {us : List Value}, Vals (ys.map V.str) us → StrsAre us ys
  | [], _, r => by cases r; exact .nil
  | y :: ys, _, r => by
    cases r with
    | cons r1 r2 =>
      obtain ⟨k, rfl⟩ := r1
      exact .cons y k (strs_are r2)
section
variable {X : Cx} {W : Wx} {a : Expr} {m : EM} {p p2 q pos : Pos}
theorem e_lenset (hc : X.calm = true) (hg : Gl X "len") (hm : X.mg "len" = none) (hg2 : Gl X "set") (hm2 : X.mg "set" = none) (ha : PE X a (tE (gd X) W m)) (na : starEach [a] X.env = (false, eval a X.env) :: starEach [] X.env := by rfl) :
    PE X (.Call (.Name "len" p) [.Call (.Name "set" p2) [a] [] q] [] pos) (tE (gd X) W (un lensetF m)) := by
  refine ⟨fun pins s σ H Q I h => ?_⟩
  have q0 : tE (gd X) W m σ H fun x H1 => ∃ l, ∃ ss : List Str, x = .ref l ∧ (SqL X.K H1 l (ss.map V.str) ∨ SqT X.K H1 l (ss.map V.str)) ∧ ss.length ≤ 1000 ∧ Q (.int (SetM.many ss ss.length)) H1 := by
    refine one h fun ρ e H h x vx s hh rx p => ?_
    unfold lensetF at p
    split at p
    · rename_i k l hl
      split at p
      · rename_i ss hss
        split at p
        · rename_i hz
          obtain ⟨l0, vs, e1, rs, alt⟩ := seq_v hh rx hl
          rw [strsOf_v rs hss] at alt
          refine ⟨l0, ss, e1, ?_, hz, p.okk hh .intN⟩
          rcases alt with ⟨_, z⟩ | ⟨_, z⟩
          · exact .inr z
          · exact .inl z
        · exact p.elim
      · exact p.elim
    · exact p.elim
  refine Call_ (ld_blt I hg hm boot_len (PyProof.Rows.callWith_builtin1 (PyProof.Rows.args_cons ?_ rfl) rfl rfl))
  refine Call_ (ld_blt I hg2 hm2 boot_set (PyProof.Rows.callWith_type1 (PyProof.Rows.args_cons (thn (ha.run pins s σ H _ I q0) fun v s1 ⟨x, H1, I1, r1, l, ss, ex, hq, hz, q1⟩ => PyProof.Rows.args_nil ?_) na) na rfl))
  subst ex
  obtain rfl : v = Value.ref l := r1
  have fin : ∀ (h' : Heap) (tk : Nat), h'.SetOf (strKind X.prog X.w) s1.heap.objs.size (SetM.seen ss ss.length) (SetM.many ss ss.length) → (∀ b o, b < s1.heap.objs.size → s1.heap.get? b = some o → h'.get? b = some o) →
      wpAny (model X.prog X.w) X.A (spliced (backTo pos (starEach [] X.env))) (fun vs s₂ => wpAny (model X.prog X.w) X.A (call (.builtin "len") (Value.ref s1.heap.objs.size :: vs)) (EP X pins σ Q) X.xe s₂) X.xe { s1 with heap := h', toks := tk } := fun h' tk hS hk => by
    obtain ⟨o, es, ep, t, ho, hex, hd, _, _, _, hf, hn⟩ := hS
    have hle := SetM.many_le ss ss.length
    have I2 : Inv X pins σ H1 { s1 with heap := h', toks := tk } := I1.kept fun b o e => hk b o (Heap.lt_size e) e
    exact PyProof.Rows.args_nil (call_len_set ho hex hd hf (by rw [hn]; omega) ⟨.int (SetM.many ss ss.length), H1, I2.tok _, ⟨_, by rw [hn]⟩, q1⟩)
  rcases hq with hq | hq
  · obtain ⟨its, r, pl, _⟩ := I1.list hq
    exact SetM.set_list (I1.ok.hd hc) pl.isList (by simpa using strs_are r) hz fin
  · obtain ⟨its, r, pl, _⟩ := I1.tuple hq
    exact SetM.set_tuple (I1.ok.hd hc) pl (by simpa using strs_are r) hz fin
end
end ML

/-! ML 24: xs[::-1] of a list, a tuple, a text -/
namespace PySem
namespace RevM
open PyProof.Rows PySem.Calls HT
section
variable {prog : Program} {w : World} {A : Around} {E : Value → Shared → Prop} {s : Shared}
theorem parts {sl : Addr} {t : Tok} {n : Nat} {Q : Int × Int × Nat → Shared → Prop} (hs : s.heap.IsSliceOf sl .none .none (.int (-1) t)) (h : Q ((n : Int) - 1, -1, n) s) : wpAny (model prog w) A (Builtin.Slice.sliceApplied (.ref sl) (pure (n : Int))) Q E s := by
  obtain ⟨os, hos, hcs, hds⟩ := id hs
  unfold Builtin.Slice.sliceApplied Builtin.Slice.sliceFields
  refine wpAny_bind (wpAny_bind (wpAny_field hos hds (x := .none) rfl (wpAny_bind (wpAny_field hos hds (x := .none) rfl (wpAny_bind (wpAny_field hos hds (x := .int (-1) t) rfl (wpAny_pure ?_)))))))
  refine wpAny_bind (slicePart_int ?_)
  show wpAny _ _ (if ((-1 : Int) == 0) = true then _ else _) _ _ s
  rw [if_neg (by decide)]
  refine wpAny_bind (slicePart_none (wpAny_bind (slicePart_none (wpAny_bind (wpAny_pure (wpAny_pure ?_))))))
  have e : Builtin.Slice.slicePlaces ((n : Int) - 1) (-1) (-1) = n := by
    unfold Builtin.Slice.slicePlaces
    rw [if_neg (by decide)]
    by_cases q : (n : Int) - 1 > -1
    · rw [if_pos q]
      have : ((n : Int) - 1 - -1 - 1) / (- -1) = (n : Int) - 1 := by
        have e1 : (- -1 : Int) = 1 := by decide
        rw [e1, Int.ediv_one]
        omega
      rw [this]
      omega
    · rw [if_neg q]
      have : n = 0 := by omega
      subst this
      rfl
  show Q (((n : Int) - 1), -1, Builtin.Slice.slicePlaces ((n : Int) - 1) (-1) (-1)) s
  rw [e]
  exact h
theorem fm_map {α β : Type} {f : α → Option β} {g : α → β} : ∀ (l : List α), (∀ x ∈ l, f x = some (g x)) → l.filterMap f = l.map g
  | [], _ => rfl
  | x :: l, h => by
    rw [List.filterMap_cons, h x List.mem_cons_self, List.map_cons, fm_map l fun y hy => h y (List.mem_cons_of_mem _ hy)]
theorem picked (its : List Value) : ((List.range its.toArray.size).filterMap fun (k : Nat) => its.toArray[(((its.toArray.size : Nat) : Int) - 1 + (k : Int) * -1).toNat]?) = its.reverse := by
  apply List.ext_getElem?
  intro i
  have hs : its.toArray.size = its.length := by simp
  rw [hs]
  have e : ((List.range its.length).filterMap fun (k : Nat) => its.toArray[(((its.length : Nat) : Int) - 1 + (k : Int) * -1).toNat]?) = (List.range its.length).map fun k => its.getD (its.length - 1 - k) Value.none := by
    refine fm_map _ fun k hk => ?_
    have hk' := List.mem_range.mp hk
    have e1 : (((its.length : Nat) : Int) - 1 + (k : Int) * -1).toNat = its.length - 1 - k := by omega
    rw [e1]
    have h2 : its.length - 1 - k < its.length := by omega
    simp [List.getD, h2]
  rw [e, List.getElem?_map]
  by_cases hi : i < its.length
  · rw [List.getElem?_range hi, List.getElem?_reverse hi]
    have h2 : its.length - 1 - i < its.length := by omega
    simp [List.getD, h2]
  · rw [List.getElem?_eq_none (by simp; omega), List.getElem?_eq_none (by simp; omega)]
    rfl
theorem tup_rev {t sl : Addr} {its : List Value} {u : Tok} {Q : Value → Shared → Prop} (ht : IsTup s.heap t its.toArray) (hs : s.heap.IsSliceOf sl .none .none (.int (-1) u)) (hz : its.length ≤ sizeLine)
    (h : Q (.ref s.heap.objs.size) { s with heap := s.heap.push { cls := .type "tuple", data := .seq its.reverse.toArray } }) : wpAny (model prog w) A (getItem (.ref t) (.ref sl)) Q E s := by
  have hsz : sizeOk (.seq its.reverse.toArray) := by
    show its.reverse.toArray.size ≤ sizeLine
    rw [List.size_toArray, List.length_reverse]
    exact hz
  obtain ⟨os, hos, hcs, hds⟩ := id hs
  have hTs : s.TypeIs (.ref sl) "slice" := ⟨os, hos, hcs⟩
  unfold getItem
  try with_reducible refine wpAny_holding ?_
  first | refine wpAny_bind (wpAny_pure ?_) | skip
  refine wpAny_bind (wpAny_sequenceKey ht.typeIs (by decide) (wpAny_bind (wpAny_callSpecial?_slot (name := Str.ofString "__getitem__") ht.typeIs PyProof.Rows.slot_tuple_getitem (wpAny_call_entry PyProof.Rows.slot_tuple_getitem ht.typeIs entry_tuple_getitem ?_ (args_tuple_getitem _ _)))))
  show wpAny _ _ (Builtin.Tuple.tupleItemsOf (.ref t) >>= _) _ _ s
  refine wpAny_bind (tupleItemsOf_ ht (wpAny_bind (wpAny_typeOf hTs ?_)))
  rw [if_pos (by decide)]
  refine wpAny_bind (parts (n := its.toArray.size) hs ?_)
  show wpAny _ _ (if ((((its.toArray.size : Nat) : Int) - 1) == 0 && (-1 : Int) == 1 && (its.toArray.size == its.toArray.size)) = true then _ else _) _ _ s
  rw [if_neg (by simp), picked]
  first
    | exact wpAny_bind (m := Builtin.Tuple.tupleExact _) (wpAny_newObj_type (wpAny_pure ⟨_, rfl, wpAny_pure h⟩) hsz)
    | exact wpAny_bind (m := Builtin.Tuple.tupleExact _) (wpAny_newObj_type (wpAny_bind (wpAny_pure (wpAny_pure ⟨_, rfl, wpAny_pure h⟩))) hsz)
    | exact wpAny_bind (wpAny_bind (m := Builtin.Tuple.tupleExact _) (wpAny_newObj_type (wpAny_pure (wpAny_pure ⟨_, rfl, wpAny_pure h⟩)) hsz))
    | exact wpAny_bind (wpAny_bind (m := Builtin.Tuple.tupleExact _) (wpAny_newObj_type (wpAny_pure ⟨_, rfl, wpAny_pure h⟩) hsz))
end
end RevM
end PySem

/-! ML 25: xs[::-1] of a list, a tuple, a text -/
namespace ML
open PySem PySem.Spec PyProof.Rows L2

theorem rev_text (x : Str) (u : Tok) : (((PySem.Builtin.Str.strSliceIndices none none (-1) x.length).filterMap (x.cps[·]?)).toArray : Array Nat) = x.cps.reverse := by
  rw [picked_rev]
  apply Array.ext'
  rw [List.toList_toArray, RevM.fm_map (g := fun i => x.cps.getD i 0)]
  · rw [List.map_map]
    apply List.ext_getElem?
    intro i
    rw [List.getElem?_map, Array.toList_reverse]
    by_cases hi : i < x.length
    · have hi' : i < x.cps.toList.length := by rw [Array.length_toList]; exact hi
      rw [List.getElem?_range hi, List.getElem?_reverse hi']
      have h2 : x.length - 1 - i < x.cps.size := by
        have : x.length = x.cps.size := rfl
        omega
      show some (x.cps.getD (x.length - 1 - i) 0) = x.cps.toList[x.cps.toList.length - 1 - i]?
      rw [Array.length_toList, Array.getElem?_toList]
      have e : x.cps.size - 1 - i = x.length - 1 - i := rfl
      rw [e]
      simp [Array.getD, h2]
    · have hi' : ¬ i < x.cps.size := hi
      rw [List.getElem?_eq_none (by simp; omega), List.getElem?_eq_none (by simp; omega)]
      rfl
  · intro i hi
    obtain ⟨k, hk, rfl⟩ := List.mem_map.mp hi
    have hk' : k < x.length := List.mem_range.mp hk
    have h2 : x.length - 1 - k < x.cps.size := by
      have : x.length = x.cps.size := rfl
      omega
    simp [Array.getD, h2]
/-- what [::-1] answers -/
def rRev (K : PySem.W.Frag) (x : V) (H : Hp) (Q : VK) : Prop :=
  (∃ a xs, x = .ref a ∧ SqL K H a xs ∧ ∀ p, H p = none → Q (.ref p) (L2.upd H p (.lst xs.reverse))) ∨
  (∃ a xs, x = .ref a ∧ SqT K H a xs ∧ ∀ p, H p = none → Q (.ref p) (L2.upd H p (.tup xs.reverse))) ∨
  (∃ z : Str, x = .str z ∧ z.length ≤ sizeLine ∧ Q (.str ⟨z.cps.reverse⟩) H)
section
variable {X : Cx} {W : Wx} {m : EM}
theorem pe_rev {e : Expr} {te : TE} {k : Nat} {p1 p2 p3 pos : Pos} (he : PE X e te) : PE X (.Subscript e (.Slice none none (some (.UnaryOp .USub (.Constant (.int 1) k p1) p2)) p3) pos) (fun σ H Q => te σ H fun x H1 => rRev X.K x H1 Q) := by
  refine ⟨fun pins s σ H Q I h => ?_⟩
  refine Subscript_ (thn (he.run pins s σ H _ I h) fun v s1 ⟨x, H1, I1, r1, q1⟩ => ?_)
  have hst : PO X (some (.UnaryOp .USub (.Constant (.int 1) k p1) p2)) (tPart (tUn (rU fun i => .int (-i)) (tC (.int 1)))) := po_some (pe_un un_neg pe_int)
  refine wpAny_Slice (thn (po_none.run pins s1 σ H1 (fun o H2 => o = none ∧ H2 = H1) I1 ⟨rfl, rfl⟩) fun vl s2 ⟨l, H2, I2, pl, el, e2⟩ => ?_)
  subst el e2
  refine thn (po_none.run pins s2 σ H2 (fun o H3 => o = none ∧ H3 = H2) I2 ⟨rfl, rfl⟩) fun vu s3 ⟨u, H3, I3, pu, eu, e3⟩ => ?_
  subst eu e3
  refine thn (hst.run pins s3 σ H3 (fun o H4 => o = some (-1) ∧ H4 = H3) I3 ⟨1, rfl, -1, rfl, rfl, rfl⟩) fun vs s4 ⟨o, H4, I4, ps, eo, e4⟩ => ?_
  subst eo e4
  have I5 : Inv X pins σ H4 { s4 with heap := s4.heap.push { cls := .type "slice", data := .fields #[vl, vu, vs] } } := I4.kept (t' := s4.toks) fun b ob q => Heap.get?_push_of_some _ q
  show wpAny (model X.prog X.w) X.A (subscriptTail e (.Slice none none (some (.UnaryOp .USub (.Constant (.int 1) k p1) p2)) p3) v (.ref s4.heap.objs.size)) (EP X pins σ Q) X.xe { s4 with heap := s4.heap.push { cls := .type "slice", data := .fields #[vl, vu, vs] } }
  rcases q1 with ⟨a, xs, ex, hx, q⟩ | ⟨a, xs, ex, hx, q⟩ | ⟨z, ex, hz, q⟩
  · subst ex
    cases r1
    obtain ⟨its, r, ht, hz⟩ := I5.list hx
    have hlen := r.length
    refine tail_any (ops := [.ref a, .ref s4.heap.objs.size]) ht.isList.typeIs (PySem.slot_list_getitem.lookup) ?_ (by with_unfolding_all rfl)
    refine wpAny_getItem_list_slice ht.isList (Heap.IsSliceOf.new _ vl vu vs) pl pu ps (by decide) ?_ (by rw [List.size_toArray]; omega)
    rw [PySem.W.krv_pick]
    refine ⟨.ref _, _, I5.laid (t' := s4.toks) (o := .lst xs.reverse) (fun b ob q => Heap.get?_push_of_some _ q) (Nat.le_refl _) ?_, rfl, q _ (I5.hok.fresh (Nat.le_refl _))⟩
    exact ⟨by rw [List.length_reverse]; exact hz, _, 0, r.reverse, Heap.get?_push_size _ rfl⟩
  · subst ex
    cases r1
    obtain ⟨its, r, ht, hz⟩ := I5.tuple hx
    have hlen := r.length
    refine tail_any (ops := [.ref a, .ref s4.heap.objs.size]) ht.typeIs (PyProof.Rows.slot_tuple_getitem.lookup) ?_ (by with_unfolding_all rfl)
    obtain ⟨l, rfl, hl⟩ := IsPart.raw pl
    obtain ⟨u, rfl, hu⟩ := IsPart.raw pu
    obtain ⟨st, rfl, hst'⟩ := IsPart.raw ps
    cases l with
    | some l => cases hl
    | none =>
    cases u with
    | some u => cases hu
    | none =>
    cases st with
    | none => cases hst'
    | some st =>
    obtain ⟨i, t⟩ := st
    cases hst'
    refine RevM.tup_rev (u := t) ht (Heap.IsSliceOf.new _ _ _ _) (by omega) ?_
    refine ⟨.ref _, _, I5.laid (t' := s4.toks) (o := .tup xs.reverse) (fun b ob q => Heap.get?_push_of_some _ q) (Nat.le_refl _) ?_, rfl, q _ (I5.hok.fresh (Nat.le_refl _))⟩
    exact ⟨by rw [List.length_reverse]; exact hz, _, r.reverse, IsTup.new _ _⟩
  · subst ex
    obtain ⟨t, rfl⟩ := r1
    obtain ⟨l, rfl, hl⟩ := IsPart.raw pl
    obtain ⟨u, rfl, hu⟩ := IsPart.raw pu
    obtain ⟨st, rfl, hst'⟩ := IsPart.raw ps
    cases l with
    | some l => cases hl
    | none =>
    cases u with
    | some u => cases hu
    | none =>
    cases st with
    | none => cases hst'
    | some st =>
    obtain ⟨i, t2⟩ := st
    cases hst'
    refine tail_any (ops := [.str z t, .ref s4.heap.objs.size]) (typeIs_str _ _ _) (F.slot_str_getitem.lookup) ?_ (by with_unfolding_all rfl)
    refine wpAny_getItem_str_slice (l := none) (u := none) (st := some (-1, t2)) ⟨_, Heap.get?_push_size _ rfl, rfl, rfl⟩ rfl ?_
    show Made.post (if ((-1 : Int) == 1 && _) = true then _ else Made.str ⟨((PySem.Builtin.Str.strSliceIndices none none (-1) z.length).filterMap (z.cps[·]?)).toArray⟩) _ _
    rw [if_neg (by simp), rev_text z t2]
    exact ⟨by show z.cps.reverse.size ≤ sizeLine; rw [Array.size_reverse]; exact hz, .str _, H4, I5.tok _, ⟨_, rfl⟩, q⟩
theorem rf_rev {ρ : List Addr} {H : Hp} {h : MH} {Wf : XK} {Q : VK} {x : D} {vx : V} (hh : RH (gd X) ρ H h) (rx : RD (gd X) ρ H x vx) (p : Post (gd X) (RD (gd X)) Wf ρ H (revF x h) Q) (hz : ∀ z, x = .str z → z.length ≤ 1000000) : rRev X.K vx H Q := by
  unfold revF at p
  split at p
  · rename_i l
    obtain ⟨a, vs, e1, sq, rs⟩ := RD_tup rx
    exact .inr (.inl ⟨a, vs, e1, sq, fun q hq => p.newTup hh hq rs.reverse⟩)
  · rename_i z
    exact .inr (.inr ⟨z, RD_str rx, big_le (hz z rfl), p.okk hh .strN⟩)
  · split at p
    · rename_i l hl
      obtain ⟨n, a, vs, e0, _, _, e1, e2, rs⟩ := lst_v hh rx hl
      exact .inl ⟨a, vs, e1, .inl (.inl e2), fun q hq => p.newLst hh hq rs.reverse⟩
    · exact p.elim
/-- x[::-1] -/
def revE (m : EM) : EM := fun e h => (m e h).bind fun x h1 => match x with
  | .str z => if z.length ≤ 1000000 then revF (.str z) h1 else .bad
  | x => revF x h1
theorem e_rev {e : Expr} {k : Nat} {p1 p2 p3 pos : Pos} (ha : PE X e (tE (gd X) W m)) : PE X (.Subscript e (.Slice none none (some (.UnaryOp .USub (.Constant (.int 1) k p1) p2)) p3) pos) (tE (gd X) W (revE m)) :=
  PE_of (pe_rev ha) fun σ H Q q => one q fun ρ e H h x vx s hh rx p => by
    split at p
    · rename_i z
      split at p
      · rename_i hz
        exact rf_rev hh rx p fun z' e => by cases e; exact hz
      · exact p.elim
    · rename_i x' hx
      exact rf_rev hh rx p fun z' e => absurd e (hx z')
end
end ML

/-! ML 26: the head: own classes of instances, constants, except clauses -/
namespace ML
open PySem PySem.Spec PyProof.Rows L2

def clsB (K : PySem.W.Frag) (C fI : Addr) (fs : List Str) : Bool :=
  PySem.W.plainGet K C Str.empty && (PySem.W.hasDictIn K C && (PySem.W.plainOver K C && (decide (PySem.W.findIn K (.ref C) "__setattr__" = some (some (.builtin "object.__setattr__"))) &&
  (decide (PySem.W.findIn K (.ref C) "__class__" = some (some (.builtin "object.__class__"))) && (decide (PySem.W.specialIn K (.builtin "object.__class__") "__get__" = some (some (.builtin "getset_descriptor.__get__"))) &&
  (decide (PySem.W.takesIn K (.builtin "object.__class__") = some true) && (decide (PySem.W.mroIn K C (.type "object") = some true) && (PySem.W.makesIn K C && (decide (PySem.W.findIn K (.ref C) "__init__" = some (some (.ref fI))) &&
  (PySem.W.isFn K (.ref fI) && (PySem.W.keepIn K (.ref C) && fs.all fun f => decide (PySem.W.findIn K (.ref C) f = some none))))))))))))
structure ClsB (K : PySem.W.Frag) (C fI : Addr) (fs : List Str) : Prop where
  cl : Cls K C
  ii : IsI K C
  makes : Mk K C fI
  no : ∀ f ∈ fs, NoAttr K C f
theorem clsB_ok {K : PySem.W.Frag} {C fI : Addr} {fs : List Str} (h : clsB K C fI fs = true) : ClsB K C fI fs := by
  unfold clsB at h
  simp only [Bool.and_eq_true, decide_eq_true_eq] at h
  obtain ⟨h1, h2, h3, h4, h5, h6, h7, h8, h9, h10, h11, h12, h13⟩ := h
  have c : Cls K C := ⟨h1, h2, h3, h4⟩
  exact ⟨c, ⟨c, h5, h6, h7, h8⟩, ⟨h9, h10, h11, h12⟩, fun f hf => of_decide_eq_true (p := PySem.W.findIn K (.ref C) f = some none) (List.all_eq_true.mp h13 f hf)⟩
section
variable {P : Program} {w : World} {K : PySem.W.Frag} {mg : Str → Option Value} {base : Heap}
/-- fields of own classes (ci) and of error classes (cx) -/
theorem fld_mk2 {ci cx : List (Str × Addr)} {f : Str} (hi : ∀ p ∈ ci, mg p.1 = some (.ref p.2)) (hc : ∀ p ∈ ci, Cls K p.2 ∧ NoAttr K p.2 f) (hm : ∀ p ∈ cx, mg p.1 = some (.ref p.2)) (hx : ∀ p ∈ cx, XfC K p.2 ∧ PySem.W.findIn K (.ref p.2) f = some none) : FldOk K mg (ci.map (·.1)) (cx.map (·.1)) f := by
  refine ⟨fun c h C hC => ?_, (fld_mk hm hx).2⟩
  obtain ⟨p, hp, e1⟩ := List.mem_map.mp h
  subst e1
  have := hi p hp
  rw [hC] at this
  cases this
  exact hc p hp
/-- which error classes are caught -/
def catB (K : PySem.W.Frag) (cs : List (Str × Addr)) (cv : Value) (g : Str → Bool) : Bool := cs.all fun p => decide (PySem.W.exmOne K (.ref p.2) cv = some (g p.1))
theorem cat_mk {cs : List (Str × Addr)} {cv : Value} {g : Str → Bool} (hm : ∀ p ∈ cs, mg p.1 = some (.ref p.2)) (h : catB K cs cv g = true) : CatTab K mg cv (tabOf (cs.map (·.1)) g) := by
  intro c b e C hC
  obtain ⟨h1, h2⟩ := tabOf_at e
  subst h2
  obtain ⟨p, hp, e1⟩ := List.mem_map.mp h1
  subst e1
  have := hm p hp
  rw [hC] at this
  cases this
  exact of_decide_eq_true (List.all_eq_true.mp h p hp)
theorem names_own {X : Cx} {x : Str} {a : Addr} (hg : Gl X x) (hm : X.mg x = some (.ref a)) (hd : (x == ("__debug__" : Str)) = false := by decide) : Names X x (.ref a) := ⟨hg, hd, .inl hm⟩
/-- the class, as its makers know it -/
theorem in_mk {c : Str} {C f : Addr} {fd : FuncData} {ps : List Str} {k np nn : Nat} {b : SM} (hm : mg c = some (.ref C)) (M : Mk K C f) (hb : Binds K fd ps []) (G : FnOk P w K mg base (L2.CX P w) k f fd ps (spM ⟨K, mg⟩ ps.length (fnM np nn b))) (hnp : ps.length = np) : InC P w K mg base c k np (fnM np nn b) :=
  ⟨C, f, fd, ps, hm, M, hb, hnp, G⟩
/-- the constants -/
def isStrs : List Str → List Value → Bool
  | [], [] => true
  | s :: l, .str t _ :: r => decide (s = t) && isStrs l r
  | _, _ => false
theorem isStrs_ok : ∀ {l : List Str} {r : List Value}, isStrs l r = true → Vals (l.map V.str) r
  | [], [], _ => .nil
  | s :: l, .str t u :: r, h => by
    unfold isStrs at h
    simp only [Bool.and_eq_true, decide_eq_true_eq] at h
    obtain ⟨h1, h2⟩ := h
    subst h1
    exact .cons ⟨u, rfl⟩ (isStrs_ok h2)
def tupB (K : PySem.W.Frag) (a : Addr) (l : List Str) : Bool := match K.lookup a with
  | some ⟨.type t, _, .seq its _, _⟩ => decide (t = "tuple") && (decide (its.size ≤ sizeLine) && isStrs l its.toList)
  | _ => false
theorem tup_mk {x : Str} {a : Addr} {l : List Str} (hm : mg x = some (.ref a)) (h : tupB K a l = true) : TupG K mg x l := by
  unfold tupB at h
  split at h
  · rename_i t dd its n sl hk
    simp only [Bool.and_eq_true, decide_eq_true_eq] at h
    obtain ⟨h1, h2, h3⟩ := h
    subst h1
    exact ⟨a, dd, its, n, sl, hm, hk, h2, isStrs_ok h3⟩
  · cases h
theorem str_mk {x s : Str} {t : Tok} (hm : mg x = some (.str s t)) : StrG mg x s := ⟨t, hm⟩
theorem int_mk {x : Str} {i : Int} {t : Tok} (hm : mg x = some (.int i t)) : IntG mg x i := ⟨t, hm⟩
end
end ML

/-! ML 27: enumerate of a tuple -/
namespace PySem
open Sem (wp)
theorem meets_enumerate_new1B {v : Value} {o : Obj} {H : Heap → Prop} (B : Begins v o H) :
    Meets (Builtin.«enumerate.__new__» ⟨[.type "enumerate", v], []⟩) (fun _ R s => H s.heap ∧
      R (.ok (.ret (.ref (s.heap.push o).objs.size))) { s with heap := (s.heap.push o).push { cls := .type "enumerate", data := .fields #[.none, .bool false, .ref s.heap.objs.size, rawInt 0, .none, .none] } }) :=
  .of_wp fun prog w A R s h => by
    obtain ⟨hp, g, d, tk, os⟩ := s; obtain ⟨h1, h⟩ := h
    have hsub := sub_enumerate
    have q1 : ∀ {A' : Around} {E : Value → Shared → Prop} {Q : Value → Shared → Prop}, Q (.ref hp.objs.size) ⟨hp.push o, g, d, tk, os⟩ → wpAny (model prog w) A' (pyIter v) Q E ⟨hp, g, d, tk, os⟩ :=
      fun q => B.iter prog w _ _ ⟨hp, g, d, tk, os⟩ _ h1 q
    wp_walk using q1
    refine wpAny_stack_any fun st => wpAny_pure ?_
    split
    · rename_i c _ _ _ _ _
      cases (c == Value.type "enumerate")
      · wp_walk using q1
        exact ⟨_, rfl, h⟩
      · wp_walk using q1
        exact ⟨_, rfl, h⟩
    · wp_walk using q1
      exact ⟨_, rfl, h⟩
section
variable {prog : Program} {w : World} {A : Around} {E : Value → Shared → Prop} {s : Shared}
theorem enum_begins1 {v : Value} {o : Obj} {H : Heap → Prop} {Q : Value → Shared → Prop} (B : Begins v o H) (h1 : H s.heap)
    (h : ∀ h', IsEnum h' (s.heap.objs.size + 1) s.heap.objs.size 0 .none → h'.get? s.heap.objs.size = some o → h'.objs.size = s.heap.objs.size + 2 →
      (∀ b o, s.heap.get? b = some o → h'.get? b = some o) → Q (.ref (s.heap.objs.size + 1)) { s with heap := h' }) :
    wpAny (model prog w) A (call (.type "enumerate") [v]) Q E s := by
  refine callType_new F.called_enumerate (by decide) (F.typeCall_enumerate_1 _) (F.newCall_enumerate_1 _) (fun obj => F.args_object_init_2 obj _) F.entry_enumerate_new
    (meets_enumerate_new1B B) ⟨h1, ?_⟩
  have hz : (s.heap.push o).objs.size = s.heap.objs.size + 1 := Heap.size_push ..
  show _ ∧ _
  rw [hz]
  have he : IsEnum ((s.heap.push o).push { cls := .type "enumerate", data := .fields #[.none, .bool false, .ref s.heap.objs.size, rawInt 0, .none, .none] }) (s.heap.objs.size + 1) s.heap.objs.size 0 .none := by
    have := Heap.get?_push_size (s.heap.push o) (o := { cls := .type "enumerate", data := .fields #[.none, .bool false, .ref s.heap.objs.size, rawInt 0, .none, .none] }) rfl
    rw [hz] at this; exact this
  refine ⟨⟨_, he, rfl⟩, h _ he (Heap.get?_push_of_some _ (Heap.get?_push_size _ B.free)) (by rw [Heap.size_push, hz]) fun b o x => Heap.get?_push_of_some _ (Heap.get?_push_of_some _ x)⟩
end
end PySem
namespace ML
open PySem PySem.Spec PyProof.Rows L2
/-- the tuple at a, each item in a new pair -/
def IteT (K : PySem.W.Frag) (a : Addr) : It :=
  ⟨fun i H => ∃ (xs : List V) (x : V), SqT K H a xs ∧ xs[i]? = some x, fun i H v H' => ∃ T x, v = .ref T ∧ H T = none ∧ H' = L2.upd H T (.tup [.int (i : Nat), x]) ∧ ∀ xs, SqT K H a xs → xs[i]? = some x, fun i H => ∃ xs : List V, SqT K H a xs ∧ xs.length ≤ i⟩
theorem turn_enumT {P : Program} {w : World} {K : PySem.W.Frag} {elts : List Expr} {kk : Nat} {tpos : Pos} (a e it : Addr) :
    Turn P w K (.Tuple elts kk tpos) (IteT K a) [e, it] e (fun i h => (∃ old, IsEnum h e it ((i : Nat) : Int) old) ∧ h.IsTupleIter it a i ∧ e ≠ it ∧ e ≠ a ∧ a ≠ it) where
  mem := by simp
  obj := fun i h st b hb => by
    obtain ⟨⟨old, he⟩, ⟨o, ho, hc, hd⟩, _⟩ := st
    have e' : b = e ∨ b = it := by simpa using hb
    rcases e' with z | z
    · rw [z]; exact ⟨_, he, fun v q => nomatch q⟩
    · rw [z]; exact ⟨o, ho, fun v q => by rw [hd] at q; cases q⟩
  keep := fun i h h' st k => let ⟨⟨old, he⟩, hi, hne⟩ := st; ⟨⟨old, k e (by simp) _ he⟩, hi.at fun o q => k it (by simp) o q, hne⟩
  item := by
    intro X hP hw hK hc i pins s σ H E I hf st hg
    subst hP hw hK
    obtain ⟨⟨old, he⟩, hit, hne, hea, hai⟩ := st
    obtain ⟨xs, x, hq, hx⟩ := hg
    obtain ⟨its, rv, p, hz⟩ := I.tuple hq
    obtain ⟨u, hu, ru⟩ := rv.get hx
    have hel : e < s.heap.objs.size := Heap.lt_size he
    have hil : it < s.heap.objs.size := by obtain ⟨_, q, _⟩ := hit; exact Heap.lt_size q
    have hn : its.toArray[i]? = some u := by simpa using hu
    have D := Draws.tuple (prog := X.prog) (w := X.w) (A := X.A.in1) (I.ok.hd hc) it a hai its.toArray
    have hlt : i < its.toArray.size := by
      have := (Array.getElem?_eq_some_iff.mp hn).1
      exact this
    refine wpAny_pyNext_enum_itemC D he ⟨hit, show s.heap.IsTuple a its.toArray from p⟩ hlt hne (by simp; exact ⟨hne, hea⟩) fun x' h' tk hP ho hst' hT hsz hk => ?_
    rw [hn] at hP
    cases hP
    refine ⟨_, rfl, wpAny_letOwnedTupleGo_enum (s := { s with heap := h', toks := tk + 1 }) ho fun h'' he' sb => ?_⟩
    have hT2 : h''.get? s.heap.objs.size = some { cls := .type "tuple", data := .seq #[.int i tk, u] } := (sb.2 _ (Nat.ne_of_gt hel)).trans hT
    have new : ObjOk X.prog X.w (L2.upd H s.heap.objs.size (.tup [.int (i : Nat), x])) h'' s.heap.objs.size (.tup [.int (i : Nat), x]) :=
      ⟨by show 2 ≤ sizeLine; decide, [.int i tk, u], .cons ⟨_, rfl⟩ (.cons ru .nil), ⟨_, hT2, rfl, _, rfl⟩⟩
    have I1 : Inv X pins σ (L2.upd H s.heap.objs.size (.tup [.int (i : Nat), x])) { s with heap := h'', toks := tk + 1 } :=
      I.turnedNew (ch := [e, it]) (fun b ob hb q => (sb.2 b (fun z => hb (by simp [z]))).trans (hk b ob (fun z => hb (by simp [z])) (fun z => hb (by simp [z])) q)) hf (Nat.le_refl _) new
    refine ⟨.ref s.heap.objs.size, _, I1, rfl, ⟨_, x, rfl, I.hok.fresh (Nat.le_refl _), rfl, fun ys hy => by rw [I.tuple_inj hy hq]; exact hx⟩, ⟨⟨u, ?_⟩, hst'.1.at fun o q => (sb.2 it (Ne.symm hne)).trans q, hne, hea, hai⟩, fun b hb => ?_⟩
    · have e1 : ((i + 1 : Nat) : Int) = (i : Int) + 1 := by omega
      rw [e1]; exact he'
    · have hb' : b < s.heap.objs.size := by
        have e' : b = e ∨ b = it := by simpa using hb
        rcases e' with z | z
        · rw [z]; exact hel
        · rw [z]; exact hil
      rw [upd_ne (Nat.ne_of_lt hb')]
      exact (hf b hb).1
  done := by
    intro X hP hw hK hc i pins s σ H E I hf st hg
    subst hP hw hK
    obtain ⟨⟨old, he⟩, hit, hne, hea, hai⟩ := st
    obtain ⟨xs, hq, hx⟩ := hg
    obtain ⟨its, rv, p, hz⟩ := I.tuple hq
    obtain ⟨f0, f1, f2, f3, f4, f5⟩ := hf it (by simp)
    have hl := rv.length
    have hT : s.TypeIs (.ref e) "enumerate" := ⟨_, he, rfl⟩
    have nx : its.toArray[i]? = none := by simp; omega
    unfold pyNext
    refine wpAny_bind (wpAny_attempt (wpAny_callSpecial?_slot (name := Str.ofString "__next__") hT F.slot_enumerate_next
      (wpAny_call_entry F.slot_enumerate_next hT F.entry_enumerate_next ?_ (F.args_enumerate_next_1 _))))
    show wpAny _ _ (field (.ref e) 2 >>= _) _ _ _
    refine wpAny_bind (wpAny_field he rfl (x := .ref it) rfl ?_)
    refine wpAny_bind (wpAny_nextOf_tuple_end (I.ok.hd hc) hit (show s.heap.IsTuple a its.toArray from p) nx fun h' x he' hx' => ?_)
    obtain ⟨o, ho, hcl⟩ := hx'
    refine wpAny_bind (wpAny_isInstance (T := "StopIteration") (b := true) ⟨o, ho, hcl⟩ isSubtype_stop ?_)
    exact wpAny_pure ⟨rfl, I.turned (t' := s.toks) (fun b o hb q => he' b o hb q) f0 f1 f3 f4 f5⟩
  self := fun A i s Q E st h => let ⟨⟨_, he⟩, _⟩ := st; wpAny_pyIter_enum he h
/-- enumerate of a list or of a tuple -/
def iEnumB (K : PySem.W.Frag) (ta : TA) : TI := fun σ H R => ta σ H fun vs H1 => ∃ a xs, vs = [.ref a] ∧ ((SqL K H1 a xs ∧ R (Ite K a) H1) ∨ (SqT K H1 a xs ∧ R (IteT K a) H1))
theorem pi_enumB {X : Cx} {e : Expr} {ta : TA} {p pos tpos : Pos} {elts : List Expr} {kk : Nat} (hg : Gl X "enumerate") (hm : X.mg "enumerate" = none) (ha : PA X [e] ta) (hs : starEach [e] X.env = [(false, eval e X.env)] := by rfl) :
    PI X (.Tuple elts kk tpos) (.Call (.Name "enumerate" p) [e] [] pos) (iEnumB X.K ta) := by
  refine ⟨fun pins s σ H R I h => ?_⟩
  refine Call_ (ld_blt I hg hm boot_enumerate (PyProof.Rows.callWith_type1 (thn (ha.run pos pins s σ H _ I h) fun us s1 ⟨vs, H1, I1, r1, q1⟩ => ?_) hs rfl))
  obtain ⟨a, xs, ex, q⟩ := q1
  subst ex
  cases r1 with
  | cons r rr =>
    cases rr
    cases r
    rcases q with ⟨hq, q⟩ | ⟨hq, q⟩
    · obtain ⟨its, rv, p', hz⟩ := I1.list hq
      refine call_enumerate_list p'.isList fun h' he hit hsz hk => wpAny_pyIter_enum he ?_
      have I2 : Inv X pins σ H1 { s1 with heap := h' } := I1.kept (t' := s1.toks) hk
      refine ⟨s1.heap.objs.size + 1, [s1.heap.objs.size + 1, s1.heap.objs.size], _, _, H1, rfl, I2, turn_enum a (s1.heap.objs.size + 1) s1.heap.objs.size, ⟨⟨.none, he⟩, hit, Nat.succ_ne_self _⟩, fun b hb => ?_, q⟩
      have e' : b = s1.heap.objs.size + 1 ∨ b = s1.heap.objs.size := by simpa using hb
      have hle : s1.heap.objs.size ≤ b := by
        rcases e' with z | z
        · rw [z]; exact Nat.le_add_right _ _
        · rw [z]; exact Nat.le_refl _
      exact I1.fpOk hle (I1.hok.fresh hle)
    · obtain ⟨its, rv, p', hz⟩ := I1.tuple hq
      have al : a < s1.heap.objs.size := by obtain ⟨_, q, _⟩ := id p'; exact Heap.lt_size q
      refine enum_begins1 (begins_tuple a its.toArray) (show s1.heap.IsTuple a its.toArray from p') fun h' he hit hsz hk => wpAny_pyIter_enum he ?_
      have I2 : Inv X pins σ H1 { s1 with heap := h' } := I1.kept (t' := s1.toks) hk
      have ti : h'.IsTupleIter s1.heap.objs.size a 0 := ⟨_, hit, rfl, rfl⟩
      refine ⟨s1.heap.objs.size + 1, [s1.heap.objs.size + 1, s1.heap.objs.size], _, _, H1, rfl, I2, turn_enumT a (s1.heap.objs.size + 1) s1.heap.objs.size, ⟨⟨.none, he⟩, ti, Nat.succ_ne_self _, Nat.ne_of_gt (Nat.lt_succ_of_lt al), Nat.ne_of_lt al⟩, fun b hb => ?_, q⟩
      have e' : b = s1.heap.objs.size + 1 ∨ b = s1.heap.objs.size := by simpa using hb
      have hle : s1.heap.objs.size ≤ b := by
        rcases e' with z | z
        · rw [z]; exact Nat.le_add_right _ _
        · rw [z]; exact Nat.le_refl _
      exact I1.fpOk hle (I1.hok.fresh hle)
section
variable {X : Cx} {W : Wx} {g : Gd} {ρ : List Addr} {H : Hp} {h : MH}
theorem wk_enumT {a : Addr} {l : List D} {vs : List V} (sq : SqT g.K H a vs) (r : RDs g ρ H l vs) : WkD g ρ H ⟨enumD l, []⟩ (IteT g.K a) := by
  refine ⟨fun H => SqT g.K H a vs, (IteT g.K a).yld, ⟨fun i H hi q => ⟨vs, vs[i]'(by rw [enumD_len] at hi; rw [← r.length]; exact hi), q, List.getElem?_eq_getElem _⟩, fun H q => ⟨vs, q, Nat.le_of_eq (by show vs.length = (enumD l).length; rw [enumD_len, r.length])⟩, fun _ _ _ _ _ _ y => y⟩,
    fun ρ2 H2 h2 l2 hh ok => l2.sqT sq, fun i H2 x H3 ρ2 h2 d l2 hh ok y e => ?_⟩
  obtain ⟨T, z, e2, e3, e4, y⟩ := y
  obtain ⟨d', e5, e6⟩ := enumD_at e
  obtain ⟨v, e7, r7⟩ := r.get e5
  have e8 := y vs (l2.sqT sq)
  rw [e7] at e8
  cases e8
  subst e2 e6
  exact enum_step hh e3 e4 (l2.rd d' r7)
def enumF2 : List D → MH → R IT := fun ds h => match ds with
  | [.tup l] => .ok ⟨enumD l, []⟩ h
  | ds => enumF ds h
def enumI2 (m : AM) : IM := fun e h => (m e h).bind enumF2
theorem i_enum2 {e : Expr} {ma : AM} {p pos tpos : Pos} {elts : List Expr} {kk : Nat} (hg : Gl X "enumerate") (hm : X.mg "enumerate" = none) (ha : PA X [e] (tA (gd X) W ma)) (hs : starEach [e] X.env = [(false, eval e X.env)] := by rfl) :
    PI X (.Tuple elts kk tpos) (.Call (.Name "enumerate" p) [e] [] pos) (iM (gd X) W (enumI2 ma)) := PI_of (pi_enumB hg hm ha hs) fun σ H Q q => by
  refine one q fun ρ e H h xs vs s hh rx p => ?_
  unfold enumF2 at p
  split at p
  · rename_i l
    obtain ⟨v, e1, r1⟩ := rx.inv1
    obtain ⟨a, ws, e2, sq, r⟩ := RD_tup r1
    subst e2
    exact ⟨a, ws, e1, .inr ⟨sq, p.okk hh (wk_enumT sq r)⟩⟩
  · unfold enumF at p
    split at p
    · rename_i n _
      obtain ⟨v, e1, r1⟩ := rx.inv1
      obtain ⟨a, e2, e3⟩ := RD_ref r1
      subst e3
      split at p
      · rename_i l hl
        obtain ⟨ws, e4, r⟩ := hh.obj n _ a hl e2
        exact ⟨a, ws, e1, .inl ⟨.of e4, p.okk hh (wk_enumL e2)⟩⟩
      · rename_i l hl
        obtain ⟨ws, e4, r⟩ := hh.obj n _ a hl e2
        exact ⟨a, ws, e1, .inl ⟨e4.sq, p.okk hh (wk_enumR e4 r)⟩⟩
      · exact p.elim
    · exact p.elim
end
end ML

/-! ML 28: == and != by an own __eq__ -/
namespace PySem.W
open PySem
section
variable {prog : Program} {w : World} {A A₀ : Around} {E : Value → Shared → Prop} {s : Shared} {K : Frag} {x C L f : Addr} {h₀ : Heap} {m : Str → Option Value} {ox : Obj} {od : Option Obj} {name : Str} {b tb : Value}
theorem ifBound_KB {M : Model} {B id : String} {args : List Value} {Q : Option Value → Shared → Prop} (X : K.In s.heap) (I : InstAt s.heap x ox C od) (hs : findIn K (.ref C) name = some (some (.builtin id))) (S : Slot B name id)
    (h : wpAny M A (call (.builtin id) (.ref x :: args)) (fun v => Q (some v)) E s) : wpAny M A (callSpecialIfBound? (.ref x) name args) Q E s := by
  simp only [callSpecialIfBound?, bindSpecialIfBound?]
  refine wpAny_holding (wpAny_bind (wpAny_bind (wpAny_bind (I.type.here ((looks_findIn X hs).here ?_)))))
  simp only [S.bind]
  refine wpAny_bind (wpAny_askSetting (wpAny_ite ?_))
  have fin : wpAny M A (call (.builtin id) ([.ref x] ++ args) >>= fun v => pure (some v)) Q E s := wpAny_bind (wpAny_mono h (fun v s' h' => wpAny_pure h') fun _ _ h' => h')
  split
  · exact wpAny_bind (wpAny_pure (wpAny_pure fin))
  · exact wpAny_tryCatch (wpAny_bind (wpAny_pure (wpAny_pure fin)))
theorem objNe_K {Q : Fin → Shared → Prop} (X : K.In s.heap) (I : InstAt s.heap x ox C od) (hs : findIn K (.ref C) "__eq__" = some (some (.ref f))) (hf : isFn K (.ref f) = true) (hu : A.units < cLine)
    (hcall : wpAny (model prog w) A (call (.ref f) [.ref x, b]) (fun v s' => ∃ r, v = .bool r ∧ Q (.done (.ret (.bool (!r)))) s') E s) :
    wpAny (model prog w) A (Builtin.«object.__ne__» ⟨[.ref x, b], []⟩) Q E s := by
  obtain ⟨h, g, d, t, os⟩ := s
  unfold Builtin.«object.__ne__»
  repeat (first
    | with_reducible refine wpAny_cRoomFor hu ?_
    | (refine wpAny_bind (m := callSpecialIfBound? (.ref x) (Str.ofString "__eq__") [b])
        (ifBound_K X I hs hf (wpAny_mono hcall (fun r s' hr => by
          obtain ⟨b, rfl, hq⟩ := hr
          repeat (first | exact hq | exact wpAny_pure hq | exact wpAny_truthy_bool hq | (refine wpAny_bind (m := truthy (.bool _)) (wpAny_truthy_bool ?_)) | wp_step)) fun _ _ e => e)))
    | wp_step)
theorem ne_K {Q : Value → Shared → Prop} (hu : A.units + 1 < cLine) (X : K.In s.heap) (I : InstAt s.heap x ox C od) (hb : Looks (model prog w) s.heap (typeOf b) tb) (hn : notFirst K C tb = true)
    (hne : findIn K (.ref C) "__ne__" = some (some (.builtin "object.__ne__"))) (hob : mroIn K C (.type "object") = some true) (hs : findIn K (.ref C) "__eq__" = some (some (.ref f))) (hf : isFn K (.ref f) = true)
    (h : wpAny (model prog w) A.in1 (call (.ref f) [.ref x, b]) (fun v s' => ∃ r, v = .bool r ∧ Q (.bool (!r)) s') E s) : wpAny (model prog w) A (richCompare .NotEq (.ref x) b) Q E s := by
  have one : wpAny (model prog w) A (tryCompare (.ref x) "__ne__" b) (fun r s' => ∃ v, r = some v ∧ Q v s') E s := by
    unfold tryCompare
    refine wpAny_bind (ifBound_KB X I hne F.cmp_object.ne (wpAny_call (codeAny_call_builtin F.cmp_object.ne.plain F.cmpEntry_ne
      (check_slot F.cmpKind_ne F.cmpSplit_ne ((I.type).andThen (looks_mroIn X hob)) (F.cmpArgs_ne _ _)
        (objNe_K (A := A.in1) X I hs hf hu (wpAny_mono h (fun v s' hv => ?_) fun _ _ e => e))))))
    obtain ⟨r, rfl, hq⟩ := hv
    exact ⟨r, rfl, by first | exact wpAny_pure ⟨_, rfl, hq⟩ | exact wpAny_pure (wpAny_pure ⟨_, rfl, hq⟩)⟩
  unfold richCompare
  simp only [oneThing_ref]
  refine wpAny_holding (wpAny_bind (wpAny_cRoomFor (Nat.lt_of_succ_lt hu) ?_))
  refine wpAny_bind (I.type.here (wpAny_bind (hb.here ?_)))
  split
  · rename_i q
    have e : subIn K tb (.ref C) = some false := by
      rcases Bool.or_eq_true_iff.mp hn with e | e
      · rw [beq_iff_eq.mp e] at q; simp at q
      · exact beq_iff_eq.mp e
    refine wpAny_bind ((looks_subIn X e).here ?_)
    simp only [Bool.false_eq_true, if_false]
    refine wpAny_bind (wpAny_mono one (fun r s' z => ?_) fun _ _ e => e)
    obtain ⟨v, rfl, hq⟩ := z
    exact wpAny_pure hq
  · refine wpAny_bind (wpAny_pure ?_)
    simp only [Bool.false_eq_true, if_false]
    refine wpAny_bind (wpAny_mono one (fun r s' z => ?_) fun _ _ e => e)
    obtain ⟨v, rfl, hq⟩ := z
    exact wpAny_pure hq
end
end PySem.W

/-! ML 29: a built-in thing == an instance with an own __eq__ -/
namespace PySem.W
open PySem PySem.SeqAt

section
variable {M : Model} {prog : Program} {w : World} {A : Around} {E : Value → Shared → Prop} {s : Shared} {l b : Addr} {Q : Fin → Shared → Prop}
/-- the object at b has not the type T -/
def NotT (s : Shared) (b : Addr) (T : String) : Prop := ∀ {M : Model} {A : Around} {E : Value → Shared → Prop} {Q : Bool → Shared → Prop}, Q false s → wpAny M A (isInstance (.ref b) (.type T)) Q E s
theorem decl_list (h : NotT s b "list") (hq : Q (.done (.ret .notImplemented)) s) : wpAny M A (Builtin.«list.__eq__» ⟨[.ref l, .ref b], []⟩) Q E s := by
  obtain ⟨hp, g, d, tk, os⟩ := s
  have h' : ∀ {M : Model} {A : Around} {E : Value → Shared → Prop} {Q : Bool → Shared → Prop}, Q false ⟨hp, g, d, tk, os⟩ → wpAny M A (isInstance (.ref b) (.type "list")) Q E ⟨hp, g, d, tk, os⟩ := h
  wp_walk using h'
  exact hq
theorem decl_tuple (h : NotT s b "tuple") (hq : Q (.done (.ret .notImplemented)) s) : wpAny M A (Builtin.«tuple.__eq__» ⟨[.ref l, .ref b], []⟩) Q E s := by
  obtain ⟨hp, g, d, tk, os⟩ := s
  have h' : ∀ {M : Model} {A : Around} {E : Value → Shared → Prop} {Q : Bool → Shared → Prop}, Q false ⟨hp, g, d, tk, os⟩ → wpAny M A (isInstance (.ref b) (.type "tuple")) Q E ⟨hp, g, d, tk, os⟩ := h
  wp_walk using h'
  exact hq
theorem decl_dict (h : NotT s b "dict") (hq : Q (.done (.ret .notImplemented)) s) : wpAny M A (Builtin.«dict.__eq__» ⟨[.ref l, .ref b], []⟩) Q E s := by
  obtain ⟨hp, g, d, tk, os⟩ := s
  have h' : ∀ {M : Model} {A : Around} {E : Value → Shared → Prop} {Q : Bool → Shared → Prop}, Q false ⟨hp, g, d, tk, os⟩ → wpAny M A (isInstance (.ref b) (.type "dict")) Q E ⟨hp, g, d, tk, os⟩ := h
  wp_walk using h'
  exact hq
theorem decl_none (hq : Q (.done (.ret .notImplemented)) s) : wpAny M A (Builtin.«NoneType.__eq__» ⟨[.none, .ref b], []⟩) Q E s := by
  obtain ⟨hp, g, d, tk, os⟩ := s
  wp_walk
  exact hq
variable {C dx : Addr}
theorem decl_int {x : Int} {t : Tok} (hb : s.heap.get? b = some (instObj C dx)) (hq : Q (.done (.ret .notImplemented)) s) : wpAny M A (Builtin.«int.__eq__» ⟨[.int x t, .ref b], []⟩) Q E s := by
  obtain ⟨hp, g, d, tk, os⟩ := s
  wp_walk using AutoSeq1.wpAny_loadPart' hb, wpAny_load hb
  exact hq
theorem decl_bool {x : Bool} (hb : s.heap.get? b = some (instObj C dx)) (hq : Q (.done (.ret .notImplemented)) s) : wpAny M A (Builtin.«int.__eq__» ⟨[.bool x, .ref b], []⟩) Q E s := by
  obtain ⟨hp, g, d, tk, os⟩ := s
  wp_walk using AutoSeq1.wpAny_loadPart' hb, wpAny_load hb
  exact hq
theorem decl_str {x : Str} {t : Tok} (hb : s.heap.get? b = some (instObj C dx)) (hq : Q (.done (.ret .notImplemented)) s) : wpAny M A (Builtin.«str.__eq__» ⟨[.str x t, .ref b], []⟩) Q E s := by
  obtain ⟨hp, g, d, tk, os⟩ := s
  wp_walk using AutoSeq1.wpAny_loadPart' hb, wpAny_load hb
  exact hq
end
end PySem.W

/-! ML 30: == and != where an own __eq__ answers -/
namespace PySem.W
open PySem PySem.SeqAt
section
variable {prog : Program} {w : World} {A : Around} {E : Value → Shared → Prop} {s : Shared} {K : Frag} {b C f : Addr} {ob : Obj} {od : Option Obj}
theorem eq_back {a : Value} {T id : String} {Q : Value → Shared → Prop} (ha : s.TypeIs a T) (S : Slot T (cmpInfo .Eq).2.1 id) (X : K.In s.heap) (I : InstAt s.heap b ob C od) (hsub : subIn K (.ref C) (.type T) = some false)
    (hs : findIn K (.ref C) "__eq__" = some (some (.ref f))) (hf : isFn K (.ref f) = true) (hu : A.units < cLine)
    (decl : ∀ Q' : Value → Shared → Prop, Q' .notImplemented s → wpAny (model prog w) A (call (.builtin id) [a, .ref b]) Q' E s)
    (h : wpAny (model prog w) A (call (.ref f) [.ref b, a]) (CmpBack Q) E s) : wpAny (model prog w) A (richCompare .Eq a (.ref b)) Q E s := by
  have two : wpAny (model prog w) A (tryCompare (.ref b) "__eq__" a) (fun r s' => ∃ v, r = some v ∧ Q v s') E s := by
    unfold tryCompare
    refine wpAny_bind (ifBound_K X I hs hf (wpAny_mono h (fun v s' hv => ?_) fun _ _ e => e))
    cases v <;> first | exact hv.elim | exact wpAny_pure ⟨_, rfl, hv⟩
  rcases hi : cmpInfo CmpOp.Eq with ⟨sym, f', r'⟩
  have hr : r' = "__eq__" := by
    rw [cmpInfo_Eq] at hi
    cases hi
    rfl
  rw [hi] at S
  simp only [richCompare, hi, ha.oneThing_none]
  try with_reducible refine wpAny_holding ?_
  refine wpAny_bind (wpAny_cRoomFor hu ?_)
  refine wpAny_bind (wpAny_typeOf ha (wpAny_bind (I.type.here ?_)))
  have hne : (Value.type T != Value.ref C) = true := rfl
  simp only [hne, if_true]
  refine wpAny_bind ((looks_subIn X hsub).here ?_)
  simp only [Bool.false_eq_true, if_false, Bool.not_false, if_true]
  refine wpAny_bind (m := tryCompare a _ (.ref b)) (wpAny_tryCompare_declines ha S (decl _ ⟨rfl, ?_⟩))
  subst hr
  refine wpAny_bind (m := tryCompare (.ref b) _ a) (wpAny_mono two (fun r s' z => ?_) fun _ _ e => e)
  obtain ⟨v, rfl, hq⟩ := z
  exact wpAny_pure hq
end
end PySem.W
namespace ML
open PySem PySem.Spec PyProof.Rows L2
/-- an own class with its __eq__, as its comparers know it; cs: the own classes whose instances may stand beside one -/
structure EqC (P : Program) (w : World) (K : PySem.W.Frag) (mg : Str → Option Value) (base : Heap) (c : Str) (k : Nat) (cs : List Str) (m : FM) : Prop where
  ex : ∃ C f fd ps, mg c = some (.ref C) ∧ PySem.W.findIn K (.ref C) "__eq__" = some (some (.ref f)) ∧ PySem.W.isFn K (.ref f) = true ∧ PySem.W.findIn K (.ref C) "__ne__" = some (some (.builtin "object.__ne__")) ∧ PySem.W.mroIn K C (.type "object") = some true ∧
    Binds K fd ps [] ∧ ps.length = 2 ∧ FnOk P w K mg base (L2.CX P w) k f fd ps (spM ⟨K, mg⟩ ps.length m) ∧
    (∀ T ∈ kinds, PySem.W.subIn K (.type T) (.ref C) = some false ∧ PySem.W.subIn K (.ref C) (.type T) = some false) ∧ ∀ c' ∈ cs, ∀ C', mg c' = some (.ref C') → PySem.W.notFirst K C (.ref C') = true
section
variable {X : Cx} {pins : List (Addr × Obj)} {σ : L2.St} {H : Hp} {s : Shared} {k : Nat} {f C : Addr} {fd : FuncData} {ps : List Str} {sp : Sp}
abbrev noE : XK := fun _ _ _ => False
/-- the own __eq__ is called -/
theorem run_eq {A : Around} {x y : V} {u v : Value} {Q : Bool → Hp → Prop} (F : FnOk X.prog X.w X.K X.mg X.base (L2.CX X.prog X.w) k f fd ps sp) (hb : Binds X.K fd ps []) (hl : ps.length = 2) (sb : Sub X k A) (I : Inv X pins σ H s) (rx : RelV x u) (ry : RelV y v)
    (h : sp [x, y] H (fun z H' => ∃ b, z = .bl b ∧ Q b H') noE) : wpAny (model X.prog X.w) A (call (.ref f) [u, v]) (fun z s' => ∃ b, z = .bool b ∧ ∃ H', Inv X pins σ H' s' ∧ Q b H') X.xe s := by
  have e0 : Env0 X.prog X.w X.K X.mg X.base A X.stack s H := by
    have e := I.env0
    exact ⟨by rw [sb.fr]; exact e.frames, e.mod, e.bs, e.bsz, e.funs, e.frf, e.hok, e.bare⟩
  have r2 : Vals [x, y] [u, v] := .cons rx (.cons ry .nil)
  refine wpAny_call (codeAny_mono (F.run A X.stack s H ⟨[u, v], []⟩ [u, v] [x, y] _ noE sb.room e0 (by
    have := hb s [u, v] I.kIn (by simpa using hl.symm)
    simpa using this) r2 h) fun r s' hq => ?_)
  cases r with
  | error e => exact (cx_no hq).elim
  | ok fl =>
    cases fl with
    | ret w =>
      obtain ⟨z, H', I', rz, b, ez, q⟩ := I.after hq
      subst ez
      cases rz
      exact ⟨b, rfl, H', I', q⟩
    | next => exact False.elim hq
    | brk => exact False.elim hq
    | cont => exact False.elim hq
/-- what may stand behind: a thing of a built-in kind, or an instance of no class below -/
def OthV (K : PySem.W.Frag) (C : Addr) (H : Hp) (y : V) : Prop := (∃ T ∈ kinds, TyX K H y (.type T)) ∨ ∃ b C' dy gs, y = .ref b ∧ H b = some (.ins C' dy gs) ∧ PySem.W.notFirst K C (.ref C') = true
theorem oth_looks {y : V} {v : Value} (I : Inv X pins σ H s) (ry : RelV y v) (hk : ∀ T ∈ kinds, PySem.W.subIn X.K (.type T) (.ref C) = some false) (o : OthV X.K C H y) : ∃ tb, PySem.W.Looks (model X.prog X.w) s.heap (typeOf v) tb ∧ PySem.W.notFirst X.K C tb = true := by
  rcases o with ⟨T, hT, ty⟩ | ⟨b, C', dy, gs, e, hb, hn⟩
  · obtain ⟨P, Z, hP, _⟩ := kit_of I ry ty
    refine ⟨.type T, Z.ty _ _ I.kIn hP, ?_⟩
    unfold PySem.W.notFirst
    rw [hk T hT]
    simp
  · subst e
    cases ry
    obtain ⟨mB, J', _⟩ := ins_get I.hok hb
    obtain ⟨od', J', _⟩ := J'.look
    exact ⟨.ref C', J'.type, hn⟩
def rEqI (K : PySem.W.Frag) (C : Addr) (sp : Sp) (neg : Bool) : R2 := fun x y H Q => ∃ a dx fs, x = .ref a ∧ H a = some (.ins C dx fs) ∧ OthV K C H y ∧ sp [x, y] H (fun z H' => ∃ b, z = .bl b ∧ Q (.bl (if neg then !b else b)) H') noE
theorem op_eqI (F : FnOk X.prog X.w X.K X.mg X.base (L2.CX X.prog X.w) k f fd ps sp) (hb : Binds X.K fd ps []) (hl : ps.length = 2) (hr : Room k X.A) (hs : PySem.W.findIn X.K (.ref C) "__eq__" = some (some (.ref f))) (hf : PySem.W.isFn X.K (.ref f) = true)
    (hk : ∀ T ∈ kinds, PySem.W.subIn X.K (.type T) (.ref C) = some false) : OpR X (compareOp .Eq) (rEqI X.K C sp false) := by
  intro pins s σ H x y u v Q I rx ry h
  obtain ⟨a, dx, fs, rfl, ha, o, q⟩ := h
  obtain ⟨tb, L, hn⟩ := oth_looks I ry hk o
  cases (show u = Value.ref a from rx)
  obtain ⟨mA, J, _⟩ := ins_get I.hok ha
  obtain ⟨od, J, _⟩ := J.look
  obtain ⟨m, hF⟩ := I.fr
  show wpAny (model X.prog X.w) X.A (richCompare .Eq (.ref a) v) (EP X pins σ Q) X.xe s
  refine PySem.W.cmp_K (op := .Eq) (tb := tb) hr.units0 hF I.ok.mod.kin J L hn hs hf ?_
  refine wpAny_mono (run_eq (Q := fun b H' => Q (.bl b) H') F hb hl ⟨hr, rfl⟩ I (show RelV (.ref a) (.ref a) from rfl) ry (by simpa using q)) (fun z s' p => ?_) fun _ _ e => e
  obtain ⟨b, rfl, H', I', qb⟩ := p
  exact ⟨.bl b, H', I', rfl, qb⟩
theorem op_neI (F : FnOk X.prog X.w X.K X.mg X.base (L2.CX X.prog X.w) k f fd ps sp) (hb : Binds X.K fd ps []) (hl : ps.length = 2) (hr : Room (k + 1) X.A) (hs : PySem.W.findIn X.K (.ref C) "__eq__" = some (some (.ref f))) (hf : PySem.W.isFn X.K (.ref f) = true)
    (hne : PySem.W.findIn X.K (.ref C) "__ne__" = some (some (.builtin "object.__ne__"))) (hob : PySem.W.mroIn X.K C (.type "object") = some true)
    (hk : ∀ T ∈ kinds, PySem.W.subIn X.K (.type T) (.ref C) = some false) : OpR X (compareOp .NotEq) (rEqI X.K C sp true) := by
  intro pins s σ H x y u v Q I rx ry h
  obtain ⟨a, dx, fs, rfl, ha, o, q⟩ := h
  obtain ⟨tb, L, hn⟩ := oth_looks I ry hk o
  cases (show u = Value.ref a from rx)
  obtain ⟨mA, J, _⟩ := ins_get I.hok ha
  obtain ⟨od, J, _⟩ := J.look
  show wpAny (model X.prog X.w) X.A (richCompare .NotEq (.ref a) v) (EP X pins σ Q) X.xe s
  refine PySem.W.ne_K (tb := tb) hr.in1.units0 I.kIn J L hn hne hob hs hf ?_
  refine wpAny_mono (run_eq (Q := fun b H' => Q (.bl (!b)) H') F hb hl (Sub.in1 ⟨hr, rfl⟩) I (show RelV (.ref a) (.ref a) from rfl) ry (by simpa using q)) (fun z s' p => ?_) fun _ _ e => e
  obtain ⟨b, rfl, H', I', qb⟩ := p
  exact ⟨b, rfl, .bl (!b), H', I', rfl, qb⟩
end
end ML

/-! ML 31: == and != where an own __eq__ may answer: the mirrors -/
namespace ML
open PySem PySem.Spec PyProof.Rows L2
section
variable {X : Cx} {pins : List (Addr × Obj)} {σ : L2.St} {H : Hp} {s : Shared} {k : Nat} {f C : Addr} {fd : FuncData} {ps : List Str} {sp : Sp}
/-- a thing of a built-in kind: what its own == says to an instance -/
theorem decl_all {T : String} {x : V} {u : Value} {b : Addr} {C dx : Addr} (I : Inv X pins σ H s) (rx : RelV x u) (hT : T ∈ kinds) (ty : TyX X.K H x (.type T)) (hb : s.heap.get? b = some (PySem.W.instObj C dx)) (hn : ∀ T' ∈ kinds, PySem.W.NotT s b T') :
    s.TypeIs u T ∧ ∃ id, PySem.Slot T (cmpInfo .Eq).2.1 id ∧ ∀ Q' : Value → Shared → Prop, Q' .notImplemented s → wpAny (model X.prog X.w) X.A (call (.builtin id) [u, .ref b]) Q' X.xe s := by
  have seq : ∀ {a : Addr} {o : Obj}, s.heap.get? a = some o → (o.cls = .type "list" → s.TypeIs (.ref a) "list" ∧ ∃ id, PySem.Slot "list" (cmpInfo .Eq).2.1 id ∧ ∀ Q' : Value → Shared → Prop, Q' .notImplemented s → wpAny (model X.prog X.w) X.A (call (.builtin id) [.ref a, .ref b]) Q' X.xe s) ∧
      (o.cls = .type "tuple" → s.TypeIs (.ref a) "tuple" ∧ ∃ id, PySem.Slot "tuple" (cmpInfo .Eq).2.1 id ∧ ∀ Q' : Value → Shared → Prop, Q' .notImplemented s → wpAny (model X.prog X.w) X.A (call (.builtin id) [.ref a, .ref b]) Q' X.xe s) ∧
      (o.cls = .type "dict" → s.TypeIs (.ref a) "dict" ∧ ∃ id, PySem.Slot "dict" (cmpInfo .Eq).2.1 id ∧ ∀ Q' : Value → Shared → Prop, Q' .notImplemented s → wpAny (model X.prog X.w) X.A (call (.builtin id) [.ref a, .ref b]) Q' X.xe s) := fun {a o} e => by
    refine ⟨fun c => ?_, fun c => ?_, fun c => ?_⟩
    · have t : s.TypeIs (.ref a) "list" := ⟨o, e, c⟩
      exact ⟨t, _, F.slot_list_eq, fun Q' q => wpAny_call_entry F.slot_list_eq t F.entry_list_eq (PySem.W.decl_list (hn "list" (by decide)) ⟨_, rfl, q⟩) (F.args_list_eq_2 _ _)⟩
    · have t : s.TypeIs (.ref a) "tuple" := ⟨o, e, c⟩
      exact ⟨t, _, F.slot_tuple_eq, fun Q' q => wpAny_call_entry F.slot_tuple_eq t F.entry_tuple_eq (PySem.W.decl_tuple (hn "tuple" (by decide)) ⟨_, rfl, q⟩) (F.args_tuple_eq_2 _ _)⟩
    · have t : s.TypeIs (.ref a) "dict" := ⟨o, e, c⟩
      exact ⟨t, _, F.slot_dict_eq, fun Q' q => wpAny_call_entry F.slot_dict_eq t F.entry_dict_eq (PySem.W.decl_dict (hn "dict" (by decide)) ⟨_, rfl, q⟩) (F.args_dict_eq_2 _ _)⟩
  cases ty with
  | base b' =>
    cases b' with
    | non =>
      cases (show u = Value.none from rx)
      exact ⟨rfl, _, F.slot_NoneType_eq, fun Q' q => wpAny_call_entry F.slot_NoneType_eq rfl F.entry_NoneType_eq (PySem.W.decl_none ⟨_, rfl, q⟩) (F.args_NoneType_eq_2 _ _)⟩
    | bl y =>
      cases (show u = Value.bool y from rx)
      exact ⟨rfl, _, F.slot_bool_eq, fun Q' q => wpAny_call_entry F.slot_bool_eq rfl F.entry_int_eq (PySem.W.decl_bool hb ⟨_, rfl, q⟩) (F.args_int_eq_2 _ _)⟩
    | int i =>
      obtain ⟨t, q⟩ := (show ∃ t, u = Value.int i t from rx)
      cases q
      exact ⟨rfl, _, F.slot_int_eq, fun Q' q => wpAny_call_entry F.slot_int_eq rfl F.entry_int_eq (PySem.W.decl_int hb ⟨_, rfl, q⟩) (F.args_int_eq_2 _ _)⟩
    | str y =>
      obtain ⟨t, q⟩ := (show ∃ t, u = Value.str y t from rx)
      cases q
      exact ⟨rfl, _, F.slot_str_eq, fun Q' q => wpAny_call_entry F.slot_str_eq rfl F.entry_str_eq (PySem.W.decl_str hb ⟨_, rfl, q⟩) (F.args_str_eq_2 _ _)⟩
    | flt y => exact absurd hT (by decide)
    | @lst a xs ea =>
      cases (show u = Value.ref a from rx)
      obtain ⟨_, _, n, _, h1⟩ := (show ObjOk X.prog X.w H s.heap a (.lst xs) from I.hok a _ ea)
      exact (seq h1).1 rfl
    | @frz a ob xs ea =>
      cases (show u = Value.ref a from rx)
      obtain ⟨_, _, _, n, _, h1⟩ := (show ObjOk X.prog X.w H s.heap a (.frz ob (.lst xs)) from I.hok a _ ea)
      exact (seq h1).1 rfl
    | @tup a xs ea =>
      cases (show u = Value.ref a from rx)
      obtain ⟨_, _, _, o, h1, h2, _⟩ := (show ObjOk X.prog X.w H s.heap a (.tup xs) from I.hok a _ ea)
      exact (seq h1).2.1 h2
    | @dK a kvs ea =>
      cases (show u = Value.ref a from rx)
      obtain ⟨_, _, vs, _, o, es, ep, h1, h2, _⟩ := (show ObjOk X.prog X.w H s.heap a (.dK kvs) from I.hok a _ ea)
      exact (seq h1).2.2 h2.1
    | @dT a kvs ea =>
      cases (show u = Value.ref a from rx)
      obtain ⟨_, _, xs, _, o, es, ep, h1, h2, _⟩ := (show ObjOk X.prog X.w H s.heap a (.dT kvs) from I.hok a _ ea)
      exact (seq h1).2.2 h2.1
  | byt y => exact absurd hT (by decide)
  | @set a S n ea => exact absurd hT (by decide)
  | @kList a o e c =>
    cases (show u = Value.ref a from rx)
    exact (seq (I.kIn a o e)).1 c
  | @kTuple a o e c =>
    cases (show u = Value.ref a from rx)
    exact (seq (I.kIn a o e)).2.1 c
  | @kDict a o e c =>
    cases (show u = Value.ref a from rx)
    exact (seq (I.kIn a o e)).2.2 c
  | @fTuple a ob xs ea =>
    cases (show u = Value.ref a from rx)
    obtain ⟨_, _, _, _, o, h1, h2, _⟩ := (show ObjOk X.prog X.w H s.heap a (.frz ob (.tup xs)) from I.hok a _ ea)
    exact (seq h1).2.1 h2
  | @fDict a ob kvs ea =>
    cases (show u = Value.ref a from rx)
    obtain ⟨_, _, _, vs, _, o, es, ep, h1, h2, _⟩ := (show ObjOk X.prog X.w H s.heap a (.frz ob (.dK kvs)) from I.hok a _ ea)
    exact (seq h1).2.2 h2.1
def rEqB (K : PySem.W.Frag) (C : Addr) (sp : Sp) : R2 := fun x y H Q => (∃ T ∈ kinds, TyX K H x (.type T)) ∧ ∃ b dx fs, y = .ref b ∧ H b = some (.ins C dx fs) ∧ sp [y, x] H (fun z H' => ∃ r, z = .bl r ∧ Q (.bl r) H') noE
theorem op_eqB (F : FnOk X.prog X.w X.K X.mg X.base (L2.CX X.prog X.w) k f fd ps sp) (hb : Binds X.K fd ps []) (hl : ps.length = 2) (hr : Room k X.A) (hs : PySem.W.findIn X.K (.ref C) "__eq__" = some (some (.ref f))) (hf : PySem.W.isFn X.K (.ref f) = true)
    (hk : ∀ T ∈ kinds, PySem.W.subIn X.K (.ref C) (.type T) = some false) : OpR X (compareOp .Eq) (rEqB X.K C sp) := by
  intro pins s σ H x y u v Q I rx ry h
  obtain ⟨⟨T, hT, ty⟩, b, dx, fs, rfl, hb', q⟩ := h
  cases (show v = Value.ref b from ry)
  obtain ⟨mB, O, _⟩ := ins_get I.hok hb'
  obtain ⟨od, J, _⟩ := O.look
  obtain ⟨t, id, S, d⟩ := decl_all I rx hT ty O.obj (fun T' hT' {M A E Q} hq => (show PySem.W.Looks M s.heap (isInstance (.ref b) (.type T')) false from J.type.andThen (PySem.W.looks_subIn I.kIn (hk T' hT'))).here hq)
  show wpAny (model X.prog X.w) X.A (richCompare .Eq u (.ref b)) (EP X pins σ Q) X.xe s
  refine PySem.W.eq_back t S I.kIn J (hk T hT) hs hf hr.units0 d ?_
  refine wpAny_mono (run_eq (Q := fun b H' => Q (.bl b) H') F hb hl ⟨hr, rfl⟩ I (show RelV (.ref b) (.ref b) from rfl) rx q) (fun z s' p => ?_) fun _ _ e => e
  obtain ⟨b, rfl, H', I', qb⟩ := p
  exact ⟨.bl b, H', I', rfl, qb⟩
end
/-! ### the mirrors -/
def insOf (h : MH) : D → Option Str
  | .ref n => (match h[n]? with
    | some (.ins c _) => some c
    | _ => none)
  | _ => none
def othOk (cs : List Str) (h : MH) (y : D) : Bool := (tyD h y).isSome || (match insOf h y with
  | some c => cs.contains c
  | none => false)
def boolR (neg : Bool) : R D → R D
  | .ok (.bl b) h => .ok (.bl (if neg then !b else b)) h
  | _ => .bad
/-- x == y (x != y): x an instance of c, whose __eq__ is m; cs: the classes of what may stand behind it -/
def eqIF (neg : Bool) (c : Str) (cs : List Str) (m : FM) (f0 : D → D → MH → R D) : D → D → MH → R D := fun x y h => if insOf h x = some c then (if othOk cs h y = true then boolR neg (m [x, y] h) else .bad) else f0 x y h
/-- x == y: y an instance of c, x a thing of a built-in kind -/
def eqBF (c : Str) (m : FM) (f0 : D → D → MH → R D) : D → D → MH → R D := fun x y h => if insOf h y = some c ∧ (tyD h x).isSome = true then boolR false (m [y, x] h) else f0 x y h
theorem insOf_v {g : Gd} {ρ : List Addr} {H : Hp} {h : MH} {x : D} {v : V} {c : Str} (hh : RH g ρ H h) (r : RD g ρ H x v) (e : insOf h x = some c) : ∃ a C dx fs, v = .ref a ∧ g.mg c = some (.ref C) ∧ H a = some (.ins C dx fs) := by
  cases x <;> first | (cases e; done) | skip
  rename_i n
  obtain ⟨a, e1, e2⟩ := RD_ref r
  subst e2
  unfold insOf at e
  dsimp only at e
  split at e
  · rename_i c' fs hn
    cases e
    obtain ⟨C, dx, gs, mgC, e3, _⟩ := hh.obj n _ a hn e1
    exact ⟨a, C, dx, gs, rfl, mgC, e3⟩
  · cases e
theorem oth_v {g : Gd} {ρ : List Addr} {H : Hp} {h : MH} {y : D} {v : V} {cs : List Str} {C : Addr} (hh : RH g ρ H h) (r : RD g ρ H y v) (hc : ∀ c' ∈ cs, ∀ C', g.mg c' = some (.ref C') → PySem.W.notFirst g.K C (.ref C') = true) (e : othOk cs h y = true) : OthV g.K C H v := by
  unfold othOk at e
  cases t : tyD h y with
  | some T =>
    obtain ⟨t1, t2⟩ := tyD_v hh r t
    exact .inl ⟨T, t2, t1⟩
  | none =>
    rw [t] at e
    cases i : insOf h y with
    | none => rw [i] at e; cases e
    | some c =>
      rw [i] at e
      obtain ⟨a, C', dx, fs, e1, e2, e3⟩ := insOf_v hh r i
      exact .inr ⟨a, C', dx, fs, e1, e3, hc c (by simpa using e) C' e2⟩
theorem bool_post {g : Gd} {Wf : XK} {ρ : List Addr} {H : Hp} {r : R D} {neg : Bool} {Q : VK} (p : Post g (RD g) Wf ρ H (boolR neg r) Q) : Post g (RD g) noE ρ H r (fun z H' => ∃ b, z = .bl b ∧ Q (.bl (if neg then !b else b)) H') := by
  unfold boolR at p
  split at p
  · rename_i b h'
    intro ρ' v H' l hh rv
    refine ⟨b, RD_bl rv rfl, ?_⟩
    refine p ρ' (.bl (if neg then !b else b)) H' l hh (by unfold RD; rfl)
  · exact p.elim
/-- a comparison with its mirror -/
def OpM (X : Cx) (op : CmpOp) (f : D → D → MH → R D) : Prop := ∃ r, OpR X (compareOp op) r ∧ RF2 (gd X) f r
section
variable {X : Cx} {W : Wx} {a b : Expr} {ma mb : EM} {pos : Pos} {op : CmpOp} {f0 : D → D → MH → R D} {c : Str} {cs : List Str} {k : Nat} {m : FM}
theorem opm_eq (hu : X.A.units + 64 < cLine) : OpM X .Eq eqF := ⟨_, op_eqM hu, rf_eq⟩
theorem opm_ne (hu : X.A.units + 64 < cLine) : OpM X .NotEq neF := ⟨_, op_neM hu, rf_ne⟩
theorem rf_I {C : Addr} {ps : List Str} {neg : Bool} {r0 : R2} (h0 : RF2 (gd X) f0 r0) (hm : X.mg c = some (.ref C)) (hl : ps.length = 2) (hc : ∀ c' ∈ cs, ∀ C', X.mg c' = some (.ref C') → PySem.W.notFirst X.K C (.ref C') = true) :
    RF2 (gd X) (eqIF neg c cs m f0) (fun x y H Q => rEqI X.K C (spM (gd X) ps.length m) neg x y H Q ∨ r0 x y H Q) := fun Wf Q ρ H h x y vx vy hh rx ry p => by
  unfold eqIF at p
  split at p
  · rename_i hx
    split at p
    · rename_i hy
      obtain ⟨a, C', dx, fs, e1, e2, e3⟩ := insOf_v hh rx hx
      have e4 : (some (Value.ref C') : Option Value) = some (.ref C) := e2.symm.trans hm
      cases e4
      subst e1
      refine .inl ⟨a, dx, fs, rfl, e3, oth_v hh ry hc hy, ?_⟩
      exact ⟨by rw [hl]; rfl, ρ, [x, y], h, .cons rx (.cons ry .nil), hh, bool_post p⟩
    · exact p.elim
  · exact .inr (h0 _ _ _ _ _ _ _ _ _ hh rx ry p)
theorem rf_B {C : Addr} {ps : List Str} {r0 : R2} (h0 : RF2 (gd X) f0 r0) (hm : X.mg c = some (.ref C)) (hl : ps.length = 2) : RF2 (gd X) (eqBF c m f0) (fun x y H Q => rEqB X.K C (spM (gd X) ps.length m) x y H Q ∨ r0 x y H Q) := fun Wf Q ρ H h x y vx vy hh rx ry p => by
  unfold eqBF at p
  split at p
  · rename_i hy
    obtain ⟨b, C', dx, fs, e1, e2, e3⟩ := insOf_v hh ry hy.1
    have e4 : (some (Value.ref C') : Option Value) = some (.ref C) := e2.symm.trans hm
    cases e4
    subst e1
    cases t : tyD h x with
    | none => rw [t] at hy; cases hy.2
    | some T =>
      obtain ⟨t1, t2⟩ := tyD_v hh rx t
      refine .inl ⟨⟨T, t2, t1⟩, b, dx, fs, rfl, e3, ?_⟩
      exact ⟨by rw [hl]; rfl, ρ, [y, x], h, .cons ry (.cons rx .nil), hh, by simpa using bool_post p⟩
  · exact .inr (h0 _ _ _ _ _ _ _ _ _ hh rx ry p)
theorem opm_I (E : EqC X.prog X.w X.K X.mg X.base c k cs m) (hr : Room k X.A) (h : OpM X .Eq f0) : OpM X .Eq (eqIF false c cs m f0) := by
  obtain ⟨C, f, fd, ps, hm, hs, hf, _, _, hb, hl, G, hk, hc⟩ := E.ex
  obtain ⟨r, h1, h2⟩ := h
  exact ⟨_, OpR.or (op_eqI G hb hl hr hs hf fun T hT => (hk T hT).1) h1, rf_I h2 hm hl hc⟩
theorem opm_N (E : EqC X.prog X.w X.K X.mg X.base c k cs m) (hr : Room (k + 1) X.A) (h : OpM X .NotEq f0) : OpM X .NotEq (eqIF true c cs m f0) := by
  obtain ⟨C, f, fd, ps, hm, hs, hf, hne, hob, hb, hl, G, hk, hc⟩ := E.ex
  obtain ⟨r, h1, h2⟩ := h
  exact ⟨_, OpR.or (op_neI G hb hl hr hs hf hne hob fun T hT => (hk T hT).1) h1, rf_I h2 hm hl hc⟩
theorem opm_B (E : EqC X.prog X.w X.K X.mg X.base c k cs m) (hr : Room k X.A) (h : OpM X .Eq f0) : OpM X .Eq (eqBF c m f0) := by
  obtain ⟨C, f, fd, ps, hm, hs, hf, _, _, hb, hl, G, hk, hc⟩ := E.ex
  obtain ⟨r, h1, h2⟩ := h
  exact ⟨_, OpR.or (op_eqB G hb hl hr hs hf fun T hT => (hk T hT).2) h1, rf_B h2 hm hl⟩
theorem e_cmpM {f : D → D → MH → R D} (ho : OpM X op f) (ha : PE X a (tE (gd X) W ma)) (hb : PE X b (tE (gd X) W mb)) (hm : behindInMarks op b = false) : PE X (.Compare a [op] [b] pos) (tE (gd X) W (bin f ma mb)) := by
  obtain ⟨r, h1, h2⟩ := ho
  exact e_cmp h1 h2 ha hb hm
end
/-! ### the class, checked at the head -/
def eqcB (K : PySem.W.Frag) (C f : Addr) (Cs : List Addr) : Bool :=
  decide (PySem.W.findIn K (.ref C) "__eq__" = some (some (.ref f))) && (PySem.W.isFn K (.ref f) && (decide (PySem.W.findIn K (.ref C) "__ne__" = some (some (.builtin "object.__ne__"))) && (decide (PySem.W.mroIn K C (.type "object") = some true) &&
  ((kinds.all fun T => decide (PySem.W.subIn K (.type T) (.ref C) = some false) && decide (PySem.W.subIn K (.ref C) (.type T) = some false)) && Cs.all fun C' => PySem.W.notFirst K C (.ref C')))))
theorem eqc_mk {P : Program} {w : World} {K : PySem.W.Frag} {mg : Str → Option Value} {base : Heap} {c : Str} {k : Nat} {m : FM} {C f : Addr} {fd : FuncData} {ps : List Str} {cs : List (Str × Addr)} (hm : mg c = some (.ref C)) (q : eqcB K C f (cs.map (·.2)) = true) (hb : Binds K fd ps []) (hl : ps.length = 2)
    (G : FnOk P w K mg base (L2.CX P w) k f fd ps (spM ⟨K, mg⟩ ps.length m)) (hc : ∀ p ∈ cs, mg p.1 = some (.ref p.2)) : EqC P w K mg base c k (cs.map (·.1)) m := by
  unfold eqcB at q
  simp only [Bool.and_eq_true, decide_eq_true_eq] at q
  obtain ⟨q1, q2, q3, q4, q5, q6⟩ := q
  refine ⟨C, f, fd, ps, hm, q1, q2, q3, q4, hb, hl, G, fun T hT => ?_, fun c' h' C' e => ?_⟩
  · have := List.all_eq_true.mp q5 T hT
    simpa using this
  · obtain ⟨p, hp, e1⟩ := List.mem_map.mp h'
    subst e1
    have e2 := (hc p hp).symm.trans e
    cases e2
    exact List.all_eq_true.mp q6 p.2 (List.mem_map.mpr ⟨p, hp, rfl⟩)
end ML

/-! ML 32: isinstance(x, C), C an own class of instances -/
namespace ML
open PySem PySem.Spec PyProof.Rows L2
def isi1 (K : PySem.W.Frag) (C : Addr) : Bool := decide (PySem.W.findIn K (.ref C) "__class__" = some (some (.builtin "object.__class__"))) && (decide (PySem.W.specialIn K (.builtin "object.__class__") "__get__" = some (some (.builtin "getset_descriptor.__get__"))) &&
  (decide (PySem.W.takesIn K (.builtin "object.__class__") = some true) && decide (PySem.W.mroIn K C (.type "object") = some true)))
def isiB (K : PySem.W.Frag) (C : Addr) (cs : List (Str × Addr)) (c : Str) : Bool := (kinds.all fun T => decide (PySem.W.kitOne K (.type T) (.ref C) = some false)) && cs.all fun p => decide (PySem.W.kitOne K (.ref p.2) (.ref C) = some (decide (p.1 = c))) && isi1 K p.2
def noKinds : List (String × Bool) := kinds.map fun T => (T, false)
theorem noKinds_at {T : String} {r : Bool} (e : noKinds.lookup T = some r) : T ∈ kinds ∧ r = false := by
  unfold noKinds at e
  revert e
  generalize kinds = l
  intro e
  induction l with
  | nil => cases e
  | cons n ns ih =>
    rw [List.map_cons] at e
    unfold List.lookup at e
    split at e
    · rename_i h
      cases e
      have h' : T = n := by simpa using h
      subst h'
      exact ⟨List.mem_cons_self, rfl⟩
    · obtain ⟨a, b⟩ := ih e
      exact ⟨List.mem_cons_of_mem _ a, b⟩
theorem isTabI {K : PySem.W.Frag} {mg : Str → Option Value} {cs : List (Str × Addr)} {C : Addr} {c : Str} (hm : ∀ p ∈ cs, mg p.1 = some (.ref p.2)) (hc : ∀ p ∈ cs, Cls K p.2) (q : isiB K C cs c = true) :
    IsTab K mg (.ref C) noKinds (tabOf (cs.map (·.1)) fun n => decide (n = c)) [] := by
  unfold isiB at q
  obtain ⟨q1, q2⟩ := Bool.and_eq_true_iff.mp q
  refine ⟨fun T r e => ?_, fun c' r e C' hC => ?_, fun c r e => (by cases e)⟩
  · obtain ⟨h1, h2⟩ := noKinds_at e
    subst h2
    exact of_decide_eq_true (List.all_eq_true.mp q1 T h1)
  · obtain ⟨h1, h2⟩ := tabOf_at e
    subst h2
    obtain ⟨p, hp, e1⟩ := List.mem_map.mp h1
    subst e1
    have e2 := (hm p hp).symm.trans hC
    cases e2
    have := List.all_eq_true.mp q2 p hp
    unfold isi1 at this
    simp only [Bool.and_eq_true, decide_eq_true_eq] at this
    obtain ⟨z1, z2, z3, z4, z5⟩ := this
    exact ⟨⟨hc p hp, z2, z3, z4, z5⟩, z1⟩
section
variable {X : Cx} {W : Wx} {a b : Expr} {ma mb : EM} {pos : Pos} {op : CmpOp}
theorem t_cmpM {f : D → D → MH → R D} (ho : OpM X op f) (ha : PE X a (tE (gd X) W ma)) (hb : PE X b (tE (gd X) W mb)) (hm : behindInMarks op b = false) : PT X (.Compare a [op] [b] pos) (tT (gd X) W (valT (bin f ma mb))) := by
  obtain ⟨r, h1, h2⟩ := ho
  exact t_cmp h1 h2 ha hb hm
end
end ML

/-! ML 33: methods, properties, makers that raise to their caller -/
namespace ML
open PySem PySem.Spec PyProof.Rows L2
/-! ### o.m(..) -/
/-- the class of an instance that has no attribute m of its own -/
def clsOf (m : Str) (x : D) (h : MH) : Option Str := match x with
  | .ref n => (match h[n]? with
    | some (.ins c fs) => (match fs.lookup m with
      | none => some c
      | some _ => none)
    | _ => none)
  | _ => none
def methE (t : List (Str × FM)) (m : Str) (o : EM) (as : AM) : EM := fun e h => (o e h).bind fun x h1 => match clsOf m x h1 with
  | some c => (match t.lookup c with
    | some f => (as e h1).bind fun xs h2 => f (x :: xs) h2
    | none => .bad)
  | none => .bad
/-- a method of an own class, as its callers know it -/
structure MethC (P : Program) (w : World) (K : PySem.W.Frag) (mg : Str → Option Value) (base : Heap) (c m : Str) (k : Nat) (f : FM) : Prop where
  ex : ∃ C g fd ps, mg c = some (.ref C) ∧ Cls K C ∧ Meth K C m g ∧ Binds K fd ps [] ∧ FnOk P w K mg base (L2.CX P w) k g fd ps (spM ⟨K, mg⟩ ps.length f) ∧ ∀ ds h, ds.length ≠ ps.length → f ds h = .bad
theorem lookupRP {g : Gd} {ρ : List Addr} {H : Hp} {f : Str} : ∀ {fs : List (Str × D)} {gs : List (Str × V)}, RP g ρ H fs gs → fs.lookup f = none → gs.lookup f = none
  | [], gs, q, _ => by
    have q' : gs = [] := q
    subst q'
    rfl
  | (k, x) :: fs, gs, q, e => by
    obtain ⟨u, t, e1, q1, q2⟩ := q
    subst e1
    unfold List.lookup at e ⊢
    split at e
    · cases e
    · exact lookupRP q2 e
theorem clsOf_v {g : Gd} {ρ : List Addr} {H : Hp} {h : MH} {m c : Str} {x : D} {vx : V} (hh : RH g ρ H h) (rx : RD g ρ H x vx) (e : clsOf m x h = some c) : ∃ n fs a C dx gs, x = .ref n ∧ h[n]? = some (.ins c fs) ∧ vx = .ref a ∧ g.mg c = some (.ref C) ∧ H a = some (.ins C dx gs) ∧ gs.lookup m = none := by
  unfold clsOf at e
  split at e
  · rename_i n
    obtain ⟨a, e1, e2⟩ := RD_ref rx
    split at e
    · rename_i c' fs hn
      split at e
      · rename_i hl
        cases e
        obtain ⟨C, dx, gs, mc, ea, rp⟩ := hh.obj n _ a hn e1
        exact ⟨n, fs, a, C, dx, gs, rfl, hn, e2, mc, ea, lookupRP rp hl⟩
      · cases e
    · cases e
  · cases e
section
variable {X : Cx} {W : Wx} {o e : Expr} {es : List Expr} {mo : EM} {mas : AM} {pos apos : Pos} {m : Str} {k : Nat} {t : List (Str × FM)}
theorem lookMem {f : FM} {c : Str} : ∀ {t : List (Str × FM)}, t.lookup c = some f → (c, f) ∈ t
  | [], e => by cases e
  | (d, g) :: t, e => by
    unfold List.lookup at e
    split at e
    · rename_i h
      cases e
      have h' : c = d := by simpa using h
      subst h'
      exact List.mem_cons_self
    · exact List.mem_cons_of_mem _ (lookMem e)
theorem meth_read {f : FM} {σ : L2.St} {Q : VK} {ρ : List Addr} {e0 : Env} {H : Hp} {h : MH} {x : D} {vx : V} {ps : List Str} (s : RX (gd X) W ρ H e0 σ) (hh : RH (gd X) ρ H h) (rx : RD (gd X) ρ H x vx)
    (hn : ∀ ds h, ds.length ≠ ps.length → f ds h = .bad)
    (p : Post (gd X) (RD (gd X)) (fun c d H' => W.W c d σ H') ρ H ((mas e0 h).bind fun xs h2 => f (x :: xs) h2) Q) :
    tA (gd X) W mas σ H fun vs H1 => spM (gd X) ps.length f (vx :: vs) H1 Q (WE W.W σ) := by
  refine ⟨ρ, e0, h, s, hh, p.bind.mono fun vs H2 q => ?_⟩
  obtain ⟨ρ1, xs, h2, l1, hh1, rxs, p1⟩ := q
  refine ⟨?_, ρ1, x :: xs, h2, .cons (l1.rd x rx) rxs, hh1, p1⟩
  by_cases hl : (x :: xs).length = ps.length
  · rw [← hl, List.length_cons, List.length_cons, rxs.length]
  · rw [hn _ _ hl] at p1
    exact p1.elim
theorem e_meth {pl : Sem Bool} (F : ∀ p ∈ t, MethC X.prog X.w X.K X.mg X.base p.1 m k p.2) (hr : Room k X.A) (tk : Takes X W.W) (ho : PE X o (tE (gd X) W mo)) (ha : PA X (e :: es) (tA (gd X) W mas))
    (hst : starEach (e :: es) X.env = (false, eval e X.env) :: starEach es X.env := by rfl) (hpl : (backTo pos (starEach es X.env)).any (·.1) = false := by rfl)
    (ht : eval (.Call (.Attribute o m apos) (e :: es) [] pos) X.env = (do
      let ov ← eval o X.env
      standAt apos.atName
      let (f, first) ← holding [ov] (getMethod ov m pl)
      callWith pos f first (backTo pos (starEach (e :: es) X.env)) (backToKw pos (keywordEach [] X.env))) := by rfl) :
    PE X (.Call (.Attribute o m apos) (e :: es) [] pos) (tE (gd X) W (methE t m mo mas)) := by
  refine ⟨fun pins s σ H Q I q => ?_⟩
  have q0 : tE (gd X) W mo σ H fun vx H1 => ∃ ρ e0 h x, RX (gd X) W ρ H1 e0 σ ∧ RH (gd X) ρ H1 h ∧ RD (gd X) ρ H1 x vx ∧ ∃ c f, clsOf m x h = some c ∧ t.lookup c = some f ∧ Post (gd X) (RD (gd X)) (fun c d H' => W.W c d σ H') ρ H1 ((mas e0 h).bind fun xs h2 => f (x :: xs) h2) Q := by
    refine one q fun ρ e H h x vx s hh rx p => ?_
    refine ⟨ρ, e, h, x, s, hh, rx, ?_⟩
    split at p
    · rename_i c hc
      split at p
      · rename_i f hf
        exact ⟨c, f, hc, hf, p⟩
      · exact p.elim
    · exact p.elim
  refine PySem.W.methodCall_KW (pl := pl) (thn (ho.run pins s σ H _ I q0) fun u s1 ⟨vx, H1, I1, rv, ρ, e0, h, x, sx, hh, rx, c, f, hc, hf, p⟩ => ?_) ht
  obtain ⟨n, fs, a, C, dx, gs, ex, hx, ev, mc, ea, hl⟩ := clsOf_v hh rx hc
  obtain ⟨C', g, fd, ps, mc', cC, hm, hb, G, hn⟩ := (F _ (lookMem hf)).ex
  have mc' : X.mg c = some (.ref C') := mc'
  have hn : ∀ ds h, ds.length ≠ ps.length → f ds h = .bad := hn
  have mcc := (show X.mg c = some (.ref C) from mc).symm.trans mc'
  cases mcc
  subst ev
  obtain rfl : u = Value.ref a := rv
  refine getmeth_ok I1 ea cC hm hl ?_
  refine PySem.W.callWith_K (first := [.ref a]) (h₀ := X.base) I.ok.mod.kin hm.kp (thn (ha.run pos pins s1 σ H1 _ I1 (meth_read sx hh rx hn p)) fun us s2 ⟨vs, H2, I2, r, q2⟩ => ⟨I2.kIn, ?_⟩) hst hpl
  exact run_fnS (us := .ref a :: us) (vs := .ref a :: vs) (E := WE W.W) G hr hb (passAt tk σ) I2 (.cons rfl r) q2
theorem e_meth0 {pl : Sem Bool} (F : ∀ p ∈ t, MethC X.prog X.w X.K X.mg X.base p.1 m k p.2) (hr : Room k X.A) (tk : Takes X W.W) (ho : PE X o (tE (gd X) W mo))
    (ht : eval (.Call (.Attribute o m apos) [] [] pos) X.env = (do
      let ov ← eval o X.env
      standAt apos.atName
      let (f, first) ← holding [ov] (getMethod ov m pl)
      callWith pos f first (backTo pos (starEach [] X.env)) (backToKw pos (keywordEach [] X.env))) := by rfl) :
    PE X (.Call (.Attribute o m apos) [] [] pos) (tE (gd X) W (methE t m mo nilA)) := by
  refine ⟨fun pins s σ H Q I q => ?_⟩
  have q0 : tE (gd X) W mo σ H fun vx H1 => ∃ ρ e0 h x, RX (gd X) W ρ H1 e0 σ ∧ RH (gd X) ρ H1 h ∧ RD (gd X) ρ H1 x vx ∧ ∃ c f, clsOf m x h = some c ∧ t.lookup c = some f ∧ Post (gd X) (RD (gd X)) (fun c d H' => W.W c d σ H') ρ H1 (f [x] h) Q := by
    refine one q fun ρ e H h x vx s hh rx p => ?_
    refine ⟨ρ, e, h, x, s, hh, rx, ?_⟩
    split at p
    · rename_i c hc
      split at p
      · rename_i f hf
        exact ⟨c, f, hc, hf, p⟩
      · exact p.elim
    · exact p.elim
  refine PySem.W.methodCall_KW (pl := pl) (thn (ho.run pins s σ H _ I q0) fun u s1 ⟨vx, H1, I1, rv, ρ, e0, h, x, sx, hh, rx, c, f, hc, hf, p⟩ => ?_) ht
  obtain ⟨n, fs, a, C, dx, gs, ex, hx, ev, mc, ea, hl⟩ := clsOf_v hh rx hc
  obtain ⟨C', g, fd, ps, mc', cC, hm, hb, G, hn⟩ := (F _ (lookMem hf)).ex
  have mc' : X.mg c = some (.ref C') := mc'
  have hn : ∀ ds h, ds.length ≠ ps.length → f ds h = .bad := hn
  have mcc := (show X.mg c = some (.ref C) from mc).symm.trans mc'
  cases mcc
  subst ev
  obtain rfl : u = Value.ref a := rv
  refine getmeth_ok I1 ea cC hm hl ?_
  refine PySem.W.callWith_K0 (first := [.ref a]) I1.kIn hm.kp (run_fnS (us := [.ref a]) (vs := [.ref a]) (E := WE W.W) G hr hb (passAt tk σ) I1 (.cons rfl .nil) ?_)
  refine ⟨?_, ρ, [x], h, .one rx, hh, p⟩
  by_cases hl : [x].length = ps.length
  · exact hl
  · rw [hn _ _ hl] at p
    exact p.elim
end

/-! ### o.p, p a property -/
def insCl (x : D) (h : MH) : Option Str := match x with
  | .ref n => (match h[n]? with
    | some (.ins c _) => some c
    | _ => none)
  | _ => none
def propF (t : List (Str × FM)) : D → MH → R D := fun x h => match insCl x h with
  | some c => (match t.lookup c with
    | some f => (match f [x] h with
      | .ok d h' => .ok d h'
      | _ => .bad)
    | none => .bad)
  | none => .bad
structure PropC (P : Program) (w : World) (K : PySem.W.Frag) (mg : Str → Option Value) (base : Heap) (c m : Str) (k : Nat) (f : FM) : Prop where
  ex : ∃ C p g fd ps, mg c = some (.ref C) ∧ Cls K C ∧ PropOf K C m p g ∧ Binds K fd ps [] ∧ ps.length = 1 ∧ FnOk P w K mg base (L2.CX P w) k g fd ps (spM ⟨K, mg⟩ ps.length f)
section
variable {X : Cx} {W : Wx} {o : Expr} {mo : EM} {pos : Pos} {m : Str} {k : Nat} {t : List (Str × FM)}
theorem e_prop (F : ∀ p ∈ t, PropC X.prog X.w X.K X.mg X.base p.1 m k p.2) (hr : Room (k + 1) X.A) (ho : PE X o (tE (gd X) W mo)) (hab : attributeBase o m X.env (eval o X.env) = eval o X.env := by rfl) :
    PE X (.Attribute o m pos) (tE (gd X) W (un (propF t) mo)) := by
  refine ⟨fun pins s σ H Q I q => ?_⟩
  have q0 : tE (gd X) W mo σ H fun vx H1 => ∃ ρ h x, RH (gd X) ρ H1 h ∧ RD (gd X) ρ H1 x vx ∧ ∃ c f d h', insCl x h = some c ∧ t.lookup c = some f ∧ f [x] h = .ok d h' ∧ Post (gd X) (RD (gd X)) (fun c d H' => W.W c d σ H') ρ H1 (.ok d h') Q := by
    refine one q fun ρ e H h x vx s hh rx p => ?_
    refine ⟨ρ, h, x, hh, rx, ?_⟩
    unfold propF at p
    split at p
    · rename_i c hc
      split at p
      · rename_i f hf
        split at p
        · rename_i d h' he
          exact ⟨c, f, d, h', hc, hf, he, p⟩
        · exact p.elim
      · exact p.elim
    · exact p.elim
  refine attr_of hab (thn (ho.run pins s σ H _ I q0) fun u s1 ⟨vx, H1, I1, rv, ρ, h, x, hh, rx, c, f, d, h', hc, hf, he, p⟩ => ?_)
  unfold insCl at hc
  split at hc
  · rename_i n
    obtain ⟨a, e1, e2⟩ := RD_ref rx
    split at hc
    · rename_i c' fs hn
      cases hc
      obtain ⟨C, dx, gs, mc, ea, rp⟩ := hh.obj n _ a hn e1
      obtain ⟨C', pa, g, fd, ps, mc', cC, hp, hb, h1, G⟩ := (F _ (lookMem hf)).ex
      have mcc := (show X.mg _ = some (.ref C) from mc).symm.trans mc'
      cases mcc
      subst e2
      obtain rfl : u = Value.ref a := rv
      refine getprop_ok (ds := []) (dvs := []) (E := fun _ _ _ => False) I1 ea cC hp G hr hb .nil (fun _ _ _ _ _ _ _ z => (cx_no z).elim) ?_
      refine ⟨by rw [h1]; rfl, ρ, [.ref n], h, .one rx, hh, ?_⟩
      show Post _ _ _ ρ H1 (f [.ref n] h) Q
      rw [he]
      exact p
    · cases hc
  · cases hc
end

/-! ### C(..), whose __init__ may raise -/
def makeX (c : Str) (m : FM) : FM := fun ds h => match m (.ref h.length :: ds) (h ++ [.ins c []]) with
  | .ok .non h' => .ok (.ref h.length) h'
  | .exc c' fs h' => .exc c' fs h'
  | _ => .bad
section
variable {X : Cx} {W : Wx} {e : Expr} {es : List Expr} {mas : AM} {pos p : Pos} {c : Str} {k np : Nat} {m : FM}
theorem run_makeS {C f : Addr} {fd : FuncData} {ps : List Str} {sp : Sp} {E : L2.St → XK} {pins : List (Addr × Obj)} {σ : L2.St} {H : Hp} {s : Shared} {Q : VK} {us : List Value} {vs : List V} (M : Mk X.K C f) (F : FnOk X.prog X.w X.K X.mg X.base (L2.CX X.prog X.w) k f fd ps sp) (hr : Room (k + 1) X.A) (hb : Binds X.K fd ps [])
    (hx : PassesAt (L2.CX X.prog X.w) X σ (E σ)) (I : Inv X pins σ H s) (r : Vals vs us)
    (h : ∀ x dx, H x = none → H dx = none → dx ≠ x → sp (.ref x :: vs) (upd (upd H dx (.own x)) x (.ins C dx [])) (fun v H2 => v = .non ∧ Q (.ref x) H2) (E σ)) :
    wpAny (model X.prog X.w) X.A (call (.ref C) us) (EP X pins σ Q) X.xe s := by
  have hq := h (s.heap.objs.size + 1) s.heap.objs.size (I.hok.fresh (Nat.le_succ _)) (I.hok.fresh (Nat.le_refl _)) (Nat.ne_of_lt (Nat.lt_succ_self _))
  have I2 := Inv.made (C := C) I
  have r2 : Vals (V.ref (s.heap.objs.size + 1) :: vs) (Value.ref (s.heap.objs.size + 1) :: us) := .cons rfl r
  have hl : (Value.ref (s.heap.objs.size + 1) :: us ++ []).length = ps.length := by
    have e := r2.length
    rw [F.len _ _ _ _ hq] at e
    rw [List.append_nil]
    exact e.symm
  have b := hb _ (Value.ref (s.heap.objs.size + 1) :: us) I2.kIn hl
  rw [List.append_nil] at b
  refine wpAny_call (make_map (f := f) I.kIn M.makes M.init (beq_iff_eq.mp M.fn) (codeAny_mono (F.run _ X.stack _ _ ⟨Value.ref (s.heap.objs.size + 1) :: us, []⟩ (Value.ref (s.heap.objs.size + 1) :: us) _ _ (E σ) (hr.make C us [])
    (I2.env0.make C us []) b r2 hq) fun r s' hq' => ?_))
  cases r with
  | error e => exact hx pins _ _ e s' I2 hq'
  | ok fl =>
    cases fl with
    | ret u =>
      obtain ⟨v, H', I3, rv, ev, q3⟩ := I2.after hq'
      subst ev
      exact ⟨rv, ⟨V.ref (s.heap.objs.size + 1), H', I3, rfl, q3⟩⟩
    | next => exact False.elim hq'
    | brk => exact False.elim hq'
    | cont => exact False.elim hq'
theorem make_readX {C : Addr} {ps : List Str} (mgC : X.mg c = some (.ref C)) {σ : L2.St} {H : Hp} {Q : VK} (hn : ∀ ds h, ds.length ≠ ps.length → m ds h = .bad) (q : tE (gd X) W (onA (makeX c m) mas) σ H Q) :
    tA (gd X) W mas σ H fun vs H1 => ∀ x dx, H1 x = none → H1 dx = none → dx ≠ x → spM (gd X) ps.length m (.ref x :: vs) (upd (upd H1 dx (.own x)) x (.ins C dx [])) (fun v H2 => v = .non ∧ Q (.ref x) H2) (WE W.W σ) := by
  refine one q fun ρ e H h xs vs s hh rx p => ?_
  intro x dx h1 h2 h3
  obtain ⟨l1, l2, l3⟩ := hh.newIns (c := c) h1 h2 h3 mgC
  unfold makeX at p
  have rd : RDs (gd X) (ρ ++ [x]) (L2.upd (L2.upd H dx (.own x)) x (.ins C dx [])) (.ref h.length :: xs) (.ref x :: vs) := .cons l3 (l1.rds xs rx)
  refine ⟨?_, ρ ++ [x], _, _, rd, l2, ?_⟩
  · by_cases hl : (D.ref h.length :: xs).length = ps.length
    · rw [← hl, ← rd.length]
    · rw [hn _ _ hl] at p
      exact p.elim
  · revert p
    generalize m (.ref h.length :: xs) (h ++ [.ins c []]) = r
    intro p
    cases r with
    | bad => exact p.elim
    | exc c' fs h' => exact fun ρ2 H2 C2 dd gs a => p ρ2 H2 C2 dd gs (l1.trans a)
    | ok d h' =>
      cases d <;> first | exact p.elim | skip
      intro ρ2 v H2 a b r
      refine ⟨by unfold RD at r; exact r, ?_⟩
      exact p ρ2 (.ref x) H2 (l1.trans a) b (a.rd _ l3)
theorem e_makeX (F : InC X.prog X.w X.K X.mg X.base c k np m) (hn : ∀ ds h, ds.length ≠ np → m ds h = .bad) (hr : Room (k + 1) X.A) (tk : Takes X W.W) (hg : Gl X c) (ha : PA X (e :: es) (tA (gd X) W mas)) (hdb : (c == ("__debug__" : Str)) = false := by decide)
    (he : starEach (e :: es) X.env = (false, eval e X.env) :: starEach es X.env := by rfl) (hpl : (backTo pos (starEach es X.env)).any (·.1) = false := by rfl) : PE X (.Call (.Name c p) (e :: es) [] pos) (tE (gd X) W (onA (makeX c m) mas)) := by
  obtain ⟨C, f, fd, ps, mgC, M, hb, hnp, G⟩ := F.ex
  subst hnp
  refine ⟨fun pins s σ H Q I q => ?_⟩
  refine wpAny_Call_Name_kw (ld_glob I hg mgC ?_ hdb)
  refine PySem.W.callWith_K (h₀ := X.base) I.ok.mod.kin M.kp (thn (ha.run pos pins s σ H _ I (make_readX mgC hn q)) fun us s1 ⟨vs, H1, I1, r, q⟩ => ⟨I1.kIn, ?_⟩) he hpl
  exact run_makeS (E := WE W.W) M G hr hb (passAt tk σ) I1 r q
end

/-! ### tuple * int -/
def repTF : D → D → MH → R D := fun x y h => match x, y with
  | .tup l, .int k => if l ≠ [] ∧ 2 ≤ k ∧ k ≤ 1000 ∧ l.length ≤ 1000 then .ok (.tup (List.replicate k.toNat l).flatten) h else .bad
  | _, _ => .bad
theorem RDs.rep {g : Gd} {ρ : List Addr} {H : Hp} {l : List D} {vs : List V} (q : RDs g ρ H l vs) : ∀ n : Nat, RDs g ρ H (List.replicate n l).flatten (List.replicate n vs).flatten
  | 0 => .nil
  | n + 1 => by
    rw [List.replicate_succ, List.replicate_succ, List.flatten_cons, List.flatten_cons]
    exact q.append (RDs.rep q n)
theorem rf_repT {K : PySem.W.Frag} {mg : Str → Option Value} : RF2 ⟨K, mg⟩ repTF (rRepT K) := by
  intro Wf Q ρ H h x y vx vy hh rx ry p
  unfold repTF at p
  split at p
  · rename_i l k
    split at p
    · rename_i hc
      obtain ⟨c1, c2, c3, c4⟩ := hc
      obtain ⟨a, vs, ev, sq, rs⟩ := RD_tup rx
      subst ev
      have hl := rs.length
      refine ⟨a, k, vs, rfl, RD_int ry, sq, fun e => c1 ?_, c2, c3, by omega, fun q hq => ?_⟩
      · subst e
        exact List.eq_nil_of_length_eq_zero (by simpa using hl)
      · have l1 := Lat.upd (g := ⟨K, mg⟩) (ρ := ρ) (u := .tup (List.replicate k.toNat vs).flatten) (Soft.none hq)
        refine p ρ _ _ l1 (hh.upd hq) ?_
        unfold RD
        exact ⟨q, _, rfl, .of upd_same, l1.rds _ (rs.rep _)⟩
    · exact p.elim
  · exact p.elim
end ML

/-! ML 34: try with several clauses except C as e: one statement -/
namespace L2
open PySem PySem.Spec PyProof.Rows
/-- what the clauses wish of an exception of the body, one after the other; each has its slot -/
def wAsM (K : PySem.W.Frag) (Wout : WX) (D : Ends) : List (Value × Nat × (Addr → Value → Option Addr → TS)) → WX
  | [] => Wout
  | (c, i, ts) :: r => fun cls d σ H => ∃ b, PySem.W.exmOne K cls c = some b ∧ (b = true → ∀ a, H a = none → ts a cls d { nx := fun σ' H' => D.nx (σ'.set i none) H', rt := D.rt, bk := fun σ' H' => D.bk (σ'.set i none) H', ct := fun σ' H' => D.ct (σ'.set i none) H' } (σ.set i (some (.ref a))) H) ∧
    (b = false → wAsM K Wout D r cls d σ H)
inductive HdsA (X : Cx) : List ExceptHandler → List (Value × Nat × (Addr → Value → Option Addr → TS)) → Prop
  | nil : HdsA X [] []
  | cons {x n : Str} {c : Value} {i : Nat} {ts : Addr → Value → Option Addr → TS} {b₀ : Stmt} {suite : List Stmt} {np pos' : Pos} {hds : List ExceptHandler} {l : List (Value × Nat × (Addr → Value → Option Addr → TS))} (hi : X.N[i]? = some n) (hln : X.env.kindOf n = some .local) (hc : Names X x c)
      (hsu : ∀ (a : Addr) (oe : Obj) (cls : Value) (d : Option Addr) (pn : List (Addr × Obj)), Zc cls d oe → (∃ vs, oe.data = .fields vs) → PSs (X.suite a ((a, oe) :: pn)) (b₀ :: suite) (ts a cls d)) (r : HdsA X hds l) :
      HdsA X (.ExceptHandler (some (.Name x np)) (some n) (b₀ :: suite) pos' :: hds) ((c, i, ts) :: l)
section
variable {X : Cx} {body : List Stmt} {h₀ : ExceptHandler} {hds : List ExceptHandler} {l : List (Value × Nat × (Addr → Value → Option Addr → TS))} {pos : Pos} {tb : WX → TS} {Wout : WX}
theorem ps_try_asM (hs : X.stack = X.env :: X.outer) (hf : X.env.frame = some X.env.locals) (hN : X.N.Nodup) (tk : Takes X Wout)
    (hb : ∀ (W : WX) (pn : List (Addr × Obj)) (xe : Value → Shared → Prop), Takes (X.tr pn xe) W → PassesOwn (model X.prog X.w) X.A X.env xe → PSs (X.tr pn xe) body (tb W))
    (hh : HdsA X (h₀ :: hds) l) : PS X (.Try body (h₀ :: hds) [] [] pos) (fun D σ H => tb (wAsM X.K Wout D l) D σ H) := by
  refine ⟨fun pins s σ H D I h => ?_⟩
  have ok := I.ok
  have hfr : X.A.frames = some (X.env :: X.outer) := by rw [ok.frames, hs]
  refine wpAny_Try_except ?_
  refine wpAny_mono ((hb (wAsM X.K Wout D l) (X.pn ++ pins) (fun e s₁ => wpAny (model X.prog X.w) X.A (noteFrame e X.env) (fun _ s₂ => wpAny (model X.prog X.w) X.A (setFlight e none) (fun _ s₃ =>
    wpAny (model X.prog X.w) X.A (handleBy e X.env (h₀ :: hds)) (SP X pins D) X.xe s₃) X.xe s₂) X.xe s₁) (fun u s' xx => ?_) PassesOwn.looking).run [] s σ H D (I.toTry _) h) (fun f s1 hsp => ?_) (fun e s1 he => he)
  · obtain ⟨a, B, sI, pins', σ', H', cls, d, rfl, J', nb, up, sky, na, os, ag, w⟩ := xx
    have J : Inv X pins σ' H' sI := J'.ofTry ok
    have sky' : Sky B (X.env :: X.outer) a (Zc cls d) X.env.locals s'.heap := by rw [← hs]; exact sky
    show wpAny (model X.prog X.w) X.A (noteFrame (.ref a) X.env) _ _ _
    refine Sky.land Zc.steady hfr hf sky' fun h3 fl3 up3 => ?_
    have J3 : Inv X pins σ' H' { s' with heap := h3 } := J.landed nb fl3.1 (up.trans up3) os ag
    obtain ⟨oe3, vs3, he3, hz3, hd3⟩ := fl3.there
    have notFr : ∀ {h : Heap} {o : Obj} {vs : Array Value}, h.FunFrames B (X.env :: X.outer) → h.get? a = some o → o.data = .fields vs → a ∉ frs (X.env :: X.outer) := fun {h o vs} ff e dd hm => by
      obtain ⟨_, o', e', hnf⟩ := ff.mem hm
      rw [e] at e'; cases e'
      exact hnf _ dd
    have nfr := notFr fl3.2.2.1 he3 hd3
    have nL : a ≠ X.env.locals := fun z => nfr (List.mem_filterMap.mpr ⟨X.env, List.mem_cons_self, by rw [hf, z]⟩)
    have nF : a ∉ X.fs := fun hm => by
      obtain ⟨e, he, q⟩ := List.mem_filterMap.mp hm
      exact nfr (List.mem_filterMap.mpr ⟨e, List.mem_cons_of_mem _ he, q⟩)
    have S3 := J3.suite he3 hd3 na nL nF
    have go : ∀ {hds' : List ExceptHandler} {l' : List (Value × Nat × (Addr → Value → Option Addr → TS))}, HdsA X hds' l' → wAsM X.K Wout D l' cls d σ' H' →
        wpAny (model X.prog X.w) X.A (handleBy (.ref a) X.env hds') (SP X pins D) X.xe { s' with heap := h3 } := by
      intro hds' l' hk
      induction hk with
      | nil =>
        intro w
        refine wpAny_handleBy_nil ?_
        obtain ⟨k1, k2, k3, oe, vs, T, oT, ts', he, hz, hd, h1, hr⟩ := id fl3
        unfold PySem.passOn
        refine wpAny_bind (wpAny_field he hd h1 ?_)
        rw [if_neg (show ¬ ((Value.ref T == Value.none) = true) from by simp)]
        have fin : wpAny (model X.prog X.w) X.A (setFlight (.ref a) X.env.frame) (fun _ s4 => wpAny (model X.prog X.w) X.A (throw (.ref a) : Sem Flow) (SP X pins D) X.xe s4) X.xe { s' with heap := h3 } := by
          rw [hf]
          refine HandSPX.setFlight_upZ fl3 fun h4 hh4 up4 => wpAny_throw (tk _ _ ?_)
          exact ⟨a, B, sI, pins, σ', H', cls, d, rfl, J, nb, (up.trans up3).trans up4, .inr (.inr (by rw [hs]; exact hh4)), na, os, ag, w⟩
        first
          | exact wpAny_bind (wpAny_pure (wpAny_bind fin))
          | exact wpAny_bind fin
      | @cons x n c i ts b₀ suite np pos' hds2 l2 hi hln hc hsu r ih =>
        intro w
        have hloc : Loc X.env.scope n := .inl hln
        obtain ⟨b, hb1, hyes, hno⟩ := w
        refine wpAny_handleBy_cons (codeAny_handlers_test ?_) (by intro q; cases q)
        have LT : PySem.W.Looks (model X.prog X.w) h3 (typeOf (.ref a)) cls := fun A Q E s k q => wpAny_typeOf_ref (k _ _ he3) (by rw [hz3.1]; exact q)
        have LM := PySem.W.exm_one (M := model X.prog X.w) (J3.kIn) LT hb1
        have test : ∀ {Q : Value → Shared → Prop} {E : Value → Shared → Prop}, Q c { s' with heap := h3 } → wpAny (model X.prog X.w) (X.A.mark (some (.ref a))) (eval (.Name x np) X.env) Q E { s' with heap := h3 } := fun {Q E} q => by
          obtain ⟨hg, hdbg, hm | ⟨hm, hv, hnn⟩⟩ := hc
          · exact ld_glob (X := X.suite a ((a, oe3) :: (X.pn ++ pins))) S3 hg hm q hdbg
          · exact ld_blt (X := X.suite a ((a, oe3) :: (X.pn ++ pins))) S3 hg hm hv q hnn hdbg
        refine test (LM.here ?_)
        cases b with
        | true =>
          refine codeAny_handlers_suite_as ?_
          refine HandSPX.lands_againZ fl3 fun h4 fl4 up4 => ?_
          have J4 : Inv X pins σ' H' { s' with heap := h4 } := J.landed nb fl4.1 ((up.trans up3).trans up4) os ag
          obtain ⟨oe4, vs4, he4, hz4, hd4⟩ := fl4.there
          have S4 := J4.suite he4 hd4 na nL nF
          refine store_ok (X := X.suite a ((a, oe4) :: (X.pn ++ pins))) (v := .ref a) S4 hN hi hloc rfl (fun s5 S5 => ?_) (.inr hln)
          refine wpAny_mono ((hsu a oe4 cls d (X.pn ++ pins) hz4 ⟨_, hd4⟩).run [] s5 _ H' _ S5 (hyes rfl a na)) (fun f s6 hsp => ?_) (fun _ _ z => False.elim z)
          have end_ : ∀ {σ6 : St} {H6 : Hp} {Q : Shared → Prop}, Inv (X.suite a ((a, oe4) :: (X.pn ++ pins))) [] σ6 H6 s6 → (∀ s7, Inv X pins (σ6.set i none) H6 s7 → Q s7) →
              wpAny (model X.prog X.w) X.A (do bindName X.env n .none; unbindBehindTheSuite X.env n pos') (fun _ s7 => Q s7) X.xe s6 := fun {σ6 H6 Q} S6 hq => gone_ok (S6.unsuite ok) hN hi hln hq
          cases f with
          | next =>
            obtain ⟨σ6, H6, S6, q6⟩ := hsp
            exact end_ S6 fun s7 J7 => ⟨_, _, J7, q6⟩
          | brk =>
            obtain ⟨σ6, H6, S6, q6⟩ := hsp
            exact end_ S6 fun s7 J7 => ⟨_, _, J7, q6⟩
          | cont =>
            obtain ⟨σ6, H6, S6, q6⟩ := hsp
            exact end_ S6 fun s7 J7 => ⟨_, _, J7, q6⟩
          | ret u =>
            obtain ⟨v6, σ6, H6, S6, r6, q6⟩ := hsp
            exact end_ S6 fun s7 J7 => ⟨_, _, _, J7, r6, q6⟩
        | false =>
          show wpAny _ X.A (handleBy (.ref a) X.env hds2) _ _ _
          exact ih (hno rfl)
    exact go hh w
  · cases f with
    | next =>
      obtain ⟨σ', H', J', q⟩ := hsp
      exact wpAny_execs_nil ⟨σ', H', J'.ofTry ok, q⟩
    | brk =>
      obtain ⟨σ', H', J', q⟩ := hsp
      exact ⟨σ', H', J'.ofTry ok, q⟩
    | cont =>
      obtain ⟨σ', H', J', q⟩ := hsp
      exact ⟨σ', H', J'.ofTry ok, q⟩
    | ret u =>
      obtain ⟨v, σ', H', J', r, q⟩ := hsp
      exact ⟨v, σ', H', J'.ofTry ok, r, q⟩
end
end L2
namespace ML
open PySem PySem.Spec PyProof.Rows L2
/-- one clause: which classes it catches, its slot, its suite -/
abbrev Cl : Type := List (Str × Bool) × Nat × (Str → List (Str × D) → SM)
def sufS (i : Nat) (sm : SM) : SM := fun e h => if i < e.length then (match sm (e.set i none) h with
  | .nx e2 h2 => .nx (e2.set i none) h2
  | .rt d h2 => .rt d h2
  | _ => .bad) else .bad
def hdsS : List Cl → Str → List (Str × D) → SM
  | [], c, fs => fun e h => .exc c fs e h
  | (ct, i, s) :: r, c, fs => match ct.lookup c with
    | some true => sufS i (s c fs)
    | some false => hdsS r c fs
    | none => fun _ _ => .bad
def tryM (b : SM) (l : List Cl) : SM := fun e h => match b e h with
  | .exc c fs e1 h1 => hdsS l c fs e1 h1
  | r => r
section
variable {X : Cx} {Wout : WX} {x y : Str} {body : List Stmt} {mb : SM} {np pos pos' py sp : Pos} {ex : Expr} {m : Str → List (Str × D) → EM} {j : Nat}
/-- the clauses of a try against their mirrors -/
inductive Hds (X : Cx) : List ExceptHandler → List Cl → List (Value × Nat × (Addr → Value → Option Addr → TS)) → Prop
  | nil : Hds X [] [] []
  | cons {x n : Str} {c : Value} {ct : List (Str × Bool)} {i : Nat} {sm : Str → List (Str × D) → SM} {b₀ : Stmt} {suite : List Stmt} {np pos' : Pos} {hds : List ExceptHandler} {cl : List Cl} {l : List (Value × Nat × (Addr → Value → Option Addr → TS))} (hi : X.N[i]? = some n) (hln : X.env.kindOf n = some .local) (hc : Names X x c) (F : CatTab X.K X.mg c ct)
      (hsu : ∀ (a : Addr) (oe : Obj) (cls : Value) (d : Option Addr) (pn : List (Addr × Obj)), Zc cls d oe → (∃ vs, oe.data = .fields vs) → PSs (X.suite a ((a, oe) :: pn)) (b₀ :: suite) (tSuf X i sm a cls d)) (r : Hds X hds cl l) :
      Hds X (.ExceptHandler (some (.Name x np)) (some n) (b₀ :: suite) pos' :: hds) ((ct, i, sm) :: cl) ((c, i, fun a cls d => tSuf X i sm a cls d) :: l)
theorem Hds.A {hds : List ExceptHandler} {cl : List Cl} {l : List (Value × Nat × (Addr → Value → Option Addr → TS))} (h : Hds X hds cl l) : HdsA X hds l := by
  induction h with
  | nil => exact .nil
  | cons hi hln hc F hsu r ih => exact .cons hi hln hc hsu ih
theorem hds_wish {N : Ends} {c : Str} {fs : List (Str × D)} {hds : List ExceptHandler} {cl : List Cl} {l : List (Value × Nat × (Addr → Value → Option Addr → TS))} (h : Hds X hds cl l) :
    ∀ {ρ : List Addr} {e1 : Env} {h1 : MH} {σ1 : L2.St} {H1 : Hp} {C dd : Addr} {gs : List (Str × V)}, PostS (gd X) Wout ρ H1 (hdsS cl c fs e1 h1) N → RH (gd X) ρ H1 h1 → RS (gd X) ρ H1 e1 σ1 → X.mg c = some (.ref C) → H1 dd = some (.xd gs) → RP (gd X) ρ H1 fs gs → wAsM X.K Wout N l (.ref C) (some dd) σ1 H1 := by
  induction h with
  | nil =>
    intro ρ e1 h1 σ1 H1 C dd gs p hh1 s1 mc ed rp
    exact p ρ σ1 H1 C dd gs Lat.refl hh1 s1 mc ed rp
  | @cons x n cv ct i sm b₀ suite np pos' hds cl l hi hln hc F hsu r ih =>
    intro ρ e1 h1 σ1 H1 C dd gs p hh1 s1 mc ed rp
    unfold hdsS at p
    cases z : ct.lookup c with
    | none => rw [z] at p; exact p.elim
    | some b =>
      rw [z] at p
      refine ⟨b, F c b z C mc, fun hb a ha => ?_, fun hb => ?_⟩
      · subst hb
        dsimp only at p
        unfold sufS at p
        split at p
        case isFalse => exact p.elim
        rename_i hi1
        have hlen : i < σ1.length := by rw [← s1.len]; exact hi1
        refine ⟨ρ, e1.set i none, h1, c, C, dd, gs, fs, rfl, rfl, mc, ⟨s1.wipe1 i, ?_, ed, rp⟩, hh1, ?_⟩
        · rw [List.getElem?_set_self hlen]
        · revert p
          generalize sm c fs (e1.set i none) h1 = r
          intro p
          cases r with
          | nx e2 h2 => exact fun ρ2 σ2 H2 l2 hh2 s2 => p ρ2 _ H2 l2 hh2 (s2.wipe1 i)
          | rt d h2 => exact fun ρ2 u H2 l2 hh2 r2 => p ρ2 u H2 l2 hh2 r2
          | bk e2 h2 => exact p.elim
          | ct e2 h2 => exact p.elim
          | exc c2 f2 e2 h2 => exact p.elim
          | bad => exact p.elim
      · subst hb
        exact ih p hh1 s1 mc ed rp
theorem s_tryM {h₀ : ExceptHandler} {hds : List ExceptHandler} {cl : List Cl} {l : List (Value × Nat × (Addr → Value → Option Addr → TS))} (tk : Takes X Wout) (hN : X.N.Nodup)
    (hb : ∀ (W : WX) (pn : List (Addr × Obj)) (xe : Value → Shared → Prop), Takes (X.tr pn xe) W → PassesOwn (model X.prog X.w) X.A X.env xe → PSs (X.tr pn xe) body (tS (gd X) W mb))
    (hh : Hds X (h₀ :: hds) cl l) (hs : X.stack = X.env :: X.outer := by rfl) (hf : X.env.frame = some X.env.locals := by rfl) : PS X (.Try body (h₀ :: hds) [] [] pos) (tS (gd X) Wout (tryM mb cl)) :=
  PS_of (ps_try_asM (tb := fun W => tS (gd X) W mb) hs hf hN tk hb hh.A) fun N σ H q => by
    obtain ⟨ρ, e, h, s, hh', p⟩ := q
    refine ⟨ρ, e, h, s, hh', ?_⟩
    unfold tryM at p
    revert p
    generalize mb e h = r
    intro p
    cases r with
    | nx e1 h1 => exact p
    | rt d h1 => exact p
    | bk e1 h1 => exact p
    | ct e1 h1 => exact p
    | bad => exact p
    | exc c fs e1 h1 =>
      intro ρ1 σ1 H1 C dd gs l1 hh1 s1 mc ed rp
      exact hds_wish hh (PostS.later l1 p) hh1 s1 mc ed rp
/-- the suite is return ex -/
theorem su_ret {i : Nat} {a : Addr} {oe : Obj} {cls : Value} {d : Option Addr} {pn : List (Addr × Obj)}
    (hx : ∀ (C dd : Addr) (gs : List (Str × V)) (c : Str) (fs : List (Str × D)), cls = .ref C → d = some dd → X.mg c = some (.ref C) → PE (X.suite a ((a, oe) :: pn)) ex (tE (gd X) (sufW (gd X) i a dd gs fs) (m c fs))) :
    PSs (X.suite a ((a, oe) :: pn)) [.Return (some ex) sp] (tSuf X i (fun c fs => retS (m c fs)) a cls d) := by
  refine ⟨fun pins s σ H D I q => ?_⟩
  obtain ⟨ρ, e, h, c, C, dd, gs, fs, e1, e2, mc, rx, hh, p⟩ := q
  refine (pss_one (ps_ret (X := X.suite a ((a, oe) :: pn)) (hx C dd gs c fs e1 e2 mc))).run pins s σ H D I ?_
  refine ⟨ρ, e, h, rx, hh, ?_⟩
  revert p
  show (match (match m c fs e h with | .ok d h1 => S.rt d h1 | .exc c' fs' h1 => S.exc c' fs' e h1 | .bad => S.bad) with | .nx e2 h2 => _ | .rt v h2 => _ | _ => False) → _
  generalize m c fs e h = r
  intro p
  cases r with
  | ok d h1 => exact fun ρ1 v H1 l1 hh1 rv => p ρ1 v H1 l1 hh1 rv
  | exc c' fs' h1 => exact p.elim
  | bad => exact p.elim
end
end ML

/-! ML 35: repr of a list or a tuple; the facts at the head for methods and properties -/
namespace ML
open PySem PySem.Spec PyProof.Rows L2
def reprF2 : D → MH → R D := fun x h => match x with
  | .tup l => (match toP h 12 (.tup l) with
    | some p => .ok (.str p.shown) h
    | none => .bad)
  | x => reprF x h
def rRpT (g : Gd) : List V → Hp → VK → Prop := fun xs H Q => ∃ ρ h l p v, RH g ρ H h ∧ xs = [v] ∧ RD g ρ H (.tup l) v ∧ toP h 12 (.tup l) = some p ∧ Q (.str p.shown) H
section
variable {X : Cx} {W : Wx} {a : Expr} {m : EM} {p pos : Pos}
theorem call_reprT (hg : X.A.guards = some []) (hu : X.A.units + 64 < cLine) : CallR X (.builtin "repr") (rRpT (gd X)) := by
  intro pins s σ H xs us Q I r h
  obtain ⟨ρ, h, l, p, v, hh, rfl, rv, hp, q⟩ := h
  obtain ⟨u, rfl, ru⟩ := vals1 r
  unfold toP at hp
  split at hp
  · rename_i ps hps
    obtain ⟨e1, e2, e3, e4⟩ := small_eq hp
    subst e1
    obtain ⟨a, vs, ev, sq, rs⟩ := RD_tup rv
    subst ev
    obtain rfl : u = Value.ref a := ru
    obtain ⟨its, rv', ⟨o, ho, hc, k, hd⟩, _⟩ := I.tuple sq
    have sa := shw_all _ (shw_of I hh 11) rs rv' hps
    obtain ⟨x1, r1⟩ := sa.rd
    obtain ⟨bs, mm, rk⟩ := sa.rp
    have rd : Reads s.heap (.ref a) (.tuple ps) x1 := .tuple ho hc hd (by simpa using r1)
    have hna : a ∉ bs := not_mem_of_deeper rd (by simp only [PyData.depth]; omega) mm
    simp only [PyData.depth] at e4
    refine call_repr_slot (by omega) ⟨_, ho, hc⟩ F.slot_tuple_repr (call_tuple_reprK ho hc hd hna (by simpa using rk) hg (fun b _ => Clear.nil b) (by show X.A.units + 1 + _ < cLine; omega) (fun _ _ e => e) (fun h' u tk hk => ⟨_, _, rfl, ?_⟩) (by simpa only [PyData.shown] using line_of e3))
    simp only [PyData.shown] at q
    exact ⟨V.str (tupleText (PyData.shownAll ps)), H, I.kept (t' := tk) hk, ⟨u, rfl⟩, q⟩
  · cases hp
theorem e_repr2 (hgd : X.A.guards = some []) (hu : X.A.units + 64 < cLine) (hg : Gl X "repr") (hm : X.mg "repr" = none) (ha : PE X a (tE (gd X) W m)) (hs : starEach [a] X.env = (false, eval a X.env) :: starEach [] X.env := by rfl) :
    PE X (.Call (.Name "repr" p) [a] [] pos) (tE (gd X) W (un reprF2 m)) := by
  have cr : CallR X (.builtin "repr") (fun xs H Q => rRp (gd X) xs H Q ∨ rRpT (gd X) xs H Q) := by
    intro pins s σ H xs us Q I r h
    rcases h with h | h
    · exact call_reprM hgd hu pins s σ H xs us Q I r h
    · exact call_reprT hgd hu pins s σ H xs us Q I r h
  refine PE_of (pe_callB cr hg hm (by decide +kernel) (pa_cons ha pa_nil hs) (by decide) (by decide) hs rfl) fun σ H Q q => ?_
  refine one q fun ρ e H h x vx s hh rx p => ?_
  unfold reprF2 at p
  split at p
  · rename_i l
    split at p
    · rename_i pd hp
      exact .inr ⟨ρ, h, l, pd, vx, hh, rfl, rx, hp, p.okk hh .strN⟩
    · exact p.elim
  · unfold reprF at p
    split at p
    · rename_i n hx
      obtain ⟨a, e1, e2⟩ := RD_ref rx
      split at p
      · rename_i d l hl
        split at p
        · rename_i pd hp
          subst e2
          exact .inl ⟨ρ, h, n, d, l, pd, a, hh, rfl, e1, hl, hp, p.okk hh .strN⟩
        · exact p.elim
      · exact p.elim
    · exact p.elim
end
/-! ### the head -/
def methB (K : PySem.W.Frag) (C g : Addr) (m : Str) : Bool := decide (PySem.W.findIn K (.ref C) m = some (some (.ref g))) && (PySem.W.isFn K (.ref g) && PySem.W.keepIn K (.ref g))
/-- the getter of the property that a class has under a name -/
def gp (K : PySem.W.Frag) (C : Addr) (m : Str) : Addr := match PySem.W.recIn K (He.ma K C m) "property" with
  | some (.ref g :: _) => g
  | _ => 0
def recB (K : PySem.W.Frag) (p g : Addr) : Bool := match PySem.W.recIn K p "property" with
  | some (.ref g' :: _) => decide (g' = g)
  | _ => false
def propB (K : PySem.W.Frag) (C g : Addr) (m : Str) : Bool := decide (PySem.W.findIn K (.ref C) m = some (some (.ref (He.ma K C m)))) && (decide (PySem.W.specialIn K (.ref (He.ma K C m)) "__get__" = some (some (.builtin "property.__get__"))) &&
  (decide (PySem.W.takesIn K (.ref (He.ma K C m)) = some true) && recB K (He.ma K C m) g))
section
variable {P : Program} {w : World} {K : PySem.W.Frag} {mg : Str → Option Value} {base : Heap} {C g fI : Addr} {fd : FuncData} {ps fs : List Str} {c m : Str} {k np n : Nat} {b : SM}
theorem methc_mk (hm : mg c = some (.ref C)) (B : ClsB K C fI fs) (q : methB K C g m = true) (hb : Binds K fd ps []) (G : FnOk P w K mg base (L2.CX P w) k g fd ps (spM ⟨K, mg⟩ ps.length (fnM np n b))) (hnp : np = ps.length) : MethC P w K mg base c m k (fnM np n b) := by
  unfold methB at q
  simp only [Bool.and_eq_true, decide_eq_true_eq] at q
  obtain ⟨q1, q2, q3⟩ := q
  exact ⟨C, g, fd, ps, hm, B.cl, ⟨q1, q2, q3⟩, hb, G, fun ds h hl => by unfold fnM; rw [hnp, if_neg hl]⟩
theorem propc_mk (hm : mg c = some (.ref C)) (B : ClsB K C fI fs) (q : propB K C g m = true) (hb : Binds K fd ps []) (G : FnOk P w K mg base (L2.CX P w) k g fd ps (spM ⟨K, mg⟩ ps.length (fnM np n b))) (h1 : ps.length = 1) : PropC P w K mg base c m k (fnM np n b) := by
  unfold propB at q
  simp only [Bool.and_eq_true, decide_eq_true_eq] at q
  obtain ⟨q1, q2, q3, q4⟩ := q
  refine ⟨C, He.ma K C m, g, fd, ps, hm, B.cl, ⟨q1, q2, q3, ?_⟩, hb, h1, G⟩
  unfold recB at q4
  split at q4
  · rename_i g' r h
    have := of_decide_eq_true q4
    subst this
    exact ⟨r, h⟩
  · cases q4
end
end ML

/-! ML 36: tables of methods; * of numbers, lists, tuples -/
namespace ML
open PySem PySem.Spec PyProof.Rows L2
theorem all_nil {α : Type} {q : α → Prop} : ∀ p ∈ ([] : List α), q p := fun _ z => (nomatch z)
theorem all_cons {α : Type} {q : α → Prop} {a : α} {l : List α} (h : q a) (r : ∀ p ∈ l, q p) : ∀ p ∈ a :: l, q p := List.forall_mem_cons.mpr ⟨h, r⟩
section
variable {P : Program} {w : World} {K : PySem.W.Frag} {mg : Str → Option Value} {base : Heap} {c m : Str} {j k : Nat} {f : FM}
theorem MethC.up (M : MethC P w K mg base c m j f) (h : j ≤ k) : MethC P w K mg base c m k f := by
  obtain ⟨C, g, fd, ps, a, b, d, e, G, n⟩ := M.ex
  exact ⟨C, g, fd, ps, a, b, d, e, G.mono h, n⟩
theorem PropC.up (M : PropC P w K mg base c m j f) (h : j ≤ k) : PropC P w K mg base c m k f := by
  obtain ⟨C, p, g, fd, ps, a, b, d, e, n, G⟩ := M.ex
  exact ⟨C, p, g, fd, ps, a, b, d, e, n, G.mono h⟩
end
def mulF2 : D → D → MH → R D := fun x y h => match x with
  | .tup l => repTF (.tup l) y h
  | x => mulF x y h
section
variable {X : Cx}
theorem rf_mul2 : RF2 (gd X) mulF2 (fun x y H Q => (((rI CMulM fun i j => .int (i * j)) x y H Q ∨ rRep x y H Q) ∨ rRepT X.K x y H Q)) := fun Wf Q ρ H h x y vx vy hh rx ry p => by
  unfold mulF2 at p
  split at p
  · exact .inr (rf_repT Wf Q ρ H h _ y vx vy hh rx ry p)
  · exact .inl (rf_mul Wf Q ρ H h _ y vx vy hh rx ry p)
end
end ML

/-! ML 37: own defs that are called where no repr is under way -/
namespace L2
open PySem PySem.Spec PyProof.Rows
structure FnG (P : Program) (w : World) (K : PySem.W.Frag) (mg : Str → Option Value) (base : Heap) (CX : CXT) (k : Nat) (f : Addr) (fd : FuncData) (ps : List Str) (sp : Sp) : Prop where
  len : ∀ vs H Q E, sp vs H Q E → vs.length = ps.length
  run : ∀ (A : Around) (outer : List Env) (s : Shared) (H : Hp) (args : Args) (us : List Value) (vs : List V) (Q : VK) (E : XK), A.guards = some [] → Room k A → Env0 P w K mg base A outer s H → BindsTo s fd args (ps.zip us) → Vals vs us → sp vs H Q E →
    codeAny (model P w) A (.call (.ref f) args) (CR CX outer P w H s Q E) s
theorem fn_ofG {CX : CXT} {P : Program} {w : World} {K : PySem.W.Frag} {mg : Str → Option Value} {base : Heap} {k : Nat} {f : Addr} {name qual : Str} {params : Arguments} {body : List Stmt} {scope : Scope} {dV kV doc pm cdv ct oc : Value} {an od : Option Addr}
    {osl : Array (Option Value)} {N ps : List Str} {sp : Sp} (lk : K.lookup f = some ⟨oc, od, .func (PySem.W.fnOf name qual params body scope dV kV doc pm an cdv ct), osl⟩) (hcd : PySem.W.codeIn K cdv qual = true) (S : FnScope N ps scope)
    (len : ∀ vs H Q E, sp vs H Q E → vs.length = ps.length)
    (hbody : ∀ (A : Around) (outer : List Env) (s : Shared) (H : Hp) (vs : List V) (Q : VK) (E : XK), A.guards = some [] → Room k (A.deeper (envOfC qual scope s.heap.objs.size f cdv)) → sp vs H Q E →
      ∃ t, PSs (cxOf CX P w K mg base N qual scope f cdv A outer s H E) body t ∧ t { nx := fun _ H' => Q .non H', rt := Q } (start N vs) H) :
    FnG P w K mg base CX (k + 1) f (PySem.W.fnOf name qual params body scope dV kV doc pm an cdv ct) ps sp := by
  refine ⟨len, fun A outer s H args us vs Q E hg hr e0 hb r hsp => ?_⟩
  have hl := len _ _ _ _ hsp
  have KX : K.In s.heap := e0.mod.kin.keeps fun b o e => (e0.bs b o e).1
  have lim : s.heap.NoLimit := e0.mod.nolimit.keeps fun b o e => (e0.bs b o e).1
  have hkind : ∀ y ∈ ps.zip us, scope.names.lookup y.1 = some .local ∨ (scope.names.lookup y.1 = some .cell ∧ ((cellsFrom (s.heap.objs.size + 1) scope.names []).lookup y.1).isSome = true) := fun ⟨n, v⟩ hy => by
    rcases S.par n (List.of_mem_zip hy).1 with q | q
    · exact .inl q
    · exact .inr ⟨q, PySem.W.cellsFrom_some _ _ _ (.inl q)⟩
  refine codeAny_call_function hr.depth (KX _ _ lk) rfl S.co S.gen rfl (PySem.W.codeRec_of KX hcd) (hb _ _ _ _ ?_)
  refine wpAny_newFunctionEnv_cells S.kind hkind fun env he s1 x => ?_
  subst he
  refine ⟨lim.keeps x.toInCall.keep, codeAny_func ?_⟩
  obtain ⟨t, ht, hq⟩ := hbody A outer s H vs Q E hg (hr.deeper _) hsp
  have I : Inv (cxOf CX P w K mg base N qual scope f cdv A outer s H E) [] (start N vs) H s1 := inv_start S hr.hd e0 hl r x
  refine wpAny_mono (ht.run [] s1 (start N vs) H _ I hq) (fun fl s' hs => ?_) fun e s' hs => hs
  have fin : ∀ {σ' : L2.St} {H' : Hp} {v : V} {u : Value}, Inv (cxOf CX P w K mg base N qual scope f cdv A outer s H E) [] σ' H' s' → RelV v u → Q v H' → CE outer P w H s Q u s' :=
    fun {σ' H' v u} J rv q => ⟨v, H', J.os, J.bare, J.base, J.hok, rv, q⟩
  cases fl with
  | ret u =>
    obtain ⟨v, σ', H', J, rv, q⟩ := hs
    exact fin J rv q
  | next =>
    obtain ⟨σ', H', J, q⟩ := hs
    exact fin (v := V.non) (u := Value.none) J rfl q
  | brk =>
    obtain ⟨_, _, _, q⟩ := hs
    exact False.elim q
  | cont =>
    obtain ⟨_, _, _, q⟩ := hs
    exact False.elim q
end L2
namespace ML
open PySem PySem.Spec PyProof.Rows L2
theorem fn_okG {P : Program} {w : World} {K : PySem.W.Frag} {mg : Str → Option Value} {base : Heap} {x qual : Str} {st : Stmt} {f : Addr} {fd : FuncData} {N ps : List Str} {k : Nat} {b : SM} (F : Fun K x qual st f fd) (Sc : FnScope N ps (defScope st))
    (hbody : ∀ (cdv : Value) (A : Around) (outer : List PySem.Env) (s : Shared) (H : Hp) (E : XK), A.guards = some [] → Room k (A.deeper (envOfC qual (defScope st) s.heap.objs.size f cdv)) →
      Takes (cxOf (L2.CX P w) P w K mg base N qual (defScope st) f cdv A outer s H E) (fun cls d _ H => E cls d H) →
      PSs (cxOf (L2.CX P w) P w K mg base N qual (defScope st) f cdv A outer s H E) (defBody st) (tS ⟨K, mg⟩ (fun cls d _ H => E cls d H) b)) :
    FnG P w K mg base (L2.CX P w) (k + 1) f fd ps (spM ⟨K, mg⟩ ps.length (fnM ps.length N.length b)) := by
  obtain ⟨oc, od, kV, doc, pm, an, cdv, ct, osl, rfl, lk, hcd⟩ := F.ex
  refine fn_ofG lk hcd Sc (fun vs H Q E h => h.1) (fun A outer s H vs Q E hg hr h => ⟨_, hbody cdv A outer s H E hg hr (takes_of rfl rfl rfl rfl), ?_⟩)
  obtain ⟨hl, ρ, ds, h, rd, hh, p⟩ := h
  have hl' : ds.length = ps.length := by rw [rd.length]; exact hl
  unfold fnM at p
  rw [if_pos hl'] at p
  refine ⟨ρ, _, h, RS.start rd, hh, ?_⟩
  revert p
  generalize b (List.map some ds ++ List.replicate (N.length - ds.length) none) h = r
  intro p
  cases r with
  | nx e h' => exact fun ρ' σ' H' l a _ => p ρ' .non H' l a (by unfold RD; rfl)
  | rt d h' => exact p
  | exc c fs e h' => exact fun ρ' σ' H' C dd gs l a _ => p ρ' H' C dd gs l a
  | bk e h' => exact p.elim
  | ct e h' => exact p.elim
  | bad => exact p.elim
structure CalG (P : Program) (w : World) (K : PySem.W.Frag) (mg : Str → Option Value) (base : Heap) (x : Str) (k : Nat) (m : FM) : Prop where
  ex : ∃ f fd ps, mg x = some (.ref f) ∧ PySem.W.keepIn K (.ref f) = true ∧ Binds K fd ps [] ∧ FnG P w K mg base (L2.CX P w) k f fd ps (spM ⟨K, mg⟩ ps.length m) ∧ ∀ ds h, ds.length ≠ ps.length → m ds h = .bad
theorem calg_mk {P : Program} {w : World} {K : PySem.W.Frag} {mg : Str → Option Value} {base : Heap} {x qual : Str} {st : Stmt} {f : Addr} {fd : FuncData} {ps : List Str} {k np n : Nat} {b : SM} (F : Fun K x qual st f fd) (hm : mg x = some (.ref f)) (hb : Binds K fd ps [])
    (G : FnG P w K mg base (L2.CX P w) k f fd ps (spM ⟨K, mg⟩ ps.length (fnM np n b))) (hnp : np = ps.length) : CalG P w K mg base x k (fnM np n b) :=
  ⟨f, fd, ps, hm, F.kp, hb, G, fun ds h hl => by unfold fnM; rw [hnp, if_neg hl]⟩
section
variable {X : Cx} {W : Wx} {e : Expr} {es : List Expr} {mas : AM} {pos p : Pos} {x : Str} {k : Nat} {m : FM}
theorem run_fnG {f : Addr} {fd : FuncData} {ps : List Str} {sp : Sp} {E : L2.St → XK} {pins : List (Addr × Obj)} {σ : L2.St} {H : Hp} {s : Shared} {Q : VK} {us : List Value} {vs : List V} (F : FnG X.prog X.w X.K X.mg X.base (L2.CX X.prog X.w) k f fd ps sp) (hgd : X.A.guards = some []) (hr : Room k X.A) (hb : Binds X.K fd ps []) (hx : PassesAt (L2.CX X.prog X.w) X σ (E σ))
    (I : Inv X pins σ H s) (r : Vals vs us) (h : sp vs H Q (E σ)) : wpAny (model X.prog X.w) X.A (call (.ref f) us) (EP X pins σ Q) X.xe s := by
  have hl : us.length = ps.length := by rw [← r.length]; exact F.len _ _ _ _ h
  have b := hb s us I.kIn (by rw [List.append_nil]; exact hl)
  rw [List.append_nil] at b
  refine wpAny_call (codeAny_mono (F.run X.A X.stack s H ⟨us, []⟩ us vs Q (E σ) hgd hr I.env0 b r h) fun r s' hq => ?_)
  cases r with
  | error e => exact hx pins H s e s' I hq
  | ok fl =>
    cases fl with
    | ret u => exact I.after hq
    | next => exact False.elim hq
    | brk => exact False.elim hq
    | cont => exact False.elim hq
theorem e_callG (F : CalG X.prog X.w X.K X.mg X.base x k m) (hgd : X.A.guards = some []) (hr : Room k X.A) (tk : Takes X W.W) (hg : Gl X x) (ha : PA X (e :: es) (tA (gd X) W mas)) (hdb : (x == ("__debug__" : Str)) = false := by decide)
    (he : starEach (e :: es) X.env = (false, eval e X.env) :: starEach es X.env := by rfl) (hpl : (backTo pos (starEach es X.env)).any (·.1) = false := by rfl) : PE X (.Call (.Name x p) (e :: es) [] pos) (tE (gd X) W (onA m mas)) := by
  obtain ⟨f, fd, ps, mgf, kp, b, G, hn⟩ := F.ex
  refine ⟨fun pins s σ H Q I q => ?_⟩
  have q0 : tA (gd X) W mas σ H fun vs H1 => spM (gd X) ps.length m vs H1 Q (WE W.W σ) := by
    refine one q fun ρ e H h xs vs s hh rx p => ?_
    refine ⟨?_, ρ, xs, h, rx, hh, p⟩
    by_cases hl : xs.length = ps.length
    · rw [← rx.length]; exact hl
    · rw [hn xs h hl] at p
      exact p.elim
  refine wpAny_Call_Name_kw (ld_glob I hg mgf ?_ hdb)
  refine PySem.W.callWith_K (h₀ := X.base) I.ok.mod.kin kp (thn (ha.run pos pins s σ H _ I q0) fun us s1 ⟨vs, H1, I1, r, q⟩ => ⟨I1.kIn, ?_⟩) he hpl
  exact run_fnG (E := WE W.W) G hgd hr b (passAt tk σ) I1 r q
end
end ML

/-! ML 38: {**d, k: v, ..} -/
namespace ML
open PySem PySem.Spec PyProof.Rows L2
section
variable {prog : Program} {w : World} {K : Type} [DecidableEq K] {knd : KeyKind prog w K} {A : Around} {E : Value → Shared → Prop} {s : Shared}
theorem w_dictPut {d : Addr} {kvs : List (K × Value)} {k : K} {key v : Value} {Q : Unit → Shared → Prop} (hkey : knd.is k key = true) (hm : s.heap.DictOf knd d kvs)
    (hQ : ∀ h', h'.DictOf knd d (stored kvs k v) → Heap.SameBut d s.heap h' → Q () { s with heap := h' })
    (hsz : kvs.length ≤ sizeLine := by size_fits) :
    wpAny (model prog w) A (dictPut d (knd.hash k) key v) Q E s := by
  obtain ⟨o, es, ep, ho, hc, hd, hk, hp, hn⟩ := hm
  have hes : es.size ≤ sizeLine := by
    have e1 := hp.length
    have e2 : es.toList.length = es.size := by simp
    omega
  unfold dictPut
  refine wpAny_bind (wpAny_dictFind_of hkey ho hd hk ?_)
  have hidx : (es.findIdx? fun e => knd.is k e.key) = kvs.findIdx? fun kv => decide (kv.1 = k) := by
    rw [← hp.findIdx k]; obtain ⟨l⟩ := es; simp
  cases hi : es.findIdx? fun e => knd.is k e.key with
  | some i =>
    refine wpAny_updateDict ho hd (hQ _ ⟨_, _, ep, Heap.get?_update_self _ ho (Obj.isFreed_of_dict (Obj.data_mapDict hd _)),
      hc.mapDict _, Obj.data_mapDict hd _, hk.modify _ _, ?_, ?_⟩ (Heap.SameBut.update ..))
    · rw [stored, if_pos (any_of_findIdx_some (hidx ▸ hi))]
      have hl : (es.toList.findIdx? fun e => knd.is k e.key) = some i := by rw [← hi]; obtain ⟨l⟩ := es; simp
      have := hp.modify hn hl v
      obtain ⟨l⟩ := es
      simpa using this
    · rw [stored, if_pos (any_of_findIdx_some (hidx ▸ hi)), keys_map_store]; exact hn
  | none =>
    have hnot : k ∉ kvs.map (·.1) := not_mem_of_findIdx_none (hidx ▸ hi)
    have hany : ¬ (kvs.any fun kv => decide (kv.1 = k)) = true := by
      rw [List.any_eq_true]; rintro ⟨kv, hkv, he⟩
      exact hnot (List.mem_map.mpr ⟨kv, hkv, of_decide_eq_true he⟩)
    refine wpAny_updateDictKeys (hz := hes) ho hd (hQ _ ⟨_, _, ep + 1, Heap.get?_update_self _ ho (Obj.isFreed_of_dict (Obj.data_mapDictKeys hd _)),
      hc.mapDictKeys _, Obj.data_mapDictKeys hd _, hk.push hkey _, ?_, ?_⟩ (Heap.SameBut.update ..))
    · rw [stored, if_neg hany]
      have := hp.append hkey (knd.hash k) v
      obtain ⟨l⟩ := es
      simpa using this
    · rw [stored, if_neg hany, List.map_append, List.nodup_append]
      refine ⟨hn, by simp, ?_⟩
      intro a ha b hb
      simp only [List.map_cons, List.map_nil, List.mem_singleton] at hb
      subst hb
      exact fun e => hnot (e ▸ ha)
theorem w_skip {M : Model} {f : DictEntry → PUnit → Sem (ForInStep PUnit)} {es : Array DictEntry} {Q : PUnit → Shared → Prop} (hf : ∀ x ∈ es.toList, ∀ u, f x u = pure (.yield u)) (q : Q PUnit.unit s) :
    wpAny M A (forIn es PUnit.unit f) Q E s := by
  refine wpAny_forIn_array' f (fun rest _ s' => s' = s ∧ ∀ x ∈ rest, x ∈ es.toList) _ ?_ ?_ _ _ ⟨rfl, fun x h => h⟩
  · rintro x rest b s' ⟨rfl, hr⟩
    rw [hf x (hr x List.mem_cons_self)]
    exact wpAny_pure ⟨rfl, fun y hy => hr y (List.mem_cons_of_mem _ hy)⟩
  · rintro b s' ⟨rfl, _⟩
    exact q
/-- keys that are no objects -/
def Flt (knd : KeyKind prog w K) : Prop := ∀ k v, knd.is k v = true → ∀ a, v ≠ .ref a
theorem w_merge {d o : Addr} {kvs more : List (K × Value)} {Q : Unit → Shared → Prop} (hf : Flt knd) (hdo : d ≠ o) (hoS : (o == sysModules) = false)
    (hd : s.heap.DictOf knd d kvs) (ho : s.heap.DictOf knd o more)
    (hQ : ∀ h', h'.DictOf knd d (merged kvs more) → h'.DictOf knd o more → Heap.SameBut d s.heap h' → Q () { s with heap := h' })
    (hsz : kvs.length + more.length ≤ sizeLine := by size_fits) :
    wpAny (model prog w) A (mergeMapping d (.ref o) false) Q E s := by
  obtain ⟨od, esd, epd, hod, hcd, hdd, hkd, hpd, hnd⟩ := id hd
  obtain ⟨oo, eso, epo, hoo, hco, hdo', hko, hpo, hno⟩ := id ho
  have hlen : more.length = eso.size := by rw [← hpo.length]; simp
  unfold mergeMapping
  refine wpAny_bind (wpAny_isInstance ho.typeIs isSubtype_dict_dict ?_)
  simp only [if_true]
  refine wpAny_bind (wpAny_specialOf ho.typeIs F.slot_dict_iter.lookup ?_)
  simp only [beq_self_eq_true]
  refine wpAny_bind (wpAny_pure ?_)
  dsimp only
  rw [if_neg (by rw [hoS]; exact Bool.false_ne_true)]
  refine wpAny_bind (wpAny_dictEntries hod hdd ?_)
  split
  refine wpAny_bind (wpAny_dictEntries hoo hdo' (wpAny_bind (w_skip (fun x hx u => by
    obtain ⟨k', hkey', _⟩ := hko x (by simpa using hx)
    have := hf _ _ hkey'
    cases q : x.key <;> first | rfl | exact absurd q (this _)) ?_)))
  all_goals
    refine wpAny_bind (wpAny_dictEntries hoo hdo' ?_)
    refine wpAny_bind (wpAny_dictEpoch hoo hdo' ?_)
    refine wpAny_bind (wpAny_forIn_list _
      (fun rest _ s' => ∃ h' i, s' = { s with heap := h' } ∧ rest = List.range' i (eso.size - i) ∧ i ≤ eso.size ∧ h'.DictOf knd d (merged kvs (more.take i)) ∧ h'.get? o = some oo ∧ Heap.SameBut d s.heap h')
      _ ?_ ?_ _ _ ⟨s.heap, 0, rfl, by simp [List.range_eq_range'], Nat.zero_le _, by simpa [merged] using hd, hoo, Heap.SameBut.refl _ _⟩)
    · rintro x rest b s' ⟨h', i, rfl, hr, hi, hd', hoo', hs'⟩
      have hlt : i < eso.size := by
        rcases Nat.lt_or_ge i eso.size with h | h
        · exact h
        · rw [Nat.sub_eq_zero_of_le h] at hr; simp at hr
      obtain ⟨rfl, hrest⟩ : x = i ∧ rest = List.range' (i + 1) (eso.size - (i + 1)) := by
        have e : eso.size - i = (eso.size - (i + 1)) + 1 := by omega
        rw [e, List.range'_succ] at hr
        injection hr with h1 h2
        exact ⟨h1, h2⟩
      refine wpAny_bind (wpAny_dictEntries hoo' hdo' ?_)
      rw [Array.getElem?_eq_getElem hlt]
      obtain ⟨kv, hkv⟩ : ∃ kv, more[x]? = some kv := ⟨more[x]'(by rw [hlen]; exact hlt), List.getElem?_eq_getElem _⟩
      obtain ⟨k, v⟩ := kv
      obtain ⟨hkey, hval⟩ := hpo.get? (e := eso[x]) (by simp [hlt]) hkv
      obtain ⟨k', hkey', hhash⟩ := hko eso[x] (Array.getElem_mem hlt)
      obtain rfl : k' = k := knd.inj _ _ _ hkey' hkey
      dsimp only
      rw [hhash, hval, if_neg (by decide)]
      have hmx : (merged kvs (more.take x)).length ≤ sizeLine := by
        have e1 := merged_length_le kvs (more.take x)
        have e2 : (more.take x).length ≤ more.length := by rw [List.length_take]; omega
        omega
      refine wpAny_bind (wpAny_holding (w_dictPut (hsz := hmx) hkey hd' fun h'' hd'' hs'' => ?_))
      have hoo'' : h''.get? o = some oo := (hs''.2 o (Ne.symm hdo)).trans hoo'
      refine wpAny_bind (wpAny_dictEpoch hoo'' hdo' ?_)
      rw [if_neg (by simp)]
      exact wpAny_pure ⟨h'', x + 1, rfl, hrest, hlt, by rw [merged_take_succ kvs more x (k', v) hkv]; exact hd'', hoo'', hs'.trans hs''⟩
    · rintro b s' ⟨h', i, rfl, hr, hi, hd', hoo', hs'⟩
      have hin : i = eso.size := by
        rcases Nat.lt_or_ge i eso.size with h | h
        · have e : eso.size - i = (eso.size - (i + 1)) + 1 := by omega
          rw [e, List.range'_succ] at hr; exact nomatch hr
        · exact Nat.le_antisymm hi h
      refine wpAny_pure (hQ h' ?_ ⟨oo, eso, epo, hoo', hco, hdo', hko, hpo, hno⟩ hs')
      rw [hin, ← hlen, List.take_length] at hd'; exact hd'
end
section
variable {prog : Program} {w : World} {A : Around} {E : Value → Shared → Prop} {s : Shared}
theorem gather_some (d : Addr) (f : (Option (Sem Value) × Sem Value) → (Option Addr × List (Sem Value × Sem Value)) → Sem (ForInStep (Option Addr × List (Sem Value × Sem Value))))
    (hf : ∀ (p : Sem Value × Sem Value) (run : List (Sem Value × Sem Value)), run.length + 1 < 17 → f (some p.1, p.2) (some d, run) = pure (.yield (some d, run ++ [p]))) :
    ∀ (items run : List (Sem Value × Sem Value)), run.length + items.length < 17 → forIn (items.map fun p => (some p.1, p.2)) (some d, run) f = pure (some d, run ++ items)
  | [], run, _ => by simp
  | p :: rest, run, h => by
    rw [List.map_cons, List.forIn_cons, hf p run (by simp at h; omega), pure_bind]
    have := gather_some d f hf rest (run ++ [p]) (by simp at h ⊢; omega)
    simpa using this
theorem w_display {m : Sem Value} {pairs : List (Sem Value × Sem Value)} {Q : Value → Shared → Prop} (h0 : pairs ≠ []) (hlen : pairs.length < 17)
    (h : wpAny (model prog w) A m (fun v s1 => wpAny (model prog w) A (mergeMapping s.heap.objs.size v false) (fun _ s2 => wpAny (model prog w) A (subDict pairs) (fun sub s3 => wpAny (model prog w) A (mergeMapping s.heap.objs.size (.ref sub) false) (fun _ s4 => Q (.ref s.heap.objs.size) s4) (fun _ _ => False) s3) E s2) (fun _ _ => False) s1) E
      { s with heap := s.heap.push { cls := .type "dict", data := .dict #[] } }) :
    wpAny (model prog w) A (dictDisplay ((none, m) :: pairs.map fun p => (some p.1, p.2))) Q E s := by
  unfold dictDisplay
  dsimp only
  rw [List.forIn_cons]
  refine wpAny_bind (wpAny_bind ?_)
  dsimp only
  simp only [List.isEmpty_nil, if_true]
  refine wpAny_bind (wpAny_pure ?_)
  dsimp only
  refine wpAny_bind (wpAny_alloc ?_)
  refine wpAny_bind (wpAny_holding (wpAny_mono h (fun v s1 h1 => ?_) fun _ _ e => e))
  refine wpAny_bind (wpAny_onRaise (wpAny_tryCatch (wpAny_onRaise (wpAny_holding (wpAny_mono h1 (fun _ s2 h2 => ?_) fun _ _ e => e.elim)))))
  refine wpAny_pure ?_
  dsimp only
  rw [gather_some s.heap.objs.size _ (fun p run h => by
    have hne : ((run ++ [(p.1, p.2)]).length == 17) = false := by simp; omega
    simp only [hne, Bool.false_eq_true, if_false]) pairs [] (by simpa using hlen)]
  refine wpAny_pure ?_
  dsimp only
  rw [List.nil_append, if_neg (by simp [h0])]
  refine wpAny_bind (wpAny_bind (wpAny_holding (wpAny_mono h2 (fun sub s3 h3 => ?_) fun _ _ e => e)))
  refine wpAny_bind (wpAny_onRaise (wpAny_holding (wpAny_mono h3 (fun _ s4 h4 => ?_) fun _ _ e => e.elim)))
  refine wpAny_pure ?_
  exact wpAny_pure h4
end
theorem flt_mix (P : Program) (w : World) : Flt (mixKind P w) := fun k v h a e => by
  subst e
  cases k <;> cases h
/-- {**e, k: v, ..}: the new dict, then e, then the pairs in a dict beside -/
def tStar (te : TE) (trs : List (TE × TE)) : TE := fun σ H Q => ∀ d, H d = none → te σ (L2.upd H d (.dK [])) fun x H1 => ∃ (a : Addr) (kvs : List (Key × V)), x = .ref a ∧ a ≠ d ∧ H1 a = some (.dK kvs) ∧ H1 d = some (.dK []) ∧ kvs.length ≤ 1000 ∧
  ∀ p, (L2.upd H1 d (.dK (mergeK [] kvs))) p = none → tPairs trs σ (L2.upd (L2.upd H1 d (.dK (mergeK [] kvs))) p (.dK [])) fun ps H2 => H2 p = some (.dK []) ∧ p ≠ d ∧
    ∃ (kv2 : List (Key × V)) (ks : List (Key × V)), H2 d = some (.dK kv2) ∧ kv2.length ≤ 1000 ∧ ps = ks.map (fun kv => (kV kv.1, kv.2)) ∧ ks.length ≤ 15 ∧ Q (.ref d) (L2.upd (L2.upd H2 p (.dK (mergeK [] ks))) d (.dK (mergeK kv2 (mergeK [] ks))))
theorem pe_star {X : Cx} {pos : Pos} {e : Expr} {te : TE} {keys : List (Option Expr)} {values : List Expr} {trs : List (TE × TE)} (he : PE X e te) (h : PPs X pos keys values trs) (hall : keys.all (·.isSome) = true) (hl : keys.length = values.length) (h0 : keys ≠ [])
    (h15 : keys.length ≤ 15) : PE X (.Dict (none :: keys) (e :: values) pos) (tStar te trs) := by
  refine ⟨fun pins s σ H Q I q => ?_⟩
  have hn := I.hok.fresh (Nat.le_refl s.heap.objs.size)
  have I1 := I.laid (a := s.heap.objs.size) (o := .dK []) (h' := s.heap.push { cls := .type "dict", data := .dict #[] }) (t' := s.toks) (fun _ _ q => Heap.get?_push_of_some _ q) (Nat.le_refl _) (dk_empty s.heap I.big)
  have hpl := pairTrees_length keys values X.env pos hall hl
  have hp0 : pairTrees keys values X.env pos ≠ [] := by
    intro he
    rw [he] at hpl
    exact h0 (List.length_eq_zero_iff.mp hpl.symm)
  have shape : (evalEachOpt (none :: keys) X.env).zip ((evalEach (e :: values) X.env).map fun v => do let x ← v; standAt pos; pure x) = (none, do let x ← eval e X.env; standAt pos; pure x) :: (pairTrees keys values X.env pos).map fun p => (some p.1, p.2) := by
    rw [← zip_pairTrees keys values X.env pos hall hl]
    rfl
  rw [arm_eval_Dict, shape]
  refine wpAny_bind (wpAny_standAt (w_display hp0 (by rw [hpl]; omega) ?_))
  refine wpAny_bind (thn (he.run pins _ σ _ _ I1 (q _ hn)) fun u s1 ⟨x, H1, I2, rx, a, kvs, ex, ad, ea, ed, lk, q2⟩ => ?_)
  subst ex
  obtain rfl : u = Value.ref a := rx
  refine wpAny_bind (wpAny_standAt (wpAny_pure ?_))
  obtain ⟨z1, hd1, vs1, r1, dd1⟩ := dk_of I2.hok ed
  cases r1
  obtain ⟨z2, hd2, vs2, r2, dd2⟩ := dk_of I2.hok ea
  refine w_merge (hsz := by rw [← r2.length, sizeLine_eq, List.length_nil]; omega) (flt_mix X.prog X.w) (Ne.symm ad) hd2 dd1 dd2 fun h' dd' _ hs => ?_
  have hz : (mergeK [] kvs).length ≤ sizeLine := by
    have h1 := length_mergeK kvs []
    rw [List.length_nil] at h1
    rw [sizeLine_eq]; omega
  have he1 : ∃ q, h'.get? s.heap.objs.size = some q := let ⟨q, _, _, hq, _⟩ := dd'; ⟨q, hq⟩
  have I3 : Inv X pins σ _ { s1 with heap := h', toks := s1.toks } := d_write I2 (by rw [ed]; exact True.intro) hs he1 (dk_new hz hd1 (r2.merge .nil) dd')
  have hn3 := I3.hok.fresh (Nat.le_refl h'.objs.size)
  have I4 := I3.laid (a := h'.objs.size) (o := .dK []) (h' := h'.push { cls := .type "dict", data := .dict #[] }) (t' := s1.toks) (fun _ _ q => Heap.get?_push_of_some _ q) (Nat.le_refl _) (dk_empty h' I3.big)
  refine wpAny_subDict (knd := mixKind X.prog X.w) (by rw [hpl]; exact h15) (thn (h.run pins _ σ _ _ I4 (q2 _ hn3)) fun ws s2 ⟨ps, H2, I5, rel, ep, pd, kv2, ks, ed2, l2, eps, l15, q3⟩ => ?_)
  subst eps
  obtain ⟨rs, c, rk⟩ := carries_of (P := X.prog) (w := X.w) rel
  obtain ⟨z5, hd5, vs5, r5, dd5⟩ := dk_of I5.hok ep
  cases r5
  refine ⟨rs, c, dd5, fun h6 dd6 hs6 => ?_⟩
  have hz6 : (mergeK [] ks).length ≤ sizeLine := by
    have h1 := length_mergeK ks []
    rw [List.length_nil] at h1
    rw [sizeLine_eq]; omega
  have he6 : ∃ q, h6.get? h'.objs.size = some q := let ⟨q, _, _, hq, _⟩ := dd6; ⟨q, hq⟩
  have I6 : Inv X pins σ _ { s2 with heap := h6, toks := s2.toks + ws.length } := d_write I5 (by rw [ep]; exact True.intro) hs6 he6 (dk_new hz6 hd5 (rk.merge .nil) dd6)
  have ed6 : (L2.upd H2 h'.objs.size (.dK (mergeK [] ks))) s.heap.objs.size = some (.dK kv2) := by rw [upd_ne (Ne.symm pd)]; exact ed2
  have ep6 : (L2.upd H2 h'.objs.size (.dK (mergeK [] ks))) h'.objs.size = some (.dK (mergeK [] ks)) := upd_same
  obtain ⟨z7, hd7, vs7, r7, dd7⟩ := dk_of I6.hok ed6
  obtain ⟨z8, hd8, vs8, r8, dd8⟩ := dk_of I6.hok ep6
  have n2 := length_mergeK ks []
  rw [List.length_nil] at n2
  refine w_merge (hsz := by rw [← r7.length, ← r8.length, sizeLine_eq]; omega) (flt_mix X.prog X.w) (Ne.symm pd) hd8 dd7 dd8 fun h9 dd9 _ hs9 => ?_
  have hz9 : (mergeK kv2 (mergeK [] ks)).length ≤ sizeLine := by
    have h1 := length_mergeK (mergeK [] ks) kv2
    rw [sizeLine_eq]; omega
  have he9 : ∃ q, h9.get? s.heap.objs.size = some q := let ⟨q, _, _, hq, _⟩ := dd9; ⟨q, hq⟩
  exact ⟨.ref s.heap.objs.size, _, d_write I6 (t' := s2.toks + ws.length) (by rw [ed6]; exact True.intro) hs9 he9 (dk_new hz9 hd7 (r8.merge r7) dd9), rfl, q3⟩
/-! the mirror -/
def starDE (m : EM) (ps : PM) : EM := fun e h => (m e (h ++ [.dct []])).bind fun x h1 => match x with
  | .ref n => (match h1[n]?, h1[h.length]? with
    | some (.dct kvs), some (.dct []) => if n ≠ h.length ∧ kvs.length ≤ 1000 then
        (pairsM ps e (h1.set h.length (.dct (mergeD [] kvs)) ++ [.dct []])).bind fun ks h3 => (match h3[h1.length]?, h3[h.length]? with
          | some (.dct []), some (.dct kv2) => if h1.length ≠ h.length ∧ kv2.length ≤ 1000 ∧ ks.length ≤ 15 then .ok (.ref h.length) ((h3.set h1.length (.dct (mergeD [] ks))).set h.length (.dct (mergeD kv2 (mergeD [] ks)))) else .bad
          | _, _ => .bad) else .bad
    | _, _ => .bad)
  | _ => .bad
theorem e_star {X : Cx} {W : Wx} {pos : Pos} {ex : Expr} {keys : List (Option Expr)} {values : List Expr} (m : EM) (ps : PM) (hm : PE X ex (tE (gd X) W m)) (h : PPs X pos keys values (ps.map fun p => (tE (gd X) W p.1, tE (gd X) W p.2))) (hall : keys.all (·.isSome) = true := by rfl) (hl : keys.length = values.length := by rfl) (h0 : keys ≠ [] := by decide)
    (h15 : keys.length ≤ 15 := by decide) : PE X (.Dict (none :: keys) (ex :: values) pos) (tE (gd X) W (starDE m ps)) :=
  PE_of (pe_star hm h hall hl h0 h15) fun σ H Q q => by
    intro d hd
    obtain ⟨ρ, e, m0, s, hh, p⟩ := q
    have l1 := Lat.new (g := gd X) (ρ := ρ) (u := .dK []) (Soft.none hd)
    have hh1 : RH (gd X) (ρ ++ [d]) (L2.upd H d (.dK [])) (m0 ++ [.dct []]) := hh.new hd ⟨[], upd_same, rfl⟩
    have p := Post.later l1 p
    refine ⟨_, e, _, s.lat l1, hh1, p.bind.mono fun vx H1 q1 => ?_⟩
    obtain ⟨ρ1, x, h1, l2, hh2, rx, p1⟩ := q1
    have e1 : ρ1[m0.length]? = some d := l2.at (by rw [← hh.len]; simp)
    split at p1
    · rename_i n
      obtain ⟨a, ea, eb⟩ := RD_ref rx
      subst eb
      split at p1
      · rename_i kvs hn hd1
        split at p1
        case isFalse => exact p1.elim
        rename_i c
        obtain ⟨bs, e3, r3⟩ := hh2.obj _ _ d hd1 e1
        have e0 : bs = [] := r3
        subst e0
        obtain ⟨ws, e4, r4⟩ := hh2.obj _ _ a hn ea
        have ad : a ≠ d := fun z => by
          subst z
          exact c.1 (hh2.inj _ _ _ _ a hn hd1 rfl rfl ea e1)
        refine ⟨a, ws, rfl, ad, e4, e3, by have := RP.length r4; omega, fun pa hp => ?_⟩
        obtain ⟨l3, hh3⟩ := hh2.setDct hd1 e1 e3 (RP.merge (acc := []) (bs := []) r4 rfl)
        have l4 := Lat.new (g := gd X) (ρ := ρ1) (u := .dK []) (Soft.none hp)
        have hh4 := hh3.new hp (o := .dct []) ⟨[], upd_same, rfl⟩
        have p1 := Post.later (l3.trans l4) p1
        refine pairs_read ps ⟨_, e, _, (s.lat l1).lat (l2.trans (l3.trans l4)), hh4, p1.bind.mono fun ks H3 q2 => ?_⟩
        obtain ⟨ρ3, ksd, h3, l5, hh5, rk, p2⟩ := q2
        have hlen : h1.length = ρ1.length := hh2.len.symm
        split at p2
        · rename_i kv2 hs hm2
          split at p2
          case isFalse => exact p2.elim
          rename_i c2
          have ep : ρ3[h1.length]? = some pa := l5.at (by rw [hlen]; simp)
          have ed : ρ3[m0.length]? = some d := l5.at (l4.at (l3.at e1))
          obtain ⟨bs2, e5, r5⟩ := hh5.obj _ _ pa hs ep
          have e0 : bs2 = [] := r5
          subst e0
          obtain ⟨w2, e6, r6⟩ := hh5.obj _ _ d hm2 ed
          have pd : pa ≠ d := fun z => by
            subst z
            exact c2.1 (hh5.inj _ _ _ _ pa hs hm2 rfl rfl ep ed)
          refine ⟨e5, pd, w2, ks, e6, by have := RP.length r6; omega, rfl, by have := RP.length rk; omega, ?_⟩
          obtain ⟨l6, hh6⟩ := hh5.setDct hs ep e5 (RP.merge (acc := []) (bs := []) rk rfl)
          have hm3 : (h3.set h1.length (.dct (mergeD [] ksd)))[m0.length]? = some (.dct kv2) := by rw [List.getElem?_set_ne c2.1]; exact hm2
          obtain ⟨l7, hh7⟩ := hh6.setDct hm3 (l6.at ed) (by rw [upd_ne (Ne.symm pd)]; exact e6) (RP.merge (l6.rp _ (RP.merge (acc := []) (bs := []) rk rfl)) (l6.rp _ r6))
          exact p2 _ _ _ (l6.trans l7) hh7 (by unfold RD; exact ⟨d, l7.at (l6.at ed), rfl⟩)
        · exact p2.elim
      · exact p1.elim
    · exact p1.elim
end ML

/-! ML 39: dict(d); a[i], b[j] = x, y; unpacking of lists -/
namespace ML
open PySem PySem.Spec PyProof.Rows L2
def dctcF : List D → MH → R D := fun ds h => match ds with
  | [.ref n] => (match h[n]? with
    | some (.dct l) => .ok (.ref h.length) (h ++ [.dct l])
    | _ => .bad)
  | _ => .bad
section
variable {X : Cx}
theorem rf_dctc : RFs (gd X) dctcF (fun xs H Q => ∃ (a : Addr) (kvs : List (Key × V)), xs = [.ref a] ∧ Rd H a (.dK kvs) ∧ ∀ p, H p = none → Q (.ref p) (L2.upd H p (.dK kvs))) := fun Wf Q ρ H h xs vs hh rx p => by
  unfold dctcF at p
  split at p
  · rename_i n
    obtain ⟨v, e, r⟩ := rx.inv1
    obtain ⟨a, ea, eb⟩ := RD_ref r
    subst eb
    split at p
    · rename_i l hl
      obtain ⟨ws, e3, rp⟩ := hh.obj n _ a hl ea
      refine ⟨a, ws, e, .inl e3, fun q hq => ?_⟩
      have l1 := Lat.new (g := gd X) (ρ := ρ) (u := .dK ws) (Soft.none hq)
      exact p _ _ _ l1 (hh.new hq ⟨ws, upd_same, l1.rp _ rp⟩) (by unfold RD; exact ⟨q, by rw [← hh.len]; simp, rfl⟩)
    · exact p.elim
  · exact p.elim
end
/-! targets that are subscripts -/
def stX : List (EM × EM) → List D → Env → MH → Option MH
  | [], [], _, h => some h
  | (o, i) :: r, d :: ds, e, h => (match o e h with
    | .ok x h1 => (match i e h1 with
      | .ok y h2 => (match stF x y d h2 with
        | some h3 => stX r ds e h3
        | none => none)
      | _ => none)
    | _ => none)
  | _, _, _, _ => none
def parX (ts : List (EM × EM)) (as : AM) : SM := fun e h => ofA e (as e h) fun ds h1 => match stX ts ds e h1 with
  | some h2 => .nx e h2
  | none => .bad
theorem stX_len : ∀ {ts : List (EM × EM)} {ds : List D} {e : Env} {h h' : MH}, stX ts ds e h = some h' → ds.length = ts.length
  | [], [], _, _, _, _ => rfl
  | [], d :: ds, _, _, _, q => by cases q
  | t :: ts, [], _, _, _, q => by cases q
  | (o, i) :: r, d :: ds, e, h, h', q => by
    unfold stX at q
    split at q
    · split at q
      · split at q
        · rw [List.length_cons, List.length_cons, stX_len q]
        · cases q
      · cases q
    · cases q
def tXs (g : Gd) (ts : List (EM × EM)) : TGs := fun vs σ H Q => ∃ ρ e h ds h', RS g ρ H e σ ∧ RH g ρ H h ∧ RDs g ρ H ds vs ∧ stX ts ds e h = some h' ∧ ∀ ρ' H', Lat g ρ H ρ' H' → RH g ρ' H' h' → Q σ H'
section
variable {X : Cx} {o i : Expr} {mo mi : EM} {es vs : List Expr} {ts : List (EM × EM)} {pos p2 p3 spos : Pos} {W : WX} {as : AM}
theorem gx_nil : PGs X [] (tXs (gd X) []) := PGs_of pgs_nil fun vs σ H Q q => by
  obtain ⟨ρ, e, h, ds, h', s, hh, r, em, k⟩ := q
  cases ds with
  | nil =>
    cases em
    exact ⟨r.invNil, k ρ H Lat.refl hh⟩
  | cons d ds => cases em
theorem gx_cons (hu : X.A.units + 64 < cLine) (ho : PE X o (tE (gd X) (pl noW) mo)) (hi : PE X i (tE (gd X) (pl noW) mi)) (hr : PGs X es (tXs (gd X) ts))
    (hx : ∀ v, assign (.Subscript o i pos) X.env v = (do
      let ov ← holding [v] (eval o X.env)
      let iv ← holding [v, ov] (eval i X.env)
      standAt pos
      holding [v, ov, iv] (setItem ov iv v)
      release [v, ov, iv] []) := by intro _; rfl)
    (hs : (assignEach (.Subscript o i pos :: es) X.env).map (·.2) = assign (.Subscript o i pos) X.env :: (assignEach es X.env).map (·.2) := by rfl) : PGs X (.Subscript o i pos :: es) (tXs (gd X) ((mo, mi) :: ts)) :=
  PGs_of (pgs_cons (pg_sub ho hi (set_M (by omega)) hx) hr hs) fun vs σ H Q q => by
    obtain ⟨ρ, e, h, ds, h', s, hh, r, em, k⟩ := q
    cases ds with
    | nil => cases em
    | cons d ds =>
      obtain ⟨v, vr, e1, r1, r2⟩ := r.inv
      refine ⟨v, vr, e1, ρ, e, h, s.x, hh, ?_⟩
      unfold stX at em
      cases q1 : mo e h with
      | bad => rw [q1] at em; cases em
      | exc c fs h1 => rw [q1] at em; cases em
      | ok x h1 =>
        rw [q1] at em
        intro ρ1 vx H1 l1 hh1 rx
        dsimp only at em
        refine ⟨ρ1, e, h1, (l1.rs s).x, hh1, ?_⟩
        cases q2 : mi e h1 with
        | bad => rw [q2] at em; cases em
        | exc c fs h1 => rw [q2] at em; cases em
        | ok y h2 =>
          rw [q2] at em
          intro ρ2 vy H2 l2 hh2 ry
          dsimp only at em
          split at em
          · rename_i h3 e3
            refine st_ok hh2 (l2.rd x rx) ry ((l1.trans l2).rd d r1) e3 fun H3 l3 hh3 => ?_
            have l := (l1.trans l2).trans l3
            exact ⟨ρ2, e, h3, ds, h', l.rs s, hh3, l.rds _ r2, em, fun ρ4 H4 l4 hh4 => k ρ4 H4 (l.trans l4) hh4⟩
          · cases em
theorem s_parX {n k k2 : Nat} (hc : X.calm = true) (ha : PA X vs (tA (gd X) (pl W) as)) (hg : PGs X es (tXs (gd X) ts)) (hl : ts.length = n := by rfl) (h5 : ts.length ≤ 1000 := by decide)
    (hn : (assignEach es X.env).length = n := by rfl) (hst : (assignEach es X.env).findIdx? (·.1) = none := by rfl)
    (hs : swapsWithSole [.Tuple es k pos] (.Tuple vs k2 p2) spos.line X.env = pure false := by rfl) (hw : swappedStores [.Tuple es k pos] (.Tuple vs k2 p2) X.env = pure none := by rfl)
    (h1 : (assignEach [.Tuple es k pos] X.env).map (·.2) = [assign (.Tuple es k pos) X.env] := by rfl) : PS X (.Assign [.Tuple es k pos] (.Tuple vs k2 p2) spos) (tS (gd X) W (parX ts as)) :=
  PS_of (ps_asg (e_tup ha) (pg_tup hc hg hn hst) hs hw h1) fun N σ H q => by
    obtain ⟨ρ, e, h, s, hh, p⟩ := q
    refine ⟨ρ, e, h, s.x, hh, ?_⟩
    unfold parX at p
    unfold onA
    revert p
    cases q1 : as e h with
    | bad => intro p; exact p.elim
    | exc c fs h1 => intro p; exact fun ρ1 H1 C dd gs l a => p ρ1 σ H1 C dd gs l a (l.rs s)
    | ok ds h1 =>
      intro p
      show Post _ _ _ _ _ (tupF ds h1) _
      have p' : PostS (gd X) W ρ H (match stX ts ds e h1 with | some h2 => .nx e h2 | none => .bad) N := p
      cases q2 : stX ts ds e h1 with
      | none => rw [q2] at p'; exact p'.elim
      | some h2 =>
        rw [q2] at p'
        have el := stX_len q2
        rw [tup_new (by omega)]
        intro ρ1 v H1 l1 hh1 rv
        obtain ⟨a, ws, e1, sq, rs⟩ := RD_tup rv
        refine ⟨a, ws, e1, sq, by rw [← rs.length, el, hl], ρ1, e, h1, ds, h2, l1.rs s, hh1, rs, q2, fun ρ2 H2 l2 hh2 => ?_⟩
        exact p' ρ2 σ H2 (l1.trans l2) hh2 ((l1.trans l2).rs s)
end
/-! (a, b) = a tuple or a list -/
def gtp2 (ms : List GM) : GM := fun d e h => match d with
  | .tup ds => if ds.length = ms.length then asgAll ms ds e h else none
  | .ref n => (match h[n]? with
    | some (.lst ds) => if ds.length = ms.length then asgAll ms ds e h else none
    | _ => none)
  | _ => none
theorem pg_or {X : Cx} {e : Expr} {t u : TG} (h1 : PG X e t) (h2 : PG X e u) : PG X e (fun v σ H Q => t v σ H Q ∨ u v σ H Q) := ⟨fun pins s σ H v w Q I r q => by
  rcases q with q | q
  · exact h1.run pins s σ H v w Q I r q
  · exact h2.run pins s σ H v w Q I r q⟩
theorem g_tup2 {X : Cx} {pos : Pos} {own : List Nat} {ms : List GM} {es : List Expr} {k n : Nat} (hc : X.calm = true) (h : PGs X es (tGms (gd X) own ms)) (hn : (assignEach es X.env).length = n := by rfl) (hst : (assignEach es X.env).findIdx? (·.1) = none := by rfl) (hl : ms.length = n := by rfl) :
    PG X (.Tuple es k pos) (tGm (gd X) own (gtp2 ms)) := PG_of (pg_or (pg_tup hc h hn hst) (pg_unl hc h hn hst)) fun v σ H Q q => by
  obtain ⟨ρ, e, h, d, e', s, hh, r, em, kk⟩ := q
  cases d <;> first | cases em | skip
  · rename_i ds
    obtain ⟨a, vs, e1, sq, rs⟩ := RD_tup r
    unfold gtp2 at em
    dsimp only at em
    split at em
    · rename_i hds
      exact .inl ⟨a, vs, e1, sq, by rw [← rs.length, hds, hl], ρ, e, h, ds, e', s, hh, rs, em, kk⟩
    · cases em
  · rename_i m
    obtain ⟨a, e1, e2⟩ := RD_ref r
    unfold gtp2 at em
    dsimp only at em
    split at em
    · rename_i ds hds
      split at em
      · rename_i hl2
        obtain ⟨vs, e3, rs⟩ := hh.obj m _ a hds e1
        exact .inr ⟨a, vs, e2, .of e3, by rw [← rs.length, hl2, hl], ρ, e, h, ds, e', s, hh, rs, em, kk⟩
      · cases em
    · cases em
end ML

/-! ML 40: methods called with keywords; own __getitem__ -/
namespace ML
open PySem PySem.Spec PyProof.Rows L2
/-- a method of an own class: n arguments by place behind self, then the keywords ks -/
structure MethK (P : Program) (w : World) (K : PySem.W.Frag) (mg : Str → Option Value) (base : Heap) (c m : Str) (n : Nat) (ks : List Str) (k : Nat) (f : FM) : Prop where
  ex : ∃ C g fd ps, mg c = some (.ref C) ∧ Cls K C ∧ Meth K C m g ∧ KBinds K fd ps ks (gCut (n + 1) ks.length) (gCut (n + 1) ks.length) ∧ FnOk P w K mg base (L2.CX P w) k g fd ps (spM ⟨K, mg⟩ ps.length f) ∧ ps.length = n + 1 + ks.length ∧ ∀ ds h, ds.length ≠ ps.length → f ds h = .bad
def methKE (t : List (Str × FM)) (m : Str) (n j : Nat) (o : EM) (as ks : AM) : EM := fun e h => (o e h).bind fun x h1 => match clsOf m x h1 with
  | some c => (match t.lookup c with
    | some f => (as e h1).bind fun xs h2 => (ks e h2).bind fun ys h3 => if xs.length = n ∧ ys.length = j then f (x :: (xs ++ ys)) h3 else .bad
    | none => .bad)
  | none => .bad
section
variable {X : Cx} {W : Wx} {pos p apos : Pos} {e o i : Expr} {es : List Expr} {kws : List Keyword} {m : Str} {t : List (Str × FM)} {n k : Nat} {ks : List Str} {mo mi : EM} {mas mks : AM}
theorem run_fnkS {CX : CXT} {f : Addr} {fd : FuncData} {ps : List Str} {sp : Sp} {g : List Value → List Value → List Value} {gV : List V → List V → List V} {E : L2.St → XK} {pins : List (Addr × Obj)} {σ : L2.St} {H : Hp} {s : Shared} {Q : VK} {us ws : List Value} {vs zs : List V} (F : FnOk X.prog X.w X.K X.mg X.base CX k f fd ps sp) (hr : Room k X.A) (hb : KBinds X.K fd ps ks g gV) (hx : PassesAt CX X σ (E σ))
    (I : Inv X pins σ H s) (r : Vals vs us) (rz : Vals zs ws) (h : sp (gV vs zs) H Q (E σ)) : wpAny (model X.prog X.w) X.A (call (.ref f) us (ks.zip ws)) (EP X pins σ Q) X.xe s := by
  have r2 := hb.rel r rz
  refine wpAny_call (codeAny_mono (F.run X.A X.stack s H ⟨us, ks.zip ws⟩ (g us ws) (gV vs zs) Q (E σ) hr I.env0 (hb.to s us ws I.kIn (by rw [← r2.length]; exact F.len _ _ _ _ h)) r2 h) fun r s' hq => ?_)
  cases r with
  | ok fl => cases fl <;> first | exact I.after hq | exact hq.elim
  | error e => exact hx pins H s e s' I hq
theorem e_methK {pl : Sem Bool} (F : ∀ p ∈ t, MethK X.prog X.w X.K X.mg X.base p.1 m n ks k p.2) (hr : Room k X.A) (tk : Takes X W.W) (ho : PE X o (tE (gd X) W mo)) (ha : PA X (e :: es) (tA (gd X) W mas)) (hkw : PK X kws (tA (gd X) W mks))
    (hall : (backToKw pos (keywordEach kws X.env)).all (·.1.isSome) = true := by rfl) (hks : (backToKw pos (keywordEach kws X.env)).filterMap (·.1) = ks := by rfl)
    (he : starEach (e :: es) X.env = (false, eval e X.env) :: starEach es X.env := by rfl)
    (hpl : ((backTo pos (starEach (e :: es) X.env)).any (·.1) || (backToKw pos (keywordEach kws X.env)).any (·.1.isNone)) = false := by rfl)
    (ht : eval (.Call (.Attribute o m apos) (e :: es) kws pos) X.env = (do
      let ov ← eval o X.env
      standAt apos.atName
      let (f, first) ← holding [ov] (getMethod ov m pl)
      callWith pos f first (backTo pos (starEach (e :: es) X.env)) (backToKw pos (keywordEach kws X.env))) := by rfl) :
    PE X (.Call (.Attribute o m apos) (e :: es) kws pos) (tE (gd X) W (methKE t m n ks.length mo mas mks)) := by
  refine ⟨fun pins s σ H Q I q => ?_⟩
  have q0 : tE (gd X) W mo σ H fun vx H1 => ∃ ρ e0 h x, RX (gd X) W ρ H1 e0 σ ∧ RH (gd X) ρ H1 h ∧ RD (gd X) ρ H1 x vx ∧ ∃ c f, clsOf m x h = some c ∧ t.lookup c = some f ∧ Post (gd X) (RD (gd X)) (fun c d H' => W.W c d σ H') ρ H1 ((mas e0 h).bind fun xs h2 => (mks e0 h2).bind fun ys h3 => if xs.length = n ∧ ys.length = ks.length then f (x :: (xs ++ ys)) h3 else .bad) Q := by
    refine one q fun ρ e H h x vx s hh rx p => ⟨ρ, e, h, x, s, hh, rx, ?_⟩
    split at p
    · rename_i c hc
      split at p
      · rename_i f hf
        exact ⟨c, f, hc, hf, p⟩
      · exact p.elim
    · exact p.elim
  refine PySem.W.methodCall_KW (pl := pl) (thn (ho.run pins s σ H _ I q0) fun u s1 ⟨vx, H1, I1, rv, ρ, e0, h, x, sx, hh, rx, c, f, hc, hf, p⟩ => ?_) ht
  obtain ⟨nn, fs, a, C, dx, gs, ex, hx, ev, mc, ea, hl⟩ := clsOf_v hh rx hc
  obtain ⟨C', g, fd, ps, mc', cC, hm, hb, G, hlp, hn⟩ := (F _ (lookMem hf)).ex
  have mc' : X.mg c = some (.ref C') := mc'
  have hn : ∀ ds h, ds.length ≠ ps.length → f ds h = .bad := hn
  have mcc := (show X.mg c = some (.ref C) from mc).symm.trans mc'
  cases mcc
  subst ev
  obtain rfl : u = Value.ref a := rv
  refine getmeth_ok I1 ea cC hm hl ?_
  have qa : tA (gd X) W mas σ H1 fun vs H2 => tA (gd X) W mks σ H2 fun zs H3 => spM (gd X) ps.length f (gCut (n + 1) ks.length (V.ref a :: vs) zs) H3 Q (WE W.W σ) := by
    refine ⟨ρ, e0, h, sx, hh, p.bind.mono fun vs H2 q => ?_⟩
    obtain ⟨ρ1, xs, h2, l1, hh1, rxs, p1⟩ := q
    refine ⟨ρ1, e0, h2, sx.lat l1, hh1, p1.bind.mono fun zs H3 q => ?_⟩
    obtain ⟨ρ2, ys, h3, l2, hh2, rys, p2⟩ := q
    split at p2
    · rename_i c2
      unfold gCut
      rw [if_pos ⟨by rw [List.length_cons, ← rxs.length, c2.1], by rw [← rys.length]; exact c2.2⟩]
      refine ⟨?_, ρ2, x :: (xs ++ ys), h3, .cons (l2.rd x (l1.rd x rx)) ((l2.rds xs rxs).append rys), hh2, p2⟩
      rw [List.length_append, List.length_cons, ← rxs.length, ← rys.length, c2.1, c2.2, hlp]
    · exact p2.elim
  refine PySem.W.callWith_KW (first := [.ref a]) (h₀ := X.base) I.ok.mod.kin hm.kp hall (thn (ha.run pos pins s1 σ H1 _ I1 qa) fun us s2 ⟨vs, H2, I2, r, q2⟩ => ?_) hpl he
  refine thn (hkw.run pos pins s2 σ H2 _ I2 q2) fun ws s3 ⟨zs, H3, I3, rz, q3⟩ => ⟨I3.kIn, ?_⟩
  rw [hks]
  exact run_fnkS (us := .ref a :: us) (vs := .ref a :: vs) (E := WE W.W) G hr hb (passAt tk σ) I3 (.cons rfl r) rz q3
theorem methk_mk {P : Program} {w : World} {K : PySem.W.Frag} {mg : Str → Option Value} {base : Heap} {c m qual : Str} {st : Stmt} {C fI g : Addr} {fs : List Str} {fd : FuncData} {ps ks : List Str} {k np nn n : Nat} {b : SM} (hm : mg c = some (.ref C)) (B : ClsB K C fI fs) (q : methB K C g m = true) (F : Fun K m qual st g fd)
    (hb : ∀ (kV doc pm : Value) (an : Option Addr) (cdv ct : Value) (us ws : List Value), us.length = n + 1 → ws.length = ks.length → bindArgs (PySem.W.fnOf m qual (defArgs st) (defBody st) (defScope st) .none kV doc pm an cdv ct) ⟨us, ks.zip ws⟩ = pure (ps.zip (us ++ ws)))
    (G : FnOk P w K mg base (L2.CX P w) k g fd ps (spM ⟨K, mg⟩ ps.length (fnM np nn b))) (hnp : np = ps.length) (hl : ps.length = n + 1 + ks.length) (hp : ps ≠ []) : MethK P w K mg base c m n ks k (fnM np nn b) := by
  unfold methB at q
  simp only [Bool.and_eq_true, decide_eq_true_eq] at q
  obtain ⟨q1, q2, q3⟩ := q
  refine ⟨C, g, fd, ps, hm, B.cl, ⟨q1, q2, q3⟩, kb_mk hp (fun s us ws h1 h2 => ?_), G, hl, fun ds h hd => by unfold fnM; rw [hnp, if_neg hd]⟩
  obtain ⟨oc, od, kV, doc, pm, an, cdv, ct, osl, rfl, _, _⟩ := F.ex
  exact .of_eq (hb _ _ _ _ _ _ us ws h1 h2)
end
end ML

/-! ML 41: o[i] by an own __getitem__ -/
namespace ML
open PySem PySem.Spec PyProof.Rows L2
structure GetC (P : Program) (w : World) (K : PySem.W.Frag) (mg : Str → Option Value) (base : Heap) (c : Str) (k : Nat) (f : FM) : Prop where
  ex : ∃ C g fd ps, mg c = some (.ref C) ∧ Meth K C "__getitem__" g ∧ PySem.W.fnIn K g = true ∧ Binds K fd ps [] ∧ ps.length = 2 ∧ FnOk P w K mg base (L2.CX P w) k g fd ps (spM ⟨K, mg⟩ ps.length f)
def getF (t : List (Str × FM)) : D → D → MH → R D := fun x y h => match insCl x h with
  | some c => (match t.lookup c with
    | some f => (match f [x, y] h with
      | .ok d h' => .ok d h'
      | _ => .bad)
    | none => .bad)
  | none => .bad
section
variable {X : Cx} {W : Wx} {o i : Expr} {mo mi : EM} {pos : Pos} {k : Nat} {t : List (Str × FM)}
theorem run_get {pins : List (Addr × Obj)} {σ : L2.St} {H : Hp} {s : Shared} {g : Addr} {fd : FuncData} {ps : List Str} {sp : Sp} {x y : V} {u v : Value} {Q : VK} (F : FnOk X.prog X.w X.K X.mg X.base (L2.CX X.prog X.w) k g fd ps sp) (hb : Binds X.K fd ps []) (hl : ps.length = 2) (hr : Room (k + 1) X.A) (I : Inv X pins σ H s) (rx : RelV x u) (ry : RelV y v)
    (h : sp [x, y] H Q noE) : wpAny (model X.prog X.w) X.A.in1 (call (.ref g) [u, v]) (EP X pins σ Q) X.xe s := by
  have b := hb s [u, v] I.kIn (by simpa using hl.symm)
  rw [List.append_nil] at b
  refine wpAny_call (codeAny_mono (F.run X.A.in1 X.stack s H ⟨[u, v], []⟩ [u, v] [x, y] Q noE hr.in1 I.env0.in1 b (.cons rx (.cons ry .nil)) h) fun r s' hq => ?_)
  cases r with
  | ok fl => cases fl <;> first | exact I.after hq | exact hq.elim
  | error e => exact (cx_no hq).elim
theorem e_get (F : ∀ p ∈ t, GetC X.prog X.w X.K X.mg X.base p.1 k p.2) (hr : Room (k + 1) X.A) (ho : PE X o (tE (gd X) W mo)) (hi : PE X i (tE (gd X) W mi))
    (hsl : ∀ ov iv, subscripted i true ov iv = runValue (.builtin "lifetime.subscript" ⟨[ov, iv], []⟩) := by intro _ _; with_unfolding_all rfl) :
    PE X (.Subscript o i pos) (tE (gd X) W (bin (getF t) mo mi)) := by
  refine ⟨fun pins s σ H Q I q => ?_⟩
  have q0 : tE (gd X) W mo σ H fun vx H1 => tE (gd X) W mi σ H1 fun vy H2 => ∃ ρ h x y, RH (gd X) ρ H2 h ∧ RD (gd X) ρ H2 x vx ∧ RD (gd X) ρ H2 y vy ∧ ∃ c f d h', insCl x h = some c ∧ t.lookup c = some f ∧ f [x, y] h = .ok d h' ∧ Post (gd X) (RD (gd X)) (fun c d H' => W.W c d σ H') ρ H2 (.ok d h') Q := by
    refine one q fun ρ e H h x vx s hh rx p => ?_
    refine ⟨ρ, e, h, s, hh, p.bind.mono fun vy H2 q => ?_⟩
    obtain ⟨ρ1, y, h1, l1, hh1, ry, p1⟩ := q
    refine ⟨ρ1, h1, x, y, hh1, l1.rd x rx, ry, ?_⟩
    unfold getF at p1
    split at p1
    · rename_i c hc
      split at p1
      · rename_i f hf
        split at p1
        · rename_i d h' he
          exact ⟨c, f, d, h', hc, hf, he, p1⟩
        · exact p1.elim
      · exact p1.elim
    · exact p1.elim
  refine Subscript_ (wpAny_mono (ho.run pins s σ H _ I q0) (fun u s1 z => ?_) fun _ _ x => x)
  obtain ⟨vx, H1, I1, rv, q1⟩ := z
  refine wpAny_mono (hi.run pins s1 σ H1 _ I1 q1) (fun v s2 z => ?_) fun _ _ x => x
  obtain ⟨vy, H2, I2, rw', ρ, h, x, y, hh, rx, ry, c, f, d, h', hc, hf, he, p⟩ := z
  unfold insCl at hc
  split at hc
  · rename_i n
    obtain ⟨a, e1, e2⟩ := RD_ref rx
    split at hc
    · rename_i c' fs hn
      cases hc
      obtain ⟨C, dx, gs, mc, ea, rp⟩ := hh.obj n _ a hn e1
      obtain ⟨C', g, fd, ps, mc', hm, hfn, hb, h2, G⟩ := (F _ (lookMem hf)).ex
      have mcc := (show X.mg _ = some (.ref C) from mc).symm.trans mc'
      cases mcc
      subst e2
      obtain rfl : u = Value.ref a := rv
      obtain ⟨mA, J, _⟩ := ins_get I2.hok ea
      obtain ⟨od, J, _⟩ := J.look
      obtain ⟨m, hF⟩ := I2.fr
      refine PySem.W.sub_K hF I.ok.mod.kin J hm.at_ hfn hm.fn ?_ (hsl _ _)
      refine run_get G hb h2 hr I2 (show RelV (.ref a) (.ref a) from rfl) rw' ?_
      refine ⟨h2.symm ▸ rfl, ρ, [.ref n, y], h, .cons rx (.one ry), hh, ?_⟩
      show Post _ _ _ ρ H2 (f [.ref n, y] h) Q
      rw [he]
      exact p
    · cases hc
  · cases hc
def getB (K : PySem.W.Frag) (C g : Addr) : Bool := methB K C g "__getitem__" && PySem.W.fnIn K g
theorem getc_mk {P : Program} {w : World} {K : PySem.W.Frag} {mg : Str → Option Value} {base : Heap} {c : Str} {C g : Addr} {fd : FuncData} {ps : List Str} {k np n : Nat} {b : SM} (hm : mg c = some (.ref C)) (q : getB K C g = true) (hb : Binds K fd ps []) (G : FnOk P w K mg base (L2.CX P w) k g fd ps (spM ⟨K, mg⟩ ps.length (fnM np n b))) (h2 : ps.length = 2) : GetC P w K mg base c k (fnM np n b) := by
  unfold getB methB at q
  simp only [Bool.and_eq_true, decide_eq_true_eq] at q
  obtain ⟨⟨q1, q2, q3⟩, q4⟩ := q
  exact ⟨C, g, fd, ps, hm, ⟨q1, q2, q3⟩, q4, hb, h2, G⟩
end
end ML

/-! ML 42: {.. for k in d} over a dict d, which is locked meanwhile -/
namespace ML
open PySem PySem.Spec PyProof.Rows L2
def keyD : Key → D
  | .inl i => .int i
  | .inr s => .str s
theorem keyD_rd {g : Gd} {ρ : List Addr} {H : Hp} (k : Key) : RD g ρ H (keyD k) (kV k) := by
  cases k <;> (unfold keyD RD; rfl)
/-- the keys of the dict at n, which is out of reach meanwhile -/
def keysI (kvs : List (Key × D)) (n : Nat) (m : EM) : IM := fun e h => (m e h).bind fun x h1 => match x with
  | .ref n' => if n' = n then .ok ⟨kvs.map fun kv => keyD kv.1, []⟩ h1 else .bad
  | _ => .bad
/-- while the dict at d is locked -/
def lkW (W : WX) (n : Nat) (d : Addr) (od : Obj) (ws : List (Key × V)) : Wx := ⟨W, fun ρ H _ => ρ[n]? = some d ∧ H d = some (.frz od (.dK ws)), fun _ _ _ _ _ _ l q => ⟨l.at q.1, l.frz _ _ _ q.2⟩⟩
theorem RP.keys {g : Gd} {ρ : List Addr} {H : Hp} : ∀ {kvs : List (Key × D)} {ws : List (Key × V)}, RP g ρ H kvs ws → kvs.map (·.1) = ws.map (·.1)
  | [], ws, q => by have q' : ws = [] := q; subst q'; rfl
  | (k, d) :: kvs, ws, q => by
    obtain ⟨v, t, e, _, q2⟩ := q
    subst e
    rw [List.map_cons, List.map_cons, RP.keys q2]
section
variable {X : Cx} {W : Wx} {tg l : Expr} {m : EM} {n : Nat} {d : Addr} {od : Obj} {ws : List (Key × V)} {kvs : List (Key × D)}
theorem wk_keys {g : Gd} {ρ : List Addr} {H : Hp} (hd : H d = some (.frz od (.dK ws))) (hk : kvs.map (·.1) = ws.map (·.1)) : WkD g ρ H ⟨kvs.map fun kv => keyD kv.1, []⟩ (Itk d od ws) := by
  have hl : kvs.length = ws.length := by simpa using congrArg List.length hk
  refine ⟨fun H => H d = some (.frz od (.dK ws)), fun i H x H' => H' = H ∧ ∃ k v, ws[i]? = some (k, v) ∧ x = kV k, ⟨fun i H hi q => ⟨q, by rw [List.length_map] at hi; omega⟩, fun H q => ⟨q, by show ws.length ≤ (kvs.map _).length; rw [List.length_map]; omega⟩, fun _ _ _ _ _ _ y => y⟩, fun ρ2 H2 h2 l2 _ _ => l2.frz _ _ _ hd, fun i H2 x H3 ρ2 h2 dd l2 hh _ y e => ?_⟩
  obtain ⟨e1, k, v, e2, e3⟩ := y
  subst e1 e3
  refine ⟨Lat.refl, hh, ?_⟩
  have e : (kvs.map fun kv => keyD kv.1)[i]? = some dd := e
  have ek : (kvs.map (·.1))[i]? = some k := by rw [hk, List.getElem?_map, e2]; rfl
  rw [List.getElem?_map] at e ek
  cases z : kvs[i]? with
  | none => rw [z] at e; cases e
  | some kv =>
    rw [z] at e ek
    cases e
    cases ek
    exact keyD_rd _
theorem i_keys {W0 : WX} (hm : PE X l (tE (gd X) (lkW W0 n d od ws) m)) (hk : kvs.map (·.1) = ws.map (·.1)) : PI X tg l (iM (gd X) (lkW W0 n d od ws) (keysI kvs n m)) :=
  PI_of (pi_keys hm) fun σ H Q q => by
    refine one q fun ρ e H h x vx s hh rx p => ?_
    split at p
    · rename_i n'
      split at p
      · rename_i hn
        subst hn
        obtain ⟨a, e1, e2⟩ := RD_ref rx
        have j := s.j
        have ea : a = d := Option.some.inj (e1.symm.trans j.1)
        subst ea
        exact ⟨a, od, e2, .inl ⟨ws, j.2, p.okk hh (wk_keys j.2 hk)⟩⟩
      · exact p.elim
    · exact p.elim
end
/-! locking -/
section
variable {g : Gd} {ρ ρ' : List Addr} {H H' : Hp} {h h2 : MH} {n : Nat} {d : Addr} {od : Obj} {ws : List (Key × V)} {kvs : List (Key × D)}
theorem RH.lock (q : RH g ρ H h) (e1 : h[n]? = some (.dct kvs)) (e2 : ρ[n]? = some d) (e3 : H d = some (.dK ws)) : RH g ρ (L2.upd H d (.frz od (.dK ws))) (h.set n .gone) := by
  have hn : n < h.length := (List.getElem?_eq_some_iff.mp e1).1
  have back : ∀ {k : Nat} {y : O}, (h.set n .gone)[k]? = some y → y = .gone ∨ (k ≠ n ∧ h[k]? = some y) := fun {k y} z => by
    by_cases hk : k = n
    · subst hk
      rw [List.getElem?_set_self hn] at z
      exact .inl (Option.some.inj z).symm
    · rw [List.getElem?_set_ne (Ne.symm hk)] at z
      exact .inr ⟨hk, z⟩
  have lat : Lat g ρ H ρ (L2.upd H d (.frz od (.dK ws))) := Lat.upd (Soft.dK e3)
  refine ⟨by rw [q.len, List.length_set], fun k y x z1 z2 => ?_, fun k j y y' x z1 z2 w1 w2 z3 z4 => ?_⟩
  · rcases back z1 with hy | ⟨hk, z⟩
    · subst hy; exact True.intro
    · have r := q.obj k y x z z2
      by_cases my : y.mut = true
      · have hx : x ≠ d := fun w => by
          subst w
          exact hk (q.inj k n y _ x z e1 my rfl z2 e2)
        exact lat.ro (fun u e => by rw [upd_ne hx]; exact e) y r
      · cases y with
        | lst l => exact absurd rfl my
        | rdl l => obtain ⟨vs, e, r⟩ := r; exact ⟨vs, lat.rdl e, lat.rds l r⟩
        | dct l => exact absurd rfl my
        | ins c fs => exact absurd rfl my
        | xc c fs => exact lat.ro' (by assumption)
        | gone => exact True.intro
  · rcases back z1 with hy | ⟨hk, z⟩
    · subst hy; cases w1
    · rcases back z2 with hy | ⟨hj, z'⟩
      · subst hy; cases w2
      · exact q.inj k j y y' x z z' w1 w2 z3 z4
theorem sq_unl (fz : H' d = some (.frz od (.dK ws))) {x : Addr} {xs : List V} (q : SqT g.K H' x xs) : SqT g.K (L2.upd H' d (.dK ws)) x xs := by
  have ne : ∀ {u : HO}, H' x = some u → u ≠ .frz od (.dK ws) → x ≠ d := fun e hu z => by
    subst z
    rw [fz] at e
    exact hu (Option.some.inj e).symm
  rcases q with (q | ⟨o, q⟩) | q
  · exact .inl (.inl (by rw [upd_ne (ne q fun z => nomatch z)]; exact q))
  · exact .inl (.inr ⟨o, by rw [upd_ne (ne q fun z => by cases z)]; exact q⟩)
  · exact .inr q
mutual
theorem rd_unl (fz : H' d = some (.frz od (.dK ws))) : ∀ (x : D) {v : V}, RD g ρ H' x v → RD g ρ (L2.upd H' d (.dK ws)) x v
  | .non, _, q => q
  | .bl _, _, q => q
  | .int _, _, q => q
  | .str _, _, q => q
  | .ty _, _, q => q
  | .tup l, _, q => by
    unfold RD at q ⊢
    obtain ⟨x, vs, e, s, r⟩ := q
    exact ⟨x, vs, e, sq_unl fz s, rds_unl fz l r⟩
  | .ref n, _, q => by
    unfold RD at q ⊢
    exact q
  | .glb _, _, q => by
    unfold RD at q ⊢
    exact q
theorem rds_unl (fz : H' d = some (.frz od (.dK ws))) : ∀ (l : List D) {vs : List V}, RDs g ρ H' l vs → RDs g ρ (L2.upd H' d (.dK ws)) l vs
  | [], _, q => by
    unfold RDs at q ⊢
    exact q
  | x :: l, _, q => by
    unfold RDs at q ⊢
    obtain ⟨v, r, e, q1, q2⟩ := q
    exact ⟨v, r, e, rd_unl fz x q1, rds_unl fz l q2⟩
end
theorem rp_unl {α : Type} (fz : H' d = some (.frz od (.dK ws))) : ∀ (l : List (α × D)) {vs : List (α × V)}, RP g ρ H' l vs → RP g ρ (L2.upd H' d (.dK ws)) l vs
  | [], _, q => q
  | (f, x) :: l, _, q => by
    obtain ⟨v, r, e, q1, q2⟩ := q
    exact ⟨v, r, e, rd_unl fz x q1, rp_unl fz l q2⟩
theorem RH.unlock (q : RH g ρ H' h2) (e1 : h2[n]? = some .gone) (e2 : ρ[n]? = some d) (fz : H' d = some (.frz od (.dK ws))) (r : RP g ρ H' kvs ws) : RH g ρ (L2.upd H' d (.dK ws)) (h2.set n (.dct kvs)) := by
  have hn : n < h2.length := (List.getElem?_eq_some_iff.mp e1).1
  have back : ∀ {k : Nat} {y : O}, (h2.set n (.dct kvs))[k]? = some y → (k = n ∧ y = .dct kvs) ∨ (k ≠ n ∧ h2[k]? = some y) := fun {k y} z => by
    by_cases hk : k = n
    · subst hk
      rw [List.getElem?_set_self hn] at z
      exact .inl ⟨rfl, (Option.some.inj z).symm⟩
    · rw [List.getElem?_set_ne (Ne.symm hk)] at z
      exact .inr ⟨hk, z⟩
  have ne : ∀ {x : Addr} {u : HO}, H' x = some u → u ≠ .frz od (.dK ws) → x ≠ d := fun e hu z => by
    subst z
    rw [fz] at e
    exact hu (Option.some.inj e).symm
  have mutne : ∀ {k : Nat} {y : O} {x : Addr}, h2[k]? = some y → y.mut = true → ρ[k]? = some x → x ≠ d := fun {k y x} z my z2 => by
    have r := q.obj k y x z z2
    cases y with
    | lst l => obtain ⟨vs, e, _⟩ := r; exact ne e fun z => nomatch z
    | dct l => obtain ⟨vs, e, _⟩ := r; exact ne e fun z => nomatch z
    | ins c fs => obtain ⟨C, dx, gs, _, e, _⟩ := r; exact ne e fun z => nomatch z
    | rdl l => cases my
    | xc c fs => cases my
    | gone => cases my
  refine ⟨by rw [q.len, List.length_set], fun k y x z1 z2 => ?_, fun k j y y' x z1 z2 w1 w2 z3 z4 => ?_⟩
  · rcases back z1 with ⟨hk, hy⟩ | ⟨hk, z⟩
    · subst hk hy
      have ex : x = d := Option.some.inj (z2.symm.trans e2)
      subst ex
      exact ⟨ws, upd_same, rp_unl fz _ r⟩
    · have r := q.obj k y x z z2
      cases y with
      | lst l => obtain ⟨vs, e, r⟩ := r; exact ⟨vs, by rw [upd_ne (ne e fun z => nomatch z)]; exact e, rds_unl fz l r⟩
      | dct l => obtain ⟨vs, e, r⟩ := r; exact ⟨vs, by rw [upd_ne (ne e fun z => nomatch z)]; exact e, rp_unl fz l r⟩
      | ins c fs => obtain ⟨C, dx, gs, e0, e, r⟩ := r; exact ⟨C, dx, gs, e0, by rw [upd_ne (ne e fun z => nomatch z)]; exact e, rp_unl fz fs r⟩
      | rdl l =>
        obtain ⟨vs, e, r⟩ := r
        refine ⟨vs, ?_, rds_unl fz l r⟩
        rcases e with ⟨o, e⟩ | e
        · exact .inl ⟨o, by rw [upd_ne (ne e fun z => by cases z)]; exact e⟩
        · exact .inr e
      | xc c fs =>
        obtain ⟨C, dx, gs, e0, e, e', r⟩ := r
        refine ⟨C, dx, gs, e0, ?_, ?_, rp_unl fz fs r⟩
        · rw [upd_ne (ne e fun z => nomatch z)]; exact e
        · rw [upd_ne (ne e' fun z => nomatch z)]; exact e'
      | gone => exact True.intro
  · rcases back z1 with ⟨hk, hy⟩ | ⟨hk, z⟩
    · rcases back z2 with ⟨hj, hy'⟩ | ⟨hj, z'⟩
      · rw [hk, hj]
      · exfalso
        have := mutne z' w2 z4
        subst hk
        exact this (Option.some.inj (z3.symm.trans e2))
    · rcases back z2 with ⟨hj, hy'⟩ | ⟨hj, z'⟩
      · exfalso
        have := mutne z w1 z3
        subst hj
        exact this (Option.some.inj (z4.symm.trans e2))
      · exact q.inj k j y y' x z z' w1 w2 z3 z4
theorem Lat.unlock (e3 : H d = some (.dK ws)) (l : Lat g ρ (L2.upd H d (.frz od (.dK ws))) ρ' H') : Lat g ρ H ρ' (L2.upd H' d (.dK ws)) := by
  have ne : ∀ {x : Addr} {u : HO}, H x = some u → u ≠ .dK ws → x ≠ d := fun e hu z => by
    subst z
    rw [e3] at e
    exact hu (Option.some.inj e).symm
  refine ⟨l.pre, fun a xs e => ?_, fun a o u e => ?_, fun a fs e => ?_, fun a φ e => ?_⟩
  · have na := ne e fun z => nomatch z
    rw [upd_ne na]
    exact l.tup a xs (by rw [upd_ne na]; exact e)
  · have na := ne e fun z => nomatch z
    rw [upd_ne na]
    exact l.frz a o u (by rw [upd_ne na]; exact e)
  · have na := ne e fun z => nomatch z
    rw [upd_ne na]
    exact l.xd a fs (by rw [upd_ne na]; exact e)
  · have na := ne e fun z => nomatch z
    rw [upd_ne na]
    exact l.ext a φ (by rw [upd_ne na]; exact e)
end
def dckE (own : List Nat) (m : EM) (tg : GM) (tst : TM) (ky vl : EM) : EM := fun e h => match m e h with
  | .ok (.ref n) _ => (match h[n]? with
    | some (.dct kvs) => (match dcE own (keysI kvs n m) tg tst ky vl e (h.set n .gone) with
      | .ok v h2 => (match h2[n]? with
        | some .gone => .ok v (h2.set n (.dct kvs))
        | _ => .bad)
      | _ => .bad)
    | _ => .bad)
  | _ => .bad
section
variable {X : Cx} {W : Wx} {tg l kx vx : Expr} {ifs : List Expr} {scope : Scope} {own : List (Str × Nat)} {pos : Pos} {m : EM} {mg : GM} {mt : TM} {mk mv : EM}
theorem e_dck (hc : X.calm = true) (hN : X.N.Nodup) (hm : ∀ W : Wx, PE X l (tE (gd X) W m)) (ok : BlkOk X.N X.env.scope scope own)
    (hg : ∀ (s : Shared) (H : Hp) (C : Addr) (cl : List (Str × Addr)) (fp : List Addr), PG (X.blk s H scope (compEnvC scope cl C X.env) fp) tg (tGm (gd X) (own.map (·.2)) mg))
    (ht : ∀ (s : Shared) (H : Hp) (C : Addr) (cl : List (Str × Addr)) (fp : List Addr), PTs (X.blk s H scope (compEnvC scope cl C X.env) fp) ifs (tT (gd X) (pl noW) mt))
    (hk : ∀ (s : Shared) (H : Hp) (C : Addr) (cl : List (Str × Addr)) (fp : List Addr), PE (X.blk s H scope (compEnvC scope cl C X.env) fp) kx (tE (gd X) (pl noW) mk))
    (he : ∀ (s : Shared) (H : Hp) (C : Addr) (cl : List (Str × Addr)) (fp : List Addr), PE (X.blk s H scope (compEnvC scope cl C X.env) fp) vx (tE (gd X) (pl noW) mv)) (hs : ∀ x, foldedSetIterable l X.env x = pure x := by intro _; rfl) :
    PE X (.DictComp kx vx [⟨tg, l, ifs, 0⟩] scope pos) (tE (gd X) W (dckE (own.map (·.2)) m mg mt mk mv)) := by
  have all : PE X (.DictComp kx vx [⟨tg, l, ifs, 0⟩] scope pos) (fun σ H Q => ∃ (kvs : List (Key × D)) (n : Nat) (d : Addr) (od : Obj) (ws : List (Key × V)), kvs.map (·.1) = ws.map (·.1) ∧ tE (gd X) (lkW noW n d od ws) (dcE (own.map (·.2)) (keysI kvs n m) mg mt mk mv) σ H Q) := ⟨fun pins s σ H Q I q => by
    obtain ⟨kvs, n, d, od, ws, hkw, q⟩ := q
    exact (e_dc hc hN (i_keys (hm _) hkw) ok hg ht hk he hs).run pins s σ H Q I q⟩
  refine PE_of (pe_lock all) fun σ H Q q => ?_
  obtain ⟨ρ, e, h, s, hh, p⟩ := q
  unfold dckE at p
  split at p
  · rename_i n _ hmn
    split at p
    · rename_i kvs hkv
      obtain ⟨d, ed⟩ : ∃ d, ρ[n]? = some d := ⟨_, List.getElem?_eq_getElem (by rw [hh.len]; exact (List.getElem?_eq_some_iff.mp hkv).1)⟩
      obtain ⟨ws, e3, rp⟩ := hh.obj n _ d hkv ed
      refine ⟨d, .dK ws, e3, True.intro, fun od => ⟨kvs, n, d, od, ws, RP.keys rp, ρ, e, h.set n .gone, ⟨(Lat.upd (Soft.dK e3)).rs s.s, ed, upd_same⟩, hh.lock hkv ed e3, ?_⟩⟩
      split at p
      · rename_i v h2 hdc
        split at p
        · rename_i hgn
          rw [hdc]
          intro ρ' vv H' l hh' rv
          have fz := l.frz d od _ upd_same
          refine ⟨fz, p ρ' vv _ (Lat.unlock e3 l) (hh'.unlock hgn (l.at ed) fz ?_) (rd_unl fz v rv)⟩
          exact l.rp _ ((Lat.upd (Soft.dK e3)).rp _ rp)
        · exact p.elim
      · exact p.elim
    · exact p.elim
  · exact p.elim
end
end ML

/-! ML 43: text * int, repr of truth values -/
namespace ML
open PySem PySem.Spec PyProof.Rows L2
def mulF3 : D → D → MH → R D := fun x y h => match x, y with
  | .str z, .int n => if 2 ≤ n ∧ n ≤ 1000 ∧ 1 ≤ z.length ∧ z.length ≤ 1000 then .ok (.str (Txt.mul z n)) h else .bad
  | x, y => mulF2 x y h
def rMulS : R2 := fun x y H Q => ∃ z n, x = .str z ∧ y = .int n ∧ 2 ≤ n ∧ n ≤ 1000 ∧ 1 ≤ z.length ∧ z.length ≤ 1000 ∧ Q (.str (Txt.mul z n)) H
section
variable {X : Cx} {W : Wx} {a : Expr} {m : EM} {p pos : Pos}
theorem op_mulS : OpR X (binaryOp .Mult) rMulS := by
  intro pins s σ H x y v u Q I rx ry h
  obtain ⟨z, n, rfl, rfl, n2, n3, z1, z2, q⟩ := h
  obtain ⟨t, rfl⟩ := rx
  obtain ⟨t', rfl⟩ := ry
  refine SB.mul ⟨by simp; omega, fun _ _ c => ?_, fun _ _ => ?_⟩ fun t' k => ⟨V.str (Txt.mul z n), H, I.tok _, ⟨t', rfl⟩, q⟩
  · have h1 : (2 ^ 63 - 1 : Int) / n * n > 2 ^ 63 - 1 - n := by
      have := Int.emod_add_mul_ediv (2 ^ 63 - 1 : Int) n
      have := Int.emod_lt_of_pos (2 ^ 63 - 1 : Int) (show 0 < n by omega)
      have e := Int.mul_comm ((2 ^ 63 - 1 : Int) / n) n
      omega
    have h2 : ((2 ^ 63 - 1 : Int) / n) ≤ 1000 := by omega
    have h3 : (2 ^ 63 - 1 : Int) / n * n ≤ 1000 * n := Int.mul_le_mul_of_nonneg_right h2 (by omega)
    omega
  · have e : n.toNat ≤ 1000 := by omega
    have := Nat.mul_le_mul z2 e
    unfold Builtin.Str.tooLong
    simp
    have := sizeLine_eq
    omega
theorem rf_mul3 : RF2 (gd X) mulF3 (fun x y H Q => ((((rI CMulM fun i j => .int (i * j)) x y H Q ∨ rRep x y H Q) ∨ rRepT X.K x y H Q) ∨ rMulS x y H Q)) := fun Wf Q ρ H h x y vx vy hh rx ry p => by
  unfold mulF3 at p
  split at p
  · split at p
    · rename_i z n c
      rw [RD_str rx, RD_int ry]
      exact .inr ⟨z, n, rfl, rfl, c.1, c.2.1, c.2.2.1, c.2.2.2, p.okk hh .strN⟩
    · exact p.elim
  · exact .inl (rf_mul2 Wf Q ρ H h _ y vx vy hh rx ry p)
def reprF3 : D → MH → R D := fun x h => match x with
  | .bl b => .ok (.str (if b then "True" else "False")) h
  | x => reprF2 x h
theorem e_repr3 (hgd : X.A.guards = some []) (hu : X.A.units + 64 < cLine) (hg : Gl X "repr") (hm : X.mg "repr" = none) (ha : PE X a (tE (gd X) W m)) (hs : starEach [a] X.env = (false, eval a X.env) :: starEach [] X.env := by rfl) :
    PE X (.Call (.Name "repr" p) [a] [] pos) (tE (gd X) W (un reprF3 m)) := by
  have cr : CallR X (.builtin "repr") (fun xs H Q => (rRp (gd X) xs H Q ∨ rRpT (gd X) xs H Q) ∨ ∃ b, xs = [.bl b] ∧ Q (.str (if b then "True" else "False")) H) := by
    intro pins s σ H xs us Q I r h
    rcases h with (h | h) | h
    · exact call_reprM hgd hu pins s σ H xs us Q I r h
    · exact call_reprT hgd hu pins s σ H xs us Q I r h
    · obtain ⟨b, rfl, q⟩ := h
      obtain ⟨u, rfl, ru⟩ := vals1 r
      obtain rfl : u = Value.bool b := ru
      exact P.repr_of_bool ⟨V.str (if b then "True" else "False"), H, I.tok _, ⟨_, rfl⟩, q⟩
  refine PE_of (pe_callB cr hg hm (by decide +kernel) (pa_cons ha pa_nil hs) (by decide) (by decide) hs rfl) fun σ H Q q => ?_
  refine one q fun ρ e H h x vx s hh rx p => ?_
  unfold reprF3 at p
  split at p
  · refine .inr ⟨_, ?_, p.okk hh .strN⟩
    unfold RD at rx
    rw [rx]
  · refine .inl ?_
    unfold reprF2 at p
    split at p
    · rename_i l _
      split at p
      · rename_i pd hp
        exact .inr ⟨ρ, h, l, pd, vx, hh, rfl, rx, hp, p.okk hh .strN⟩
      · exact p.elim
    · unfold reprF at p
      split at p
      · rename_i n hx _
        obtain ⟨a, e1, e2⟩ := RD_ref rx
        split at p
        · rename_i d l hl
          split at p
          · rename_i pd hp
            subst e2
            exact .inl ⟨ρ, h, n, d, l, pd, a, hh, rfl, e1, hl, hp, p.okk hh .strN⟩
          · exact p.elim
        · exact p.elim
      · exact p.elim
end
end ML

/-! ML 44: d.get(k); levels of callers -/
namespace ML
open PySem PySem.Spec PyProof.Rows L2
def dgetF : D → List D → MH → R D := fun x xs h => match x, xs with
  | .ref n, [y] => (match h[n]? with
    | some (.dct l) => (match keyOf y with
      | some k => .ok ((findK l k).getD .non) h
      | none => .bad)
    | _ => .bad)
  | _, _ => .bad
def rDgetM : V → List V → Hp → VK → Prop := fun x xs H Q => ∃ a y o, x = .ref a ∧ xs = [y] ∧ DGet H a y o ∧ Q (o.getD .non) H
section
variable {X : Cx} {g : Gd}
theorem mt_dget (hu : X.A.units + 64 < cLine) : MtR X "dict.get" rDgetM := by
  intro pins s σ H x xs v us Q I rx rv h
  obtain ⟨a, y, o, rfl, rfl, d, q⟩ := h
  obtain rfl : v = Value.ref a := rx
  obtain ⟨u, rfl, ru⟩ := vals1 rv
  exact d_get1 (by omega) I d ru fun w' s3 I3 rw' => ⟨_, H, I3, rw', q⟩
theorem rf_dget : RFm g dgetF rDgetM := fun Wf Q ρ H h x xs vx vs hh rx rxs p => by
  unfold dgetF at p
  split at p
  · rename_i n y
    split at p
    · rename_i l hl
      split at p
      · rename_i k hk
        obtain ⟨a, e1, e2⟩ := RD_ref rx
        obtain ⟨ws, e3, rp⟩ := hh.obj n _ a hl e1
        obtain ⟨v, e4, r4⟩ := rxs.inv1
        refine ⟨a, v, valV ws k, e2, e4, by rw [keyOf_v r4 hk]; exact DGet.k e3, ?_⟩
        rcases rp.find (k := k) with ⟨d, w, f1, f2, r⟩ | ⟨f1, f2⟩
        · rw [f1] at p
          rw [f2]
          exact p.okk hh r
        · rw [f1] at p
          rw [f2]
          exact p.okk hh (show RD g ρ H .non .non from by unfold RD; rfl)
      · exact p.elim
    · exact p.elim
  · exact p.elim
end
section
variable {P : Program} {w : World} {K : PySem.W.Frag} {mg : Str → Option Value} {base : Heap} {c m : Str} {n j k : Nat} {ks : List Str} {f : FM}
theorem MethK.up (M : MethK P w K mg base c m n ks j f) (h : j ≤ k) : MethK P w K mg base c m n ks k f := by
  obtain ⟨C, g, fd, ps, a, b, d, e, G, l, z⟩ := M.ex
  exact ⟨C, g, fd, ps, a, b, d, e, G.mono h, l, z⟩
theorem GetC.up (M : GetC P w K mg base c j f) (h : j ≤ k) : GetC P w K mg base c k f := by
  obtain ⟨C, g, fd, ps, a, b, d, e, l, G⟩ := M.ex
  exact ⟨C, g, fd, ps, a, b, d, e, l, G.mono h⟩
end
end ML

/-! ML 45: == and != of dicts, == of tuples with dicts -/
namespace ML
open PySem PySem.Spec PyProof.Rows L2
def eqK (f : D → D → Option Bool) (kb : List (Key × D)) : List (Key × D) → Option Bool
  | [] => some true
  | (k, x) :: r => match findK kb k with
    | none => some false
    | some y => (match f x y with
      | some a => (match eqK f kb r with
        | some b => some (a && b)
        | none => none)
      | none => none)
def eqDct (h : MH) (ka kb : List (Key × D)) : Option Bool := match eqK (eqv h deep) kb ka with
  | some b => some ((ka.length == kb.length) && b)
  | none => none
/-- two items of two tuples, dicts too -/
def eqI (h : MH) (x y : D) : Option Bool := match dctOf h x, dctOf h y with
  | some ka, some kb => if idRef x y = true then some true else eqDct h ka kb
  | _, _ => eqv h deep x y
def eqDT (h : MH) (x y : D) : Option Bool := match dctOf h x, dctOf h y with
  | some ka, some kb => eqDct h ka kb
  | _, _ => (match x, y with
    | .tup l, .tup m => (match eqZ (eqI h) l m with
      | some b => some (b && (l.length == m.length))
      | none => none)
    | _, _ => none)
def neDT (h : MH) (x y : D) : Option Bool := match dctOf h x, dctOf h y with
  | some ka, some kb => eqDct h ka kb
  | _, _ => none
def isTupD : D → Bool
  | .tup _ => true
  | _ => false
def isDD (h : MH) (x y : D) : Bool := (dctOf h x).isSome && (dctOf h y).isSome
def eqDF (f0 : D → D → MH → R D) : D → D → MH → R D := fun x y h => if (isDD h x y || (isTupD x && isTupD y)) = true then (match eqDT h x y with
  | some b => .ok (.bl b) h
  | none => .bad) else f0 x y h
def neDF (f0 : D → D → MH → R D) : D → D → MH → R D := fun x y h => if isDD h x y = true then (match neDT h x y with
  | some b => .ok (.bl (!b)) h
  | none => .bad) else f0 x y h
section
variable {X : Cx} {pins : List (Addr × Obj)} {σ : L2.St} {H : Hp} {s : Shared} {ρ : List Addr} {h : MH} {A : Around}
theorem valueAt_rel {ws : List (Key × V)} {vs : List (Key × Value)} (r : KV ws vs) (k : Key) : (∀ x, valV ws k = some x → ∃ u, valueAt vs k = some u ∧ RelV x u) ∧ (valV ws k = none → valueAt vs k = none) := by
  have q := r.val k
  cases e1 : valV ws k <;> cases e2 : valueAt vs k <;> rw [e1, e2] at q <;> first | exact q.elim | skip
  · exact ⟨fun x z => (nomatch z), fun _ => rfl⟩
  · refine ⟨fun x z => ?_, fun z => (nomatch z)⟩
    cases z
    exact ⟨_, rfl, q⟩
theorem hits_eq (I : Inv X pins σ H s) (hh : RH (gd X) ρ H h) (hu : A.units + deep < cLine) {kb : List (Key × D)} {wb : List (Key × V)} {vb : List (Key × Value)} (rb : RP (gd X) ρ H kb wb) (kvb : KV wb vb) :
    ∀ {ka : List (Key × D)} {wa : List (Key × V)} {va : List (Key × Value)} {b : Bool}, RP (gd X) ρ H ka wa → KV wa va → eqK (eqv h deep) kb ka = some b → PySem.W.KeqHits A s vb va b
  | [], wa, va, b, ra, kva, e => by
    have : wa = [] := ra
    subst this
    cases kva
    unfold eqK at e
    cases e
    exact .nil
  | (k, x) :: r, wa, va, b, ra, kva, e => by
    obtain ⟨v, s', e1, q1, q2⟩ := ra
    subst e1
    cases kva with
    | cons p1 p2 =>
      rename_i pv rest
      obtain ⟨k', u⟩ := pv
      obtain ⟨e3, e4⟩ := p1
      dsimp only at e3 e4
      subst e3
      unfold eqK at e
      have q := valueAt_rel kvb k
      rcases rb.find (k := k) with ⟨y, w, f1, f2, f3⟩ | ⟨f1, f2⟩
      · rw [f1] at e
        dsimp only at e
        cases z : eqv h deep x y with
        | none => rw [z] at e; cases e
        | some a =>
          rw [z] at e
          dsimp only at e
          cases z2 : eqK (eqv h deep) kb r with
          | none => rw [z2] at e; cases e
          | some c =>
            rw [z2] at e
            cases e
            obtain ⟨t, t1, t2⟩ := q.1 _ f2
            exact .hit t1 (eqv_at I hh deep A x y v w _ _ _ hu q1 f3 e4 t2 z) (hits_eq I hh hu rb kvb q2 p2 z2)
      · rw [f1] at e
        cases e
        exact .miss (q.2 f2)
theorem hits_in {prog : Program} {w : World} {K : Type} [DecidableEq K] {kb : List (K × Value)} : ∀ {r : List (K × Value)} {b : Bool}, PySem.W.KeqHits A s kb r b → PySem.W.KeqHitsIn prog w A s kb r b
  | _, _, .nil => .nil
  | _, _, .miss e => .miss e
  | _, _, .hit e1 e2 r => .hit e1 (e2.inModel prog w) (hits_in r)
theorem dct_at (I : Inv X pins σ H s) {a : Addr} {ws : List (Key × V)} (e : H a = some (.dK ws)) : (a == sysModules) = false ∧ ∃ vs, KV ws vs ∧ s.heap.DictOf (mixKind X.prog X.w) a vs :=
  let ⟨_, z, vs, r, d⟩ := (show ObjOk X.prog X.w H s.heap a (.dK ws) from I.hok a _ e)
  ⟨z, vs, r, d⟩
theorem kv_len {ka : List (Key × D)} {wa : List (Key × V)} {va : List (Key × Value)} (ra : RP (gd X) ρ H ka wa) (kva : KV wa va) : va.length = ka.length := by
  have := congrArg List.length ra.keys
  rw [List.length_map, List.length_map] at this
  rw [← kva.length, this]
theorem eqI_at (I : Inv X pins σ H s) (hh : RH (gd X) ρ H h) (hu : A.units + 2 + deep < cLine) {x y : D} {v w : V} {u t : Value} {b : Bool} (rx : RD (gd X) ρ H x v) (ry : RD (gd X) ρ H y w) (ru : RelV v u) (rt : RelV w t) (e : eqI h x y = some b) :
    SeqAt.EqIn X.prog X.w A s u t b := by
  unfold eqI at e
  split at e
  · rename_i ka kb ea eb
    obtain ⟨n, a, wa, x1, x2, x3, x4, x5, x6⟩ := dct_v hh rx ea
    obtain ⟨m, a', wb, y1, y2, y3, y4, y5, y6⟩ := dct_v hh ry eb
    subst x1 y1 x4 y4
    cases ru
    cases rt
    split at e
    · rename_i z
      have := idRef_eq z
      cases this
      rw [x3] at y3
      cases y3
      cases e
      exact (SeqAt.EqAt.same _).inModel _ _
    · rename_i z
      have hne : a ≠ a' := fun q => by
        subst q
        have := hh.inj n m _ _ a x2 y2 rfl rfl x3 y3
        subst this
        exact z (by unfold idRef; simp)
      unfold eqDct at e
      cases q : eqK (eqv h deep) kb ka with
      | none => rw [q] at e; cases e
      | some c =>
        rw [q] at e
        cases e
        obtain ⟨s1, va, k1, d1⟩ := dct_at I x5
        obtain ⟨s2, vb, k2, d2⟩ := dct_at I y5
        refine SeqAt.EqIn.of_refs hne fun E Q hq => PySem.W.keq_eqIn s1 s2 d1 d2 (by omega) (fun _ => hits_in (hits_eq (A := A.in1) I hh (by show A.units + 1 + deep < cLine; omega) y6 k2 x6 k1 q)) ?_
        rw [kv_len x6 k1, kv_len y6 k2]
        exact hq
  · exact (eqv_at I hh deep A x y v w _ _ _ (by omega) rx ry ru rt e).inModel _ _
theorem op_eqD (hu : X.A.units + 64 < cLine) : OpR X (compareOp .Eq) (rM (gd X) eqDT false) := by
  intro pins s σ H vx vy u t Q I ru rt hq
  obtain ⟨ρ, h, x, y, b, hh, rx, ry, e, qq⟩ := hq
  have fin : EP X pins σ Q (.bool b) s := ⟨.bl b, H, I, rfl, qq⟩
  have dp : deep = 12 := rfl
  unfold eqDT at e
  split at e
  · rename_i ka kb ea eb
    obtain ⟨n, a, wa, x1, x2, x3, x4, x5, x6⟩ := dct_v hh rx ea
    obtain ⟨m, a', wb, y1, y2, y3, y4, y5, y6⟩ := dct_v hh ry eb
    subst x1 y1 x4 y4
    cases ru
    cases rt
    unfold eqDct at e
    cases q : eqK (eqv h deep) kb ka with
    | none => rw [q] at e; cases e
    | some c =>
      rw [q] at e
      cases e
      obtain ⟨s1, va, k1, d1⟩ := dct_at I x5
      obtain ⟨s2, vb, k2, d2⟩ := dct_at I y5
      refine PySem.W.keq_eq s1 s2 d1 d2 (by omega) (fun _ => hits_eq (A := X.A.in1) I hh (by show X.A.units + 1 + deep < cLine; omega) y6 k2 x6 k1 q) ?_
      rw [kv_len x6 k1, kv_len y6 k2]
      exact fin
  · split at e
    · rename_i l m _
      cases z : eqZ (eqI h) l m with
      | none => rw [z] at e; cases e
      | some c =>
        rw [z] at e
        cases e
        obtain ⟨a, vs, e1, c1, r1⟩ := RD_tup rx
        obtain ⟨a', vs', e2, c2, r2⟩ := RD_tup ry
        subst e1 e2
        cases ru
        cases rt
        obtain ⟨its, rv, p, _⟩ := I.tuple c1
        obtain ⟨its', rv', p', _⟩ := I.tuple c2
        obtain ⟨ee, z1, z2⟩ := eqZ_map z
        have n1 : its.toArray.size = l.length := by rw [List.size_toArray, ← rv.length, r1.length]
        have n2 : its'.toArray.size = m.length := by rw [List.size_toArray, ← rv'.length, r2.length]
        refine SeqAt.rcIn_tuples (e := ee) p p' (by omega) (fun j h1 h2 => ?_) ?_
        · have h1' : j < its.length := by simpa using h1
          have h2' : j < its'.length := by simpa using h2
          obtain ⟨x1, v1, f1, f2, f3⟩ := vals_at rv r1 h1'
          obtain ⟨y1, w1, g1, g2, g3⟩ := vals_at rv' r2 h2'
          have := eqI_at (A := X.A.in1) I hh (by show X.A.units + 1 + 2 + deep < cLine; omega) f2 g2 f3 g3 (z1 j x1 y1 f1 g1)
          simpa using this
        · rw [n1, n2, ← z2]
          exact fin
    · cases e
theorem op_neD (hu : X.A.units + 64 < cLine) : OpR X (compareOp .NotEq) (rM (gd X) neDT true) := by
  intro pins s σ H vx vy u t Q I ru rt hq
  obtain ⟨ρ, h, x, y, b, hh, rx, ry, e, qq⟩ := hq
  have fin : EP X pins σ Q (.bool (!b)) s := ⟨.bl (!b), H, I, rfl, qq⟩
  have dp : deep = 12 := rfl
  unfold neDT at e
  split at e
  · rename_i ka kb ea eb
    obtain ⟨n, a, wa, x1, x2, x3, x4, x5, x6⟩ := dct_v hh rx ea
    obtain ⟨m, a', wb, y1, y2, y3, y4, y5, y6⟩ := dct_v hh ry eb
    subst x1 y1 x4 y4
    cases ru
    cases rt
    unfold eqDct at e
    cases q : eqK (eqv h deep) kb ka with
    | none => rw [q] at e; cases e
    | some c =>
      rw [q] at e
      cases e
      obtain ⟨s1, va, k1, d1⟩ := dct_at I x5
      obtain ⟨s2, vb, k2, d2⟩ := dct_at I y5
      refine PySem.W.keq_ne s1 s2 d1 d2 (by omega) (fun _ => hits_eq (A := X.A.in1) I hh (by show X.A.units + 1 + deep < cLine; omega) y6 k2 x6 k1 q) ?_
      rw [kv_len x6 k1, kv_len y6 k2]
      exact fin
  · cases e
variable {f0 : D → D → MH → R D}
theorem rf_D {r0 : R2} (h0 : RF2 (gd X) f0 r0) : RF2 (gd X) (eqDF f0) (fun x y H Q => rM (gd X) eqDT false x y H Q ∨ r0 x y H Q) := fun Wf Q ρ H h x y vx vy hh rx ry p => by
  unfold eqDF at p
  split at p
  · split at p
    · rename_i b e
      exact .inl ⟨ρ, h, x, y, b, hh, rx, ry, e, p.okk hh .blN⟩
    · exact p.elim
  · exact .inr (h0 _ _ _ _ _ _ _ _ _ hh rx ry p)
theorem rf_Dn {r0 : R2} (h0 : RF2 (gd X) f0 r0) : RF2 (gd X) (neDF f0) (fun x y H Q => rM (gd X) neDT true x y H Q ∨ r0 x y H Q) := fun Wf Q ρ H h x y vx vy hh rx ry p => by
  unfold neDF at p
  split at p
  · split at p
    · rename_i b e
      exact .inl ⟨ρ, h, x, y, b, hh, rx, ry, e, p.okk hh .blN⟩
    · exact p.elim
  · exact .inr (h0 _ _ _ _ _ _ _ _ _ hh rx ry p)
theorem opm_D (hu : X.A.units + 64 < cLine) (h : OpM X .Eq f0) : OpM X .Eq (eqDF f0) := by
  obtain ⟨r, h1, h2⟩ := h
  exact ⟨_, OpR.or (op_eqD hu) h1, rf_D h2⟩
theorem opm_Dn (hu : X.A.units + 64 < cLine) (h : OpM X .NotEq f0) : OpM X .NotEq (neDF f0) := by
  obtain ⟨r, h1, h2⟩ := h
  exact ⟨_, OpR.or (op_neD hu) h1, rf_Dn h2⟩
end
end ML

/-! ML 46: list.index of a scalar -/
namespace ML
open PySem PySem.Spec PyProof.Rows L2
def idxN (y : D) : List D → Option Nat
  | [] => none
  | x :: l => if scalEq x y = true then some 0 else (idxN y l).map (· + 1)
def idxF : D → List D → MH → R D := fun x xs h => match x, xs with
  | .ref n, [y] => (match h[n]? with
    | some (.lst l) => if isScal y = true ∧ l.all isScal = true then (match idxN y l with
      | some j => .ok (.int (j : Nat)) h
      | none => .bad) else .bad
    | _ => .bad)
  | _, _ => .bad
theorem idxN_ok {y : D} : ∀ {l : List D} {j : Nat}, idxN y l = some j → ∃ z, l[j]? = some z ∧ scalEq z y = true ∧ ∀ m w, m < j → l[m]? = some w → scalEq w y = false
  | [], _, e => by unfold idxN at e; cases e
  | x :: l, j, e => by
    unfold idxN at e
    by_cases c : scalEq x y = true
    · rw [if_pos c] at e
      cases e
      exact ⟨x, rfl, c, fun m w h => absurd h (by omega)⟩
    · rw [if_neg c] at e
      cases q : idxN y l with
      | none => rw [q] at e; cases e
      | some i =>
        rw [q] at e
        cases e
        obtain ⟨z, e1, e2, e3⟩ := idxN_ok q
        refine ⟨z, e1, e2, fun m w hm hw => ?_⟩
        cases m with
        | zero =>
          cases hw
          simpa using c
        | succ m =>
        have hm2 : m + 1 < i + 1 := hm
        exact e3 m w (by omega) hw
section
variable {X : Cx} {g : Gd} {ρ : List Addr} {H : Hp}
theorem scal_flat {x : D} {v : V} (r : RD g ρ H x v) (hx : isScal x = true) : flatV v = true := by
  cases x <;> first | (cases hx; done) | skip
  · rw [show v = .non from by unfold RD at r; exact r]; rfl
  · rw [show v = .bl _ from by unfold RD at r; exact r]; rfl
  · rw [show v = .int _ from by unfold RD at r; exact r]; rfl
  · rw [show v = .str _ from by unfold RD at r; exact r]; rfl
theorem scal_eqV {x y : D} {v w : V} (r : RD g ρ H x v) (q : RD g ρ H y w) (hx : isScal x = true) (hy : isScal y = true) : L2.eqV v w = scalEq x y := by
  cases x <;> first | (cases hx; done) | skip
  all_goals (cases y <;> first | (cases hy; done) | skip)
  all_goals (unfold RD at r q; rw [r, q]; unfold scalEq L2.eqV; rfl)
theorem rf_index : RFm g idxF (rIndex g.K) := fun Wf Q ρ H h x xs vx vs hh rx rxs p => by
  unfold idxF at p
  split at p
  · rename_i n y
    split at p
    · rename_i l hl
      split at p
      · rename_i c
        split at p
        · rename_i j hj
          obtain ⟨a, e1, e2⟩ := RD_ref rx
          obtain ⟨ws, e3, rp⟩ := hh.obj n _ a hl e1
          obtain ⟨v, e4, r4⟩ := rxs.inv1
          obtain ⟨z, z1, z2, z3⟩ := idxN_ok hj
          obtain ⟨u, u1, ru⟩ := rp.get z1
          have sc : ∀ d ∈ l, isScal d = true := fun d hd => List.all_eq_true.mp c.2 d hd
          refine ⟨a, ws, v, j, u, e2, e4, .of e3, scal_flat r4 c.1, ?_, u1, ?_, ?_, ?_⟩
          · refine List.all_eq_true.mpr fun w hw => ?_
            obtain ⟨i, hi, ei⟩ := List.getElem_of_mem hw
            have len := rp.length
            obtain ⟨u', u2, r2⟩ := rp.get (i := i) (List.getElem?_eq_getElem (by omega))
            rw [List.getElem?_eq_getElem hi] at u2
            cases u2
            rw [← ei]
            exact scal_flat r2 (sc _ (List.getElem_mem _))
          · rw [scal_eqV ru r4 (sc _ (List.mem_of_getElem? z1)) c.1]
            exact z2
          · intro m w hm hw
            have len := rp.length
            have hml : m < l.length := by
              have := (List.getElem?_eq_some_iff.mp hw).1
              omega
            obtain ⟨u', u2, r2⟩ := rp.get (i := m) (List.getElem?_eq_getElem hml)
            rw [hw] at u2
            cases u2
            rw [scal_eqV r2 r4 (sc _ (List.getElem_mem _)) c.1]
            exact z3 m _ hm (List.getElem?_eq_getElem hml)
          · exact p.okk hh (show RD g ρ H (.int (j : Nat)) (.int (j : Nat)) from by unfold RD; rfl)
        · exact p.elim
      · exact p.elim
    · exact p.elim
  · exact p.elim
end
end ML

/-! ML 47: max of a list of ints -/
namespace ML
open PySem PySem.Spec PyProof.Rows L2
def intsD : List D → Option (List Int)
  | [] => some []
  | .int i :: l => (intsD l).map (i :: ·)
  | _ => none
def maxI : List Int → Int
  | [] => 0
  | a :: l => (match l with
    | [] => a
    | _ => if maxI l > a then maxI l else a)
theorem maxI_ok : ∀ {l : List Int}, l ≠ [] → maxI l ∈ l ∧ ∀ a ∈ l, a ≤ maxI l
  | [], h => absurd rfl h
  | [a], _ => ⟨by show a ∈ [a]; simp, fun b hb => by
    simp only [List.mem_cons, List.not_mem_nil, or_false] at hb
    show b ≤ a
    omega⟩
  | a :: b :: l, _ => by
    obtain ⟨m1, m2⟩ := maxI_ok (l := b :: l) (by simp)
    have e : maxI (a :: b :: l) = if maxI (b :: l) > a then maxI (b :: l) else a := rfl
    rw [e]
    by_cases c : maxI (b :: l) > a
    · rw [if_pos c]
      refine ⟨List.mem_cons_of_mem _ m1, fun x hx => ?_⟩
      rcases List.mem_cons.mp hx with q | q
      · rw [q]; omega
      · exact m2 x q
    · rw [if_neg c]
      refine ⟨List.mem_cons_self, fun x hx => ?_⟩
      rcases List.mem_cons.mp hx with q | q
      · rw [q]; omega
      · have := m2 x q; omega
theorem intsD_eq : ∀ {l : List D} {ns : List Int}, intsD l = some ns → l = ns.map D.int
  | [], ns, e => by unfold intsD at e; cases e; rfl
  | d :: l, ns, e => by
    cases d <;> first | (unfold intsD at e; cases e; done) | skip
    unfold intsD at e
    cases q : intsD l with
    | none => rw [q] at e; cases e
    | some ms =>
      rw [q] at e
      cases e
      rw [intsD_eq q]
      rfl
def maxLF : List D → MH → R D := fun xs h => match xs with
  | [.ref n] => (match h[n]? with
    | some (.lst l) => (match intsD l with
      | some (i :: ns) => .ok (.int (maxI (i :: ns))) h
      | _ => .bad)
    | _ => .bad)
  | _ => .bad
section
variable {X : Cx} {g : Gd} {ρ : List Addr} {H : Hp}
theorem ints_rd : ∀ {ns : List Int} {vs : List V}, RDs g ρ H (ns.map D.int) vs → vs = ns.map V.int
  | [], vs, q => by
    have : vs = [] := q
    exact this
  | i :: ns, vs, q => by
    obtain ⟨v, r, e, q1, q2⟩ := q.inv
    rw [e, RD_int q1, ints_rd q2]
    rfl
theorem rf_maxL : RFs g maxLF (rMax g.K) := fun Wf Q ρ H h xs vs hh rx p => by
  unfold maxLF at p
  split at p
  · rename_i n
    split at p
    · rename_i l hl
      split at p
      · rename_i i ns hn
        obtain ⟨v, e1, r1⟩ := rx.inv1
        obtain ⟨a, e2, e3⟩ := RD_ref r1
        obtain ⟨ws, e4, r4⟩ := hh.obj n _ a hl e2
        rw [intsD_eq hn] at r4
        have e5 := ints_rd r4
        subst e5
        refine ⟨a, i :: ns, by rw [e1, e3], .of e4, by simp, fun m hm hle => ?_⟩
        obtain ⟨m1, m2⟩ := maxI_ok (l := i :: ns) (by simp)
        have : m = maxI (i :: ns) := Int.le_antisymm (m2 m hm) (hle _ m1)
        rw [this]
        exact p.okk hh (show RD g ρ H (.int _) (.int _) from by unfold RD; rfl)
      · exact p.elim
    · exact p.elim
  · exact p.elim
end
end ML

/-! ML 48: repr of any data (dicts: the empty one alone) -/
namespace ML
open PySem PySem.Spec PyProof.Rows L2
def isD0 (h : MH) : D → Bool
  | .ref n => (match h[n]? with
    | some (.dct []) => true
    | _ => false)
  | _ => false
def reprF4 : D → MH → R D := fun x h => match toP h 12 x with
  | some p => if p.hasDict = false ∨ isD0 h x = true then .ok (.str p.shown) h else .bad
  | none => .bad
def rRp4 (g : Gd) : List V → Hp → VK → Prop := fun xs H Q => ∃ ρ h x p v, RH g ρ H h ∧ xs = [v] ∧ RD g ρ H x v ∧ toP h 12 x = some p ∧ (p.hasDict = false ∨ isD0 h x = true) ∧ Q (.str p.shown) H
section
variable {X : Cx} {W : Wx} {a : Expr} {m : EM} {p pos : Pos}
theorem call_repr4 (hg : X.A.guards = some []) (hu : X.A.units + 64 < cLine) : CallR X (.builtin "repr") (rRp4 (gd X)) := by
  intro pins s σ H xs us Q I r h
  obtain ⟨ρ, h, x, p, v, hh, rfl, rx, hp, hd, q⟩ := h
  obtain ⟨u, rfl, ru⟩ := vals1 r
  have S := shw_of I hh 12 x v u p rx ru hp
  by_cases d0 : isD0 h x = true
  · cases x <;> first | (cases d0; done) | skip
    rename_i n
    have hn : h[n]? = some (.dct []) := by
      unfold isD0 at d0
      dsimp only at d0
      split at d0
      · rename_i e; exact e
      · cases d0
    obtain ⟨a, e1, e2⟩ := RD_ref rx
    subst e2
    obtain rfl : u = Value.ref a := ru
    obtain ⟨ws, e4, rp⟩ := hh.obj n _ a hn e1
    obtain ⟨_, hsys, rs, rk, o, es, ep, ho, hx, hdt, _, hpr, _⟩ := dk_of I.hok e4
    have w0 : ws = [] := rp
    subst w0
    cases rk
    have es0 : es.toList = [] := by
      have := hpr.length
      exact List.length_eq_zero_iff.mp this
    have pe : p = .dict [] := by
      unfold toP at hp
      rw [hn] at hp
      dsimp only [kvO] at hp
      have : (([] : List (PyData × PyData)).all fun p => (small p.1).isSome) = true := rfl
      rw [if_pos this] at hp
      exact (small_eq hp).1
    subst pe
    have hu2 : X.A.in1.units = X.A.units + 1 := rfl
    refine call_repr_slot (by omega) ⟨_, ho, hx.1⟩ F.slot_dict_repr (call_dict_reprK (as := []) (d := 0) (ps := []) ho hx.1 hdt hsys (by simp) (by rw [es0]; exact .nil) (g := []) (by show X.A.in1.guards = _; exact hg) (fun b _ => Clear.nil b) (by omega) (fun _ _ e => e) (fun h' u tk hk => ⟨_, _, rfl, ?_⟩) (by decide +kernel))
    simp only [PyData.shown, PyData.shownKv] at q
    exact ⟨V.str (dictText []), H, I.kept (t' := tk) hk, ⟨u, rfl⟩, q⟩
  · have hnd : p.hasDict = false := by
      rcases hd with e | e
      · exact e
      · exact absurd e d0
    have fin : ∀ (b : Addr) (as : List Addr), p.showable = true → p.depth ≤ 40 → Reads s.heap (.ref b) p as → wpAny (model X.prog X.w) X.A (call (.builtin "repr") [.ref b]) (EP X pins σ Q) X.xe s := fun b as e2 e4 rd =>
      repr_of_reads' rd e2 (fun z => by rw [hnd] at z; cases z) hg (by omega) (fun _ _ e => e) (fun h' u tk hk => ⟨V.str p.shown, H, I.kept (t' := tk) hk, ⟨u, rfl⟩, q⟩) S.len
    obtain ⟨as, rd⟩ := S.rd
    cases x with
    | non =>
      cases hp
      unfold RD at rx
      subst rx
      obtain rfl : u = Value.none := ru
      simp only [PyData.shown] at q
      exact P.repr_of_none ⟨V.str "None", H, I.tok _, ⟨_, rfl⟩, q⟩
    | bl b =>
      cases hp
      unfold RD at rx
      subst rx
      obtain rfl : u = Value.bool b := ru
      simp only [PyData.shown] at q
      exact P.repr_of_bool ⟨V.str (if b then "True" else "False"), H, I.tok _, ⟨_, rfl⟩, q⟩
    | int i =>
      unfold toP at hp
      obtain ⟨e1, e2, e3, e4⟩ := small_eq hp
      subst e1
      rw [RD_int rx] at ru
      obtain ⟨t, rfl⟩ := ru
      have hs : i.natAbs.log2 < 1920 := by simpa [PyData.showable] using e2
      simp only [PyData.shown] at q
      exact P.repr_of_int hs ⟨V.str _, H, I.tok _, ⟨_, rfl⟩, q⟩
    | str z =>
      unfold toP at hp
      obtain ⟨e1, e2, e3, e4⟩ := small_eq hp
      subst e1
      rw [RD_str rx] at ru
      obtain ⟨t, rfl⟩ := ru
      simp only [PyData.shown] at q e3
      exact P.repr_of_str ⟨V.str _, H, I.tok _, ⟨_, rfl⟩, q⟩ (line_of e3)
    | ty _ => cases hp
    | glb _ => cases hp
    | tup l =>
      unfold toP at hp
      split at hp
      · obtain ⟨e1, e2, e3, e4⟩ := small_eq hp
        obtain ⟨b, vs, ev, _, _⟩ := RD_tup rx
        subst ev
        obtain rfl : u = Value.ref b := ru
        exact fin b as (by rw [e1]; exact e2) (by rw [e1]; exact e4) rd
      · cases hp
    | ref n =>
      obtain ⟨b, _, e2⟩ := RD_ref rx
      subst e2
      obtain rfl : u = Value.ref b := ru
      unfold toP at hp
      split at hp
      · split at hp
        · obtain ⟨e1, e2, e3, e4⟩ := small_eq hp
          exact fin b as (by rw [e1]; exact e2) (by rw [e1]; exact e4) rd
        · cases hp
      · split at hp
        · split at hp
          · obtain ⟨e1, e2, e3, e4⟩ := small_eq hp
            exact fin b as (by rw [e1]; exact e2) (by rw [e1]; exact e4) rd
          · cases hp
        · cases hp
      · cases hp
theorem e_repr4 (hgd : X.A.guards = some []) (hu : X.A.units + 64 < cLine) (hg : Gl X "repr") (hm : X.mg "repr" = none) (ha : PE X a (tE (gd X) W m)) (hs : starEach [a] X.env = (false, eval a X.env) :: starEach [] X.env := by rfl) :
    PE X (.Call (.Name "repr" p) [a] [] pos) (tE (gd X) W (un reprF4 m)) := by
  refine PE_of (pe_callB (call_repr4 hgd hu) hg hm (by decide +kernel) (pa_cons ha pa_nil hs) (by decide) (by decide) hs rfl) fun σ H Q q => ?_
  refine one q fun ρ e H h x vx s hh rx p => ?_
  unfold reprF4 at p
  split at p
  · rename_i pd hp
    split at p
    · rename_i hd
      exact ⟨ρ, h, x, pd, vx, hh, rfl, rx, hp, hd, p.okk hh .strN⟩
    · exact p.elim
  · exact p.elim
end
end ML

/-! ML 49: defs called without their keyword-only arguments -/
namespace ML
open PySem PySem.Spec PyProof.Rows L2
def constV : D → V
  | .bl b => .bl b
  | .int i => .int i
  | .str s => .str s
  | _ => .non
structure CalD (P : Program) (w : World) (K : PySem.W.Frag) (mg : Str → Option Value) (base : Heap) (x : Str) (n : Nat) (vd : List D) (k : Nat) (m : FM) : Prop where
  ex : ∃ f fd ps ds, mg x = some (.ref f) ∧ PySem.W.keepIn K (.ref f) = true ∧ Binds K fd ps ds ∧ Vals (vd.map constV) ds ∧ FnOk P w K mg base (L2.CX P w) k f fd ps (spM ⟨K, mg⟩ ps.length m) ∧ (∀ d ∈ vd, isScal d = true) ∧ ∀ ds h, ds.length ≠ ps.length → m ds h = .bad
def onD (vd : List D) (m : FM) (a : AM) : EM := fun e h => (a e h).bind fun xs h1 => m (xs ++ vd) h1
theorem const_rds {g : Gd} {ρ : List Addr} {H : Hp} : ∀ {vd : List D}, (∀ d ∈ vd, isScal d = true) → RDs g ρ H vd (vd.map constV)
  | [], _ => .nil
  | d :: vd, h => by
    refine .cons ?_ (const_rds fun x hx => h x (List.mem_cons_of_mem _ hx))
    have := h d List.mem_cons_self
    cases d <;> first | (cases this; done) | (unfold RD; rfl)
section
variable {X : Cx} {E : XK} {e : Expr} {es : List Expr} {mas : AM} {pos p : Pos} {x : Str} {k n : Nat} {vd : List D} {m : FM}
theorem e_callD (F : CalD X.prog X.w X.K X.mg X.base x n vd k m) (hr : Room k X.A) (tk : Takes X (fun cls d _ H => E cls d H)) (hg : Gl X x) (ha : PA X (e :: es) (tA (gd X) (pl fun cls d _ H => E cls d H) mas)) (hdb : (x == ("__debug__" : Str)) = false := by decide)
    (he : starEach (e :: es) X.env = (false, eval e X.env) :: starEach es X.env := by rfl) (hpl : (backTo pos (starEach es X.env)).any (·.1) = false := by rfl) : PE X (.Call (.Name x p) (e :: es) [] pos) (tE (gd X) (pl fun cls d _ H => E cls d H) (onD vd m mas)) := by
  obtain ⟨f, fd, ps, ds, mgf, kp, hb, hd, G, hs, hn⟩ := F.ex
  refine PE_of (pe_call G hr hg mgf kp hb hd (passes_call tk fun _ _ _ _ q => q) ha hdb he hpl) fun σ H Q q => ?_
  refine one q fun ρ e H h xs vs s hh rx p => ?_
  have r2 := rx.append (const_rds (g := gd X) (ρ := ρ) (H := H) hs)
  refine ⟨?_, ρ, xs ++ vd, h, r2, hh, p⟩
  by_cases hl : (xs ++ vd).length = ps.length
  · rw [← r2.length]; exact hl
  · rw [hn (xs ++ vd) h hl] at p
    exact p.elim
end
/-! ### checked at the head -/
def valB : Option (Option Value) → D → Bool
  | some (some .none), .non => true
  | some (some (.bool b)), .bl c => b == c
  | some (some (.int i _)), .int j => decide (i = j)
  | some (some (.str s _)), .str z => decide (s = z)
  | _, _ => false
theorem valB_ok {o : Option (Option Value)} {d : D} (h : valB o d = true) : ∃ u, o = some (some u) ∧ RelV (constV d) u := by
  unfold valB at h
  split at h
  · exact ⟨_, rfl, rfl⟩
  · rename_i b c
    rw [beq_iff_eq] at h
    subst h
    exact ⟨_, rfl, rfl⟩
  · rename_i i t j
    have := of_decide_eq_true h
    subst this
    exact ⟨_, rfl, ⟨t, rfl⟩⟩
  · rename_i s t z
    have := of_decide_eq_true h
    subst this
    exact ⟨_, rfl, ⟨t, rfl⟩⟩
  · cases h
/-- the keyword-only defaults of the def at f -/
def kwdB (K : PySem.W.Frag) (f : Addr) (ks : List (Str × D)) : Bool := match K.lookup f with
  | some ⟨_, _, .func fd, _⟩ => (match fd.kwdefaults with
    | .ref D => ks.all fun q => valB (PySem.W.nsIn K D q.1) q.2
    | _ => false)
  | _ => false
theorem fun_kwd {K : PySem.W.Frag} {x qual : Str} {st : Stmt} {f : Addr} {fd : FuncData} {ks : List (Str × D)} (F : Fun K x qual st f fd) (h : kwdB K f ks = true) :
    FunD K x qual (defArgs st) (defBody st) (defScope st) [] (ks.map fun q => (q.1, constV q.2)) f fd := by
  obtain ⟨oc, od, kV, doc, pm, an, cdv, ct, osl, rfl, lk, hcd⟩ := F.ex
  refine ⟨⟨oc, od, .none, kV, doc, pm, an, cdv, ct, osl, rfl, lk, hcd, .inl ⟨rfl, rfl⟩, .inr ?_⟩, F.kp⟩
  unfold kwdB at h
  rw [lk] at h
  dsimp only at h
  split at h
  · rename_i D
    refine ⟨D, rfl, fun q hq => ?_⟩
    obtain ⟨p, hp, e2⟩ := List.mem_map.mp hq
    subst e2
    exact valB_ok (List.all_eq_true.mp h p hp)
  · cases h
theorem calld_mk {P : Program} {w : World} {K : PySem.W.Frag} {mg : Str → Option Value} {base : Heap} {x qual : Str} {st : Stmt} {f : Addr} {fd : FuncData} {ps : List Str} {k np nn n : Nat} {b : SM} {ks : List (Str × D)} (F : Fun K x qual st f fd) (hm : mg x = some (.ref f)) (hk : kwdB K f ks = true) (h0 : ks ≠ []) (hs : ∀ d ∈ ks.map (·.2), isScal d = true)
    (hb : ∀ (D : Addr) (doc pm : Value) (an : Option Addr) (cdv ct : Value) (us ms : List Value), us.length = n → ms.length = ks.length →
      KwChain D ((ks.map (·.1)).zip ms) (bindArgs (PySem.W.fnOf x qual (defArgs st) (defBody st) (defScope st) .none (.ref D) doc pm an cdv ct) ⟨us, []⟩) (ps.zip (us ++ ms)))
    (G : FnOk P w K mg base (L2.CX P w) k f fd ps (spM ⟨K, mg⟩ ps.length (fnM np nn b))) (hnp : np = ps.length) (hl : n + ks.length = ps.length) : CalD P w K mg base x n (ks.map (·.2)) k (fnM np nn b) := by
  have FD := fun_kwd F hk
  obtain ⟨ds, hd, B⟩ := FD.binds0 n (by simpa using h0) (by rw [List.length_map]; exact hl) (fun D doc pm an cdv ct us ms h1 h2 => by
    rw [List.map_map]
    exact hb D doc pm an cdv ct us ms h1 (by rw [List.length_map] at h2; exact h2))
  refine ⟨f, fd, ps, ds, hm, F.kp, B, ?_, G, hs, fun ds h hd => by unfold fnM; rw [hnp, if_neg hd]⟩
  rw [List.map_map] at hd
  rw [List.map_map]
  exact hd
end ML

/-! Mh: the head by one kernel run; what the law needs is checked on the part of the heap that the module's names reach -/
namespace ML
open PySem PySem.Spec PyProof.Rows L2
/-! ### a def of the written part -/
structure FnM where
  adr : PySem.W.Frag → Addr
  name : Str
  qual : Str
  st : Stmt
def FnM.obs (K : PySem.W.Frag) (d : FnM) : He.FnV := match K.lookup (d.adr K) with
  | some ⟨_, _, .func fd, _⟩ => some (fd.name, fd.qualname, fd.params, fd.body, fd.scope, fd.globals, fd.closure, fd.defaults, fd.builtins)
  | _ => none
def FnM.val (d : FnM) : He.FnV := some (d.name, d.qual, defArgs d.st, .stmts (defBody d.st), defScope d.st, mainGlobals, [], .none, builtinsNs)
def FnM.ok (K : PySem.W.Frag) (d : FnM) : Bool := match K.lookup (d.adr K) with
  | some ⟨_, _, .func fd, _⟩ => PySem.W.codeIn K fd.code d.qual && PySem.W.keepIn K (.ref (d.adr K))
  | _ => false
theorem FnM.fun_ {K : PySem.W.Frag} {d : FnM} (e : d.obs K = d.val) (c : d.ok K = true) : ∃ fd, Fun K d.name d.qual d.st (d.adr K) fd := by
  unfold FnM.ok at c
  unfold FnM.obs FnM.val at e
  cases q : K.lookup (d.adr K) with
  | none =>
    rw [q] at c
    cases c
  | some o =>
    obtain ⟨oc, od, dt, osl⟩ := o
    rw [q] at c e
    cases dt with
    | func fd =>
      obtain ⟨n1, n2, n3, n4, n5, n6, n7, n8, n9, n10, n11, n12, n13, n14, n15⟩ := fd
      obtain ⟨adr, name, qual, st⟩ := d
      have e2 : (some (n1, n2, n3, n4, n5, n6, n7, n8, n15) : He.FnV) = some (name, qual, defArgs st, .stmts (defBody st), defScope st, mainGlobals, [], .none, builtinsNs) := e
      simp only [Option.some.injEq, Prod.mk.injEq] at e2
      obtain ⟨h1, h2, h3, h4, h5, h6, h7, h8, h9⟩ := e2
      subst h1 h2 h3 h4 h5 h6 h7 h8 h9
      obtain ⟨c1, c2⟩ := He.ba c
      exact fun_ex q c1 c2
    | _ => cases c
/-! ### the class object of an error class -/
def xcoB (K : PySem.W.Frag) (C : Addr) : Bool := match K.lookup C with
  | some ⟨.type "type", _, .cls cd, sl⟩ => (match cd.mro, sl.toList with
    | .ref C' :: bm, [_, _, _, _, some (.builtin n), _] => C' == C && (n == "ValueError.__new__" && (!cd.hasDel && (cd.hasDict && PySem.HandSPX.refsVE bm)))
    | _, _ => false)
  | _ => false
theorem xco_of {K : PySem.W.Frag} {C : Addr} (q : xcoB K C = true) : XcO K C := by
  unfold xcoB at q
  split at q
  · rename_i dd cd sl ho
    split at q
    · rename_i C' bm k0 k1 k2 k3 n k5 hm hs
      simp only [Bool.and_eq_true, beq_iff_eq, Bool.not_eq_true'] at q
      obtain ⟨rfl, rfl, hdel, hdct, hr⟩ := q
      obtain ⟨nm, bs, mro, ns, qn, hd, sn, sub, ab, col, del⟩ := cd
      dsimp only at hm hdel hdct
      subst hm hdel hdct
      have hsl : sl = #[k0, k1, k2, k3, some (.builtin "ValueError.__new__"), k5] := by
        obtain ⟨l⟩ := sl
        simp only at hs
        rw [hs]
      subst hsl
      exact ⟨nm, qn, ns, bs, bm, sn, sub, ab, col, dd, k0, k1, k2, k3, k5, ho, hr⟩
    · cases q
  · cases q
/-! ### constants -/
def tokI (K : PySem.W.Frag) (x : Str) : Tok := match PySem.W.nsIn K mainGlobals x with
  | some (some (.int _ t)) => t
  | _ => 0
def tokS (K : PySem.W.Frag) (x : Str) : Tok := match PySem.W.nsIn K mainGlobals x with
  | some (some (.str _ t)) => t
  | _ => 0
def intB (K : PySem.W.Frag) (x : Str) (i : Int) : Bool := match PySem.W.nsIn K mainGlobals x with
  | some (some (.int j _)) => decide (j = i)
  | _ => false
def strB (K : PySem.W.Frag) (x z : Str) : Bool := match PySem.W.nsIn K mainGlobals x with
  | some (some (.str y _)) => decide (y = z)
  | _ => false
theorem int_of {K : PySem.W.Frag} {x : Str} {i : Int} (q : intB K x i = true) : PySem.W.nsIn K mainGlobals x = some (some (.int i (tokI K x))) := by
  unfold intB at q
  unfold tokI
  split at q
  · rename_i j t h
    rw [h, of_decide_eq_true q]
  · cases q
theorem str_of {K : PySem.W.Frag} {x z : Str} (q : strB K x z = true) : PySem.W.nsIn K mainGlobals x = some (some (.str z (tokS K x))) := by
  unfold strB at q
  unfold tokS
  split at q
  · rename_i j t h
    rw [h, of_decide_eq_true q]
  · cases q
/-! ### values made ready, so that the kernel meets them once -/
def frN {α : Type} (n : Nat) (k : Nat → α) : α := match n with
  | 0 => k 0
  | m + 1 => k (m + 1)
theorem frN_eq {α : Type} (n : Nat) (k : Nat → α) : frN n k = k n := by cases n <;> rfl
def frAs {α : Type} : List Addr → (List Addr → α) → α
  | [], k => k []
  | a :: r, k => frN a fun a => frAs r fun r => k (a :: r)
theorem frAs_eq {α : Type} : ∀ (l : List Addr) (k : List Addr → α), frAs l k = k l
  | [], _ => rfl
  | a :: r, k => by
    show (frN a fun a => frAs r fun r => k (a :: r)) = _
    rw [frN_eq, frAs_eq r]
def frEs {α β : Type} : List β → (List β → α) → α
  | [], k => k []
  | a :: r, k => frEs r fun r => k (a :: r)
theorem frEs_eq {α β : Type} : ∀ (l : List β) (k : List β → α), frEs l k = k l
  | [], _ => rfl
  | a :: r, k => by
    show (frEs r fun r => k (a :: r)) = _
    rw [frEs_eq r]
def frO {α : Type} (o : Obj) (k : Obj → α) : α := match o with
  | ⟨c, d, .cls ⟨nm, bs, mro, ns, qn, hd, sn, sub, ab, col, del⟩, sl⟩ => frN ns fun ns => frEs mro fun mro => k ⟨c, d, .cls ⟨nm, bs, mro, ns, qn, hd, sn, sub, ab, col, del⟩, sl⟩
  | ⟨c, d, .func ⟨n1, n2, n3, n4, n5, n6, n7, n8, n9, n10, n11, n12, n13, n14, n15⟩, sl⟩ => k ⟨c, d, .func ⟨n1, n2, n3, n4, n5, n6, n7, n8, n9, n10, n11, n12, n13, n14, n15⟩, sl⟩
  | ⟨c, d, .dict ⟨es⟩ n, sl⟩ => frEs es fun es => k ⟨c, d, .dict ⟨es⟩ n, sl⟩
  | ⟨c, d, .seq ⟨es⟩ n, sl⟩ => frEs es fun es => k ⟨c, d, .seq ⟨es⟩ n, sl⟩
  | ⟨c, d, .fields ⟨es⟩, sl⟩ => frEs es fun es => k ⟨c, d, .fields ⟨es⟩, sl⟩
  | o => k o
theorem frO_eq {α : Type} (o : Obj) (k : Obj → α) : frO o k = k o := by
  unfold frO
  split
  · rw [frN_eq, frEs_eq]
  · rfl
  · rw [frEs_eq]
  · rw [frEs_eq]
  · rw [frEs_eq]
  · rfl
/-- the objects at these addresses -/
def frK {α : Type} (g : Addr → Option Obj) : List Addr → (PySem.W.Frag → α) → α
  | [], k => k []
  | a :: r, k => match g a with
    | some o => frO o fun o => frK g r fun r => k ((a, o) :: r)
    | none => frK g r k
theorem frK_eq {α : Type} (g : Addr → Option Obj) : ∀ (l : List Addr) (k : PySem.W.Frag → α), frK g l k = k (He.frG g l)
  | [], _ => rfl
  | a :: r, k => by
    unfold frK He.frG
    cases q : g a with
    | none =>
      dsimp only
      rw [frK_eq g r, List.filterMap_cons, q]
      rfl
    | some o =>
      dsimp only
      rw [frO_eq, frK_eq g r, List.filterMap_cons, q]
      rfl
/-! ### what is reached from these names -/
def refsR (o : Obj) : List Addr := match o with
  | ⟨_, _, .func fd, _⟩ => He.refV fd.code ++ He.refV fd.kwdefaults
  | ⟨_, _, .cls cd, _⟩ => [cd.ns]
  | ⟨_, _, .dict es _, _⟩ => es.toList.flatMap fun e => He.refV e.val
  | ⟨.type "property", _, .fields vs, _⟩ => vs.toList.flatMap He.refV
  | _ => []
def nextR (g : Addr → Option Obj) (as : List Addr) : List Addr := as.flatMap fun a => match g a with
  | some o => refsR o
  | none => []
def glA (es : List DictEntry) (x : Str) : List Addr := match es.find? (·.key.isStr x) with
  | some e => He.refV e.val
  | none => []
def glE {α : Type} (g : Addr → Option Obj) (k : List DictEntry → α) : α := match g mainGlobals with
  | some ⟨_, _, .dict ⟨es⟩ _, _⟩ => frEs es k
  | _ => k []
/-- they, what they name, and so on, four times -/
def asM {α : Type} (g : Addr → Option Obj) (xs : List Str) (k : List Addr → α) : α := glE g fun es =>
  frAs (xs.flatMap (glA es)) fun a0 => frAs (nextR g a0) fun a1 => frAs (nextR g a1) fun a2 => frAs (nextR g a2) fun a3 => frAs (nextR g a3) fun a4 => k (mainGlobals :: (a0 ++ (a1 ++ (a2 ++ (a3 ++ a4)))))
theorem asM_eq {α : Type} (g : Addr → Option Obj) (xs : List Str) (k : List Addr → α) : ∃ as, asM g xs k = k as := by
  unfold asM glE
  simp only [frEs_eq, frAs_eq]
  split
  · exact ⟨_, rfl⟩
  · exact ⟨_, rfl⟩
/-! ### the Hook -/
abbrev AlM : Type := Bool × List He.FnV
def obsM (chk : PySem.W.Frag → List Bool) (fn : List FnM) (K : PySem.W.Frag) : AlM := (((chk K).all fun b => b) && fn.all fun d => d.ok K, fn.map fun d => d.obs K)
def valM (fn : List FnM) : AlM := (true, fn.map FnM.val)
def SaysM (chk : PySem.W.Frag → List Bool) (fn : List FnM) (K : PySem.W.Frag) : Prop := obsM chk fn K = valM fn
def runM (xs : List Str) (chk : PySem.W.Frag → List Bool) (fn : List FnM) (g : Addr → Option Obj) : AlM := asM g xs fun as => frK g as fun K => obsM chk fn K
theorem runM_eq {xs : List Str} {chk : PySem.W.Frag → List Bool} {fn : List FnM} {g : Addr → Option Obj} : ∃ as, runM xs chk fn g = obsM chk fn (He.frG g as) := by
  unfold runM
  obtain ⟨as, e⟩ := asM_eq g xs fun as => frK g as fun K => obsM chk fn K
  exact ⟨as, by rw [e, frK_eq]⟩
def hookM (xs : List Str) (chk : PySem.W.Frag → List Bool) (fn : List FnM) : PySem.W.Hook where
  α := AlM
  obs := fun s => runM xs chk fn s.heap.get?
  val := fun _ => valM fn
  says := fun _ h => ∃ K : PySem.W.Frag, K.In h ∧ SaysM chk fn K
  of := fun _ s e => by
    obtain ⟨as, e2⟩ := runM_eq (xs := xs) (chk := chk) (fn := fn) (g := s.heap.get?)
    exact ⟨_, He.frG_in (as := as), e2.symm.trans e⟩
  keeps := fun _ _ _ ⟨K, hK, c⟩ k => ⟨K, PySem.W.Frag.In.keeps hK k, c⟩
def obM (xs : List Str) (chk : PySem.W.Frag → List Bool) (fn : List FnM) (s : PySem.W.SharedT) : AlM := runM xs chk fn (HandSHeadRun.getT s)
theorem obM_eq {xs : List Str} {chk : PySem.W.Frag → List Bool} {fn : List FnM} (s : PySem.W.SharedT) : obM xs chk fn s = (hookM xs chk fn).obs s.abs := by
  have e : HandSHeadRun.getT s = s.abs.heap.get? := funext (HandSHeadRun.getT_eq s)
  unfold obM
  rw [e]
  rfl
section
variable {chk : PySem.W.Frag → List Bool} {fn : List FnM} {K : PySem.W.Frag}
theorem SaysM.fact (c : SaysM chk fn K) (i : Nat) {b : Bool} (h : (chk K)[i]? = some b := by rfl) : b = true := by
  have c1 := (He.ba (show (((chk K).all fun b => b) && fn.all fun d => d.ok K) = true from congrArg (fun z : AlM => z.1) c)).1
  exact List.all_eq_true.mp c1 b (List.mem_of_getElem? h)
theorem SaysM.def_ (c : SaysM chk fn K) (i : Nat) {d : FnM} (h : fn[i]? = some d := by rfl) : ∃ fd, Fun K d.name d.qual d.st (d.adr K) fd := by
  have c2 := (He.ba (show (((chk K).all fun b => b) && fn.all fun d => d.ok K) = true from congrArg (fun z : AlM => z.1) c)).2
  have e : fn.map (fun d => d.obs K) = fn.map FnM.val := congrArg (fun z : AlM => z.2) c
  have e2 : (fn.map fun d => d.obs K)[i]? = (fn.map FnM.val)[i]? := by rw [e]
  rw [List.getElem?_map, List.getElem?_map, h] at e2
  exact FnM.fun_ (Option.some.inj e2) (List.all_eq_true.mp c2 d (List.mem_of_getElem? h))
end
theorem eq_of {a b : Option (Option Value)} (h : He.eqO a b = true) : a = b := He.eqO_ok h
theorem walkE {l : PySem.W.OpenLaw} {q : Program} {loose : List Str} {XP : (Str → Option Value) → Heap → Prop} {YP : World → Heap → Prop} {d : DefRec} {Z : PySem.W.Frag → Prop} (hn : l.most = some 63) (hdf : d.params.defaults = []) (hY : ∀ (w : World) (h : Heap), YP w h → ∃ K : PySem.W.Frag, K.In h ∧ Z K)
    (F : ∀ (w : World) (K : PySem.W.Frag) (mg : Str → Option Value) (fa : Addr) (h : Heap), K.In h → Z K → h.Ns mainGlobals mg → mg d.name = some (.ref fa) →
      ∀ (base : Heap) (s : Shared) (H : Hp) (a : Addr) (ns : List Int), ns.length ≤ 63 → (∀ z ∈ ns, Builtin.Int.intBits z ≤ 1048576) → Env0 l.prog w K mg base callerA [] s H → RdL K H a (ns.map V.int) →
        codeAny (model l.prog w) callerA (.call (.ref fa) ⟨[.ref a], []⟩) (CR (L2.CX l.prog w) [] l.prog w H s (fun v _ => v = .bl true) fun _ _ _ => False) s) :
    PySem.W.WalkO q loose XP YP l.row.toRowW d [] (fun f vs => PySem.call f vs) := by
  refine Att.attach_callB hn hdf fun w s₀ s₁ mg mb fa o pm cd doc a vs ns G Y ho hd hcd hmg hobj hints hlen hbits hg => ?_
  obtain ⟨K, KX, z⟩ := hY w _ Y
  exact law_top KX G.T.g G.T.b G.T.builtins G.T.nolimit hg hobj hints (Nat.le_trans hlen (by decide)) fun base H e0 hS => F w K mg fa _ KX z G.T.g hmg base s₁ H a ns hlen hbits e0 hS
end ML

namespace ML
open PySem PySem.Spec PyProof.Rows L2
abbrev xnames : List Str := ["BadRegisters", "BadLines", "BadLine"]
abbrev N_is_name : List Str := ["value", "letter"]
def b_is_name : SM := retS (andE (onA (isiF "str") (consA (varE 0) (consA (conE (.ty "str")) nilA))) (andE (chainE leF leF (conE (.int 1)) (onA lenF (consA (varE 0) (nilA))) (conE (.int 8))) (onA allF (consA (lcE [1] (seqI (varE 0)) (gnm 1) (yesT) (bin inF (varE 1) (conE (.str "abcdefghijklmnopqrstuvwxyz")))) (nilA)))))
def m_is_name : FM := fnM 1 2 b_is_name
abbrev N_need_registers : List Str := ["value", "name"]
def b_need_registers : SM := seqS (ifS (orT (notT (valT (un (isiT ["list", "tuple"]) (varE 0)))) (valT (bin gtF (onA lenF (consA (varE 0) (nilA))) (conE (.int 3))))) (raiseS "BadRegisters" "value" (consA (varE 0) (nilA))) (passS)) (ifS (orT (notT (valT (onA allF (consA (lcE [1] (seqI (varE 0)) (gnm 1) (yesT) (andE (onA m_is_name (consA (varE 1) (nilA))) (bin ninF (varE 1) (conE (strsD ["here", "new", "nothing", "is", "not", "from", "or", "ask", "do", "otherwise"]))))) (nilA))))) (valT (bin neF (un lensetF (varE 0)) (onA lenF (consA (varE 0) (nilA)))))) (raiseS "BadRegisters" "value" (consA (varE 0) (nilA))) (passS))
def m_need_registers : FM := fnM 1 2 b_need_registers
abbrev N_is_one_of : List Str := ["value", "words"]
def b_is_one_of : SM := retS (andE (onA (isiF "str") (consA (varE 0) (consA (conE (.ty "str")) nilA))) (bin inF (varE 0) (varE 1)))
def m_is_one_of : FM := fnM 2 2 b_is_one_of
abbrev N_is_test : List Str := ["value", "names"]
def b_is_test : SM := seqS (ifS (orT (notT (valT (onA (isiF "tuple") (consA (varE 0) (consA (conE (.ty "tuple")) nilA))))) (orT (valT (bin neF (onA lenF (consA (varE 0) (nilA))) (conE (.int 3)))) (notT (valT (onA (isiF "bool") (consA (bin ixF (varE 0) (conE (.int 2))) (consA (conE (.ty "bool")) nilA))))))) (retS (conE (.bl false))) (passS)) (retS (andE (onA m_is_one_of (consA (bin ixF (varE 0) (conE (.int 0))) (consA (onA tupF (consA (conE (.str "here")) (consA (conE (.str "new")) (starA (varE 1) (nilA))))) (nilA)))) (onA m_is_one_of (consA (bin ixF (varE 0) (conE (.int 1))) (consA (onA tupF (consA (conE (.str "here")) (consA (conE (.str "new")) (consA (conE (.str "nothing")) (starA (varE 1) (nilA)))))) (nilA))))))
def m_is_test : FM := fnM 2 2 b_is_test
abbrev N_is_step : List Str := ["value", "names"]
def b_is_step : SM := seqS (ifS (orT (notT (valT (onA (isiF "tuple") (consA (varE 0) (consA (conE (.ty "tuple")) nilA))))) (valT (bin neF (onA lenF (consA (varE 0) (nilA))) (conE (.int 2))))) (retS (conE (.bl false))) (passS)) (retS (andE (onA m_is_one_of (consA (bin ixF (varE 0) (conE (.int 0))) (consA (onA tupF (consA (conE (.str "here")) (starA (varE 1) (nilA)))) (nilA)))) (onA m_is_one_of (consA (bin ixF (varE 0) (conE (.int 1))) (consA (onA tupF (consA (conE (.str "here")) (consA (conE (.str "new")) (consA (conE (.str "nothing")) (starA (varE 1) (nilA)))))) (nilA))))))
def m_is_step : FM := fnM 2 2 b_is_step
abbrev N_are_steps : List Str := ["value", "names", "step"]
def b_are_steps : SM := retS (andE (onA (isiF "tuple") (consA (varE 0) (consA (conE (.ty "tuple")) nilA))) (andE (bin leF (onA lenF (consA (varE 0) (nilA))) (conE (.int 4))) (onA allF (consA (lcE [2] (seqI (varE 0)) (gnm 2) (yesT) (onA m_is_step (consA (varE 2) (consA (varE 1) (nilA))))) (nilA)))))
def m_are_steps : FM := fnM 2 3 b_are_steps
abbrev N_is_line : List Str := ["value", "names", "tests", "steps", "test"]
def b_is_line : SM := seqS (ifS (orT (notT (valT (onA (isiF "tuple") (consA (varE 0) (consA (conE (.ty "tuple")) nilA))))) (valT (bin ninF (onA lenF (consA (varE 0) (nilA))) (onA tupF (consA (conE (.int 2)) (consA (conE (.int 3)) (nilA))))))) (retS (conE (.bl false))) (passS)) (seqS (setS 2 (bin ixF (varE 0) (conE (.int 0)))) (seqS (ifS (orT (notT (valT (onA (isiF "tuple") (consA (varE 2) (consA (conE (.ty "tuple")) nilA))))) (orT (valT (bin gtF (onA lenF (consA (varE 2) (nilA))) (conE (.int 4)))) (notT (valT (onA allF (consA (lcE [4] (seqI (varE 2)) (gnm 4) (yesT) (onA m_is_test (consA (varE 4) (consA (varE 1) (nilA))))) (nilA))))))) (retS (conE (.bl false))) (passS)) (retS (onA allF (consA (lcE [3] (seqI (slE (varE 0) (someO (conE (.int 1))) (noO))) (gnm 3) (yesT) (onA m_are_steps (consA (varE 3) (consA (varE 1) (nilA))))) (nilA))))))
def m_is_line : FM := fnM 2 5 b_is_line
abbrev N_Rule_init : List Str := ["self", "registers", "lines", "position", "line"]
def b_Rule_init : SM := seqS (expS (onA m_need_registers (consA (varE 1) (nilA)))) (seqS (ifS (orT (notT (valT (un (isiT ["list", "tuple"]) (varE 2)))) (notT (valT (chainE leF leF (conE (.int 1)) (onA lenF (consA (varE 2) (nilA))) (conE (.int 8)))))) (raiseS "BadLines" "value" (consA (varE 2) (nilA))) (passS)) (seqS (forS (enumI2 (consA (varE 2) (nilA))) (gtp [gnm 3, gnm 4]) (ifS (orT (notT (valT (onA m_is_line (consA (varE 4) (consA (varE 1) (nilA)))))) (andT (valT (bin eqF (varE 3) (bin subF (onA lenF (consA (varE 2) (nilA))) (conE (.int 1))))) (valT (bin neF (bin ixF (varE 4) (conE (.int 0))) (onA tupF (nilA)))))) (raiseS "BadLine" "position" (consA (varE 3) (nilA))) (passS))) (seqS (stFld ["Rule"] "own_names" (varE 0) (onA tupleF (consA (varE 1) (nilA)))) (stFld ["Rule"] "rows" (varE 0) (onA tupleF (consA (varE 2) (nilA)))))))
def m_Rule_init : FM := fnM 3 5 b_Rule_init
abbrev N_is_whole_number : List Str := ["value", "many"]
def b_is_whole_number : SM := retS (andE (onA (isiF "int") (consA (varE 0) (consA (conE (.ty "int")) nilA))) (andE (notE (onA (isiF "bool") (consA (varE 0) (consA (conE (.ty "bool")) nilA)))) (chainE leF ltF (conE (.int 0)) (varE 0) (varE 1))))
def m_is_whole_number : FM := fnM 2 2 b_is_whole_number
abbrev N_are_numbered : List Str := ["numbers", "greatest", "number"]
def b_are_numbered : SM := seqS (setS 1 (conE (.int 0))) (seqS (forS (seqI (varE 0)) (gnm 2) (seqS (ifS (notT (valT (onA m_is_whole_number (consA (varE 2) (consA (bin addF (varE 1) (conE (.int 2))) (nilA)))))) (retS (conE (.bl false))) (passS)) (setS 1 (onA max2F (consA (varE 1) (consA (varE 2) (nilA))))))) (retS (conE (.bl true))))
def m_are_numbered : FM := fnM 1 3 b_are_numbered
abbrev N_is_pattern : List Str := ["rule", "value", "numbers", "mark", "is_amid"]
def b_is_pattern : SM := seqS (ifS (orT (notT (valT (onA (isiF "tuple") (consA (varE 1) (consA (conE (.ty "tuple")) nilA))))) (valT (bin neF (onA lenF (consA (varE 1) (nilA))) (conE (.int 3))))) (retS (conE (.bl false))) (passS)) (seqS (asgS (gtp [gnm 2, gnm 3, gnm 4]) (varE 1)) (seqS (ifS (orT (notT (valT (onA (isiF "tuple") (consA (varE 2) (consA (conE (.ty "tuple")) nilA))))) (orT (valT (bin neF (onA lenF (consA (varE 2) (nilA))) (bin addF (onA lenF (consA (un (fldF ["Rule"] [] "own_names") (varE 0)) (nilA))) (conE (.int 3))))) (notT (valT (onA m_are_numbered (consA (varE 2) (nilA))))))) (retS (conE (.bl false))) (passS)) (seqS (ifS (orT (notT (valT (onA m_is_one_of (consA (varE 3) (consA (onA tupF (consA (conE (.str "none")) (consA (conE (.str "own")) (consA (conE (.str "free")) (nilA))))) (nilA)))))) (notT (valT (onA (isiF "bool") (consA (varE 4) (consA (conE (.ty "bool")) nilA)))))) (retS (conE (.bl false))) (passS)) (retS (andE (orE (bin eqF (varE 3) (conE (.str "own"))) (bin eqF (bin ixF (varE 2) (un negF (conE (.int 1)))) (conE (.int 0)))) (orE (bin neF (varE 3) (conE (.str "free"))) (varE 4)))))))
def m_is_pattern : FM := fnM 2 5 b_is_pattern
abbrev N_is_closed : List Str := ["rule", "value", "stops", "known", "pattern", "one", "deed", "troubles", "later"]
def b_is_closed : SM := seqS (ifS (orT (notT (valT (onA (isiF "list") (consA (varE 1) (consA (conE (.ty "list")) nilA))))) (notT (valT (onA allF (consA (lcE [5] (seqI (varE 1)) (gnm 5) (yesT) (onA m_is_pattern (consA (varE 0) (consA (varE 5) (nilA))))) (nilA)))))) (retS (conE (.bl false))) (passS)) (neverS)
def m_is_closed : FM := fnM 3 9 b_is_closed
abbrev N_law_source : List Str := ["script", "start", "mixed", "cell", "rest"]
def b_law_source : SM := seqS (setS 2 (bin addF (conE (.int 83)) (varE 1))) (seqS (forS (seqI (varE 0)) (gnm 3) (setS 2 (bin addF (bin modF (onA intF (consA (bin powF (onA intF (consA (bin addF (bin mulF (varE 2) (conE (.int 30011))) (onA intF (consA (varE 3) (nilA)))) (nilA))) (conE (.int 3))) (nilA))) (conE (.int 2147483563))) (conE (.int 1))))) (seqS (setS 4 (conE (.int 0))) (seqS (ifS (andT (valT (bin ltF (varE 1) (onA lenF (consA (varE 0) (nilA))))) (valT (bin geF (bin ixF (varE 0) (varE 1)) (bin powF (conE (.int 10)) (conE (.int 18)))))) (setS 4 (bin subF (bin ixF (varE 0) (varE 1)) (bin powF (conE (.int 10)) (conE (.int 18))))) (passS)) (retS (onA lstF (consA (varE 4) (consA (varE 2) (nilA))))))))
def m_law_source : FM := fnM 2 5 b_law_source
abbrev N_law_draw : List Str := ["source", "span", "found"]
def b_law_draw : SM := seqS (ifS (valT (bin geF (bin ixF (varE 0) (conE (.int 0))) (varE 1))) (seqS (setS 2 (bin modF (onA intF (consA (bin ixF (varE 0) (conE (.int 0))) (nilA))) (varE 1))) (seqS (setX (varE 0) (conE (.int 0)) (bin fdivF (bin ixF (varE 0) (conE (.int 0))) (varE 1))) (retS (varE 2)))) (passS)) (seqS (setX (varE 0) (conE (.int 1)) (bin modF (onA intF (consA (bin addF (bin mulF (bin ixF (varE 0) (conE (.int 1))) (conE (.int 40692))) (conE (.int 7919))) (nilA))) (conE (.int 2147483399)))) (retS (bin modF (onA intF (consA (bin fdivF (bin modF (onA intF (consA (bin powF (onA intF (consA (bin ixF (varE 0) (conE (.int 1))) (nilA))) (conE (.int 5))) (nilA))) (conE (.int 1000000007))) (conE (.int 11))) (nilA))) (varE 1))))
def m_law_draw : FM := fnM 2 3 b_law_draw
abbrev N_law_pick : List Str := ["source", "things"]
def b_law_pick : SM := retS (bin ixF (varE 1) (onA m_law_draw (consA (varE 0) (consA (onA lenF (consA (varE 1) (nilA))) (nilA)))))
def m_law_pick : FM := fnM 2 2 b_law_pick
abbrev N_law_note : List Str := ["source", "letter", "found", "turn"]
def b_law_note : SM := seqS (setS 2 (varE 1)) (seqS (forS (rng1I (consA (onA m_law_draw (consA (varE 0) (consA (conE (.int 8)) (nilA)))) (nilA))) (gnm 3) (setS 2 (bin addF (varE 2) (onA m_law_pick (consA (varE 0) (consA (conE (.str "abcdefghijklmnopqrstuvwxyz")) (nilA))))))) (retS (varE 2)))
def m_law_note : FM := fnM 2 4 b_law_note
abbrev N_law_registers : List Str := ["source", "most", "few", "more", "many", "one", "two"]
def b_law_registers : SM := seqS (parS [5, 6] (consA (onA m_law_note (consA (varE 0) (consA (conE (.str "q")) (nilA)))) (consA (onA m_law_note (consA (varE 0) (consA (conE (.str "x")) (nilA)))) (nilA)))) (seqS (setS 2 (onA lstF (consA (onA lstF (consA (varE 5) (nilA))) (consA (onA lstF (nilA)) (consA (onA lstF (consA (varE 5) (nilA))) (consA (onA lstF (consA (conE (.str "beside")) (nilA))) (consA (onA lstF (consA (conE (.str "elder")) (nilA))) (nilA)))))))) (seqS (setS 3 (onA lstF (consA (onA lstF (consA (varE 5) (consA (varE 6) (nilA)))) (consA (onA lstF (consA (varE 5) (consA (conE (.str "beside")) (nilA)))) (consA (onA lstF (consA (conE (.str "elder")) (consA (varE 5) (nilA)))) (nilA)))))) (seqS (setS 3 (bin addF (varE 3) (onA lstF (consA (onA lstF (consA (conE (.str "beside")) (consA (conE (.str "elder")) (nilA)))) (consA (onA lstF (consA (varE 6) (consA (varE 5) (nilA)))) (consA (onA lstF (consA (varE 5) (consA (conE (.str "elder")) (nilA)))) (nilA))))))) (seqS (setS 4 (onA lstF (consA (onA lstF (consA (varE 5) (consA (conE (.str "beside")) (consA (conE (.str "elder")) (nilA))))) (consA (onA lstF (consA (conE (.str "elder")) (consA (varE 6) (consA (varE 5) (nilA))))) (consA (onA lstF (consA (conE (.str "beside")) (consA (varE 5) (consA (varE 6) (nilA))))) (nilA)))))) (seqS (expS (bmE "list" appF (varE 4) (consA (onA lstF (consA (varE 6) (consA (onA m_law_note (consA (varE 0) (consA (conE (.str "z")) (nilA)))) (consA (varE 5) (nilA))))) (nilA)))) (retS (onA m_law_pick (consA (varE 0) (consA (bin addF (bin addF (varE 2) (bin mulF (varE 3) (bin subF (varE 1) (conE (.int 1))))) (bin mulF (varE 4) (bin subF (varE 1) (conE (.int 2))))) (nilA))))))))))
def m_law_registers : FM := fnM 2 7 b_law_registers
abbrev N_law_test : List Str := ["source", "names", "one", "other"]
def b_law_test : SM := seqS (setS 2 (onA m_law_pick (consA (varE 0) (consA (bin addF (onA lstF (consA (conE (.str "here")) (consA (conE (.str "here")) (consA (conE (.str "new")) (nilA))))) (varE 1)) (nilA))))) (seqS (setS 3 (onA m_law_pick (consA (varE 0) (consA (bin addF (bin addF (onA lstF (consA (conE (.str "new")) (consA (conE (.str "nothing")) (consA (conE (.str "here")) (nilA))))) (varE 1)) (varE 1)) (nilA))))) (retS (onA tupF (consA (varE 2) (consA (varE 3) (consA (bin gtF (onA m_law_draw (consA (varE 0) (consA (conE (.int 4)) (nilA)))) (conE (.int 0))) (nilA)))))))
def m_law_test : FM := fnM 2 4 b_law_test
abbrev N_law_steps : List Str := ["source", "names", "most", "found", "turn", "target"]
def b_law_steps : SM := seqS (setS 3 (onA lstF (nilA))) (seqS (forS (rng1I (consA (onA m_law_draw (consA (varE 0) (consA (bin addF (varE 2) (conE (.int 1))) (nilA)))) (nilA))) (gnm 4) (seqS (setS 5 (onA m_law_pick (consA (varE 0) (consA (bin addF (bin addF (onA lstF (consA (conE (.str "here")) (nilA))) (varE 1)) (varE 1)) (nilA))))) (expS (bmE "list" appF (varE 3) (consA (onA tupF (consA (varE 5) (consA (onA m_law_pick (consA (varE 0) (consA (bin addF (onA lstF (consA (conE (.str "new")) (consA (conE (.str "new")) (consA (conE (.str "here")) (consA (conE (.str "nothing")) (nilA)))))) (varE 1)) (nilA)))) (nilA)))) (nilA)))))) (retS (onA tupleF (consA (varE 3) (nilA)))))
def m_law_steps : FM := fnM 3 6 b_law_steps
abbrev N_law_row : List Str := ["source", "names", "is_last", "turn", "many", "tests", "first"]
def b_law_row : SM := seqS (parS [4, 5] (consA (ifE (valT (varE 2)) (conE (.int 0)) (bin addF (conE (.int 1)) (onA m_law_draw (consA (varE 0) (consA (conE (.int 2)) (nilA)))))) (consA (onA lstF (nilA)) (nilA)))) (seqS (forS (rng1I (consA (varE 4) (nilA))) (gnm 3) (expS (bmE "list" appF (varE 5) (consA (onA m_law_test (consA (varE 0) (consA (varE 1) (nilA)))) (nilA))))) (seqS (ifS (valT (bin eqF (onA m_law_draw (consA (varE 0) (consA (conE (.int 3)) (nilA)))) (conE (.int 0)))) (seqS (setS 6 (onA m_law_steps (consA (varE 0) (consA (varE 1) (consA (conE (.int 2)) (nilA)))))) (retS (onA tupF (consA (onA tupleF (consA (varE 5) (nilA))) (consA (varE 6) (consA (onA m_law_steps (consA (varE 0) (consA (varE 1) (consA (conE (.int 2)) (nilA))))) (nilA))))))) (passS)) (retS (onA tupF (consA (onA tupleF (consA (varE 5) (nilA))) (consA (onA m_law_steps (consA (varE 0) (consA (varE 1) (consA (conE (.int 3)) (nilA))))) (nilA)))))))
def m_law_row : FM := fnM 3 7 b_law_row
abbrev N_law_good : List Str := ["names", "own", "aside", "lines", "was", "plan", "take", "both", "moved_on", "name"]
def b_law_good : SM := seqS (setS 1 (lcE [9] (seqI (varE 0)) (gnm 9) (valT (bin ninF (varE 9) (onA lstF (consA (conE (.str "beside")) (consA (conE (.str "elder")) (nilA)))))) (varE 9))) (seqS (ifS (valT (bin eqF (varE 1) (onA lstF (nilA)))) (seqS (setS 2 (ifE (valT (bin inF (conE (.str "beside")) (varE 0))) (onA tupF (consA (onA tupF (consA (conE (.str "beside")) (consA (conE (.str "here")) (nilA)))) (nilA))) (onA tupF (nilA)))) (seqS (setS 3 (onA lstF (consA (onA tupF (consA (onA tupF (consA (onA tupF (consA (conE (.str "here")) (consA (conE (.str "new")) (consA (conE (.bl true)) (nilA))))) (nilA))) (consA (onA tupF (nilA)) (nilA)))) (consA (onA tupF (consA (onA tupF (consA (onA tupF (consA (conE (.str "here")) (consA (conE (.str "nothing")) (consA (conE (.bl true)) (nilA))))) (nilA))) (consA (onA tupF (consA (onA tupF (consA (conE (.str "here")) (consA (conE (.str "new")) (nilA)))) (nilA))) (nilA)))) (nilA))))) (retS (bin addF (varE 3) (onA lstF (consA (onA tupF (consA (onA tupF (nilA)) (consA (bin addF (varE 2) (onA tupF (consA (onA tupF (consA (conE (.str "here")) (consA (conE (.str "new")) (nilA)))) (nilA)))) (consA (onA tupF (nilA)) (nilA))))) (nilA))))))) (passS)) (seqS (parS [4, 5] (consA (bin ixF (varE 1) (conE (.int 0))) (consA (bin ixF (varE 1) (un negF (conE (.int 1)))) (nilA)))) (seqS (parS [6, 7, 3] (consA (onA tupF (consA (onA tupF (consA (conE (.str "here")) (consA (conE (.str "new")) (nilA)))) (consA (onA tupF (consA (varE 4) (consA (conE (.str "new")) (nilA)))) (nilA)))) (consA (onA tupF (consA (onA tupF (consA (varE 4) (consA (conE (.str "new")) (nilA)))) (nilA))) (consA (onA lstF (nilA)) (nilA))))) (seqS (ifS (valT (bin neF (varE 5) (varE 4))) (parS [6, 7] (consA (bin addF (onA tupF (consA (onA tupF (consA (varE 5) (consA (conE (.str "new")) (nilA)))) (nilA))) (varE 6)) (consA (onA tupF (consA (onA tupF (consA (varE 5) (consA (conE (.str "new")) (nilA)))) (consA (onA tupF (consA (varE 4) (consA (conE (.str "new")) (nilA)))) (nilA)))) (nilA)))) (passS)) (seqS (ifS (valT (bin inF (conE (.str "elder")) (varE 0))) (seqS (setS 8 (onA tupF (consA (onA tupF (consA (conE (.str "here")) (consA (conE (.str "nothing")) (consA (conE (.bl true)) (nilA))))) (consA (onA tupF (consA (conE (.str "elder")) (consA (varE 4) (consA (conE (.bl true)) (nilA))))) (nilA))))) (seqS (expS (bmE "list" appF (varE 3) (consA (onA tupF (consA (varE 8) (consA (onA tupF (consA (onA tupF (consA (conE (.str "here")) (consA (conE (.str "new")) (nilA)))) (consA (onA tupF (consA (varE 4) (consA (conE (.str "new")) (nilA)))) (consA (onA tupF (consA (conE (.str "elder")) (consA (conE (.str "nothing")) (nilA)))) (nilA))))) (nilA)))) (nilA)))) (seqS (setS 8 (onA tupF (consA (onA tupF (consA (conE (.str "here")) (consA (conE (.str "nothing")) (consA (conE (.bl true)) (nilA))))) (consA (onA tupF (consA (conE (.str "elder")) (consA (conE (.str "nothing")) (consA (conE (.bl false)) (nilA))))) (nilA))))) (expS (bmE "list" appF (varE 3) (consA (onA tupF (consA (varE 8) (consA (onA tupF (consA (onA tupF (consA (conE (.str "here")) (consA (conE (.str "elder")) (nilA)))) (consA (onA tupF (consA (conE (.str "elder")) (consA (conE (.str "nothing")) (nilA)))) (consA (onA tupF (consA (varE 4) (consA (conE (.str "new")) (nilA)))) (nilA))))) (nilA)))) (nilA))))))) (passS)) (seqS (expS (bmE "list" appF (varE 3) (consA (onA tupF (consA (onA tupF (consA (onA tupF (consA (conE (.str "here")) (consA (varE 4) (consA (conE (.bl true)) (nilA))))) (nilA))) (consA (varE 6) (nilA)))) (nilA)))) (seqS (ifS (valT (bin neF (varE 5) (varE 4))) (expS (bmE "list" appF (varE 3) (consA (onA tupF (consA (onA tupF (consA (onA tupF (consA (conE (.str "here")) (consA (varE 5) (consA (conE (.bl true)) (nilA))))) (nilA))) (consA (bin addF (onA tupF (consA (onA tupF (consA (varE 4) (consA (conE (.str "here")) (nilA)))) (nilA))) (varE 6)) (nilA)))) (nilA)))) (passS)) (seqS (expS (bmE "list" appF (varE 3) (consA (onA tupF (consA (onA tupF (consA (onA tupF (consA (conE (.str "here")) (consA (conE (.str "new")) (consA (conE (.bl true)) (nilA))))) (nilA))) (consA (varE 7) (nilA)))) (nilA)))) (seqS (expS (bmE "list" appF (varE 3) (consA (onA tupF (consA (onA tupF (consA (onA tupF (consA (conE (.str "new")) (consA (varE 4) (consA (conE (.bl true)) (nilA))))) (nilA))) (consA (ifE (valT (bin neF (varE 5) (varE 4))) (onA tupF (consA (onA tupF (consA (varE 5) (consA (varE 4) (nilA)))) (nilA))) (onA tupF (nilA))) (nilA)))) (nilA)))) (seqS (expS (bmE "list" appF (varE 3) (consA (ifE (valT (bin inF (conE (.str "beside")) (varE 0))) (onA tupF (consA (onA tupF (nilA)) (consA (bin addF (onA tupF (consA (onA tupF (consA (conE (.str "beside")) (consA (conE (.str "here")) (nilA)))) (nilA))) (varE 6)) (nilA)))) (onA tupF (consA (onA tupF (nilA)) (consA (varE 6) (consA (varE 7) (nilA)))))) (nilA)))) (retS (varE 3))))))))))))
def m_law_good : FM := fnM 1 10 b_law_good
abbrev N_law_bent : List Str := ["source", "names", "lines", "kind", "at", "front", "line", "rest"]
def b_law_bent : SM := seqS (parS [3, 4] (consA (onA m_law_draw (consA (varE 0) (consA (conE (.int 8)) (nilA)))) (consA (onA m_law_draw (consA (varE 0) (consA (onA lenF (consA (varE 2) (nilA))) (nilA)))) (nilA)))) (seqS (parS [5, 6, 7] (consA (slE (varE 2) (noO) (someO (varE 4))) (consA (bin ixF (varE 2) (varE 4)) (consA (slE (varE 2) (someO (bin addF (varE 4) (conE (.int 1)))) (noO)) (nilA))))) (seqS (ifS (andT (valT (bin eqF (varE 3) (conE (.int 0)))) (valT (bin neF (varE 7) (onA lstF (nilA))))) (retS (bin addF (varE 5) (varE 7))) (passS)) (seqS (ifS (valT (bin eqF (varE 3) (conE (.int 1)))) (retS (bin addF (bin addF (varE 5) (onA lstF (consA (bin addF (onA tupF (consA (bin ixF (varE 6) (conE (.int 0))) (consA (revE (bin ixF (varE 6) (conE (.int 1)))) (nilA)))) (slE (varE 6) (someO (conE (.int 2))) (noO))) (nilA)))) (varE 7))) (passS)) (seqS (ifS (valT (bin eqF (varE 3) (conE (.int 2)))) (retS (bin addF (bin addF (varE 5) (onA lstF (consA (bin addF (onA tupF (consA (bin ixF (varE 6) (conE (.int 0))) (consA (slE (bin ixF (varE 6) (conE (.int 1))) (someO (conE (.int 1))) (noO)) (nilA)))) (slE (varE 6) (someO (conE (.int 2))) (noO))) (nilA)))) (varE 7))) (passS)) (seqS (ifS (andT (valT (bin eqF (varE 3) (conE (.int 3)))) (valT (bin gtF (onA lenF (consA (varE 7) (nilA))) (conE (.int 1))))) (retS (bin addF (bin addF (varE 5) (onA lstF (consA (bin ixF (varE 7) (conE (.int 0))) (consA (varE 6) (nilA))))) (slE (varE 7) (someO (conE (.int 1))) (noO)))) (passS)) (seqS (ifS (andT (valT (bin eqF (varE 3) (conE (.int 4)))) (valT (bin ltF (onA lenF (consA (varE 2) (nilA))) (conE (.int 8))))) (retS (bin addF (bin addF (varE 5) (onA lstF (consA (onA m_law_row (consA (varE 0) (consA (varE 1) (consA (conE (.bl false)) (nilA))))) (consA (varE 6) (nilA))))) (varE 7))) (passS)) (seqS (ifS (valT (bin eqF (varE 3) (conE (.int 5)))) (retS (bin addF (slE (varE 2) (noO) (someO (un negF (conE (.int 1))))) (onA lstF (consA (onA m_law_row (consA (varE 0) (consA (varE 1) (consA (conE (.bl true)) (nilA))))) (nilA))))) (passS)) (seqS (ifS (valT (bin eqF (varE 3) (conE (.int 6)))) (retS (bin addF (bin addF (varE 5) (onA lstF (consA (onA tupF (consA (bin ixF (varE 6) (conE (.int 0))) (consA (bin ixF (varE 6) (conE (.int 1))) (consA (onA tupF (nilA)) (nilA))))) (nilA)))) (varE 7))) (passS)) (retS (varE 2))))))))))
def m_law_bent : FM := fnM 3 8 b_law_bent
abbrev N_law_rule : List Str := ["source", "most", "names", "lines", "turn", "many"]
def b_law_rule : SM := seqS (setS 2 (onA m_law_registers (consA (varE 0) (consA (varE 1) (nilA))))) (seqS (setS 3 (onA m_law_good (consA (varE 2) (nilA)))) (seqS (ifS (valT (bin eqF (onA m_law_draw (consA (varE 0) (consA (conE (.int 3)) (nilA)))) (conE (.int 0)))) (seqS (setS 5 (onA m_law_draw (consA (varE 0) (consA (conE (.int 4)) (nilA))))) (setS 3 (lcE [4] (rng1I (consA (bin addF (varE 5) (conE (.int 1))) (nilA))) (gnm 4) (yesT) (onA m_law_row (consA (varE 0) (consA (varE 2) (consA (bin eqF (varE 4) (varE 5)) (nilA)))))))) (passS)) (seqS (forS (rng1I (consA (onA m_law_draw (consA (varE 0) (consA (conE (.int 3)) (nilA)))) (nilA))) (gnm 4) (setS 3 (onA m_law_bent (consA (varE 0) (consA (varE 2) (consA (varE 3) (nilA))))))) (retS (onA lstF (consA (varE 2) (consA (varE 3) (nilA))))))))
def m_law_rule : FM := fnM 2 6 b_law_rule
abbrev N_law_made : List Str := ["rule"]
def b_law_made : SM := retS (onA (makeX "Rule" m_Rule_init) (consA (onA listF (consA (bin ixF (varE 0) (conE (.int 0))) (nilA))) (consA (onA listF (consA (bin ixF (varE 0) (conE (.int 1))) (nilA))) (nilA))))
def m_law_made : FM := fnM 1 1 b_law_made
abbrev N_law_begun : List Str := ["rule"]
def b_law_begun : SM := retS (onA tupF (consA (bin mulF2 (onA tupF (consA (conE (.int 0)) (nilA))) (bin addF (onA lenF (consA (bin ixF (varE 0) (conE (.int 0))) (nilA))) (conE (.int 3)))) (consA (conE (.str "none")) (consA (conE (.bl false)) (nilA)))))
def m_law_begun : FM := fnM 1 1 b_law_begun
abbrev N_law_shape : List Str := ["source", "rule", "place", "found", "top", "mark", "amid_it"]
def b_law_shape : SM := seqS (parS [3, 4] (consA (onA lstF (nilA)) (consA (conE (.int 0)) (nilA)))) (seqS (forS (rng1I (consA (bin addF (onA lenF (consA (bin ixF (varE 1) (conE (.int 0))) (nilA))) (conE (.int 3))) (nilA))) (gnm 2) (seqS (expS (bmE "list" appF (varE 3) (consA (onA m_law_draw (consA (varE 0) (consA (bin addF (varE 4) (conE (.int 2))) (nilA)))) (nilA)))) (setS 4 (onA max2F (consA (varE 4) (consA (bin ixF (varE 3) (un negF (conE (.int 1)))) (nilA))))))) (seqS (parS [5, 6] (consA (onA m_law_pick (consA (varE 0) (consA (onA lstF (consA (conE (.str "none")) (consA (conE (.str "own")) (consA (conE (.str "own")) (consA (conE (.str "free")) (nilA)))))) (nilA)))) (consA (bin eqF (onA m_law_draw (consA (varE 0) (consA (conE (.int 2)) (nilA)))) (conE (.int 0))) (nilA)))) (seqS (ifS (andT (valT (bin neF (varE 5) (conE (.str "own")))) (valT (bin gtF (onA m_law_draw (consA (varE 0) (consA (conE (.int 4)) (nilA)))) (conE (.int 0))))) (setX (varE 3) (un negF (conE (.int 1))) (conE (.int 0))) (passS)) (retS (onA tupF (consA (onA tupleF (consA (varE 3) (nilA))) (consA (varE 5) (consA (orE (varE 6) (andE (bin eqF (varE 5) (conE (.str "free"))) (bin gtF (onA m_law_draw (consA (varE 0) (consA (conE (.int 4)) (nilA)))) (conE (.int 0))))) (nilA)))))))))
def m_law_shape : FM := fnM 2 7 b_law_shape
abbrev N_law_is_shape : List Str := ["rule", "thing", "top", "number"]
def b_law_is_shape : SM := seqS (ifS (orT (notT (valT (onA (isiF "tuple") (consA (varE 1) (consA (conE (.ty "tuple")) nilA))))) (orT (valT (bin neF (onA lenF (consA (varE 1) (nilA))) (conE (.int 3)))) (notT (valT (onA (isiF "tuple") (consA (bin ixF (varE 1) (conE (.int 0))) (consA (conE (.ty "tuple")) nilA))))))) (retS (conE (.bl false))) (passS)) (seqS (setS 2 (conE (.int 0))) (seqS (forS (seqI (bin ixF (varE 1) (conE (.int 0)))) (gnm 3) (seqS (ifS (orT (valT (onA (isiF "bool") (consA (varE 3) (consA (conE (.ty "bool")) nilA)))) (orT (notT (valT (onA (isiF "int") (consA (varE 3) (consA (conE (.ty "int")) nilA))))) (notT (valT (chainE leF leF (conE (.int 0)) (varE 3) (bin addF (varE 2) (conE (.int 1)))))))) (retS (conE (.bl false))) (passS)) (setS 2 (onA max2F (consA (varE 2) (consA (varE 3) (nilA))))))) (seqS (ifS (orT (notT (valT (onA (isiF "str") (consA (bin ixF (varE 1) (conE (.int 1))) (consA (conE (.ty "str")) nilA))))) (orT (valT (bin ninF (bin ixF (varE 1) (conE (.int 1))) (onA lstF (consA (conE (.str "none")) (consA (conE (.str "own")) (consA (conE (.str "free")) (nilA))))))) (notT (valT (onA (isiF "bool") (consA (bin ixF (varE 1) (conE (.int 2))) (consA (conE (.ty "bool")) nilA))))))) (retS (conE (.bl false))) (passS)) (seqS (ifS (orT (valT (bin neF (onA lenF (consA (bin ixF (varE 1) (conE (.int 0))) (nilA))) (bin addF (onA lenF (consA (bin ixF (varE 0) (conE (.int 0))) (nilA))) (conE (.int 3))))) (andT (valT (bin neF (bin ixF (varE 1) (conE (.int 1))) (conE (.str "own")))) (valT (bin neF (bin ixF (bin ixF (varE 1) (conE (.int 0))) (un negF (conE (.int 1)))) (conE (.int 0)))))) (retS (conE (.bl false))) (passS)) (retS (orE (bin neF (bin ixF (varE 1) (conE (.int 1))) (conE (.str "free"))) (bin ixF (varE 1) (conE (.int 2)))))))))
def m_law_is_shape : FM := fnM 2 4 b_law_is_shape
abbrev N_law_odd : List Str := ["source", "thing", "found", "kind", "top", "at"]
def b_law_odd : SM := seqS (parS [2, 3] (consA (onA listF (consA (bin ixF (varE 1) (conE (.int 0))) (nilA))) (consA (onA m_law_draw (consA (varE 0) (consA (conE (.int 8)) (nilA)))) (nilA)))) (seqS (parS [4, 5] (consA (onA maxLF (consA (varE 2) (nilA))) (consA (onA m_law_draw (consA (varE 0) (consA (onA lenF (consA (varE 2) (nilA))) (nilA)))) (nilA)))) (seqS (ifS (valT (bin ltF (varE 3) (conE (.int 3)))) (seqS (setX (varE 2) (varE 5) (onA m_law_pick (consA (varE 0) (consA (onA lstF (consA (conE (.bl true)) (consA (conE (.bl false)) (consA (bin subF (conE (.int 0)) (conE (.int 1))) (consA (conE .non) (consA (conE (.str "0")) (consA (varE 4) (consA (bin addF (varE 4) (conE (.int 1))) (consA (bin addF (varE 4) (conE (.int 2))) (consA (conE (.int 0)) (consA (conE (.int 1)) (consA (bin powF (conE (.int 10)) (conE (.int 20))) (consA (onA tupF (consA (conE (.int 0)) (nilA))) (consA (onA lstF (consA (conE (.int 1)) (nilA))) (nilA))))))))))))))) (nilA))))) (retS (onA tupF (consA (onA tupleF (consA (varE 2) (nilA))) (consA (bin ixF (varE 1) (conE (.int 1))) (consA (bin ixF (varE 1) (conE (.int 2))) (nilA))))))) (passS)) (seqS (ifS (valT (bin eqF (varE 3) (conE (.int 3)))) (retS (onA tupF (consA (bin ixF (varE 1) (conE (.int 0))) (consA (onA m_law_pick (consA (varE 0) (consA (onA lstF (consA (conE (.str "none")) (consA (conE (.str "own")) (consA (conE (.str "free")) (consA (conE (.str "")) (consA (conE .non) (consA (conE (.str "None")) (consA (onA tupF (consA (conE (.str "own")) (nilA))) (consA (conE (.int 0)) (consA (conE (.str "owned")) (nilA))))))))))) (nilA)))) (consA (bin ixF (varE 1) (conE (.int 2))) (nilA)))))) (passS)) (seqS (ifS (valT (bin eqF (varE 3) (conE (.int 4)))) (retS (onA tupF (consA (bin ixF (varE 1) (conE (.int 0))) (consA (bin ixF (varE 1) (conE (.int 1))) (consA (onA m_law_pick (consA (varE 0) (consA (onA lstF (consA (conE (.bl true)) (consA (conE (.bl false)) (consA (conE (.int 0)) (consA (conE (.int 1)) (consA (conE .non) (consA (conE (.str "False")) (consA (onA tupF (consA (conE (.bl true)) (nilA))) (nilA))))))))) (nilA)))) (nilA)))))) (passS)) (seqS (ifS (valT (bin eqF (varE 3) (conE (.int 5)))) (retS (onA tupF (consA (ifE (valT (bin eqF (varE 5) (conE (.int 0)))) (onA tupleF (consA (slE (varE 2) (noO) (someO (un negF (conE (.int 1))))) (nilA))) (onA tupleF (consA (bin addF (varE 2) (onA lstF (consA (conE (.int 0)) (nilA)))) (nilA)))) (consA (bin ixF (varE 1) (conE (.int 1))) (consA (bin ixF (varE 1) (conE (.int 2))) (nilA)))))) (passS)) (seqS (ifS (valT (bin eqF (varE 3) (conE (.int 6)))) (retS (onA m_law_pick (consA (varE 0) (consA (onA lstF (consA (onA tupF (consA (varE 2) (consA (bin ixF (varE 1) (conE (.int 1))) (consA (bin ixF (varE 1) (conE (.int 2))) (nilA))))) (consA (onA listF (consA (varE 1) (nilA))) (consA (bin addF (varE 1) (onA tupF (consA (conE (.bl false)) (nilA)))) (consA (slE (varE 1) (noO) (someO (conE (.int 2)))) (consA (onA tupF (consA (bin ixF (varE 1) (conE (.int 0))) (nilA))) (nilA))))))) (nilA))))) (passS)) (retS (onA m_law_pick (consA (varE 0) (consA (onA lstF (consA (conE .non) (consA (conE (.int 0)) (consA (conE (.bl true)) (consA (conE (.str "")) (consA (conE (.str "own")) (consA (onA tupF (nilA)) (consA (onA lstF (nilA)) (consA (dct0E) (consA (onA tupF (consA (conE (.int 0)) (consA (conE (.int 0)) (consA (conE (.int 0)) (nilA))))) (consA (onA tupF (consA (onA tupF (nilA)) (consA (conE (.str "none")) (consA (conE (.bl false)) (nilA))))) (consA (onA lstF (consA (varE 1) (nilA))) (consA (onA tupF (consA (varE 1) (nilA))) (nilA)))))))))))))) (nilA)))))))))))
def m_law_odd : FM := fnM 2 6 b_law_odd
abbrev N_law : List Str := ["script", "start", "source", "rule", "turn", "made", "begun", "thing", "value", "due", "before"]
def b_law : SM := seqS (forS (rng1I (consA (onA max2F (consA (conE (.int 1)) (consA (onA min2F (consA (conE (.int 2)) (consA (onA lenF (consA (varE 0) (nilA))) (nilA)))) (nilA)))) (nilA))) (gnm 1) (seqS (setS 2 (onA m_law_source (consA (varE 0) (consA (varE 1) (nilA))))) (seqS (setS 3 (onA m_law_rule (consA (varE 2) (consA (conE (.int 3)) (nilA))))) (seqS (parS [5, 6] (consA (onA m_law_made (consA (varE 3) (nilA))) (consA (onA m_law_begun (consA (varE 3) (nilA))) (nilA)))) (seqS (forS (rng1I (consA (conE (.int 10)) (nilA))) (gnm 4) (seqS (setS 7 (onA m_law_shape (consA (varE 2) (consA (varE 3) (nilA))))) (forS (seqI (onA lstF (consA (varE 7) (consA (onA m_law_odd (consA (varE 2) (consA (varE 7) (nilA)))) (consA (onA m_law_odd (consA (varE 2) (consA (varE 7) (nilA)))) (nilA)))))) (gnm 8) (seqS (parS [9, 10] (consA (onA m_law_is_shape (consA (varE 3) (consA (varE 8) (nilA)))) (consA (un reprF4 (varE 8)) (nilA)))) (seqS (ifS (orT (valT (bin neF (un reprF4 (onA m_is_pattern (consA (varE 5) (consA (varE 8) (nilA))))) (un reprF4 (varE 9)))) (valT (bin neF (un reprF4 (varE 8)) (varE 10)))) (retS (conE (.bl false))) (passS)) (ifS (andT (notT (valT (varE 9))) (valT (onD [(.bl false)] m_is_closed (consA (varE 5) (consA (onA lstF (consA (varE 6) (consA (varE 8) (nilA)))) (nilA)))))) (retS (conE (.bl false))) (passS))))))) (ifS (notT (valT (onA m_is_pattern (consA (varE 5) (consA (varE 6) (nilA)))))) (retS (conE (.bl false))) (passS))))))) (retS (conE (.bl true)))
end ML

namespace ML
open PySem PySem.Spec PyProof.Rows L2
def top (i : Nat) : Stmt := PySem.Challenge.pw_stillmine_k21_shapes_of_patterns.main.body.getD i (.Pass ⟨0, 0, 0, 0⟩)
/-- what the module's names hold -/
structure Txt (P : Program) (w : World) (K : PySem.W.Frag) (mg : Str → Option Value) (base : Heap) : Prop where
  n_all : mg "all" = none
  n_bool : mg "bool" = none
  n_enumerate : mg "enumerate" = none
  n_int : mg "int" = none
  n_isinstance : mg "isinstance" = none
  n_len : mg "len" = none
  n_list : mg "list" = none
  n_max : mg "max" = none
  n_min : mg "min" = none
  n_range : mg "range" = none
  n_repr : mg "repr" = none
  n_set : mg "set" = none
  n_str : mg "str" = none
  n_tuple : mg "tuple" = none
  x_BadRegisters : XcC P w K mg base "BadRegisters" "value"
  x_BadLines : XcC P w K mg base "BadLines" "value"
  x_BadLine : XcC P w K mg base "BadLine" "position"
  f_own_names : FldOk K mg ["Rule"] [] "own_names"
  f_rows : FldOk K mg ["Rule"] [] "rows"
  c_BARRED : TupG K mg "BARRED" ["here", "new", "nothing", "is", "not", "from", "or", "ask", "do", "otherwise"]
  c_FREE : StrG mg "FREE" "free"
  c_LETTERS : StrG mg "LETTERS" "abcdefghijklmnopqrstuvwxyz"
  c_MOST_LINES : IntG mg "MOST_LINES" 8
  c_MOST_REGISTERS : IntG mg "MOST_REGISTERS" 3
  c_MOST_STEPS : IntG mg "MOST_STEPS" 4
  c_MOST_TESTS : IntG mg "MOST_TESTS" 4
  c_NONE : StrG mg "NONE" "none"
  c_OWN : StrG mg "OWN" "own"
section
variable {P : Program} {w : World} {K : PySem.W.Frag} {mg : Str → Option Value} {base : Heap}
abbrev s_is_name : Stmt := top 20
theorem sc_is_name : FnScope N_is_name ["value"] (defScope s_is_name) := ⟨rfl, rfl, rfl, by decide +kernel, rfl, by decide +kernel, by decide +kernel⟩
theorem ok_is_name {f : Addr} {fd : FuncData} (F : Fun K "is_name" "is_name" s_is_name f fd) (T : Txt P w K mg base)  : FnOk P w K mg base (L2.CX P w) 1 f fd ["value"] (spM ⟨K, mg⟩ 1 m_is_name) :=
  fn_ok F sc_is_name fun cdv A outer s H E hr tk => by
    have hu := hr.units
    exact ss_one (s_ret (e_and (e_callB call_isi (rf_isi (by decide)) (by rfl) T.n_isinstance bb_isinstance (a_cons (e_var 0 (pv 0)) (a_cons (e_con (v := .ty "str") (pe_bltn (by rfl) T.n_str bb_str rfl) (fun _ _ => by unfold RD; rfl)) a_nil))) (e_and (e_chain op_leM rf_le op_leM rf_le (e_int) (e_callB call_lenM rf_len (by rfl) T.n_len bb_len (a_cons (e_var 0 (pv 0)) (a_nil))) (e_int)) (e_one (e_callB (cr_all rfl) rf_all (by rfl) T.n_all bb_all (a_cons (e_lc (own := [("letter", 1)]) rfl sc_is_name.nd (i_any (e_var 0 (pv 0))) (blkOk_by (N := N_is_name) (sc := defScope s_is_name) (by decide +kernel)) (fun _ _ _ _ _ => g_name 1 sc_is_name.nd rfl (by first | exact Or.inl rfl | exact Or.inr rfl)) (fun _ _ _ _ _ => ts_nil) (fun _ _ _ _ _ => e_cmp (op_inM hu) rf_in (e_var 1 (pv 1)) (e_gstr T.c_LETTERS (by rfl)) (by with_unfolding_all rfl))) (a_nil)))))))
abbrev s_need_registers : Stmt := top 21
theorem sc_need_registers : FnScope N_need_registers ["value"] (defScope s_need_registers) := ⟨rfl, rfl, rfl, by decide +kernel, rfl, by decide +kernel, by decide +kernel⟩
theorem ok_need_registers {f : Addr} {fd : FuncData} (F : Fun K "need_registers" "need_registers" s_need_registers f fd) (T : Txt P w K mg base) (C_is_name : Cal P w K mg base "is_name" 1 m_is_name) : FnOk P w K mg base (L2.CX P w) 3 f fd ["value"] (spM ⟨K, mg⟩ 1 m_need_registers) :=
  fn_ok F sc_need_registers fun cdv A outer s H E hr tk => by
    have hu := hr.units
    exact ss_cons (s_if (PW.pt (w_or (t_not (t_val (e_isi2 (by rfl) T.n_isinstance (e_var 0 (pv 0)) (pe_bltn (by rfl) T.n_list bb_list rfl) (pe_bltn (by rfl) T.n_tuple bb_tuple rfl)))) (w_or1 (t_cmp op_gtM rf_gt (e_callB call_lenM rf_len (by rfl) T.n_len bb_len (a_cons (e_var 0 (pv 0)) (a_nil))) (e_gint T.c_MOST_REGISTERS (by rfl)) (nomark _))))) (ss_one (s_raise tk rfl T.x_BadRegisters (hr.mono (by decide)) (by rfl) (a_cons (e_var 0 (pv 0)) (a_nil)))) (ss_nil)) (ss_one (s_if (PW.pt (w_or (t_not (t_val (e_callB (cr_all rfl) rf_all (by rfl) T.n_all bb_all (a_cons (e_lc (own := [("name", 1)]) rfl sc_need_registers.nd (i_any (e_var 0 (pv 0))) (blkOk_by (N := N_need_registers) (sc := defScope s_need_registers) (by decide +kernel)) (fun _ _ _ _ _ => g_name 1 sc_need_registers.nd rfl (by first | exact Or.inl rfl | exact Or.inr rfl)) (fun _ _ _ _ _ => ts_nil) (fun _ _ _ _ _ => e_and (e_call C_is_name (hr.mono (by decide)) takes_no (by rfl) (a_cons (e_var 1 (pv 1)) (a_nil))) (e_one (e_cmp (op_ninM hu) rf_nin (e_var 1 (pv 1)) (e_gtup T.c_BARRED (by rfl)) (by with_unfolding_all rfl))))) (a_nil))))) (w_or1 (t_cmp (op_neM hu) rf_ne (e_lenset rfl (by rfl) T.n_len (by rfl) T.n_set (e_var 0 (pv 0))) (e_callB call_lenM rf_len (by rfl) T.n_len bb_len (a_cons (e_var 0 (pv 0)) (a_nil))) (nomark _))))) (ss_one (s_raise tk rfl T.x_BadRegisters (hr.mono (by decide)) (by rfl) (a_cons (e_var 0 (pv 0)) (a_nil)))) (ss_nil)))
abbrev s_is_one_of : Stmt := top 22
theorem sc_is_one_of : FnScope N_is_one_of ["value", "words"] (defScope s_is_one_of) := ⟨rfl, rfl, rfl, by decide +kernel, rfl, by decide +kernel, by decide +kernel⟩
theorem ok_is_one_of {f : Addr} {fd : FuncData} (F : Fun K "is_one_of" "is_one_of" s_is_one_of f fd) (T : Txt P w K mg base)  : FnOk P w K mg base (L2.CX P w) 1 f fd ["value", "words"] (spM ⟨K, mg⟩ 2 m_is_one_of) :=
  fn_ok F sc_is_one_of fun cdv A outer s H E hr tk => by
    have hu := hr.units
    exact ss_one (s_ret (e_and (e_callB call_isi (rf_isi (by decide)) (by rfl) T.n_isinstance bb_isinstance (a_cons (e_var 0 (pv 0)) (a_cons (e_con (v := .ty "str") (pe_bltn (by rfl) T.n_str bb_str rfl) (fun _ _ => by unfold RD; rfl)) a_nil))) (e_one (e_cmp (op_inM hu) rf_in (e_var 0 (pv 0)) (e_var 1 (pv 1)) (by with_unfolding_all rfl)))))
abbrev s_is_test : Stmt := top 23
theorem sc_is_test : FnScope N_is_test ["value", "names"] (defScope s_is_test) := ⟨rfl, rfl, rfl, by decide +kernel, rfl, by decide +kernel, by decide +kernel⟩
theorem ok_is_test {f : Addr} {fd : FuncData} (F : Fun K "is_test" "is_test" s_is_test f fd) (T : Txt P w K mg base) (C_is_one_of : Cal P w K mg base "is_one_of" 1 m_is_one_of) : FnOk P w K mg base (L2.CX P w) 2 f fd ["value", "names"] (spM ⟨K, mg⟩ 2 m_is_test) :=
  fn_ok F sc_is_test fun cdv A outer s H E hr tk => by
    have hu := hr.units
    exact ss_cons (s_if (PW.pt (w_or (t_not (t_val (e_callB call_isi (rf_isi (by decide)) (by rfl) T.n_isinstance bb_isinstance (a_cons (e_var 0 (pv 0)) (a_cons (e_con (v := .ty "tuple") (pe_bltn (by rfl) T.n_tuple bb_tuple rfl) (fun _ _ => by unfold RD; rfl)) a_nil))))) (w_or (t_cmp (op_neM hu) rf_ne (e_callB call_lenM rf_len (by rfl) T.n_len bb_len (a_cons (e_var 0 (pv 0)) (a_nil))) (e_int) (nomark _)) (w_or1 (t_not (t_val (e_callB call_isi (rf_isi (by decide)) (by rfl) T.n_isinstance bb_isinstance (a_cons (e_ix hu (e_var 0 (pv 0)) (e_int) (fun _ _ => rfl)) (a_cons (e_con (v := .ty "bool") (pe_bltn (by rfl) T.n_bool bb_bool rfl) (fun _ _ => by unfold RD; rfl)) a_nil))))))))) (ss_one (s_ret (e_bl))) (ss_nil)) (ss_one (s_ret (e_and (e_call C_is_one_of (hr.mono (by decide)) tk (by rfl) (a_cons (e_ix hu (e_var 0 (pv 0)) (e_int) (fun _ _ => rfl)) (a_cons (e_tup (a_cons (e_str) (a_cons (e_str) (a_star (e_var 1 (pv 1)) (a_nil))))) (a_nil)))) (e_one (e_call C_is_one_of (hr.mono (by decide)) tk (by rfl) (a_cons (e_ix hu (e_var 0 (pv 0)) (e_int) (fun _ _ => rfl)) (a_cons (e_tup (a_cons (e_str) (a_cons (e_str) (a_cons (e_str) (a_star (e_var 1 (pv 1)) (a_nil)))))) (a_nil))))))))
abbrev s_is_step : Stmt := top 24
theorem sc_is_step : FnScope N_is_step ["value", "names"] (defScope s_is_step) := ⟨rfl, rfl, rfl, by decide +kernel, rfl, by decide +kernel, by decide +kernel⟩
theorem ok_is_step {f : Addr} {fd : FuncData} (F : Fun K "is_step" "is_step" s_is_step f fd) (T : Txt P w K mg base) (C_is_one_of : Cal P w K mg base "is_one_of" 1 m_is_one_of) : FnOk P w K mg base (L2.CX P w) 2 f fd ["value", "names"] (spM ⟨K, mg⟩ 2 m_is_step) :=
  fn_ok F sc_is_step fun cdv A outer s H E hr tk => by
    have hu := hr.units
    exact ss_cons (s_if (PW.pt (w_or (t_not (t_val (e_callB call_isi (rf_isi (by decide)) (by rfl) T.n_isinstance bb_isinstance (a_cons (e_var 0 (pv 0)) (a_cons (e_con (v := .ty "tuple") (pe_bltn (by rfl) T.n_tuple bb_tuple rfl) (fun _ _ => by unfold RD; rfl)) a_nil))))) (w_or1 (t_cmp (op_neM hu) rf_ne (e_callB call_lenM rf_len (by rfl) T.n_len bb_len (a_cons (e_var 0 (pv 0)) (a_nil))) (e_int) (nomark _))))) (ss_one (s_ret (e_bl))) (ss_nil)) (ss_one (s_ret (e_and (e_call C_is_one_of (hr.mono (by decide)) tk (by rfl) (a_cons (e_ix hu (e_var 0 (pv 0)) (e_int) (fun _ _ => rfl)) (a_cons (e_tup (a_cons (e_str) (a_star (e_var 1 (pv 1)) (a_nil)))) (a_nil)))) (e_one (e_call C_is_one_of (hr.mono (by decide)) tk (by rfl) (a_cons (e_ix hu (e_var 0 (pv 0)) (e_int) (fun _ _ => rfl)) (a_cons (e_tup (a_cons (e_str) (a_cons (e_str) (a_cons (e_str) (a_star (e_var 1 (pv 1)) (a_nil)))))) (a_nil))))))))
abbrev s_are_steps : Stmt := top 25
theorem sc_are_steps : FnScope N_are_steps ["value", "names"] (defScope s_are_steps) := ⟨rfl, rfl, rfl, by decide +kernel, rfl, by decide +kernel, by decide +kernel⟩
theorem ok_are_steps {f : Addr} {fd : FuncData} (F : Fun K "are_steps" "are_steps" s_are_steps f fd) (T : Txt P w K mg base) (C_is_step : Cal P w K mg base "is_step" 2 m_is_step) : FnOk P w K mg base (L2.CX P w) 3 f fd ["value", "names"] (spM ⟨K, mg⟩ 2 m_are_steps) :=
  fn_ok F sc_are_steps fun cdv A outer s H E hr tk => by
    have hu := hr.units
    exact ss_one (s_ret (e_and (e_callB call_isi (rf_isi (by decide)) (by rfl) T.n_isinstance bb_isinstance (a_cons (e_var 0 (pv 0)) (a_cons (e_con (v := .ty "tuple") (pe_bltn (by rfl) T.n_tuple bb_tuple rfl) (fun _ _ => by unfold RD; rfl)) a_nil))) (e_and (e_cmp op_leM rf_le (e_callB call_lenM rf_len (by rfl) T.n_len bb_len (a_cons (e_var 0 (pv 0)) (a_nil))) (e_gint T.c_MOST_STEPS (by rfl)) (nomark _)) (e_one (e_callB (cr_all rfl) rf_all (by rfl) T.n_all bb_all (a_cons (e_lc (own := [("step", 2)]) rfl sc_are_steps.nd (i_any (e_var 0 (pv 0))) (blkOk_by (N := N_are_steps) (sc := defScope s_are_steps) (by decide +kernel)) (fun _ _ _ _ _ => g_name 2 sc_are_steps.nd rfl (by first | exact Or.inl rfl | exact Or.inr rfl)) (fun _ _ _ _ _ => ts_nil) (fun _ _ _ _ _ => e_call C_is_step (hr.mono (by decide)) takes_no (by rfl) (a_cons (e_var 2 (pv 2)) (a_cons (e_var 1 (pv 1)) (a_nil))))) (a_nil)))))))
abbrev s_is_line : Stmt := top 26
theorem sc_is_line : FnScope N_is_line ["value", "names"] (defScope s_is_line) := ⟨rfl, rfl, rfl, by decide +kernel, rfl, by decide +kernel, by decide +kernel⟩
theorem ok_is_line {f : Addr} {fd : FuncData} (F : Fun K "is_line" "is_line" s_is_line f fd) (T : Txt P w K mg base) (C_are_steps : Cal P w K mg base "are_steps" 3 m_are_steps) (C_is_test : Cal P w K mg base "is_test" 2 m_is_test) : FnOk P w K mg base (L2.CX P w) 4 f fd ["value", "names"] (spM ⟨K, mg⟩ 2 m_is_line) :=
  fn_ok F sc_is_line fun cdv A outer s H E hr tk => by
    have hu := hr.units
    exact ss_cons (s_if (PW.pt (w_or (t_not (t_val (e_callB call_isi (rf_isi (by decide)) (by rfl) T.n_isinstance bb_isinstance (a_cons (e_var 0 (pv 0)) (a_cons (e_con (v := .ty "tuple") (pe_bltn (by rfl) T.n_tuple bb_tuple rfl) (fun _ _ => by unfold RD; rfl)) a_nil))))) (w_or1 (t_cmp (op_ninM hu) rf_nin (e_callB call_lenM rf_len (by rfl) T.n_len bb_len (a_cons (e_var 0 (pv 0)) (a_nil))) (e_tup (a_cons (e_int) (a_cons (e_int) (a_nil)))) (by with_unfolding_all rfl))))) (ss_one (s_ret (e_bl))) (ss_nil)) (ss_cons (s_set 2 sc_is_line.nd rfl (by first | exact Or.inl rfl | exact Or.inr rfl) (e_ix hu (e_var 0 (pv 0)) (e_int) (fun _ _ => rfl))) (ss_cons (s_if (PW.pt (w_or (t_not (t_val (e_callB call_isi (rf_isi (by decide)) (by rfl) T.n_isinstance bb_isinstance (a_cons (e_var 2 (pv 2)) (a_cons (e_con (v := .ty "tuple") (pe_bltn (by rfl) T.n_tuple bb_tuple rfl) (fun _ _ => by unfold RD; rfl)) a_nil))))) (w_or (t_cmp op_gtM rf_gt (e_callB call_lenM rf_len (by rfl) T.n_len bb_len (a_cons (e_var 2 (pv 2)) (a_nil))) (e_gint T.c_MOST_TESTS (by rfl)) (nomark _)) (w_or1 (t_not (t_val (e_callB (cr_all rfl) rf_all (by rfl) T.n_all bb_all (a_cons (e_lc (own := [("test", 4)]) rfl sc_is_line.nd (i_any (e_var 2 (pv 2))) (blkOk_by (N := N_is_line) (sc := defScope s_is_line) (by decide +kernel)) (fun _ _ _ _ _ => g_name 4 sc_is_line.nd rfl (by first | exact Or.inl rfl | exact Or.inr rfl)) (fun _ _ _ _ _ => ts_nil) (fun _ _ _ _ _ => e_call C_is_test (hr.mono (by decide)) takes_no (by rfl) (a_cons (e_var 4 (pv 4)) (a_cons (e_var 1 (pv 1)) (a_nil))))) (a_nil))))))))) (ss_one (s_ret (e_bl))) (ss_nil)) (ss_one (s_ret (e_callB (cr_all rfl) rf_all (by rfl) T.n_all bb_all (a_cons (e_lc (own := [("steps", 3)]) rfl sc_is_line.nd (i_any (e_sl (e_var 0 (pv 0)) (o_some (e_int)) (o_no))) (blkOk_by (N := N_is_line) (sc := defScope s_is_line) (by decide +kernel)) (fun _ _ _ _ _ => g_name 3 sc_is_line.nd rfl (by first | exact Or.inl rfl | exact Or.inr rfl)) (fun _ _ _ _ _ => ts_nil) (fun _ _ _ _ _ => e_call C_are_steps (hr.mono (by decide)) takes_no (by rfl) (a_cons (e_var 3 (pv 3)) (a_cons (e_var 1 (pv 1)) (a_nil))))) (a_nil)))))))
abbrev s_Rule_init : Stmt := inClass (top 27) 0
theorem sc_Rule_init : FnScope N_Rule_init ["self", "registers", "lines"] (defScope s_Rule_init) := ⟨rfl, rfl, rfl, by decide +kernel, rfl, by decide +kernel, by decide +kernel⟩
theorem ok_Rule_init {f : Addr} {fd : FuncData} (F : Fun K "__init__" "Rule.__init__" s_Rule_init f fd) (T : Txt P w K mg base) (C_is_line : Cal P w K mg base "is_line" 4 m_is_line) (C_need_registers : Cal P w K mg base "need_registers" 3 m_need_registers) : FnOk P w K mg base (L2.CX P w) 5 f fd ["self", "registers", "lines"] (spM ⟨K, mg⟩ 3 m_Rule_init) :=
  fn_ok F sc_Rule_init fun cdv A outer s H E hr tk => by
    have hu := hr.units
    exact ss_cons (s_expr (e_call C_need_registers (hr.mono (by decide)) tk (by rfl) (a_cons (e_var 1 (pv 1)) (a_nil)))) (ss_cons (s_if (PW.pt (w_or (t_not (t_val (e_isi2 (by rfl) T.n_isinstance (e_var 2 (pv 2)) (pe_bltn (by rfl) T.n_list bb_list rfl) (pe_bltn (by rfl) T.n_tuple bb_tuple rfl)))) (w_or1 (t_not (t_chain op_leM rf_le op_leM rf_le (e_int) (e_callB call_lenM rf_len (by rfl) T.n_len bb_len (a_cons (e_var 2 (pv 2)) (a_nil))) (e_gint T.c_MOST_LINES (by rfl))))))) (ss_one (s_raise tk rfl T.x_BadLines (hr.mono (by decide)) (by rfl) (a_cons (e_var 2 (pv 2)) (a_nil)))) (ss_nil)) (ss_cons (s_for (passes_of rfl) rfl (i_enum2 (by rfl) T.n_enumerate (a_cons (e_var 2 (pv 2)) (a_nil))) (g_tup rfl (gs_cons (g_name 3 sc_Rule_init.nd rfl (by first | exact Or.inl rfl | exact Or.inr rfl)) (gs_cons (g_name 4 sc_Rule_init.nd rfl (by first | exact Or.inl rfl | exact Or.inr rfl)) (gs_nil)))) (ss_one (s_if (PW.pt (w_or (t_not (t_val (e_call C_is_line (hr.mono (by decide)) tk (by rfl) (a_cons (e_var 4 (pv 4)) (a_cons (e_var 1 (pv 1)) (a_nil)))))) (w_or1 (PW.pt (w_and (t_cmp (op_eqM hu) rf_eq (e_var 3 (pv 3)) (e_bin op_sub rf_sub (e_callB call_lenM rf_len (by rfl) T.n_len bb_len (a_cons (e_var 2 (pv 2)) (a_nil))) (e_int)) (nomark _)) (w_and1 (t_cmp (op_neM hu) rf_ne (e_ix hu (e_var 4 (pv 4)) (e_int) (fun _ _ => rfl)) (e_tup (a_nil)) (nomark _)))))))) (ss_one (s_raise tk rfl T.x_BadLine (hr.mono (by decide)) (by rfl) (a_cons (e_var 3 (pv 3)) (a_nil)))) (ss_nil)))) (ss_cons (s_fld T.f_own_names (e_var 0 (pv 0)) (e_callTy call_tuple_of rf_tuple (by rfl) T.n_tuple bb_tuple (a_cons (e_var 1 (pv 1)) (a_nil)))) (ss_one (s_fld T.f_rows (e_var 0 (pv 0)) (e_callTy call_tuple_of rf_tuple (by rfl) T.n_tuple bb_tuple (a_cons (e_var 2 (pv 2)) (a_nil))))))))
abbrev s_is_whole_number : Stmt := top 34
theorem sc_is_whole_number : FnScope N_is_whole_number ["value", "many"] (defScope s_is_whole_number) := ⟨rfl, rfl, rfl, by decide +kernel, rfl, by decide +kernel, by decide +kernel⟩
theorem ok_is_whole_number {f : Addr} {fd : FuncData} (F : Fun K "is_whole_number" "is_whole_number" s_is_whole_number f fd) (T : Txt P w K mg base)  : FnOk P w K mg base (L2.CX P w) 1 f fd ["value", "many"] (spM ⟨K, mg⟩ 2 m_is_whole_number) :=
  fn_ok F sc_is_whole_number fun cdv A outer s H E hr tk => by
    have hu := hr.units
    exact ss_one (s_ret (e_and (e_callB call_isi (rf_isi (by decide)) (by rfl) T.n_isinstance bb_isinstance (a_cons (e_var 0 (pv 0)) (a_cons (e_con (v := .ty "int") (pe_bltn (by rfl) T.n_int bb_int rfl) (fun _ _ => by unfold RD; rfl)) a_nil))) (e_and (e_not (e_callB call_isi (rf_isi (by decide)) (by rfl) T.n_isinstance bb_isinstance (a_cons (e_var 0 (pv 0)) (a_cons (e_con (v := .ty "bool") (pe_bltn (by rfl) T.n_bool bb_bool rfl) (fun _ _ => by unfold RD; rfl)) a_nil)))) (e_one (e_chain op_leM rf_le op_ltM rf_lt (e_int) (e_var 0 (pv 0)) (e_var 1 (pv 1)))))))
abbrev s_are_numbered : Stmt := top 42
theorem sc_are_numbered : FnScope N_are_numbered ["numbers"] (defScope s_are_numbered) := ⟨rfl, rfl, rfl, by decide +kernel, rfl, by decide +kernel, by decide +kernel⟩
theorem ok_are_numbered {f : Addr} {fd : FuncData} (F : Fun K "are_numbered" "are_numbered" s_are_numbered f fd) (T : Txt P w K mg base) (C_is_whole_number : Cal P w K mg base "is_whole_number" 1 m_is_whole_number) : FnOk P w K mg base (L2.CX P w) 2 f fd ["numbers"] (spM ⟨K, mg⟩ 1 m_are_numbered) :=
  fn_ok F sc_are_numbered fun cdv A outer s H E hr tk => by
    have hu := hr.units
    exact ss_cons (s_set 1 sc_are_numbered.nd rfl (by first | exact Or.inl rfl | exact Or.inr rfl) (e_int)) (ss_cons (s_for (passes_of rfl) rfl (i_any (e_var 0 (pv 0))) (g_name 2 sc_are_numbered.nd rfl (by first | exact Or.inl rfl | exact Or.inr rfl)) (ss_cons (s_if (t_not (t_val (e_call C_is_whole_number (hr.mono (by decide)) tk (by rfl) (a_cons (e_var 2 (pv 2)) (a_cons (e_bin op_addM rf_add (e_var 1 (pv 1)) (e_int)) (a_nil)))))) (ss_one (s_ret (e_bl))) (ss_nil)) (ss_one (s_set 1 sc_are_numbered.nd rfl (by first | exact Or.inl rfl | exact Or.inr rfl) (e_callB (call_max2 rfl) rf_max2 (by rfl) T.n_max bb_max (a_cons (e_var 1 (pv 1)) (a_cons (e_var 2 (pv 2)) (a_nil)))))))) (ss_one (s_ret (e_bl))))
abbrev s_is_pattern : Stmt := top 43
theorem sc_is_pattern : FnScope N_is_pattern ["rule", "value"] (defScope s_is_pattern) := ⟨rfl, rfl, rfl, by decide +kernel, rfl, by decide +kernel, by decide +kernel⟩
theorem ok_is_pattern {f : Addr} {fd : FuncData} (F : Fun K "is_pattern" "is_pattern" s_is_pattern f fd) (T : Txt P w K mg base) (C_are_numbered : Cal P w K mg base "are_numbered" 2 m_are_numbered) (C_is_one_of : Cal P w K mg base "is_one_of" 1 m_is_one_of) : FnOk P w K mg base (L2.CX P w) 3 f fd ["rule", "value"] (spM ⟨K, mg⟩ 2 m_is_pattern) :=
  fn_ok F sc_is_pattern fun cdv A outer s H E hr tk => by
    have hu := hr.units
    exact ss_cons (s_if (PW.pt (w_or (t_not (t_val (e_callB call_isi (rf_isi (by decide)) (by rfl) T.n_isinstance bb_isinstance (a_cons (e_var 1 (pv 1)) (a_cons (e_con (v := .ty "tuple") (pe_bltn (by rfl) T.n_tuple bb_tuple rfl) (fun _ _ => by unfold RD; rfl)) a_nil))))) (w_or1 (t_cmp (op_neM hu) rf_ne (e_callB call_lenM rf_len (by rfl) T.n_len bb_len (a_cons (e_var 1 (pv 1)) (a_nil))) (e_int) (nomark _))))) (ss_one (s_ret (e_bl))) (ss_nil)) (ss_cons (s_asg (e_var 1 (pv 1)) (g_tup rfl (gs_cons (g_name 2 sc_is_pattern.nd rfl (by first | exact Or.inl rfl | exact Or.inr rfl)) (gs_cons (g_name 3 sc_is_pattern.nd rfl (by first | exact Or.inl rfl | exact Or.inr rfl)) (gs_cons (g_name 4 sc_is_pattern.nd rfl (by first | exact Or.inl rfl | exact Or.inr rfl)) (gs_nil)))))) (ss_cons (s_if (PW.pt (w_or (t_not (t_val (e_callB call_isi (rf_isi (by decide)) (by rfl) T.n_isinstance bb_isinstance (a_cons (e_var 2 (pv 2)) (a_cons (e_con (v := .ty "tuple") (pe_bltn (by rfl) T.n_tuple bb_tuple rfl) (fun _ _ => by unfold RD; rfl)) a_nil))))) (w_or (t_cmp (op_neM hu) rf_ne (e_callB call_lenM rf_len (by rfl) T.n_len bb_len (a_cons (e_var 2 (pv 2)) (a_nil))) (e_bin op_addM rf_add (e_callB call_lenM rf_len (by rfl) T.n_len bb_len (a_cons (e_fld T.f_own_names (e_var 0 (pv 0))) (a_nil))) (e_int)) (nomark _)) (w_or1 (t_not (t_val (e_call C_are_numbered (hr.mono (by decide)) tk (by rfl) (a_cons (e_var 2 (pv 2)) (a_nil))))))))) (ss_one (s_ret (e_bl))) (ss_nil)) (ss_cons (s_if (PW.pt (w_or (t_not (t_val (e_call C_is_one_of (hr.mono (by decide)) tk (by rfl) (a_cons (e_var 3 (pv 3)) (a_cons (e_tup (a_cons (e_gstr T.c_NONE (by rfl)) (a_cons (e_gstr T.c_OWN (by rfl)) (a_cons (e_gstr T.c_FREE (by rfl)) (a_nil))))) (a_nil)))))) (w_or1 (t_not (t_val (e_callB call_isi (rf_isi (by decide)) (by rfl) T.n_isinstance bb_isinstance (a_cons (e_var 4 (pv 4)) (a_cons (e_con (v := .ty "bool") (pe_bltn (by rfl) T.n_bool bb_bool rfl) (fun _ _ => by unfold RD; rfl)) a_nil)))))))) (ss_one (s_ret (e_bl))) (ss_nil)) (ss_one (s_ret (e_and (e_or (e_cmp (op_eqM hu) rf_eq (e_var 3 (pv 3)) (e_gstr T.c_OWN (by rfl)) (nomark _)) (e_one (e_cmp (op_eqM hu) rf_eq (e_ix hu (e_var 2 (pv 2)) (e_un un_neg rf_neg (e_int)) (fun _ _ => rfl)) (e_int) (nomark _)))) (e_one (e_or (e_cmp (op_neM hu) rf_ne (e_var 3 (pv 3)) (e_gstr T.c_FREE (by rfl)) (nomark _)) (e_one (e_var 4 (pv 4)))))))))))
abbrev s_is_closed : Stmt := top 51
theorem sc_is_closed : FnScope N_is_closed ["rule", "value", "stops"] (defScope s_is_closed) := ⟨rfl, rfl, rfl, by decide +kernel, rfl, by decide +kernel, by decide +kernel⟩
theorem ok_is_closed {f : Addr} {fd : FuncData} (F : Fun K "is_closed" "is_closed" s_is_closed f fd) (T : Txt P w K mg base) (C_is_pattern : Cal P w K mg base "is_pattern" 3 m_is_pattern) : FnOk P w K mg base (L2.CX P w) 4 f fd ["rule", "value", "stops"] (spM ⟨K, mg⟩ 3 m_is_closed) :=
  fn_ok F sc_is_closed fun cdv A outer s H E hr tk => by
    have hu := hr.units
    exact ss_cons (s_if (PW.pt (w_or (t_not (t_val (e_callB call_isi (rf_isi (by decide)) (by rfl) T.n_isinstance bb_isinstance (a_cons (e_var 1 (pv 1)) (a_cons (e_con (v := .ty "list") (pe_bltn (by rfl) T.n_list bb_list rfl) (fun _ _ => by unfold RD; rfl)) a_nil))))) (w_or1 (t_not (t_val (e_callB (cr_all rfl) rf_all (by rfl) T.n_all bb_all (a_cons (e_lc (own := [("one", 5)]) rfl sc_is_closed.nd (i_any (e_var 1 (pv 1))) (blkOk_by (N := N_is_closed) (sc := defScope s_is_closed) (by decide +kernel)) (fun _ _ _ _ _ => g_name 5 sc_is_closed.nd rfl (by first | exact Or.inl rfl | exact Or.inr rfl)) (fun _ _ _ _ _ => ts_nil) (fun _ _ _ _ _ => e_call C_is_pattern (hr.mono (by decide)) takes_no (by rfl) (a_cons (e_var 0 (pv 0)) (a_cons (e_var 5 (pv 5)) (a_nil))))) (a_nil)))))))) (ss_one (s_ret (e_bl))) (ss_nil)) (ss_never)
abbrev s_law_source : Stmt := top 53
theorem sc_law_source : FnScope N_law_source ["script", "start"] (defScope s_law_source) := ⟨rfl, rfl, rfl, by decide +kernel, rfl, by decide +kernel, by decide +kernel⟩
theorem ok_law_source {f : Addr} {fd : FuncData} (F : Fun K "_law_source" "_law_source" s_law_source f fd) (T : Txt P w K mg base)  : FnOk P w K mg base (L2.CX P w) 1 f fd ["script", "start"] (spM ⟨K, mg⟩ 2 m_law_source) :=
  fn_ok F sc_law_source fun cdv A outer s H E hr tk => by
    have hu := hr.units
    exact ss_cons (s_set 2 sc_law_source.nd rfl (by first | exact Or.inl rfl | exact Or.inr rfl) (e_bin op_addM rf_add (e_int) (e_var 1 (pv 1)))) (ss_cons (s_for (passes_of rfl) rfl (i_any (e_var 0 (pv 0))) (g_name 3 sc_law_source.nd rfl (by first | exact Or.inl rfl | exact Or.inr rfl)) (ss_one (s_set 2 sc_law_source.nd rfl (by first | exact Or.inl rfl | exact Or.inr rfl) (e_bin op_addM rf_add (e_bin op_mod rf_mod (e_callTy call_int1 rf_int (by rfl) T.n_int bb_int (a_cons (e_bin op_powM rf_pow (e_callTy call_int1 rf_int (by rfl) T.n_int bb_int (a_cons (e_bin op_addM rf_add (e_bin (OpR.or op_mulM op_rep) rf_mul (e_var 2 (pv 2)) (e_int)) (e_callTy call_int1 rf_int (by rfl) T.n_int bb_int (a_cons (e_var 3 (pv 3)) (a_nil)))) (a_nil))) (e_int)) (a_nil))) (e_int)) (e_int))))) (ss_cons (s_set 4 sc_law_source.nd rfl (by first | exact Or.inl rfl | exact Or.inr rfl) (e_int)) (ss_cons (s_if (PW.pt (w_and (t_cmp op_ltM rf_lt (e_var 1 (pv 1)) (e_callB call_lenM rf_len (by rfl) T.n_len bb_len (a_cons (e_var 0 (pv 0)) (a_nil))) (nomark _)) (w_and1 (t_cmp op_geM rf_ge (e_ix hu (e_var 0 (pv 0)) (e_var 1 (pv 1)) (fun _ _ => rfl)) (e_bin op_powM rf_pow (e_int) (e_int)) (nomark _))))) (ss_one (s_set 4 sc_law_source.nd rfl (by first | exact Or.inl rfl | exact Or.inr rfl) (e_bin op_sub rf_sub (e_ix hu (e_var 0 (pv 0)) (e_var 1 (pv 1)) (fun _ _ => rfl)) (e_bin op_powM rf_pow (e_int) (e_int))))) (ss_nil)) (ss_one (s_ret (e_lst (a_cons (e_var 4 (pv 4)) (a_cons (e_var 2 (pv 2)) (a_nil)))))))))
abbrev s_law_draw : Stmt := top 54
theorem sc_law_draw : FnScope N_law_draw ["source", "span"] (defScope s_law_draw) := ⟨rfl, rfl, rfl, by decide +kernel, rfl, by decide +kernel, by decide +kernel⟩
theorem ok_law_draw {f : Addr} {fd : FuncData} (F : Fun K "_law_draw" "_law_draw" s_law_draw f fd) (T : Txt P w K mg base)  : FnOk P w K mg base (L2.CX P w) 1 f fd ["source", "span"] (spM ⟨K, mg⟩ 2 m_law_draw) :=
  fn_ok F sc_law_draw fun cdv A outer s H E hr tk => by
    have hu := hr.units
    exact ss_cons (s_if (t_cmp op_geM rf_ge (e_ix hu (e_var 0 (pv 0)) (e_int) (fun _ _ => rfl)) (e_var 1 (pv 1)) (nomark _)) (ss_cons (s_set 2 sc_law_draw.nd rfl (by first | exact Or.inl rfl | exact Or.inr rfl) (e_bin op_mod rf_mod (e_callTy call_int1 rf_int (by rfl) T.n_int bb_int (a_cons (e_ix hu (e_var 0 (pv 0)) (e_int) (fun _ _ => rfl)) (a_nil))) (e_var 1 (pv 1)))) (ss_cons (s_setX hu (e_bin op_fdivW rf_fdiv (e_ix hu (e_var 0 (pv 0)) (e_int) (fun _ _ => rfl)) (e_var 1 (pv 1))) (e_var 0 (pv 0)) (e_int)) (ss_one (s_ret (e_var 2 (pv 2)))))) (ss_nil)) (ss_cons (s_setX hu (e_bin op_mod rf_mod (e_callTy call_int1 rf_int (by rfl) T.n_int bb_int (a_cons (e_bin op_addM rf_add (e_bin (OpR.or op_mulM op_rep) rf_mul (e_ix hu (e_var 0 (pv 0)) (e_int) (fun _ _ => rfl)) (e_int)) (e_int)) (a_nil))) (e_int)) (e_var 0 (pv 0)) (e_int)) (ss_one (s_ret (e_bin op_mod rf_mod (e_callTy call_int1 rf_int (by rfl) T.n_int bb_int (a_cons (e_bin op_fdivW rf_fdiv (e_bin op_mod rf_mod (e_callTy call_int1 rf_int (by rfl) T.n_int bb_int (a_cons (e_bin op_powM rf_pow (e_callTy call_int1 rf_int (by rfl) T.n_int bb_int (a_cons (e_ix hu (e_var 0 (pv 0)) (e_int) (fun _ _ => rfl)) (a_nil))) (e_int)) (a_nil))) (e_int)) (e_int)) (a_nil))) (e_var 1 (pv 1))))))
abbrev s_law_pick : Stmt := top 55
theorem sc_law_pick : FnScope N_law_pick ["source", "things"] (defScope s_law_pick) := ⟨rfl, rfl, rfl, by decide +kernel, rfl, by decide +kernel, by decide +kernel⟩
theorem ok_law_pick {f : Addr} {fd : FuncData} (F : Fun K "_law_pick" "_law_pick" s_law_pick f fd) (T : Txt P w K mg base) (C_law_draw : Cal P w K mg base "_law_draw" 1 m_law_draw) : FnOk P w K mg base (L2.CX P w) 2 f fd ["source", "things"] (spM ⟨K, mg⟩ 2 m_law_pick) :=
  fn_ok F sc_law_pick fun cdv A outer s H E hr tk => by
    have hu := hr.units
    exact ss_one (s_ret (e_ix hu (e_var 1 (pv 1)) (e_call C_law_draw (hr.mono (by decide)) tk (by rfl) (a_cons (e_var 0 (pv 0)) (a_cons (e_callB call_lenM rf_len (by rfl) T.n_len bb_len (a_cons (e_var 1 (pv 1)) (a_nil))) (a_nil)))) (fun _ _ => rfl)))
abbrev s_law_note : Stmt := top 56
theorem sc_law_note : FnScope N_law_note ["source", "letter"] (defScope s_law_note) := ⟨rfl, rfl, rfl, by decide +kernel, rfl, by decide +kernel, by decide +kernel⟩
theorem ok_law_note {f : Addr} {fd : FuncData} (F : Fun K "_law_note" "_law_note" s_law_note f fd) (T : Txt P w K mg base) (C_law_draw : Cal P w K mg base "_law_draw" 1 m_law_draw) (C_law_pick : Cal P w K mg base "_law_pick" 2 m_law_pick) : FnOk P w K mg base (L2.CX P w) 3 f fd ["source", "letter"] (spM ⟨K, mg⟩ 2 m_law_note) :=
  fn_ok F sc_law_note fun cdv A outer s H E hr tk => by
    have hu := hr.units
    exact ss_cons (s_set 2 sc_law_note.nd rfl (by first | exact Or.inl rfl | exact Or.inr rfl) (e_var 1 (pv 1))) (ss_cons (s_for (passes_of rfl) rfl (i_range1 (by rfl) T.n_range (a_cons (e_call C_law_draw (hr.mono (by decide)) tk (by rfl) (a_cons (e_var 0 (pv 0)) (a_cons (e_int) (a_nil)))) (a_nil))) (g_name 3 sc_law_note.nd rfl (by first | exact Or.inl rfl | exact Or.inr rfl)) (ss_one (s_set 2 sc_law_note.nd rfl (by first | exact Or.inl rfl | exact Or.inr rfl) (e_bin op_addM rf_add (e_var 2 (pv 2)) (e_call C_law_pick (hr.mono (by decide)) tk (by rfl) (a_cons (e_var 0 (pv 0)) (a_cons (e_str) (a_nil)))))))) (ss_one (s_ret (e_var 2 (pv 2)))))
abbrev s_law_registers : Stmt := top 57
theorem sc_law_registers : FnScope N_law_registers ["source", "most"] (defScope s_law_registers) := ⟨rfl, rfl, rfl, by decide +kernel, rfl, by decide +kernel, by decide +kernel⟩
theorem ok_law_registers {f : Addr} {fd : FuncData} (F : Fun K "_law_registers" "_law_registers" s_law_registers f fd) (T : Txt P w K mg base) (C_law_note : Cal P w K mg base "_law_note" 3 m_law_note) (C_law_pick : Cal P w K mg base "_law_pick" 2 m_law_pick) : FnOk P w K mg base (L2.CX P w) 4 f fd ["source", "most"] (spM ⟨K, mg⟩ 2 m_law_registers) :=
  fn_ok F sc_law_registers fun cdv A outer s H E hr tk => by
    have hu := hr.units
    exact ss_cons (s_par2 5 6 rfl sc_law_registers.nd rfl rfl (by decide) rfl rfl (a_cons (e_call C_law_note (hr.mono (by decide)) tk (by rfl) (a_cons (e_var 0 (pv 0)) (a_cons (e_str) (a_nil)))) (a_cons (e_call C_law_note (hr.mono (by decide)) tk (by rfl) (a_cons (e_var 0 (pv 0)) (a_cons (e_str) (a_nil)))) (a_nil))) rfl) (ss_cons (s_set 2 sc_law_registers.nd rfl (by first | exact Or.inl rfl | exact Or.inr rfl) (e_lst (a_cons (e_lst (a_cons (e_var 5 (pv 5)) (a_nil))) (a_cons (e_lst (a_nil)) (a_cons (e_lst (a_cons (e_var 5 (pv 5)) (a_nil))) (a_cons (e_lst (a_cons (e_str) (a_nil))) (a_cons (e_lst (a_cons (e_str) (a_nil))) (a_nil)))))))) (ss_cons (s_set 3 sc_law_registers.nd rfl (by first | exact Or.inl rfl | exact Or.inr rfl) (e_lst (a_cons (e_lst (a_cons (e_var 5 (pv 5)) (a_cons (e_var 6 (pv 6)) (a_nil)))) (a_cons (e_lst (a_cons (e_var 5 (pv 5)) (a_cons (e_str) (a_nil)))) (a_cons (e_lst (a_cons (e_str) (a_cons (e_var 5 (pv 5)) (a_nil)))) (a_nil)))))) (ss_cons (s_set 3 sc_law_registers.nd rfl (by first | exact Or.inl rfl | exact Or.inr rfl) (e_bin op_addM rf_add (e_var 3 (pv 3)) (e_lst (a_cons (e_lst (a_cons (e_str) (a_cons (e_str) (a_nil)))) (a_cons (e_lst (a_cons (e_var 6 (pv 6)) (a_cons (e_var 5 (pv 5)) (a_nil)))) (a_cons (e_lst (a_cons (e_var 5 (pv 5)) (a_cons (e_str) (a_nil)))) (a_nil))))))) (ss_cons (s_set 4 sc_law_registers.nd rfl (by first | exact Or.inl rfl | exact Or.inr rfl) (e_lst (a_cons (e_lst (a_cons (e_var 5 (pv 5)) (a_cons (e_str) (a_cons (e_str) (a_nil))))) (a_cons (e_lst (a_cons (e_str) (a_cons (e_var 6 (pv 6)) (a_cons (e_var 5 (pv 5)) (a_nil))))) (a_cons (e_lst (a_cons (e_str) (a_cons (e_var 5 (pv 5)) (a_cons (e_var 6 (pv 6)) (a_nil))))) (a_nil)))))) (ss_cons (s_expr (e_bm PySem.F.plainAttrs_list PySem.F.slot_list_append PySem.F.type_list_append mt_append rf_append (e_var 4 (pv 4)) (a_cons (e_lst (a_cons (e_var 6 (pv 6)) (a_cons (e_call C_law_note (hr.mono (by decide)) tk (by rfl) (a_cons (e_var 0 (pv 0)) (a_cons (e_str) (a_nil)))) (a_cons (e_var 5 (pv 5)) (a_nil))))) (a_nil)))) (ss_one (s_ret (e_call C_law_pick (hr.mono (by decide)) tk (by rfl) (a_cons (e_var 0 (pv 0)) (a_cons (e_bin op_addM rf_add (e_bin op_addM rf_add (e_var 2 (pv 2)) (e_bin (OpR.or op_mulM op_rep) rf_mul (e_var 3 (pv 3)) (e_bin op_sub rf_sub (e_var 1 (pv 1)) (e_int)))) (e_bin (OpR.or op_mulM op_rep) rf_mul (e_var 4 (pv 4)) (e_bin op_sub rf_sub (e_var 1 (pv 1)) (e_int)))) (a_nil)))))))))))
abbrev s_law_test : Stmt := top 58
theorem sc_law_test : FnScope N_law_test ["source", "names"] (defScope s_law_test) := ⟨rfl, rfl, rfl, by decide +kernel, rfl, by decide +kernel, by decide +kernel⟩
theorem ok_law_test {f : Addr} {fd : FuncData} (F : Fun K "_law_test" "_law_test" s_law_test f fd) (T : Txt P w K mg base) (C_law_draw : Cal P w K mg base "_law_draw" 1 m_law_draw) (C_law_pick : Cal P w K mg base "_law_pick" 2 m_law_pick) : FnOk P w K mg base (L2.CX P w) 3 f fd ["source", "names"] (spM ⟨K, mg⟩ 2 m_law_test) :=
  fn_ok F sc_law_test fun cdv A outer s H E hr tk => by
    have hu := hr.units
    exact ss_cons (s_set 2 sc_law_test.nd rfl (by first | exact Or.inl rfl | exact Or.inr rfl) (e_call C_law_pick (hr.mono (by decide)) tk (by rfl) (a_cons (e_var 0 (pv 0)) (a_cons (e_bin op_addM rf_add (e_lst (a_cons (e_str) (a_cons (e_str) (a_cons (e_str) (a_nil))))) (e_var 1 (pv 1))) (a_nil))))) (ss_cons (s_set 3 sc_law_test.nd rfl (by first | exact Or.inl rfl | exact Or.inr rfl) (e_call C_law_pick (hr.mono (by decide)) tk (by rfl) (a_cons (e_var 0 (pv 0)) (a_cons (e_bin op_addM rf_add (e_bin op_addM rf_add (e_lst (a_cons (e_str) (a_cons (e_str) (a_cons (e_str) (a_nil))))) (e_var 1 (pv 1))) (e_var 1 (pv 1))) (a_nil))))) (ss_one (s_ret (e_tup (a_cons (e_var 2 (pv 2)) (a_cons (e_var 3 (pv 3)) (a_cons (e_cmp op_gtM rf_gt (e_call C_law_draw (hr.mono (by decide)) tk (by rfl) (a_cons (e_var 0 (pv 0)) (a_cons (e_int) (a_nil)))) (e_int) (nomark _)) (a_nil))))))))
abbrev s_law_steps : Stmt := top 59
theorem sc_law_steps : FnScope N_law_steps ["source", "names", "most"] (defScope s_law_steps) := ⟨rfl, rfl, rfl, by decide +kernel, rfl, by decide +kernel, by decide +kernel⟩
theorem ok_law_steps {f : Addr} {fd : FuncData} (F : Fun K "_law_steps" "_law_steps" s_law_steps f fd) (T : Txt P w K mg base) (C_law_draw : Cal P w K mg base "_law_draw" 1 m_law_draw) (C_law_pick : Cal P w K mg base "_law_pick" 2 m_law_pick) : FnOk P w K mg base (L2.CX P w) 3 f fd ["source", "names", "most"] (spM ⟨K, mg⟩ 3 m_law_steps) :=
  fn_ok F sc_law_steps fun cdv A outer s H E hr tk => by
    have hu := hr.units
    exact ss_cons (s_set 3 sc_law_steps.nd rfl (by first | exact Or.inl rfl | exact Or.inr rfl) (e_lst (a_nil))) (ss_cons (s_for (passes_of rfl) rfl (i_range1 (by rfl) T.n_range (a_cons (e_call C_law_draw (hr.mono (by decide)) tk (by rfl) (a_cons (e_var 0 (pv 0)) (a_cons (e_bin op_addM rf_add (e_var 2 (pv 2)) (e_int)) (a_nil)))) (a_nil))) (g_name 4 sc_law_steps.nd rfl (by first | exact Or.inl rfl | exact Or.inr rfl)) (ss_cons (s_set 5 sc_law_steps.nd rfl (by first | exact Or.inl rfl | exact Or.inr rfl) (e_call C_law_pick (hr.mono (by decide)) tk (by rfl) (a_cons (e_var 0 (pv 0)) (a_cons (e_bin op_addM rf_add (e_bin op_addM rf_add (e_lst (a_cons (e_str) (a_nil))) (e_var 1 (pv 1))) (e_var 1 (pv 1))) (a_nil))))) (ss_one (s_expr (e_bm PySem.F.plainAttrs_list PySem.F.slot_list_append PySem.F.type_list_append mt_append rf_append (e_var 3 (pv 3)) (a_cons (e_tup (a_cons (e_var 5 (pv 5)) (a_cons (e_call C_law_pick (hr.mono (by decide)) tk (by rfl) (a_cons (e_var 0 (pv 0)) (a_cons (e_bin op_addM rf_add (e_lst (a_cons (e_str) (a_cons (e_str) (a_cons (e_str) (a_cons (e_str) (a_nil)))))) (e_var 1 (pv 1))) (a_nil)))) (a_nil)))) (a_nil))))))) (ss_one (s_ret (e_callTy call_tuple_of rf_tuple (by rfl) T.n_tuple bb_tuple (a_cons (e_var 3 (pv 3)) (a_nil))))))
abbrev s_law_row : Stmt := top 60
theorem sc_law_row : FnScope N_law_row ["source", "names", "is_last"] (defScope s_law_row) := ⟨rfl, rfl, rfl, by decide +kernel, rfl, by decide +kernel, by decide +kernel⟩
theorem ok_law_row {f : Addr} {fd : FuncData} (F : Fun K "_law_row" "_law_row" s_law_row f fd) (T : Txt P w K mg base) (C_law_draw : Cal P w K mg base "_law_draw" 1 m_law_draw) (C_law_steps : Cal P w K mg base "_law_steps" 3 m_law_steps) (C_law_test : Cal P w K mg base "_law_test" 3 m_law_test) : FnOk P w K mg base (L2.CX P w) 4 f fd ["source", "names", "is_last"] (spM ⟨K, mg⟩ 3 m_law_row) :=
  fn_ok F sc_law_row fun cdv A outer s H E hr tk => by
    have hu := hr.units
    exact ss_cons (s_par2 4 5 rfl sc_law_row.nd rfl rfl (by decide) rfl rfl (a_cons (e_if (t_val (e_var 2 (pv 2))) (e_int) (e_bin op_addM rf_add (e_int) (e_call C_law_draw (hr.mono (by decide)) tk (by rfl) (a_cons (e_var 0 (pv 0)) (a_cons (e_int) (a_nil)))))) (a_cons (e_lst (a_nil)) (a_nil))) rfl) (ss_cons (s_for (passes_of rfl) rfl (i_range1 (by rfl) T.n_range (a_cons (e_var 4 (pv 4)) (a_nil))) (g_name 3 sc_law_row.nd rfl (by first | exact Or.inl rfl | exact Or.inr rfl)) (ss_one (s_expr (e_bm PySem.F.plainAttrs_list PySem.F.slot_list_append PySem.F.type_list_append mt_append rf_append (e_var 5 (pv 5)) (a_cons (e_call C_law_test (hr.mono (by decide)) tk (by rfl) (a_cons (e_var 0 (pv 0)) (a_cons (e_var 1 (pv 1)) (a_nil)))) (a_nil)))))) (ss_cons (s_if (t_cmp (op_eqM hu) rf_eq (e_call C_law_draw (hr.mono (by decide)) tk (by rfl) (a_cons (e_var 0 (pv 0)) (a_cons (e_int) (a_nil)))) (e_int) (nomark _)) (ss_cons (s_set 6 sc_law_row.nd rfl (by first | exact Or.inl rfl | exact Or.inr rfl) (e_call C_law_steps (hr.mono (by decide)) tk (by rfl) (a_cons (e_var 0 (pv 0)) (a_cons (e_var 1 (pv 1)) (a_cons (e_int) (a_nil)))))) (ss_one (s_ret (e_tup (a_cons (e_callTy call_tuple_of rf_tuple (by rfl) T.n_tuple bb_tuple (a_cons (e_var 5 (pv 5)) (a_nil))) (a_cons (e_var 6 (pv 6)) (a_cons (e_call C_law_steps (hr.mono (by decide)) tk (by rfl) (a_cons (e_var 0 (pv 0)) (a_cons (e_var 1 (pv 1)) (a_cons (e_int) (a_nil))))) (a_nil)))))))) (ss_nil)) (ss_one (s_ret (e_tup (a_cons (e_callTy call_tuple_of rf_tuple (by rfl) T.n_tuple bb_tuple (a_cons (e_var 5 (pv 5)) (a_nil))) (a_cons (e_call C_law_steps (hr.mono (by decide)) tk (by rfl) (a_cons (e_var 0 (pv 0)) (a_cons (e_var 1 (pv 1)) (a_cons (e_int) (a_nil))))) (a_nil))))))))
abbrev s_law_good : Stmt := top 61
theorem sc_law_good : FnScope N_law_good ["names"] (defScope s_law_good) := ⟨rfl, rfl, rfl, by decide +kernel, rfl, by decide +kernel, by decide +kernel⟩
theorem ok_law_good {f : Addr} {fd : FuncData} (F : Fun K "_law_good" "_law_good" s_law_good f fd) (T : Txt P w K mg base)  : FnOk P w K mg base (L2.CX P w) 1 f fd ["names"] (spM ⟨K, mg⟩ 1 m_law_good) :=
  fn_ok F sc_law_good fun cdv A outer s H E hr tk => by
    have hu := hr.units
    exact ss_cons (s_setLc 1 (own := [("name", 9)]) rfl sc_law_good.nd rfl rfl (L2.sw_true rfl rfl rfl rfl) (i_any (e_var 0 (pv 0))) (blkOk_by (N := N_law_good) (sc := defScope s_law_good) (by decide +kernel)) (fun _ _ _ _ _ => g_name 9 sc_law_good.nd rfl (by first | exact Or.inl rfl | exact Or.inr rfl)) (fun _ _ _ _ _ => ts_one (t_cmp (op_ninM hu) rf_nin (e_var 9 (pv 9)) (e_lst (a_cons (e_str) (a_cons (e_str) (a_nil)))) (by with_unfolding_all rfl))) (fun _ _ _ _ _ => e_var 9 (pv 9))) (ss_cons (s_if (t_cmp (op_eqM hu) rf_eq (e_var 1 (pv 1)) (e_lst (a_nil)) (nomark _)) (ss_cons (s_set 2 sc_law_good.nd rfl (by first | exact Or.inl rfl | exact Or.inr rfl) (e_if (t_cmp (op_inM hu) rf_in (e_str) (e_var 0 (pv 0)) (by with_unfolding_all rfl)) (e_tup (a_cons (e_tup (a_cons (e_str) (a_cons (e_str) (a_nil)))) (a_nil))) (e_tup (a_nil)))) (ss_cons (s_set 3 sc_law_good.nd rfl (by first | exact Or.inl rfl | exact Or.inr rfl) (e_lst (a_cons (e_tup (a_cons (e_tup (a_cons (e_tup (a_cons (e_str) (a_cons (e_str) (a_cons (e_bl) (a_nil))))) (a_nil))) (a_cons (e_tup (a_nil)) (a_nil)))) (a_cons (e_tup (a_cons (e_tup (a_cons (e_tup (a_cons (e_str) (a_cons (e_str) (a_cons (e_bl) (a_nil))))) (a_nil))) (a_cons (e_tup (a_cons (e_tup (a_cons (e_str) (a_cons (e_str) (a_nil)))) (a_nil))) (a_nil)))) (a_nil))))) (ss_one (s_ret (e_bin op_addM rf_add (e_var 3 (pv 3)) (e_lst (a_cons (e_tup (a_cons (e_tup (a_nil)) (a_cons (e_bin op_addM rf_add (e_var 2 (pv 2)) (e_tup (a_cons (e_tup (a_cons (e_str) (a_cons (e_str) (a_nil)))) (a_nil)))) (a_cons (e_tup (a_nil)) (a_nil))))) (a_nil)))))))) (ss_nil)) (ss_cons (s_par2 4 5 rfl sc_law_good.nd rfl rfl (by decide) rfl rfl (a_cons (e_ix hu (e_var 1 (pv 1)) (e_int) (fun _ _ => rfl)) (a_cons (e_ix hu (e_var 1 (pv 1)) (e_un un_neg rf_neg (e_int)) (fun _ _ => rfl)) (a_nil))) rfl) (ss_cons (s_par3 6 7 3 rfl sc_law_good.nd rfl rfl rfl (by decide) (by decide) (by decide) rfl rfl rfl (a_cons (e_tup (a_cons (e_tup (a_cons (e_str) (a_cons (e_str) (a_nil)))) (a_cons (e_tup (a_cons (e_var 4 (pv 4)) (a_cons (e_str) (a_nil)))) (a_nil)))) (a_cons (e_tup (a_cons (e_tup (a_cons (e_var 4 (pv 4)) (a_cons (e_str) (a_nil)))) (a_nil))) (a_cons (e_lst (a_nil)) (a_nil)))) rfl) (ss_cons (s_if (t_cmp (op_neM hu) rf_ne (e_var 5 (pv 5)) (e_var 4 (pv 4)) (nomark _)) (ss_one (s_par2 6 7 rfl sc_law_good.nd rfl rfl (by decide) rfl rfl (a_cons (e_bin op_addM rf_add (e_tup (a_cons (e_tup (a_cons (e_var 5 (pv 5)) (a_cons (e_str) (a_nil)))) (a_nil))) (e_var 6 (pv 6))) (a_cons (e_tup (a_cons (e_tup (a_cons (e_var 5 (pv 5)) (a_cons (e_str) (a_nil)))) (a_cons (e_tup (a_cons (e_var 4 (pv 4)) (a_cons (e_str) (a_nil)))) (a_nil)))) (a_nil))) rfl)) (ss_nil)) (ss_cons (s_if (t_cmp (op_inM hu) rf_in (e_str) (e_var 0 (pv 0)) (by with_unfolding_all rfl)) (ss_cons (s_set 8 sc_law_good.nd rfl (by first | exact Or.inl rfl | exact Or.inr rfl) (e_tup (a_cons (e_tup (a_cons (e_str) (a_cons (e_str) (a_cons (e_bl) (a_nil))))) (a_cons (e_tup (a_cons (e_str) (a_cons (e_var 4 (pv 4)) (a_cons (e_bl) (a_nil))))) (a_nil))))) (ss_cons (s_expr (e_bm PySem.F.plainAttrs_list PySem.F.slot_list_append PySem.F.type_list_append mt_append rf_append (e_var 3 (pv 3)) (a_cons (e_tup (a_cons (e_var 8 (pv 8)) (a_cons (e_tup (a_cons (e_tup (a_cons (e_str) (a_cons (e_str) (a_nil)))) (a_cons (e_tup (a_cons (e_var 4 (pv 4)) (a_cons (e_str) (a_nil)))) (a_cons (e_tup (a_cons (e_str) (a_cons (e_str) (a_nil)))) (a_nil))))) (a_nil)))) (a_nil)))) (ss_cons (s_set 8 sc_law_good.nd rfl (by first | exact Or.inl rfl | exact Or.inr rfl) (e_tup (a_cons (e_tup (a_cons (e_str) (a_cons (e_str) (a_cons (e_bl) (a_nil))))) (a_cons (e_tup (a_cons (e_str) (a_cons (e_str) (a_cons (e_bl) (a_nil))))) (a_nil))))) (ss_one (s_expr (e_bm PySem.F.plainAttrs_list PySem.F.slot_list_append PySem.F.type_list_append mt_append rf_append (e_var 3 (pv 3)) (a_cons (e_tup (a_cons (e_var 8 (pv 8)) (a_cons (e_tup (a_cons (e_tup (a_cons (e_str) (a_cons (e_str) (a_nil)))) (a_cons (e_tup (a_cons (e_str) (a_cons (e_str) (a_nil)))) (a_cons (e_tup (a_cons (e_var 4 (pv 4)) (a_cons (e_str) (a_nil)))) (a_nil))))) (a_nil)))) (a_nil)))))))) (ss_nil)) (ss_cons (s_expr (e_bm PySem.F.plainAttrs_list PySem.F.slot_list_append PySem.F.type_list_append mt_append rf_append (e_var 3 (pv 3)) (a_cons (e_tup (a_cons (e_tup (a_cons (e_tup (a_cons (e_str) (a_cons (e_var 4 (pv 4)) (a_cons (e_bl) (a_nil))))) (a_nil))) (a_cons (e_var 6 (pv 6)) (a_nil)))) (a_nil)))) (ss_cons (s_if (t_cmp (op_neM hu) rf_ne (e_var 5 (pv 5)) (e_var 4 (pv 4)) (nomark _)) (ss_one (s_expr (e_bm PySem.F.plainAttrs_list PySem.F.slot_list_append PySem.F.type_list_append mt_append rf_append (e_var 3 (pv 3)) (a_cons (e_tup (a_cons (e_tup (a_cons (e_tup (a_cons (e_str) (a_cons (e_var 5 (pv 5)) (a_cons (e_bl) (a_nil))))) (a_nil))) (a_cons (e_bin op_addM rf_add (e_tup (a_cons (e_tup (a_cons (e_var 4 (pv 4)) (a_cons (e_str) (a_nil)))) (a_nil))) (e_var 6 (pv 6))) (a_nil)))) (a_nil))))) (ss_nil)) (ss_cons (s_expr (e_bm PySem.F.plainAttrs_list PySem.F.slot_list_append PySem.F.type_list_append mt_append rf_append (e_var 3 (pv 3)) (a_cons (e_tup (a_cons (e_tup (a_cons (e_tup (a_cons (e_str) (a_cons (e_str) (a_cons (e_bl) (a_nil))))) (a_nil))) (a_cons (e_var 7 (pv 7)) (a_nil)))) (a_nil)))) (ss_cons (s_expr (e_bm PySem.F.plainAttrs_list PySem.F.slot_list_append PySem.F.type_list_append mt_append rf_append (e_var 3 (pv 3)) (a_cons (e_tup (a_cons (e_tup (a_cons (e_tup (a_cons (e_str) (a_cons (e_var 4 (pv 4)) (a_cons (e_bl) (a_nil))))) (a_nil))) (a_cons (e_if (t_cmp (op_neM hu) rf_ne (e_var 5 (pv 5)) (e_var 4 (pv 4)) (nomark _)) (e_tup (a_cons (e_tup (a_cons (e_var 5 (pv 5)) (a_cons (e_var 4 (pv 4)) (a_nil)))) (a_nil))) (e_tup (a_nil))) (a_nil)))) (a_nil)))) (ss_cons (s_expr (e_bm PySem.F.plainAttrs_list PySem.F.slot_list_append PySem.F.type_list_append mt_append rf_append (e_var 3 (pv 3)) (a_cons (e_if (t_cmp (op_inM hu) rf_in (e_str) (e_var 0 (pv 0)) (by with_unfolding_all rfl)) (e_tup (a_cons (e_tup (a_nil)) (a_cons (e_bin op_addM rf_add (e_tup (a_cons (e_tup (a_cons (e_str) (a_cons (e_str) (a_nil)))) (a_nil))) (e_var 6 (pv 6))) (a_nil)))) (e_tup (a_cons (e_tup (a_nil)) (a_cons (e_var 6 (pv 6)) (a_cons (e_var 7 (pv 7)) (a_nil)))))) (a_nil)))) (ss_one (s_ret (e_var 3 (pv 3))))))))))))))
abbrev s_law_bent : Stmt := top 62
theorem sc_law_bent : FnScope N_law_bent ["source", "names", "lines"] (defScope s_law_bent) := ⟨rfl, rfl, rfl, by decide +kernel, rfl, by decide +kernel, by decide +kernel⟩
theorem ok_law_bent {f : Addr} {fd : FuncData} (F : Fun K "_law_bent" "_law_bent" s_law_bent f fd) (T : Txt P w K mg base) (C_law_draw : Cal P w K mg base "_law_draw" 1 m_law_draw) (C_law_row : Cal P w K mg base "_law_row" 4 m_law_row) : FnOk P w K mg base (L2.CX P w) 5 f fd ["source", "names", "lines"] (spM ⟨K, mg⟩ 3 m_law_bent) :=
  fn_ok F sc_law_bent fun cdv A outer s H E hr tk => by
    have hu := hr.units
    exact ss_cons (s_par2 3 4 rfl sc_law_bent.nd rfl rfl (by decide) rfl rfl (a_cons (e_call C_law_draw (hr.mono (by decide)) tk (by rfl) (a_cons (e_var 0 (pv 0)) (a_cons (e_int) (a_nil)))) (a_cons (e_call C_law_draw (hr.mono (by decide)) tk (by rfl) (a_cons (e_var 0 (pv 0)) (a_cons (e_callB call_lenM rf_len (by rfl) T.n_len bb_len (a_cons (e_var 2 (pv 2)) (a_nil))) (a_nil)))) (a_nil))) rfl) (ss_cons (s_par3 5 6 7 rfl sc_law_bent.nd rfl rfl rfl (by decide) (by decide) (by decide) rfl rfl rfl (a_cons (e_sl (e_var 2 (pv 2)) (o_no) (o_some (e_var 4 (pv 4)))) (a_cons (e_ix hu (e_var 2 (pv 2)) (e_var 4 (pv 4)) (fun _ _ => rfl)) (a_cons (e_sl (e_var 2 (pv 2)) (o_some (e_bin op_addM rf_add (e_var 4 (pv 4)) (e_int))) (o_no)) (a_nil)))) rfl) (ss_cons (s_if (PW.pt (w_and (t_cmp (op_eqM hu) rf_eq (e_var 3 (pv 3)) (e_int) (nomark _)) (w_and1 (t_cmp (op_neM hu) rf_ne (e_var 7 (pv 7)) (e_lst (a_nil)) (nomark _))))) (ss_one (s_ret (e_bin op_addM rf_add (e_var 5 (pv 5)) (e_var 7 (pv 7))))) (ss_nil)) (ss_cons (s_if (t_cmp (op_eqM hu) rf_eq (e_var 3 (pv 3)) (e_int) (nomark _)) (ss_one (s_ret (e_bin op_addM rf_add (e_bin op_addM rf_add (e_var 5 (pv 5)) (e_lst (a_cons (e_bin op_addM rf_add (e_tup (a_cons (e_ix hu (e_var 6 (pv 6)) (e_int) (fun _ _ => rfl)) (a_cons (e_rev (e_ix hu (e_var 6 (pv 6)) (e_int) (fun _ _ => rfl))) (a_nil)))) (e_sl (e_var 6 (pv 6)) (o_some (e_int)) (o_no))) (a_nil)))) (e_var 7 (pv 7))))) (ss_nil)) (ss_cons (s_if (t_cmp (op_eqM hu) rf_eq (e_var 3 (pv 3)) (e_int) (nomark _)) (ss_one (s_ret (e_bin op_addM rf_add (e_bin op_addM rf_add (e_var 5 (pv 5)) (e_lst (a_cons (e_bin op_addM rf_add (e_tup (a_cons (e_ix hu (e_var 6 (pv 6)) (e_int) (fun _ _ => rfl)) (a_cons (e_sl (e_ix hu (e_var 6 (pv 6)) (e_int) (fun _ _ => rfl)) (o_some (e_int)) (o_no)) (a_nil)))) (e_sl (e_var 6 (pv 6)) (o_some (e_int)) (o_no))) (a_nil)))) (e_var 7 (pv 7))))) (ss_nil)) (ss_cons (s_if (PW.pt (w_and (t_cmp (op_eqM hu) rf_eq (e_var 3 (pv 3)) (e_int) (nomark _)) (w_and1 (t_cmp op_gtM rf_gt (e_callB call_lenM rf_len (by rfl) T.n_len bb_len (a_cons (e_var 7 (pv 7)) (a_nil))) (e_int) (nomark _))))) (ss_one (s_ret (e_bin op_addM rf_add (e_bin op_addM rf_add (e_var 5 (pv 5)) (e_lst (a_cons (e_ix hu (e_var 7 (pv 7)) (e_int) (fun _ _ => rfl)) (a_cons (e_var 6 (pv 6)) (a_nil))))) (e_sl (e_var 7 (pv 7)) (o_some (e_int)) (o_no))))) (ss_nil)) (ss_cons (s_if (PW.pt (w_and (t_cmp (op_eqM hu) rf_eq (e_var 3 (pv 3)) (e_int) (nomark _)) (w_and1 (t_cmp op_ltM rf_lt (e_callB call_lenM rf_len (by rfl) T.n_len bb_len (a_cons (e_var 2 (pv 2)) (a_nil))) (e_int) (nomark _))))) (ss_one (s_ret (e_bin op_addM rf_add (e_bin op_addM rf_add (e_var 5 (pv 5)) (e_lst (a_cons (e_call C_law_row (hr.mono (by decide)) tk (by rfl) (a_cons (e_var 0 (pv 0)) (a_cons (e_var 1 (pv 1)) (a_cons (e_bl) (a_nil))))) (a_cons (e_var 6 (pv 6)) (a_nil))))) (e_var 7 (pv 7))))) (ss_nil)) (ss_cons (s_if (t_cmp (op_eqM hu) rf_eq (e_var 3 (pv 3)) (e_int) (nomark _)) (ss_one (s_ret (e_bin op_addM rf_add (e_sl (e_var 2 (pv 2)) (o_no) (o_some (e_un un_neg rf_neg (e_int)))) (e_lst (a_cons (e_call C_law_row (hr.mono (by decide)) tk (by rfl) (a_cons (e_var 0 (pv 0)) (a_cons (e_var 1 (pv 1)) (a_cons (e_bl) (a_nil))))) (a_nil)))))) (ss_nil)) (ss_cons (s_if (t_cmp (op_eqM hu) rf_eq (e_var 3 (pv 3)) (e_int) (nomark _)) (ss_one (s_ret (e_bin op_addM rf_add (e_bin op_addM rf_add (e_var 5 (pv 5)) (e_lst (a_cons (e_tup (a_cons (e_ix hu (e_var 6 (pv 6)) (e_int) (fun _ _ => rfl)) (a_cons (e_ix hu (e_var 6 (pv 6)) (e_int) (fun _ _ => rfl)) (a_cons (e_tup (a_nil)) (a_nil))))) (a_nil)))) (e_var 7 (pv 7))))) (ss_nil)) (ss_one (s_ret (e_var 2 (pv 2))))))))))))
abbrev s_law_rule : Stmt := top 63
theorem sc_law_rule : FnScope N_law_rule ["source", "most"] (defScope s_law_rule) := ⟨rfl, rfl, rfl, by decide +kernel, rfl, by decide +kernel, by decide +kernel⟩
theorem ok_law_rule {f : Addr} {fd : FuncData} (F : Fun K "_law_rule" "_law_rule" s_law_rule f fd) (T : Txt P w K mg base) (C_law_bent : Cal P w K mg base "_law_bent" 5 m_law_bent) (C_law_draw : Cal P w K mg base "_law_draw" 1 m_law_draw) (C_law_good : Cal P w K mg base "_law_good" 1 m_law_good) (C_law_registers : Cal P w K mg base "_law_registers" 4 m_law_registers) (C_law_row : Cal P w K mg base "_law_row" 4 m_law_row) : FnOk P w K mg base (L2.CX P w) 6 f fd ["source", "most"] (spM ⟨K, mg⟩ 2 m_law_rule) :=
  fn_ok F sc_law_rule fun cdv A outer s H E hr tk => by
    have hu := hr.units
    exact ss_cons (s_set 2 sc_law_rule.nd rfl (by first | exact Or.inl rfl | exact Or.inr rfl) (e_call C_law_registers (hr.mono (by decide)) tk (by rfl) (a_cons (e_var 0 (pv 0)) (a_cons (e_var 1 (pv 1)) (a_nil))))) (ss_cons (s_set 3 sc_law_rule.nd rfl (by first | exact Or.inl rfl | exact Or.inr rfl) (e_call C_law_good (hr.mono (by decide)) tk (by rfl) (a_cons (e_var 2 (pv 2)) (a_nil)))) (ss_cons (s_if (t_cmp (op_eqM hu) rf_eq (e_call C_law_draw (hr.mono (by decide)) tk (by rfl) (a_cons (e_var 0 (pv 0)) (a_cons (e_int) (a_nil)))) (e_int) (nomark _)) (ss_cons (s_set 5 sc_law_rule.nd rfl (by first | exact Or.inl rfl | exact Or.inr rfl) (e_call C_law_draw (hr.mono (by decide)) tk (by rfl) (a_cons (e_var 0 (pv 0)) (a_cons (e_int) (a_nil))))) (ss_one (s_setLc 3 (own := [("turn", 4)]) rfl sc_law_rule.nd rfl rfl (L2.sw_true rfl rfl rfl rfl) (i_range1 (by rfl) T.n_range (a_cons (e_bin op_addM rf_add (e_var 5 (pv 5)) (e_int)) (a_nil))) (blkOk_by (N := N_law_rule) (sc := defScope s_law_rule) (by decide +kernel)) (fun _ _ _ _ _ => g_name 4 sc_law_rule.nd rfl (by first | exact Or.inl rfl | exact Or.inr rfl)) (fun _ _ _ _ _ => ts_nil) (fun _ _ _ _ _ => e_call C_law_row (hr.mono (by decide)) takes_no (by rfl) (a_cons (e_var 0 (pv 0)) (a_cons (e_var 2 (pv 2)) (a_cons (e_cmp (op_eqM hu) rf_eq (e_var 4 (pv 4)) (e_var 5 (pv 5)) (nomark _)) (a_nil)))))))) (ss_nil)) (ss_cons (s_for (passes_of rfl) rfl (i_range1 (by rfl) T.n_range (a_cons (e_call C_law_draw (hr.mono (by decide)) tk (by rfl) (a_cons (e_var 0 (pv 0)) (a_cons (e_int) (a_nil)))) (a_nil))) (g_name 4 sc_law_rule.nd rfl (by first | exact Or.inl rfl | exact Or.inr rfl)) (ss_one (s_set 3 sc_law_rule.nd rfl (by first | exact Or.inl rfl | exact Or.inr rfl) (e_call C_law_bent (hr.mono (by decide)) tk (by rfl) (a_cons (e_var 0 (pv 0)) (a_cons (e_var 2 (pv 2)) (a_cons (e_var 3 (pv 3)) (a_nil)))))))) (ss_one (s_ret (e_lst (a_cons (e_var 2 (pv 2)) (a_cons (e_var 3 (pv 3)) (a_nil)))))))))
abbrev s_law_made : Stmt := top 64
theorem sc_law_made : FnScope N_law_made ["rule"] (defScope s_law_made) := ⟨rfl, rfl, rfl, by decide +kernel, rfl, by decide +kernel, by decide +kernel⟩
theorem ok_law_made {f : Addr} {fd : FuncData} (F : Fun K "_law_made" "_law_made" s_law_made f fd) (T : Txt P w K mg base) (I_Rule : InC P w K mg base "Rule" 5 3 m_Rule_init) : FnOk P w K mg base (L2.CX P w) 7 f fd ["rule"] (spM ⟨K, mg⟩ 1 m_law_made) :=
  fn_ok F sc_law_made fun cdv A outer s H E hr tk => by
    have hu := hr.units
    exact ss_one (s_ret (e_makeX I_Rule (fun ds h hl => by unfold m_Rule_init fnM; rw [if_neg hl]) (hr.mono (by decide)) tk (by rfl) (a_cons (e_callTy call_list_of rf_list (by rfl) T.n_list bb_list (a_cons (e_ix hu (e_var 0 (pv 0)) (e_int) (fun _ _ => rfl)) (a_nil))) (a_cons (e_callTy call_list_of rf_list (by rfl) T.n_list bb_list (a_cons (e_ix hu (e_var 0 (pv 0)) (e_int) (fun _ _ => rfl)) (a_nil))) (a_nil)))))
abbrev s_law_begun : Stmt := top 65
theorem sc_law_begun : FnScope N_law_begun ["rule"] (defScope s_law_begun) := ⟨rfl, rfl, rfl, by decide +kernel, rfl, by decide +kernel, by decide +kernel⟩
theorem ok_law_begun {f : Addr} {fd : FuncData} (F : Fun K "_law_begun" "_law_begun" s_law_begun f fd) (T : Txt P w K mg base)  : FnOk P w K mg base (L2.CX P w) 1 f fd ["rule"] (spM ⟨K, mg⟩ 1 m_law_begun) :=
  fn_ok F sc_law_begun fun cdv A outer s H E hr tk => by
    have hu := hr.units
    exact ss_one (s_ret (e_tup (a_cons (e_bin (OpR.or (OpR.or op_mulM op_rep) op_repT) rf_mul2 (e_tup (a_cons (e_int) (a_nil))) (e_bin op_addM rf_add (e_callB call_lenM rf_len (by rfl) T.n_len bb_len (a_cons (e_ix hu (e_var 0 (pv 0)) (e_int) (fun _ _ => rfl)) (a_nil))) (e_int))) (a_cons (e_str) (a_cons (e_bl) (a_nil))))))
abbrev s_law_shape : Stmt := top 66
theorem sc_law_shape : FnScope N_law_shape ["source", "rule"] (defScope s_law_shape) := ⟨rfl, rfl, rfl, by decide +kernel, rfl, by decide +kernel, by decide +kernel⟩
theorem ok_law_shape {f : Addr} {fd : FuncData} (F : Fun K "_law_shape" "_law_shape" s_law_shape f fd) (T : Txt P w K mg base) (C_law_draw : Cal P w K mg base "_law_draw" 1 m_law_draw) (C_law_pick : Cal P w K mg base "_law_pick" 2 m_law_pick) : FnOk P w K mg base (L2.CX P w) 3 f fd ["source", "rule"] (spM ⟨K, mg⟩ 2 m_law_shape) :=
  fn_ok F sc_law_shape fun cdv A outer s H E hr tk => by
    have hu := hr.units
    exact ss_cons (s_par2 3 4 rfl sc_law_shape.nd rfl rfl (by decide) rfl rfl (a_cons (e_lst (a_nil)) (a_cons (e_int) (a_nil))) rfl) (ss_cons (s_for (passes_of rfl) rfl (i_range1 (by rfl) T.n_range (a_cons (e_bin op_addM rf_add (e_callB call_lenM rf_len (by rfl) T.n_len bb_len (a_cons (e_ix hu (e_var 1 (pv 1)) (e_int) (fun _ _ => rfl)) (a_nil))) (e_int)) (a_nil))) (g_name 2 sc_law_shape.nd rfl (by first | exact Or.inl rfl | exact Or.inr rfl)) (ss_cons (s_expr (e_bm PySem.F.plainAttrs_list PySem.F.slot_list_append PySem.F.type_list_append mt_append rf_append (e_var 3 (pv 3)) (a_cons (e_call C_law_draw (hr.mono (by decide)) tk (by rfl) (a_cons (e_var 0 (pv 0)) (a_cons (e_bin op_addM rf_add (e_var 4 (pv 4)) (e_int)) (a_nil)))) (a_nil)))) (ss_one (s_set 4 sc_law_shape.nd rfl (by first | exact Or.inl rfl | exact Or.inr rfl) (e_callB (call_max2 rfl) rf_max2 (by rfl) T.n_max bb_max (a_cons (e_var 4 (pv 4)) (a_cons (e_ix hu (e_var 3 (pv 3)) (e_un un_neg rf_neg (e_int)) (fun _ _ => rfl)) (a_nil)))))))) (ss_cons (s_par2 5 6 rfl sc_law_shape.nd rfl rfl (by decide) rfl rfl (a_cons (e_call C_law_pick (hr.mono (by decide)) tk (by rfl) (a_cons (e_var 0 (pv 0)) (a_cons (e_lst (a_cons (e_str) (a_cons (e_str) (a_cons (e_str) (a_cons (e_str) (a_nil)))))) (a_nil)))) (a_cons (e_cmp (op_eqM hu) rf_eq (e_call C_law_draw (hr.mono (by decide)) tk (by rfl) (a_cons (e_var 0 (pv 0)) (a_cons (e_int) (a_nil)))) (e_int) (nomark _)) (a_nil))) rfl) (ss_cons (s_if (PW.pt (w_and (t_cmp (op_neM hu) rf_ne (e_var 5 (pv 5)) (e_str) (nomark _)) (w_and1 (t_cmp op_gtM rf_gt (e_call C_law_draw (hr.mono (by decide)) tk (by rfl) (a_cons (e_var 0 (pv 0)) (a_cons (e_int) (a_nil)))) (e_int) (nomark _))))) (ss_one (s_setX hu (e_int) (e_var 3 (pv 3)) (e_un un_neg rf_neg (e_int)))) (ss_nil)) (ss_one (s_ret (e_tup (a_cons (e_callTy call_tuple_of rf_tuple (by rfl) T.n_tuple bb_tuple (a_cons (e_var 3 (pv 3)) (a_nil))) (a_cons (e_var 5 (pv 5)) (a_cons (e_or (e_var 6 (pv 6)) (e_one (e_and (e_cmp (op_eqM hu) rf_eq (e_var 5 (pv 5)) (e_str) (nomark _)) (e_one (e_cmp op_gtM rf_gt (e_call C_law_draw (hr.mono (by decide)) tk (by rfl) (a_cons (e_var 0 (pv 0)) (a_cons (e_int) (a_nil)))) (e_int) (nomark _)))))) (a_nil))))))))))
abbrev s_law_is_shape : Stmt := top 67
theorem sc_law_is_shape : FnScope N_law_is_shape ["rule", "thing"] (defScope s_law_is_shape) := ⟨rfl, rfl, rfl, by decide +kernel, rfl, by decide +kernel, by decide +kernel⟩
theorem ok_law_is_shape {f : Addr} {fd : FuncData} (F : Fun K "_law_is_shape" "_law_is_shape" s_law_is_shape f fd) (T : Txt P w K mg base)  : FnOk P w K mg base (L2.CX P w) 1 f fd ["rule", "thing"] (spM ⟨K, mg⟩ 2 m_law_is_shape) :=
  fn_ok F sc_law_is_shape fun cdv A outer s H E hr tk => by
    have hu := hr.units
    exact ss_cons (s_if (PW.pt (w_or (t_not (t_val (e_callB call_isi (rf_isi (by decide)) (by rfl) T.n_isinstance bb_isinstance (a_cons (e_var 1 (pv 1)) (a_cons (e_con (v := .ty "tuple") (pe_bltn (by rfl) T.n_tuple bb_tuple rfl) (fun _ _ => by unfold RD; rfl)) a_nil))))) (w_or (t_cmp (op_neM hu) rf_ne (e_callB call_lenM rf_len (by rfl) T.n_len bb_len (a_cons (e_var 1 (pv 1)) (a_nil))) (e_int) (nomark _)) (w_or1 (t_not (t_val (e_callB call_isi (rf_isi (by decide)) (by rfl) T.n_isinstance bb_isinstance (a_cons (e_ix hu (e_var 1 (pv 1)) (e_int) (fun _ _ => rfl)) (a_cons (e_con (v := .ty "tuple") (pe_bltn (by rfl) T.n_tuple bb_tuple rfl) (fun _ _ => by unfold RD; rfl)) a_nil))))))))) (ss_one (s_ret (e_bl))) (ss_nil)) (ss_cons (s_set 2 sc_law_is_shape.nd rfl (by first | exact Or.inl rfl | exact Or.inr rfl) (e_int)) (ss_cons (s_for (passes_of rfl) rfl (i_any (e_ix hu (e_var 1 (pv 1)) (e_int) (fun _ _ => rfl))) (g_name 3 sc_law_is_shape.nd rfl (by first | exact Or.inl rfl | exact Or.inr rfl)) (ss_cons (s_if (PW.pt (w_or (t_val (e_callB call_isi (rf_isi (by decide)) (by rfl) T.n_isinstance bb_isinstance (a_cons (e_var 3 (pv 3)) (a_cons (e_con (v := .ty "bool") (pe_bltn (by rfl) T.n_bool bb_bool rfl) (fun _ _ => by unfold RD; rfl)) a_nil)))) (w_or (t_not (t_val (e_callB call_isi (rf_isi (by decide)) (by rfl) T.n_isinstance bb_isinstance (a_cons (e_var 3 (pv 3)) (a_cons (e_con (v := .ty "int") (pe_bltn (by rfl) T.n_int bb_int rfl) (fun _ _ => by unfold RD; rfl)) a_nil))))) (w_or1 (t_not (t_chain op_leM rf_le op_leM rf_le (e_int) (e_var 3 (pv 3)) (e_bin op_addM rf_add (e_var 2 (pv 2)) (e_int)))))))) (ss_one (s_ret (e_bl))) (ss_nil)) (ss_one (s_set 2 sc_law_is_shape.nd rfl (by first | exact Or.inl rfl | exact Or.inr rfl) (e_callB (call_max2 rfl) rf_max2 (by rfl) T.n_max bb_max (a_cons (e_var 2 (pv 2)) (a_cons (e_var 3 (pv 3)) (a_nil)))))))) (ss_cons (s_if (PW.pt (w_or (t_not (t_val (e_callB call_isi (rf_isi (by decide)) (by rfl) T.n_isinstance bb_isinstance (a_cons (e_ix hu (e_var 1 (pv 1)) (e_int) (fun _ _ => rfl)) (a_cons (e_con (v := .ty "str") (pe_bltn (by rfl) T.n_str bb_str rfl) (fun _ _ => by unfold RD; rfl)) a_nil))))) (w_or (t_cmp (op_ninM hu) rf_nin (e_ix hu (e_var 1 (pv 1)) (e_int) (fun _ _ => rfl)) (e_lst (a_cons (e_str) (a_cons (e_str) (a_cons (e_str) (a_nil))))) (by with_unfolding_all rfl)) (w_or1 (t_not (t_val (e_callB call_isi (rf_isi (by decide)) (by rfl) T.n_isinstance bb_isinstance (a_cons (e_ix hu (e_var 1 (pv 1)) (e_int) (fun _ _ => rfl)) (a_cons (e_con (v := .ty "bool") (pe_bltn (by rfl) T.n_bool bb_bool rfl) (fun _ _ => by unfold RD; rfl)) a_nil))))))))) (ss_one (s_ret (e_bl))) (ss_nil)) (ss_cons (s_if (PW.pt (w_or (t_cmp (op_neM hu) rf_ne (e_callB call_lenM rf_len (by rfl) T.n_len bb_len (a_cons (e_ix hu (e_var 1 (pv 1)) (e_int) (fun _ _ => rfl)) (a_nil))) (e_bin op_addM rf_add (e_callB call_lenM rf_len (by rfl) T.n_len bb_len (a_cons (e_ix hu (e_var 0 (pv 0)) (e_int) (fun _ _ => rfl)) (a_nil))) (e_int)) (nomark _)) (w_or1 (PW.pt (w_and (t_cmp (op_neM hu) rf_ne (e_ix hu (e_var 1 (pv 1)) (e_int) (fun _ _ => rfl)) (e_str) (nomark _)) (w_and1 (t_cmp (op_neM hu) rf_ne (e_ix hu (e_ix hu (e_var 1 (pv 1)) (e_int) (fun _ _ => rfl)) (e_un un_neg rf_neg (e_int)) (fun _ _ => rfl)) (e_int) (nomark _)))))))) (ss_one (s_ret (e_bl))) (ss_nil)) (ss_one (s_ret (e_or (e_cmp (op_neM hu) rf_ne (e_ix hu (e_var 1 (pv 1)) (e_int) (fun _ _ => rfl)) (e_str) (nomark _)) (e_one (e_ix hu (e_var 1 (pv 1)) (e_int) (fun _ _ => rfl))))))))))
abbrev s_law_odd : Stmt := top 68
theorem sc_law_odd : FnScope N_law_odd ["source", "thing"] (defScope s_law_odd) := ⟨rfl, rfl, rfl, by decide +kernel, rfl, by decide +kernel, by decide +kernel⟩
theorem ok_law_odd {f : Addr} {fd : FuncData} (F : Fun K "_law_odd" "_law_odd" s_law_odd f fd) (T : Txt P w K mg base) (C_law_draw : Cal P w K mg base "_law_draw" 1 m_law_draw) (C_law_pick : Cal P w K mg base "_law_pick" 2 m_law_pick) : FnOk P w K mg base (L2.CX P w) 3 f fd ["source", "thing"] (spM ⟨K, mg⟩ 2 m_law_odd) :=
  fn_ok F sc_law_odd fun cdv A outer s H E hr tk => by
    have hu := hr.units
    exact ss_cons (s_par2 2 3 rfl sc_law_odd.nd rfl rfl (by decide) rfl rfl (a_cons (e_callTy call_list_of rf_list (by rfl) T.n_list bb_list (a_cons (e_ix hu (e_var 1 (pv 1)) (e_int) (fun _ _ => rfl)) (a_nil))) (a_cons (e_call C_law_draw (hr.mono (by decide)) tk (by rfl) (a_cons (e_var 0 (pv 0)) (a_cons (e_int) (a_nil)))) (a_nil))) rfl) (ss_cons (s_par2 4 5 rfl sc_law_odd.nd rfl rfl (by decide) rfl rfl (a_cons (e_callB (cr_max rfl) rf_maxL (by rfl) T.n_max bb_max (a_cons (e_var 2 (pv 2)) (a_nil))) (a_cons (e_call C_law_draw (hr.mono (by decide)) tk (by rfl) (a_cons (e_var 0 (pv 0)) (a_cons (e_callB call_lenM rf_len (by rfl) T.n_len bb_len (a_cons (e_var 2 (pv 2)) (a_nil))) (a_nil)))) (a_nil))) rfl) (ss_cons (s_if (t_cmp op_ltM rf_lt (e_var 3 (pv 3)) (e_int) (nomark _)) (ss_cons (s_setX hu (e_call C_law_pick (hr.mono (by decide)) tk (by rfl) (a_cons (e_var 0 (pv 0)) (a_cons (e_lst (a_cons (e_bl) (a_cons (e_bl) (a_cons (e_bin op_sub rf_sub (e_int) (e_int)) (a_cons (e_non) (a_cons (e_str) (a_cons (e_var 4 (pv 4)) (a_cons (e_bin op_addM rf_add (e_var 4 (pv 4)) (e_int)) (a_cons (e_bin op_addM rf_add (e_var 4 (pv 4)) (e_int)) (a_cons (e_int) (a_cons (e_int) (a_cons (e_bin op_powM rf_pow (e_int) (e_int)) (a_cons (e_tup (a_cons (e_int) (a_nil))) (a_cons (e_lst (a_cons (e_int) (a_nil))) (a_nil))))))))))))))) (a_nil)))) (e_var 2 (pv 2)) (e_var 5 (pv 5))) (ss_one (s_ret (e_tup (a_cons (e_callTy call_tuple_of rf_tuple (by rfl) T.n_tuple bb_tuple (a_cons (e_var 2 (pv 2)) (a_nil))) (a_cons (e_ix hu (e_var 1 (pv 1)) (e_int) (fun _ _ => rfl)) (a_cons (e_ix hu (e_var 1 (pv 1)) (e_int) (fun _ _ => rfl)) (a_nil)))))))) (ss_nil)) (ss_cons (s_if (t_cmp (op_eqM hu) rf_eq (e_var 3 (pv 3)) (e_int) (nomark _)) (ss_one (s_ret (e_tup (a_cons (e_ix hu (e_var 1 (pv 1)) (e_int) (fun _ _ => rfl)) (a_cons (e_call C_law_pick (hr.mono (by decide)) tk (by rfl) (a_cons (e_var 0 (pv 0)) (a_cons (e_lst (a_cons (e_str) (a_cons (e_str) (a_cons (e_str) (a_cons (e_str) (a_cons (e_non) (a_cons (e_str) (a_cons (e_tup (a_cons (e_str) (a_nil))) (a_cons (e_int) (a_cons (e_str) (a_nil))))))))))) (a_nil)))) (a_cons (e_ix hu (e_var 1 (pv 1)) (e_int) (fun _ _ => rfl)) (a_nil))))))) (ss_nil)) (ss_cons (s_if (t_cmp (op_eqM hu) rf_eq (e_var 3 (pv 3)) (e_int) (nomark _)) (ss_one (s_ret (e_tup (a_cons (e_ix hu (e_var 1 (pv 1)) (e_int) (fun _ _ => rfl)) (a_cons (e_ix hu (e_var 1 (pv 1)) (e_int) (fun _ _ => rfl)) (a_cons (e_call C_law_pick (hr.mono (by decide)) tk (by rfl) (a_cons (e_var 0 (pv 0)) (a_cons (e_lst (a_cons (e_bl) (a_cons (e_bl) (a_cons (e_int) (a_cons (e_int) (a_cons (e_non) (a_cons (e_str) (a_cons (e_tup (a_cons (e_bl) (a_nil))) (a_nil))))))))) (a_nil)))) (a_nil))))))) (ss_nil)) (ss_cons (s_if (t_cmp (op_eqM hu) rf_eq (e_var 3 (pv 3)) (e_int) (nomark _)) (ss_one (s_ret (e_tup (a_cons (e_if (t_cmp (op_eqM hu) rf_eq (e_var 5 (pv 5)) (e_int) (nomark _)) (e_callTy call_tuple_of rf_tuple (by rfl) T.n_tuple bb_tuple (a_cons (e_sl (e_var 2 (pv 2)) (o_no) (o_some (e_un un_neg rf_neg (e_int)))) (a_nil))) (e_callTy call_tuple_of rf_tuple (by rfl) T.n_tuple bb_tuple (a_cons (e_bin op_addM rf_add (e_var 2 (pv 2)) (e_lst (a_cons (e_int) (a_nil)))) (a_nil)))) (a_cons (e_ix hu (e_var 1 (pv 1)) (e_int) (fun _ _ => rfl)) (a_cons (e_ix hu (e_var 1 (pv 1)) (e_int) (fun _ _ => rfl)) (a_nil))))))) (ss_nil)) (ss_cons (s_if (t_cmp (op_eqM hu) rf_eq (e_var 3 (pv 3)) (e_int) (nomark _)) (ss_one (s_ret (e_call C_law_pick (hr.mono (by decide)) tk (by rfl) (a_cons (e_var 0 (pv 0)) (a_cons (e_lst (a_cons (e_tup (a_cons (e_var 2 (pv 2)) (a_cons (e_ix hu (e_var 1 (pv 1)) (e_int) (fun _ _ => rfl)) (a_cons (e_ix hu (e_var 1 (pv 1)) (e_int) (fun _ _ => rfl)) (a_nil))))) (a_cons (e_callTy call_list_of rf_list (by rfl) T.n_list bb_list (a_cons (e_var 1 (pv 1)) (a_nil))) (a_cons (e_bin op_addM rf_add (e_var 1 (pv 1)) (e_tup (a_cons (e_bl) (a_nil)))) (a_cons (e_sl (e_var 1 (pv 1)) (o_no) (o_some (e_int))) (a_cons (e_tup (a_cons (e_ix hu (e_var 1 (pv 1)) (e_int) (fun _ _ => rfl)) (a_nil))) (a_nil))))))) (a_nil)))))) (ss_nil)) (ss_one (s_ret (e_call C_law_pick (hr.mono (by decide)) tk (by rfl) (a_cons (e_var 0 (pv 0)) (a_cons (e_lst (a_cons (e_non) (a_cons (e_int) (a_cons (e_bl) (a_cons (e_str) (a_cons (e_str) (a_cons (e_tup (a_nil)) (a_cons (e_lst (a_nil)) (a_cons (e_dct0) (a_cons (e_tup (a_cons (e_int) (a_cons (e_int) (a_cons (e_int) (a_nil))))) (a_cons (e_tup (a_cons (e_tup (a_nil)) (a_cons (e_str) (a_cons (e_bl) (a_nil))))) (a_cons (e_lst (a_cons (e_var 1 (pv 1)) (a_nil))) (a_cons (e_tup (a_cons (e_var 1 (pv 1)) (a_nil))) (a_nil)))))))))))))) (a_nil))))))))))))
abbrev s_law : Stmt := top 69
theorem sc_law : FnScope N_law ["script"] (defScope s_law) := ⟨rfl, rfl, rfl, by decide +kernel, rfl, by decide +kernel, by decide +kernel⟩
theorem ok_law {fa : Addr} {cdv : Value} {s : Shared} {H : Hp} {E : XK} (T : Txt P w K mg base) (C_law_begun : Cal P w K mg base "_law_begun" 1 m_law_begun) (C_law_is_shape : Cal P w K mg base "_law_is_shape" 1 m_law_is_shape) (C_law_made : Cal P w K mg base "_law_made" 7 m_law_made) (C_law_odd : Cal P w K mg base "_law_odd" 3 m_law_odd) (C_law_rule : Cal P w K mg base "_law_rule" 6 m_law_rule) (C_law_shape : Cal P w K mg base "_law_shape" 3 m_law_shape) (C_law_source : Cal P w K mg base "_law_source" 1 m_law_source) (C_is_pattern : Cal P w K mg base "is_pattern" 3 m_is_pattern) (E_is_closed : CalD P w K mg base "is_closed" 2 [(.bl false)] 4 m_is_closed) (hr : Room 7 (callerA.deeper (envOfC "law" (defScope s_law) s.heap.objs.size fa cdv))) :
    PSs (cxOf (L2.CX P w) P w K mg base N_law "law" (defScope s_law) fa cdv callerA [] s H E) (defBody s_law) (tS ⟨K, mg⟩ (fun cls d _ H => E cls d H) b_law) := by
  have hu := hr.units
  have tk : Takes (cxOf (L2.CX P w) P w K mg base N_law "law" (defScope s_law) fa cdv callerA [] s H E) (fun cls d _ H => E cls d H) := takes_of rfl rfl rfl rfl
  have hgd : (cxOf (L2.CX P w) P w K mg base N_law "law" (defScope s_law) fa cdv callerA [] s H E).A.guards = some [] := rfl
  exact ss_cons (s_for (passes_of rfl) rfl (i_range1 (by rfl) T.n_range (a_cons (e_callB (call_max2 rfl) rf_max2 (by rfl) T.n_max bb_max (a_cons (e_int) (a_cons (e_callB (call_min2 rfl) rf_min2 (by rfl) T.n_min bb_min (a_cons (e_int) (a_cons (e_callB call_lenM rf_len (by rfl) T.n_len bb_len (a_cons (e_var 0 (pv 0)) (a_nil))) (a_nil)))) (a_nil)))) (a_nil))) (g_name 1 sc_law.nd rfl (by first | exact Or.inl rfl | exact Or.inr rfl)) (ss_cons (s_set 2 sc_law.nd rfl (by first | exact Or.inl rfl | exact Or.inr rfl) (e_call C_law_source (hr.mono (by decide)) tk (by rfl) (a_cons (e_var 0 (pv 0)) (a_cons (e_var 1 (pv 1)) (a_nil))))) (ss_cons (s_set 3 sc_law.nd rfl (by first | exact Or.inl rfl | exact Or.inr rfl) (e_call C_law_rule (hr.mono (by decide)) tk (by rfl) (a_cons (e_var 2 (pv 2)) (a_cons (e_int) (a_nil))))) (ss_cons (s_par2 5 6 rfl sc_law.nd rfl rfl (by decide) rfl rfl (a_cons (e_call C_law_made (hr.mono (by decide)) tk (by rfl) (a_cons (e_var 3 (pv 3)) (a_nil))) (a_cons (e_call C_law_begun (hr.mono (by decide)) tk (by rfl) (a_cons (e_var 3 (pv 3)) (a_nil))) (a_nil))) rfl) (ss_cons (s_for (passes_of rfl) rfl (i_range1 (by rfl) T.n_range (a_cons (e_int) (a_nil))) (g_name 4 sc_law.nd rfl (by first | exact Or.inl rfl | exact Or.inr rfl)) (ss_cons (s_set 7 sc_law.nd rfl (by first | exact Or.inl rfl | exact Or.inr rfl) (e_call C_law_shape (hr.mono (by decide)) tk (by rfl) (a_cons (e_var 2 (pv 2)) (a_cons (e_var 3 (pv 3)) (a_nil))))) (ss_one (s_for (passes_of rfl) rfl (i_any (e_lst (a_cons (e_var 7 (pv 7)) (a_cons (e_call C_law_odd (hr.mono (by decide)) tk (by rfl) (a_cons (e_var 2 (pv 2)) (a_cons (e_var 7 (pv 7)) (a_nil)))) (a_cons (e_call C_law_odd (hr.mono (by decide)) tk (by rfl) (a_cons (e_var 2 (pv 2)) (a_cons (e_var 7 (pv 7)) (a_nil)))) (a_nil)))))) (g_name 8 sc_law.nd rfl (by first | exact Or.inl rfl | exact Or.inr rfl)) (ss_cons (s_par2 9 10 rfl sc_law.nd rfl rfl (by decide) rfl rfl (a_cons (e_call C_law_is_shape (hr.mono (by decide)) tk (by rfl) (a_cons (e_var 3 (pv 3)) (a_cons (e_var 8 (pv 8)) (a_nil)))) (a_cons (e_repr4 hgd hu (by rfl) T.n_repr (e_var 8 (pv 8))) (a_nil))) rfl) (ss_cons (s_if (PW.pt (w_or (t_cmp (op_neM hu) rf_ne (e_repr4 hgd hu (by rfl) T.n_repr (e_call C_is_pattern (hr.mono (by decide)) tk (by rfl) (a_cons (e_var 5 (pv 5)) (a_cons (e_var 8 (pv 8)) (a_nil))))) (e_repr4 hgd hu (by rfl) T.n_repr (e_var 9 (pv 9))) (nomark _)) (w_or1 (t_cmp (op_neM hu) rf_ne (e_repr4 hgd hu (by rfl) T.n_repr (e_var 8 (pv 8))) (e_var 10 (pv 10)) (nomark _))))) (ss_one (s_ret (e_bl))) (ss_nil)) (ss_one (s_if (PW.pt (w_and (t_not (t_val (e_var 9 (pv 9)))) (w_and1 (t_val (e_callD E_is_closed (hr.mono (by decide)) tk (by rfl) (a_cons (e_var 5 (pv 5)) (a_cons (e_lst (a_cons (e_var 6 (pv 6)) (a_cons (e_var 8 (pv 8)) (a_nil)))) (a_nil)))))))) (ss_one (s_ret (e_bl))) (ss_nil))))))))) (ss_one (s_if (t_not (t_val (e_call C_is_pattern (hr.mono (by decide)) tk (by rfl) (a_cons (e_var 5 (pv 5)) (a_cons (e_var 6 (pv 6)) (a_nil)))))) (ss_one (s_ret (e_bl))) (ss_nil)))))))) (ss_one (s_ret (e_bl)))
end
theorem all_mk {P : Program} {w : World} {K : PySem.W.Frag} {h : Heap} {mg : Str → Option Value} {fa : Addr} (X : K.In h) (G : h.Ns mainGlobals mg) (hfa : mg "law" = some (.ref fa))
    {v_BARRED : Addr} {v_FREE : Tok} {v_LETTERS : Tok} {v_MOST_LINES : Tok} {v_MOST_REGISTERS : Tok} {v_MOST_STEPS : Tok} {v_MOST_TESTS : Tok} {v_NONE : Tok} {v_OWN : Tok} {C_BadRegisters f_BadRegisters C_BadLines f_BadLines C_BadLine f_BadLine C_UpgradeError C_Rule f_is_name f_need_registers f_is_one_of f_is_test f_is_step f_are_steps f_is_line f_Rule_init f_is_whole_number f_are_numbered f_is_pattern f_is_closed f_law_source f_law_draw f_law_pick f_law_note f_law_registers f_law_test f_law_steps f_law_row f_law_good f_law_bent f_law_rule f_law_made f_law_begun f_law_shape f_law_is_shape f_law_odd f_law : Addr}
    (a_BadRegisters : PySem.W.nsIn K mainGlobals "BadRegisters" = some (some (.ref C_BadRegisters)))
    (i_BadRegisters : PySem.W.findIn K (.ref C_BadRegisters) "__init__" = some (some (.ref f_BadRegisters)))
    (o_BadRegisters : XcO K C_BadRegisters)
    (g_BadRegisters : ∃ fd, Fun K "__init__" "BadRegisters.__init__" (inClass (top 3) 0) f_BadRegisters fd)
    (b_BadRegisters : xcB K C_BadRegisters f_BadRegisters "value" = true)
    (a_BadLines : PySem.W.nsIn K mainGlobals "BadLines" = some (some (.ref C_BadLines)))
    (i_BadLines : PySem.W.findIn K (.ref C_BadLines) "__init__" = some (some (.ref f_BadLines)))
    (o_BadLines : XcO K C_BadLines)
    (g_BadLines : ∃ fd, Fun K "__init__" "BadLines.__init__" (inClass (top 4) 0) f_BadLines fd)
    (b_BadLines : xcB K C_BadLines f_BadLines "value" = true)
    (a_BadLine : PySem.W.nsIn K mainGlobals "BadLine" = some (some (.ref C_BadLine)))
    (i_BadLine : PySem.W.findIn K (.ref C_BadLine) "__init__" = some (some (.ref f_BadLine)))
    (o_BadLine : XcO K C_BadLine)
    (g_BadLine : ∃ fd, Fun K "__init__" "BadLine.__init__" (inClass (top 5) 0) f_BadLine fd)
    (b_BadLine : xcB K C_BadLine f_BadLine "position" = true)
    (a_UpgradeError : PySem.W.nsIn K mainGlobals "UpgradeError" = some (some (.ref C_UpgradeError)))
    (kinds : kindB K [("BadRegisters", C_BadRegisters), ("BadLines", C_BadLines), ("BadLine", C_BadLine)] C_UpgradeError = true)
    (z_all : PySem.W.nsIn K mainGlobals "all" = some none)
    (z_bool : PySem.W.nsIn K mainGlobals "bool" = some none)
    (z_enumerate : PySem.W.nsIn K mainGlobals "enumerate" = some none)
    (z_int : PySem.W.nsIn K mainGlobals "int" = some none)
    (z_isinstance : PySem.W.nsIn K mainGlobals "isinstance" = some none)
    (z_len : PySem.W.nsIn K mainGlobals "len" = some none)
    (z_list : PySem.W.nsIn K mainGlobals "list" = some none)
    (z_max : PySem.W.nsIn K mainGlobals "max" = some none)
    (z_min : PySem.W.nsIn K mainGlobals "min" = some none)
    (z_range : PySem.W.nsIn K mainGlobals "range" = some none)
    (z_repr : PySem.W.nsIn K mainGlobals "repr" = some none)
    (z_set : PySem.W.nsIn K mainGlobals "set" = some none)
    (z_str : PySem.W.nsIn K mainGlobals "str" = some none)
    (z_tuple : PySem.W.nsIn K mainGlobals "tuple" = some none)
    (a_BARRED : PySem.W.nsIn K mainGlobals "BARRED" = some (some (.ref v_BARRED)))
    (t_BARRED : tupB K v_BARRED ["here", "new", "nothing", "is", "not", "from", "or", "ask", "do", "otherwise"] = true)
    (a_FREE : PySem.W.nsIn K mainGlobals "FREE" = some (some (.str "free" v_FREE)))
    (a_LETTERS : PySem.W.nsIn K mainGlobals "LETTERS" = some (some (.str "abcdefghijklmnopqrstuvwxyz" v_LETTERS)))
    (a_MOST_LINES : PySem.W.nsIn K mainGlobals "MOST_LINES" = some (some (.int 8 v_MOST_LINES)))
    (a_MOST_REGISTERS : PySem.W.nsIn K mainGlobals "MOST_REGISTERS" = some (some (.int 3 v_MOST_REGISTERS)))
    (a_MOST_STEPS : PySem.W.nsIn K mainGlobals "MOST_STEPS" = some (some (.int 4 v_MOST_STEPS)))
    (a_MOST_TESTS : PySem.W.nsIn K mainGlobals "MOST_TESTS" = some (some (.int 4 v_MOST_TESTS)))
    (a_NONE : PySem.W.nsIn K mainGlobals "NONE" = some (some (.str "none" v_NONE)))
    (a_OWN : PySem.W.nsIn K mainGlobals "OWN" = some (some (.str "own" v_OWN)))
    (a_Rule : PySem.W.nsIn K mainGlobals "Rule" = some (some (.ref C_Rule)))
    (i_Rule : PySem.W.findIn K (.ref C_Rule) "__init__" = some (some (.ref f_Rule_init)))
    (b_Rule : clsB K C_Rule f_Rule_init ["own_names", "rows"] = true)
    (d_is_closed : kwdB K f_is_closed [("stops", (.bl false))] = true)
    (a_is_name : PySem.W.nsIn K mainGlobals "is_name" = some (some (.ref f_is_name)))
    (g_is_name : ∃ fd, Fun K "is_name" "is_name" s_is_name f_is_name fd)
    (a_need_registers : PySem.W.nsIn K mainGlobals "need_registers" = some (some (.ref f_need_registers)))
    (g_need_registers : ∃ fd, Fun K "need_registers" "need_registers" s_need_registers f_need_registers fd)
    (a_is_one_of : PySem.W.nsIn K mainGlobals "is_one_of" = some (some (.ref f_is_one_of)))
    (g_is_one_of : ∃ fd, Fun K "is_one_of" "is_one_of" s_is_one_of f_is_one_of fd)
    (a_is_test : PySem.W.nsIn K mainGlobals "is_test" = some (some (.ref f_is_test)))
    (g_is_test : ∃ fd, Fun K "is_test" "is_test" s_is_test f_is_test fd)
    (a_is_step : PySem.W.nsIn K mainGlobals "is_step" = some (some (.ref f_is_step)))
    (g_is_step : ∃ fd, Fun K "is_step" "is_step" s_is_step f_is_step fd)
    (a_are_steps : PySem.W.nsIn K mainGlobals "are_steps" = some (some (.ref f_are_steps)))
    (g_are_steps : ∃ fd, Fun K "are_steps" "are_steps" s_are_steps f_are_steps fd)
    (a_is_line : PySem.W.nsIn K mainGlobals "is_line" = some (some (.ref f_is_line)))
    (g_is_line : ∃ fd, Fun K "is_line" "is_line" s_is_line f_is_line fd)
    (g_Rule_init : ∃ fd, Fun K "__init__" "Rule.__init__" s_Rule_init f_Rule_init fd)
    (a_is_whole_number : PySem.W.nsIn K mainGlobals "is_whole_number" = some (some (.ref f_is_whole_number)))
    (g_is_whole_number : ∃ fd, Fun K "is_whole_number" "is_whole_number" s_is_whole_number f_is_whole_number fd)
    (a_are_numbered : PySem.W.nsIn K mainGlobals "are_numbered" = some (some (.ref f_are_numbered)))
    (g_are_numbered : ∃ fd, Fun K "are_numbered" "are_numbered" s_are_numbered f_are_numbered fd)
    (a_is_pattern : PySem.W.nsIn K mainGlobals "is_pattern" = some (some (.ref f_is_pattern)))
    (g_is_pattern : ∃ fd, Fun K "is_pattern" "is_pattern" s_is_pattern f_is_pattern fd)
    (a_is_closed : PySem.W.nsIn K mainGlobals "is_closed" = some (some (.ref f_is_closed)))
    (g_is_closed : ∃ fd, Fun K "is_closed" "is_closed" s_is_closed f_is_closed fd)
    (a_law_source : PySem.W.nsIn K mainGlobals "_law_source" = some (some (.ref f_law_source)))
    (g_law_source : ∃ fd, Fun K "_law_source" "_law_source" s_law_source f_law_source fd)
    (a_law_draw : PySem.W.nsIn K mainGlobals "_law_draw" = some (some (.ref f_law_draw)))
    (g_law_draw : ∃ fd, Fun K "_law_draw" "_law_draw" s_law_draw f_law_draw fd)
    (a_law_pick : PySem.W.nsIn K mainGlobals "_law_pick" = some (some (.ref f_law_pick)))
    (g_law_pick : ∃ fd, Fun K "_law_pick" "_law_pick" s_law_pick f_law_pick fd)
    (a_law_note : PySem.W.nsIn K mainGlobals "_law_note" = some (some (.ref f_law_note)))
    (g_law_note : ∃ fd, Fun K "_law_note" "_law_note" s_law_note f_law_note fd)
    (a_law_registers : PySem.W.nsIn K mainGlobals "_law_registers" = some (some (.ref f_law_registers)))
    (g_law_registers : ∃ fd, Fun K "_law_registers" "_law_registers" s_law_registers f_law_registers fd)
    (a_law_test : PySem.W.nsIn K mainGlobals "_law_test" = some (some (.ref f_law_test)))
    (g_law_test : ∃ fd, Fun K "_law_test" "_law_test" s_law_test f_law_test fd)
    (a_law_steps : PySem.W.nsIn K mainGlobals "_law_steps" = some (some (.ref f_law_steps)))
    (g_law_steps : ∃ fd, Fun K "_law_steps" "_law_steps" s_law_steps f_law_steps fd)
    (a_law_row : PySem.W.nsIn K mainGlobals "_law_row" = some (some (.ref f_law_row)))
    (g_law_row : ∃ fd, Fun K "_law_row" "_law_row" s_law_row f_law_row fd)
    (a_law_good : PySem.W.nsIn K mainGlobals "_law_good" = some (some (.ref f_law_good)))
    (g_law_good : ∃ fd, Fun K "_law_good" "_law_good" s_law_good f_law_good fd)
    (a_law_bent : PySem.W.nsIn K mainGlobals "_law_bent" = some (some (.ref f_law_bent)))
    (g_law_bent : ∃ fd, Fun K "_law_bent" "_law_bent" s_law_bent f_law_bent fd)
    (a_law_rule : PySem.W.nsIn K mainGlobals "_law_rule" = some (some (.ref f_law_rule)))
    (g_law_rule : ∃ fd, Fun K "_law_rule" "_law_rule" s_law_rule f_law_rule fd)
    (a_law_made : PySem.W.nsIn K mainGlobals "_law_made" = some (some (.ref f_law_made)))
    (g_law_made : ∃ fd, Fun K "_law_made" "_law_made" s_law_made f_law_made fd)
    (a_law_begun : PySem.W.nsIn K mainGlobals "_law_begun" = some (some (.ref f_law_begun)))
    (g_law_begun : ∃ fd, Fun K "_law_begun" "_law_begun" s_law_begun f_law_begun fd)
    (a_law_shape : PySem.W.nsIn K mainGlobals "_law_shape" = some (some (.ref f_law_shape)))
    (g_law_shape : ∃ fd, Fun K "_law_shape" "_law_shape" s_law_shape f_law_shape fd)
    (a_law_is_shape : PySem.W.nsIn K mainGlobals "_law_is_shape" = some (some (.ref f_law_is_shape)))
    (g_law_is_shape : ∃ fd, Fun K "_law_is_shape" "_law_is_shape" s_law_is_shape f_law_is_shape fd)
    (a_law_odd : PySem.W.nsIn K mainGlobals "_law_odd" = some (some (.ref f_law_odd)))
    (g_law_odd : ∃ fd, Fun K "_law_odd" "_law_odd" s_law_odd f_law_odd fd)
    (a_law : PySem.W.nsIn K mainGlobals "law" = some (some (.ref f_law)))
    (g_law : ∃ fd, Fun K "law" "law" s_law f_law fd)
    (hm : ∀ ns : List Int, ns.length ≤ 63 → (∀ z ∈ ns, Builtin.Int.intBits z ≤ 1048576) → ∃ h', b_law ([some (.ref 0)] ++ List.replicate (N_law.length - 1) none) (scriptM ns) = .rt (.bl true) h') :
    ∀ (base : Heap) (s : Shared) (H : Hp) (a : Addr) (ns : List Int), ns.length ≤ 63 → (∀ z ∈ ns, Builtin.Int.intBits z ≤ 1048576) → Env0 P w K mg base callerA [] s H → RdL K H a (ns.map V.int) →
        codeAny (model P w) callerA (.call (.ref fa) ⟨[.ref a], []⟩) (CR (L2.CX P w) [] P w H s (fun v _ => v = .bl true) fun _ _ _ => False) s := by
  have e := hfa.symm.trans (PySem.W.mg_of X G a_law)
  cases e
  intro base s H a ns hl hbits e0 hS
  have cs : ∀ p ∈ ([("BadRegisters", C_BadRegisters), ("BadLines", C_BadLines), ("BadLine", C_BadLine)] : List (Str × Addr)), mg p.1 = some (.ref p.2) := by
    simp only [List.forall_mem_cons]
    exact ⟨PySem.W.mg_of X G a_BadRegisters, PySem.W.mg_of X G a_BadLines, PySem.W.mg_of X G a_BadLine, fun _ z => (nomatch z)⟩
  have B_BadRegisters := xcB_ok b_BadRegisters
  have B_BadLines := xcB_ok b_BadLines
  have B_BadLine := xcB_ok b_BadLine
  have xs : ∀ p ∈ ([("BadRegisters", C_BadRegisters), ("BadLines", C_BadLines), ("BadLine", C_BadLine)] : List (Str × Addr)), IsC K p.2 := by
    simp only [List.forall_mem_cons]
    exact ⟨B_BadRegisters.is, B_BadLines.is, B_BadLine.is, fun _ z => (nomatch z)⟩
  have B_Rule := clsB_ok b_Rule
  have ics : ∀ p ∈ ([("Rule", C_Rule)] : List (Str × Addr)), mg p.1 = some (.ref p.2) := by
    simp only [List.forall_mem_cons]
    exact ⟨PySem.W.mg_of X G a_Rule, fun _ z => (nomatch z)⟩
  have icl : ∀ p ∈ ([("Rule", C_Rule)] : List (Str × Addr)), Cls K p.2 := by
    simp only [List.forall_mem_cons]
    exact ⟨B_Rule.cl, fun _ z => (nomatch z)⟩
  have T : Txt P w K mg base := {
    n_all := PySem.W.mg_none_of X G z_all
    n_bool := PySem.W.mg_none_of X G z_bool
    n_enumerate := PySem.W.mg_none_of X G z_enumerate
    n_int := PySem.W.mg_none_of X G z_int
    n_isinstance := PySem.W.mg_none_of X G z_isinstance
    n_len := PySem.W.mg_none_of X G z_len
    n_list := PySem.W.mg_none_of X G z_list
    n_max := PySem.W.mg_none_of X G z_max
    n_min := PySem.W.mg_none_of X G z_min
    n_range := PySem.W.mg_none_of X G z_range
    n_repr := PySem.W.mg_none_of X G z_repr
    n_set := PySem.W.mg_none_of X G z_set
    n_str := PySem.W.mg_none_of X G z_str
    n_tuple := PySem.W.mg_none_of X G z_tuple
    x_BadRegisters := let ⟨_, F⟩ := g_BadRegisters; xc_mk (PySem.W.mg_of X G a_BadRegisters) o_BadRegisters F B_BadRegisters ⟨rfl, rfl, rfl, by decide +kernel, rfl, by decide +kernel, by decide +kernel⟩ rfl (.inl rfl) (.inl rfl) (by decide) (by decide) (fun _ _ _ _ _ _ us hl => match us, hl with | [_, _], _ => rfl) (fun _ _ _ _ _ _ _ _ => rfl)
    x_BadLines := let ⟨_, F⟩ := g_BadLines; xc_mk (PySem.W.mg_of X G a_BadLines) o_BadLines F B_BadLines ⟨rfl, rfl, rfl, by decide +kernel, rfl, by decide +kernel, by decide +kernel⟩ rfl (.inl rfl) (.inl rfl) (by decide) (by decide) (fun _ _ _ _ _ _ us hl => match us, hl with | [_, _], _ => rfl) (fun _ _ _ _ _ _ _ _ => rfl)
    x_BadLine := let ⟨_, F⟩ := g_BadLine; xc_mk (PySem.W.mg_of X G a_BadLine) o_BadLine F B_BadLine ⟨rfl, rfl, rfl, by decide +kernel, rfl, by decide +kernel, by decide +kernel⟩ rfl (.inl rfl) (.inl rfl) (by decide) (by decide) (fun _ _ _ _ _ _ us hl => match us, hl with | [_, _], _ => rfl) (fun _ _ _ _ _ _ _ _ => rfl)
    f_own_names := fld_mk2 (ci := [("Rule", C_Rule)]) (cx := []) (by simp only [List.forall_mem_cons]; exact ⟨PySem.W.mg_of X G a_Rule, fun _ z => (nomatch z)⟩) (by simp only [List.forall_mem_cons]; exact ⟨⟨B_Rule.cl, B_Rule.no "own_names" (by decide)⟩, fun _ z => (nomatch z)⟩) (fun _ z => (nomatch z)) (fun _ z => (nomatch z))
    f_rows := fld_mk2 (ci := [("Rule", C_Rule)]) (cx := []) (by simp only [List.forall_mem_cons]; exact ⟨PySem.W.mg_of X G a_Rule, fun _ z => (nomatch z)⟩) (by simp only [List.forall_mem_cons]; exact ⟨⟨B_Rule.cl, B_Rule.no "rows" (by decide)⟩, fun _ z => (nomatch z)⟩) (fun _ z => (nomatch z)) (fun _ z => (nomatch z))
    c_BARRED := tup_mk (PySem.W.mg_of X G a_BARRED) t_BARRED
    c_FREE := str_mk (PySem.W.mg_of X G a_FREE)
    c_LETTERS := str_mk (PySem.W.mg_of X G a_LETTERS)
    c_MOST_LINES := int_mk (PySem.W.mg_of X G a_MOST_LINES)
    c_MOST_REGISTERS := int_mk (PySem.W.mg_of X G a_MOST_REGISTERS)
    c_MOST_STEPS := int_mk (PySem.W.mg_of X G a_MOST_STEPS)
    c_MOST_TESTS := int_mk (PySem.W.mg_of X G a_MOST_TESTS)
    c_NONE := str_mk (PySem.W.mg_of X G a_NONE)
    c_OWN := str_mk (PySem.W.mg_of X G a_OWN)
  }
  obtain ⟨_, F_is_name⟩ := g_is_name
  have bi_is_name := F_is_name.binds (ps := ["value"]) fun _ _ _ _ _ _ us hl => match us, hl with | [_], _ => rfl
  have C_is_name : Cal P w K mg base "is_name" 1 m_is_name := cal_mk F_is_name (PySem.W.mg_of X G a_is_name) bi_is_name (ok_is_name F_is_name T ) rfl
  obtain ⟨_, F_need_registers⟩ := g_need_registers
  have bi_need_registers := F_need_registers.binds (ps := ["value"]) fun _ _ _ _ _ _ us hl => match us, hl with | [_], _ => rfl
  have C_need_registers : Cal P w K mg base "need_registers" 3 m_need_registers := cal_mk F_need_registers (PySem.W.mg_of X G a_need_registers) bi_need_registers (ok_need_registers F_need_registers T C_is_name) rfl
  obtain ⟨_, F_is_one_of⟩ := g_is_one_of
  have bi_is_one_of := F_is_one_of.binds (ps := ["value", "words"]) fun _ _ _ _ _ _ us hl => match us, hl with | [_, _], _ => rfl
  have C_is_one_of : Cal P w K mg base "is_one_of" 1 m_is_one_of := cal_mk F_is_one_of (PySem.W.mg_of X G a_is_one_of) bi_is_one_of (ok_is_one_of F_is_one_of T ) rfl
  obtain ⟨_, F_is_test⟩ := g_is_test
  have bi_is_test := F_is_test.binds (ps := ["value", "names"]) fun _ _ _ _ _ _ us hl => match us, hl with | [_, _], _ => rfl
  have C_is_test : Cal P w K mg base "is_test" 2 m_is_test := cal_mk F_is_test (PySem.W.mg_of X G a_is_test) bi_is_test (ok_is_test F_is_test T C_is_one_of) rfl
  obtain ⟨_, F_is_step⟩ := g_is_step
  have bi_is_step := F_is_step.binds (ps := ["value", "names"]) fun _ _ _ _ _ _ us hl => match us, hl with | [_, _], _ => rfl
  have C_is_step : Cal P w K mg base "is_step" 2 m_is_step := cal_mk F_is_step (PySem.W.mg_of X G a_is_step) bi_is_step (ok_is_step F_is_step T C_is_one_of) rfl
  obtain ⟨_, F_are_steps⟩ := g_are_steps
  have bi_are_steps := F_are_steps.binds (ps := ["value", "names"]) fun _ _ _ _ _ _ us hl => match us, hl with | [_, _], _ => rfl
  have C_are_steps : Cal P w K mg base "are_steps" 3 m_are_steps := cal_mk F_are_steps (PySem.W.mg_of X G a_are_steps) bi_are_steps (ok_are_steps F_are_steps T C_is_step) rfl
  obtain ⟨_, F_is_line⟩ := g_is_line
  have bi_is_line := F_is_line.binds (ps := ["value", "names"]) fun _ _ _ _ _ _ us hl => match us, hl with | [_, _], _ => rfl
  have C_is_line : Cal P w K mg base "is_line" 4 m_is_line := cal_mk F_is_line (PySem.W.mg_of X G a_is_line) bi_is_line (ok_is_line F_is_line T C_are_steps C_is_test) rfl
  obtain ⟨_, F_Rule_init⟩ := g_Rule_init
  have bi_Rule_init := F_Rule_init.binds (ps := ["self", "registers", "lines"]) fun _ _ _ _ _ _ us hl => match us, hl with | [_, _, _], _ => rfl
  have I_Rule : InC P w K mg base "Rule" 5 3 m_Rule_init := in_mk (PySem.W.mg_of X G a_Rule) B_Rule.makes bi_Rule_init (ok_Rule_init F_Rule_init T C_is_line C_need_registers) rfl
  obtain ⟨_, F_is_whole_number⟩ := g_is_whole_number
  have bi_is_whole_number := F_is_whole_number.binds (ps := ["value", "many"]) fun _ _ _ _ _ _ us hl => match us, hl with | [_, _], _ => rfl
  have C_is_whole_number : Cal P w K mg base "is_whole_number" 1 m_is_whole_number := cal_mk F_is_whole_number (PySem.W.mg_of X G a_is_whole_number) bi_is_whole_number (ok_is_whole_number F_is_whole_number T ) rfl
  obtain ⟨_, F_are_numbered⟩ := g_are_numbered
  have bi_are_numbered := F_are_numbered.binds (ps := ["numbers"]) fun _ _ _ _ _ _ us hl => match us, hl with | [_], _ => rfl
  have C_are_numbered : Cal P w K mg base "are_numbered" 2 m_are_numbered := cal_mk F_are_numbered (PySem.W.mg_of X G a_are_numbered) bi_are_numbered (ok_are_numbered F_are_numbered T C_is_whole_number) rfl
  obtain ⟨_, F_is_pattern⟩ := g_is_pattern
  have bi_is_pattern := F_is_pattern.binds (ps := ["rule", "value"]) fun _ _ _ _ _ _ us hl => match us, hl with | [_, _], _ => rfl
  have C_is_pattern : Cal P w K mg base "is_pattern" 3 m_is_pattern := cal_mk F_is_pattern (PySem.W.mg_of X G a_is_pattern) bi_is_pattern (ok_is_pattern F_is_pattern T C_are_numbered C_is_one_of) rfl
  obtain ⟨_, F_is_closed⟩ := g_is_closed
  have E_is_closed : CalD P w K mg base "is_closed" 2 [(.bl false)] 4 m_is_closed := calld_mk (ks := [("stops", (.bl false))]) F_is_closed (PySem.W.mg_of X G a_is_closed) d_is_closed (by simp) (by simp [isScal]) (fun _ _ _ _ _ _ us ms h1 h2 => match us, ms, h1, h2 with | [_, _], [_], _, _ => ⟨_, _, _, _, _, _, rfl, rfl, (by first | (dsimp only [List.map, List.zip, List.zipWith]; unfold L2.KwChain; rfl) | (unfold L2.KwChain; rfl) | (show _ = pure _; rfl) | rfl)⟩) (ok_is_closed F_is_closed T C_is_pattern) rfl rfl
  obtain ⟨_, F_law_source⟩ := g_law_source
  have bi_law_source := F_law_source.binds (ps := ["script", "start"]) fun _ _ _ _ _ _ us hl => match us, hl with | [_, _], _ => rfl
  have C_law_source : Cal P w K mg base "_law_source" 1 m_law_source := cal_mk F_law_source (PySem.W.mg_of X G a_law_source) bi_law_source (ok_law_source F_law_source T ) rfl
  obtain ⟨_, F_law_draw⟩ := g_law_draw
  have bi_law_draw := F_law_draw.binds (ps := ["source", "span"]) fun _ _ _ _ _ _ us hl => match us, hl with | [_, _], _ => rfl
  have C_law_draw : Cal P w K mg base "_law_draw" 1 m_law_draw := cal_mk F_law_draw (PySem.W.mg_of X G a_law_draw) bi_law_draw (ok_law_draw F_law_draw T ) rfl
  obtain ⟨_, F_law_pick⟩ := g_law_pick
  have bi_law_pick := F_law_pick.binds (ps := ["source", "things"]) fun _ _ _ _ _ _ us hl => match us, hl with | [_, _], _ => rfl
  have C_law_pick : Cal P w K mg base "_law_pick" 2 m_law_pick := cal_mk F_law_pick (PySem.W.mg_of X G a_law_pick) bi_law_pick (ok_law_pick F_law_pick T C_law_draw) rfl
  obtain ⟨_, F_law_note⟩ := g_law_note
  have bi_law_note := F_law_note.binds (ps := ["source", "letter"]) fun _ _ _ _ _ _ us hl => match us, hl with | [_, _], _ => rfl
  have C_law_note : Cal P w K mg base "_law_note" 3 m_law_note := cal_mk F_law_note (PySem.W.mg_of X G a_law_note) bi_law_note (ok_law_note F_law_note T C_law_draw C_law_pick) rfl
  obtain ⟨_, F_law_registers⟩ := g_law_registers
  have bi_law_registers := F_law_registers.binds (ps := ["source", "most"]) fun _ _ _ _ _ _ us hl => match us, hl with | [_, _], _ => rfl
  have C_law_registers : Cal P w K mg base "_law_registers" 4 m_law_registers := cal_mk F_law_registers (PySem.W.mg_of X G a_law_registers) bi_law_registers (ok_law_registers F_law_registers T C_law_note C_law_pick) rfl
  obtain ⟨_, F_law_test⟩ := g_law_test
  have bi_law_test := F_law_test.binds (ps := ["source", "names"]) fun _ _ _ _ _ _ us hl => match us, hl with | [_, _], _ => rfl
  have C_law_test : Cal P w K mg base "_law_test" 3 m_law_test := cal_mk F_law_test (PySem.W.mg_of X G a_law_test) bi_law_test (ok_law_test F_law_test T C_law_draw C_law_pick) rfl
  obtain ⟨_, F_law_steps⟩ := g_law_steps
  have bi_law_steps := F_law_steps.binds (ps := ["source", "names", "most"]) fun _ _ _ _ _ _ us hl => match us, hl with | [_, _, _], _ => rfl
  have C_law_steps : Cal P w K mg base "_law_steps" 3 m_law_steps := cal_mk F_law_steps (PySem.W.mg_of X G a_law_steps) bi_law_steps (ok_law_steps F_law_steps T C_law_draw C_law_pick) rfl
  obtain ⟨_, F_law_row⟩ := g_law_row
  have bi_law_row := F_law_row.binds (ps := ["source", "names", "is_last"]) fun _ _ _ _ _ _ us hl => match us, hl with | [_, _, _], _ => rfl
  have C_law_row : Cal P w K mg base "_law_row" 4 m_law_row := cal_mk F_law_row (PySem.W.mg_of X G a_law_row) bi_law_row (ok_law_row F_law_row T C_law_draw C_law_steps C_law_test) rfl
  obtain ⟨_, F_law_good⟩ := g_law_good
  have bi_law_good := F_law_good.binds (ps := ["names"]) fun _ _ _ _ _ _ us hl => match us, hl with | [_], _ => rfl
  have C_law_good : Cal P w K mg base "_law_good" 1 m_law_good := cal_mk F_law_good (PySem.W.mg_of X G a_law_good) bi_law_good (ok_law_good F_law_good T ) rfl
  obtain ⟨_, F_law_bent⟩ := g_law_bent
  have bi_law_bent := F_law_bent.binds (ps := ["source", "names", "lines"]) fun _ _ _ _ _ _ us hl => match us, hl with | [_, _, _], _ => rfl
  have C_law_bent : Cal P w K mg base "_law_bent" 5 m_law_bent := cal_mk F_law_bent (PySem.W.mg_of X G a_law_bent) bi_law_bent (ok_law_bent F_law_bent T C_law_draw C_law_row) rfl
  obtain ⟨_, F_law_rule⟩ := g_law_rule
  have bi_law_rule := F_law_rule.binds (ps := ["source", "most"]) fun _ _ _ _ _ _ us hl => match us, hl with | [_, _], _ => rfl
  have C_law_rule : Cal P w K mg base "_law_rule" 6 m_law_rule := cal_mk F_law_rule (PySem.W.mg_of X G a_law_rule) bi_law_rule (ok_law_rule F_law_rule T C_law_bent C_law_draw C_law_good C_law_registers C_law_row) rfl
  obtain ⟨_, F_law_made⟩ := g_law_made
  have bi_law_made := F_law_made.binds (ps := ["rule"]) fun _ _ _ _ _ _ us hl => match us, hl with | [_], _ => rfl
  have C_law_made : Cal P w K mg base "_law_made" 7 m_law_made := cal_mk F_law_made (PySem.W.mg_of X G a_law_made) bi_law_made (ok_law_made F_law_made T I_Rule) rfl
  obtain ⟨_, F_law_begun⟩ := g_law_begun
  have bi_law_begun := F_law_begun.binds (ps := ["rule"]) fun _ _ _ _ _ _ us hl => match us, hl with | [_], _ => rfl
  have C_law_begun : Cal P w K mg base "_law_begun" 1 m_law_begun := cal_mk F_law_begun (PySem.W.mg_of X G a_law_begun) bi_law_begun (ok_law_begun F_law_begun T ) rfl
  obtain ⟨_, F_law_shape⟩ := g_law_shape
  have bi_law_shape := F_law_shape.binds (ps := ["source", "rule"]) fun _ _ _ _ _ _ us hl => match us, hl with | [_, _], _ => rfl
  have C_law_shape : Cal P w K mg base "_law_shape" 3 m_law_shape := cal_mk F_law_shape (PySem.W.mg_of X G a_law_shape) bi_law_shape (ok_law_shape F_law_shape T C_law_draw C_law_pick) rfl
  obtain ⟨_, F_law_is_shape⟩ := g_law_is_shape
  have bi_law_is_shape := F_law_is_shape.binds (ps := ["rule", "thing"]) fun _ _ _ _ _ _ us hl => match us, hl with | [_, _], _ => rfl
  have C_law_is_shape : Cal P w K mg base "_law_is_shape" 1 m_law_is_shape := cal_mk F_law_is_shape (PySem.W.mg_of X G a_law_is_shape) bi_law_is_shape (ok_law_is_shape F_law_is_shape T ) rfl
  obtain ⟨_, F_law_odd⟩ := g_law_odd
  have bi_law_odd := F_law_odd.binds (ps := ["source", "thing"]) fun _ _ _ _ _ _ us hl => match us, hl with | [_, _], _ => rfl
  have C_law_odd : Cal P w K mg base "_law_odd" 3 m_law_odd := cal_mk F_law_odd (PySem.W.mg_of X G a_law_odd) bi_law_odd (ok_law_odd F_law_odd T C_law_draw C_law_pick) rfl
  obtain ⟨_, F_law⟩ := g_law
  have bi_law := F_law.binds (ps := ["script"]) fun _ _ _ _ _ _ us hl => match us, hl with | [_], _ => rfl
  exact law_run F_law sc_law (k := 7) ⟨rfl, by decide, by decide⟩ e0 bi_law hS (fun cdv hr => ok_law T C_law_begun C_law_is_shape C_law_made C_law_odd C_law_rule C_law_shape C_law_source C_is_pattern E_is_closed hr) (hm ns hl hbits)
end ML

namespace ML
open PySem PySem.Spec PyProof.Rows L2
theorem draw {h : MH} {k : Nat} {r m span : Int} (hk : h[k]? = some (.lst [.int r, .int m])) (hr : 0 ≤ r) (hm : 0 ≤ m) (hm2 : m < 2147483648) (hs : 0 < span) (hs2 : span < 1000000) :
    ∃ v r' m', m_law_draw [.ref k, .int span] h = .ok (.int v) (h.set k (.lst [.int r', .int m'])) ∧ 0 ≤ v ∧ v < span ∧ 0 ≤ r' ∧ 0 ≤ m' ∧ m' < 2147483648 := by
  unfold m_law_draw
  have g1 : ∀ {o : O}, (h.set k o)[k]? = some o := fun {o} => set_get hk
  by_cases c : span ≤ r
  · refine ⟨r % span, r / span, m, ?_, Int.emod_nonneg _ (by omega), Int.emod_lt_of_pos _ hs, Int.ediv_nonneg hr (by omega), hm, hm2⟩
    have hl : span.natAbs.log2 < 9000 := Nat.lt_trans (log_lt (k := 20) (by decide) (by omega)) (by decide)
    have a0 := ix0 hk
    have a1 := mod_i (h := h) (k := r) hs
    have a2 := div_i (h := h) (k := r) hs hl
    have a3 := st0 (v := .int (r / span)) hk
    have a4 := ge_T (h := h) c
    refine ef_rt rfl ?_
    unfold b_law_draw
    apply es_seqR
    apply es_ifT
    · repeat' (first | with_reducible exact a0 | with_reducible exact a1 | with_reducible exact a2 | with_reducible exact a3 | with_reducible exact a4 | exact (rfl : List.set _ _ _ = _) | ((with_reducible apply ev_var); exact rfl) | with_reducible exact ev_con | with_reducible exact ev_nil | with_reducible exact es_pass | with_reducible exact int_i | with_reducible exact add_i | with_reducible exact sub_i | with_reducible apply ev_bin | with_reducible apply ev_un | with_reducible apply ev_cons | with_reducible apply ev_on | with_reducible apply ev_val | with_reducible apply ev_not | with_reducible apply es_set' | with_reducible apply es_exp | with_reducible apply es_ret | with_reducible apply es_setX | with_reducible apply es_par2)
    · apply es_seq
      · repeat' (first | with_reducible exact a0 | with_reducible exact a1 | with_reducible exact a2 | with_reducible exact a3 | with_reducible exact a4 | exact (rfl : List.set _ _ _ = _) | ((with_reducible apply ev_var); exact rfl) | with_reducible exact ev_con | with_reducible exact ev_nil | with_reducible exact es_pass | with_reducible exact int_i | with_reducible exact add_i | with_reducible exact sub_i | with_reducible apply ev_bin | with_reducible apply ev_un | with_reducible apply ev_cons | with_reducible apply ev_on | with_reducible apply ev_val | with_reducible apply ev_not | with_reducible apply es_set' | with_reducible apply es_exp | with_reducible apply es_ret | with_reducible apply es_setX | with_reducible apply es_par2)
      · apply es_seq
        · repeat' (first | with_reducible exact a0 | with_reducible exact a1 | with_reducible exact a2 | with_reducible exact a3 | with_reducible exact a4 | exact (rfl : List.set _ _ _ = _) | ((with_reducible apply ev_var); exact rfl) | with_reducible exact ev_con | with_reducible exact ev_nil | with_reducible exact es_pass | with_reducible exact int_i | with_reducible exact add_i | with_reducible exact sub_i | with_reducible apply ev_bin | with_reducible apply ev_un | with_reducible apply ev_cons | with_reducible apply ev_on | with_reducible apply ev_val | with_reducible apply ev_not | with_reducible apply es_set' | with_reducible apply es_exp | with_reducible apply es_ret | with_reducible apply es_setX | with_reducible apply es_par2)
        · repeat' (first | with_reducible exact a0 | with_reducible exact a1 | with_reducible exact a2 | with_reducible exact a3 | with_reducible exact a4 | exact (rfl : List.set _ _ _ = _) | ((with_reducible apply ev_var); exact rfl) | with_reducible exact ev_con | with_reducible exact ev_nil | with_reducible exact es_pass | with_reducible exact int_i | with_reducible exact add_i | with_reducible exact sub_i | with_reducible apply ev_bin | with_reducible apply ev_un | with_reducible apply ev_cons | with_reducible apply ev_on | with_reducible apply ev_val | with_reducible apply ev_not | with_reducible apply es_set' | with_reducible apply es_exp | with_reducible apply es_ret | with_reducible apply es_setX | with_reducible apply es_par2)
  · have hm' : m.natAbs.log2 < 32 := log_lt (by decide) (by omega)
    have h69 : (40692 : Int).natAbs.log2 < 17 := log_lt (by decide) (by decide)
    have h13 : (11 : Int).natAbs.log2 < 9000 := Nat.lt_trans (log_lt (k := 4) (by decide) (by decide)) (by decide)
    have a0 := ix0 hk
    have a9 := ix1 hk
    obtain ⟨m1, a1⟩ : ∃ z, mulF (.int m) (.int 40692) h = .ok (.int z) h := ⟨_, mul_i (by omega)⟩
    obtain ⟨m2, a2⟩ : ∃ z, addF (.int m1) (.int 7919) h = .ok (.int z) h := ⟨_, add_i⟩
    obtain ⟨m', a3, b1, b2⟩ : ∃ z, modF (.int m2) (.int 2147483399) h = .ok (.int z) h ∧ 0 ≤ z ∧ z < 2147483399 := ⟨_, mod_i (by decide), Int.emod_nonneg _ (by decide), Int.emod_lt_of_pos _ (by decide)⟩
    have hq : m'.natAbs.log2 < 32 := log_lt (by decide) (by omega)
    have hp : ((m'.natAbs.log2 + 1 : Nat) : Int) * 5 ≤ 2 ^ 27 := by omega
    obtain ⟨h', eh⟩ : ∃ h', h' = h.set k (.lst [.int r, .int m']) := ⟨_, rfl⟩
    have a4 : stF (.ref k) (.int 1) (.int m') h = some h' := by rw [eh]; exact st1 hk
    have a5 : ixF (.ref k) (.int 1) h' = .ok (.int m') h' := ix1 (by rw [eh]; exact g1)
    obtain ⟨p1, c1⟩ : ∃ z, powF (.int m') (.int 5) h' = .ok (.int z) h' := ⟨_, pow_i (by decide) hp⟩
    obtain ⟨p2, c2⟩ : ∃ z, modF (.int p1) (.int 1000000007) h' = .ok (.int z) h' := ⟨_, mod_i (by decide)⟩
    obtain ⟨p3, c3⟩ : ∃ z, fdivF (.int p2) (.int 11) h' = .ok (.int z) h' := ⟨_, div_i (by decide) h13⟩
    obtain ⟨v, c4, v1, v2⟩ : ∃ z, modF (.int p3) (.int span) h' = .ok (.int z) h' ∧ 0 ≤ z ∧ z < span := ⟨_, mod_i hs, Int.emod_nonneg _ (by omega), Int.emod_lt_of_pos _ hs⟩
    refine ⟨v, r, m', ?_, v1, v2, hr, b1, by omega⟩
    rw [← eh]
    have a6 := ge_F (h := h) c
    refine ef_rt rfl ?_
    unfold b_law_draw
    apply es_seq
    · apply es_ifF
      · repeat' (first | with_reducible exact a0 | with_reducible exact a6 | exact (rfl : List.set _ _ _ = _) | ((with_reducible apply ev_var); exact rfl) | with_reducible exact ev_con | with_reducible exact ev_nil | with_reducible exact es_pass | with_reducible exact int_i | with_reducible exact add_i | with_reducible exact sub_i | with_reducible apply ev_bin | with_reducible apply ev_un | with_reducible apply ev_cons | with_reducible apply ev_on | with_reducible apply ev_val | with_reducible apply ev_not | with_reducible apply es_set' | with_reducible apply es_exp | with_reducible apply es_ret | with_reducible apply es_setX | with_reducible apply es_par2)
      · exact es_pass
    · apply es_seq
      · repeat' (first | with_reducible exact a0 | with_reducible exact a1 | with_reducible exact a2 | with_reducible exact a3 | with_reducible exact a4 | with_reducible exact a5 | with_reducible exact a9 | with_reducible exact c1 | with_reducible exact c2 | with_reducible exact c3 | with_reducible exact c4 | exact (rfl : List.set _ _ _ = _) | ((with_reducible apply ev_var); exact rfl) | with_reducible exact ev_con | with_reducible exact ev_nil | with_reducible exact es_pass | with_reducible exact int_i | with_reducible exact add_i | with_reducible exact sub_i | with_reducible apply ev_bin | with_reducible apply ev_un | with_reducible apply ev_cons | with_reducible apply ev_on | with_reducible apply ev_val | with_reducible apply ev_not | with_reducible apply es_set' | with_reducible apply es_exp | with_reducible apply es_ret | with_reducible apply es_setX | with_reducible apply es_par2)
      · repeat' (first | with_reducible exact a0 | with_reducible exact a1 | with_reducible exact a2 | with_reducible exact a3 | with_reducible exact a4 | with_reducible exact a5 | with_reducible exact a9 | with_reducible exact c1 | with_reducible exact c2 | with_reducible exact c3 | with_reducible exact c4 | exact (rfl : List.set _ _ _ = _) | ((with_reducible apply ev_var); exact rfl) | with_reducible exact ev_con | with_reducible exact ev_nil | with_reducible exact es_pass | with_reducible exact int_i | with_reducible exact add_i | with_reducible exact sub_i | with_reducible apply ev_bin | with_reducible apply ev_un | with_reducible apply ev_cons | with_reducible apply ev_on | with_reducible apply ev_val | with_reducible apply ev_not | with_reducible apply es_set' | with_reducible apply es_exp | with_reducible apply es_ret | with_reducible apply es_setX | with_reducible apply es_par2)
def src_body : SM := setS 2 (bin addF (bin modF (onA intF (consA (bin powF (onA intF (consA (bin addF (bin mulF (varE 2) (conE (.int 30011))) (onA intF (consA (varE 3) (nilA)))) (nilA))) (conE (.int 3))) (nilA))) (conE (.int 2147483563))) (conE (.int 1)))
theorem src_loop {a st : D} {h : MH} : ∀ (ns : List Int) (m : Int) (c : Option D), (∀ z ∈ ns, Builtin.Int.intBits z ≤ 1048576) → 0 ≤ m → m < 2147483648 →
    ∃ m' c', loopS [] (gnm 3) src_body (ns.map .int) [some a, some st, some (.int m), c, none] h = .nx [some a, some st, some (.int m'), c', none] h ∧ 0 ≤ m' ∧ m' < 2147483648
  | [], m, c, _, h0, h1 => ⟨m, c, loop_nil rfl, h0, h1⟩
  | z :: ns, m, c, hb, h0, h1 => by
    have b0 := bits_lt z
    have b1 := hb z List.mem_cons_self
    have hm' : m.natAbs.log2 < 32 := log_lt (by decide) (by omega)
    have h50 : (30011 : Int).natAbs.log2 < 16 := log_lt (by decide) (by decide)
    generalize Builtin.Int.intBits z = b at b0 b1
    obtain ⟨m1, e1, e2⟩ : ∃ z, z = m * 30011 ∧ mulF (.int m) (.int 30011) h = .ok (.int z) h := ⟨_, rfl, mul_i (by omega)⟩
    have k1 : m1.natAbs < 2 ^ 48 := by omega
    obtain ⟨k, k2, k3, k4⟩ : ∃ k, 48 ≤ k ∧ b ≤ k ∧ k ≤ 1048576 := by
      by_cases q : b ≤ 48
      · exact ⟨48, by omega, by omega, by omega⟩
      · exact ⟨b, by omega, by omega, by omega⟩
    have k5 : (m1 + z).natAbs.log2 ≤ k := log_add (pow_up k1 k2) (pow_up b0 k3)
    obtain ⟨m2, e3, e4⟩ : ∃ y, y = m1 + z ∧ addF (.int m1) (.int z) h = .ok (.int y) h := ⟨_, rfl, add_i⟩
    rw [← e3] at k5
    obtain ⟨m3, e5⟩ : ∃ y, powF (.int m2) (.int 3) h = .ok (.int y) h := ⟨_, pow_i (by decide) (by omega)⟩
    obtain ⟨m4, e6, c0, c1⟩ : ∃ y, modF (.int m3) (.int 2147483563) h = .ok (.int y) h ∧ 0 ≤ y ∧ y < 2147483563 := ⟨_, mod_i (by decide), Int.emod_nonneg _ (by decide), Int.emod_lt_of_pos _ (by decide)⟩
    have e7 : addF (.int m4) (.int 1) h = .ok (.int (m4 + 1)) h := add_i
    obtain ⟨m', c', e8, d0, d1⟩ := src_loop (a := a) (st := st) (h := h) ns (m4 + 1) (some (.int z)) (fun y hy => hb y (List.mem_cons_of_mem _ hy)) (by omega) (by omega)
    refine ⟨m', c', ?_, d0, d1⟩
    rw [List.map_cons, ← e8]
    apply loop_cons rfl rfl
    unfold src_body
    repeat' (first | with_reducible exact e2 | with_reducible exact e4 | with_reducible exact e5 | with_reducible exact e6 | with_reducible exact e7 | exact (rfl : List.set _ _ _ = _) | ((with_reducible apply ev_var); exact rfl) | with_reducible exact ev_con | with_reducible exact ev_nil | with_reducible exact es_pass | with_reducible exact int_i | with_reducible exact add_i | with_reducible exact sub_i | with_reducible apply ev_bin | with_reducible apply ev_un | with_reducible apply ev_cons | with_reducible apply ev_on | with_reducible apply ev_val | with_reducible apply ev_not | with_reducible apply es_set' | with_reducible apply es_exp | with_reducible apply es_ret | with_reducible apply es_setX | with_reducible apply es_par2)
theorem source {h : MH} {n : Nat} {ns : List Int} {start : Int} (hn : h[n]? = some (.rdl (ns.map .int))) (hb : ∀ z ∈ ns, Builtin.Int.intBits z ≤ 1048576) (h0 : 0 ≤ start) (h1 : start < 100) :
    ∃ r m, m_law_source [.ref n, .int start] h = .ok (.ref h.length) (h ++ [.lst [.int r, .int m]]) ∧ 0 ≤ r ∧ 0 ≤ m ∧ m < 2147483648 := by
  obtain ⟨m', c', e1, d0, d1⟩ := src_loop (a := .ref n) (st := .int start) (h := h) ns (83 + start) none hb (by omega) (by omega)
  have a0 : addF (.int 83) (.int start) h = .ok (.int (83 + start)) h := add_i
  have a1 := len_rdl hn
  rw [List.length_map] at a1
  obtain ⟨t, ht⟩ : ∃ t : Int, t = 10 ^ (18 : Int).toNat := ⟨_, rfl⟩
  have a2 : powF (.int 10) (.int 18) h = .ok (.int t) h := by rw [ht]; exact pow_i (by decide) (by have := log_lt (z := 10) (k := 4) (by decide) (by decide); omega)
  have fin : ∀ r : Int, lstF [.int r, .int m'] h = .ok (.ref h.length) (h ++ [.lst [.int r, .int m']]) := fun r => lst_new (show 2 ≤ 1000000 by decide)
  have key : ∃ r, ifS (andT (valT (bin ltF (varE 1) (onA lenF (consA (varE 0) (nilA))))) (valT (bin geF (bin ixF (varE 0) (varE 1)) (bin powF (conE (.int 10)) (conE (.int 18)))))) (setS 4 (bin subF (bin ixF (varE 0) (varE 1)) (bin powF (conE (.int 10)) (conE (.int 18))))) (passS)
      [some (.ref n), some (.int start), some (.int m'), c', some (.int 0)] h = .nx [some (.ref n), some (.int start), some (.int m'), c', some (.int r)] h ∧ 0 ≤ r := by
    by_cases c : start < (ns.length : Int)
    · have hs : start.toNat < ns.length := by omega
      have a3 : ixF (.ref n) (.int start) h = .ok (.int ns[start.toNat]) h := ix_rdl hn h0 (by rw [List.getElem?_map, List.getElem?_eq_getElem hs]; rfl)
      have a4 := lt_T (h := h) c
      generalize ns[start.toNat] = y at a3
      by_cases c2 : t ≤ y
      · have a5 := ge_T (h := h) c2
        have a6 : subF (.int y) (.int t) h = .ok (.int (y - t)) h := sub_i
        refine ⟨y - t, ?_, by omega⟩
        apply es_ifT
        · apply ev_andT
          · repeat' (first | with_reducible exact a1 | with_reducible exact a4 | exact (rfl : List.set _ _ _ = _) | ((with_reducible apply ev_var); exact rfl) | with_reducible exact ev_con | with_reducible exact ev_nil | with_reducible exact es_pass | with_reducible exact int_i | with_reducible exact add_i | with_reducible exact sub_i | with_reducible apply ev_bin | with_reducible apply ev_un | with_reducible apply ev_cons | with_reducible apply ev_on | with_reducible apply ev_val | with_reducible apply ev_not | with_reducible apply es_set' | with_reducible apply es_exp | with_reducible apply es_ret | with_reducible apply es_setX | with_reducible apply es_par2)
          · repeat' (first | with_reducible exact a2 | with_reducible exact a3 | with_reducible exact a5 | exact (rfl : List.set _ _ _ = _) | ((with_reducible apply ev_var); exact rfl) | with_reducible exact ev_con | with_reducible exact ev_nil | with_reducible exact es_pass | with_reducible exact int_i | with_reducible exact add_i | with_reducible exact sub_i | with_reducible apply ev_bin | with_reducible apply ev_un | with_reducible apply ev_cons | with_reducible apply ev_on | with_reducible apply ev_val | with_reducible apply ev_not | with_reducible apply es_set' | with_reducible apply es_exp | with_reducible apply es_ret | with_reducible apply es_setX | with_reducible apply es_par2)
        · repeat' (first | with_reducible exact a2 | with_reducible exact a3 | with_reducible exact a6 | exact (rfl : List.set _ _ _ = _) | ((with_reducible apply ev_var); exact rfl) | with_reducible exact ev_con | with_reducible exact ev_nil | with_reducible exact es_pass | with_reducible exact int_i | with_reducible exact add_i | with_reducible exact sub_i | with_reducible apply ev_bin | with_reducible apply ev_un | with_reducible apply ev_cons | with_reducible apply ev_on | with_reducible apply ev_val | with_reducible apply ev_not | with_reducible apply es_set' | with_reducible apply es_exp | with_reducible apply es_ret | with_reducible apply es_setX | with_reducible apply es_par2)
      · have a5 := ge_F (h := h) c2
        refine ⟨0, ?_, by decide⟩
        apply es_ifF
        · apply ev_andT
          · repeat' (first | with_reducible exact a1 | with_reducible exact a4 | exact (rfl : List.set _ _ _ = _) | ((with_reducible apply ev_var); exact rfl) | with_reducible exact ev_con | with_reducible exact ev_nil | with_reducible exact es_pass | with_reducible exact int_i | with_reducible exact add_i | with_reducible exact sub_i | with_reducible apply ev_bin | with_reducible apply ev_un | with_reducible apply ev_cons | with_reducible apply ev_on | with_reducible apply ev_val | with_reducible apply ev_not | with_reducible apply es_set' | with_reducible apply es_exp | with_reducible apply es_ret | with_reducible apply es_setX | with_reducible apply es_par2)
          · repeat' (first | with_reducible exact a2 | with_reducible exact a3 | with_reducible exact a5 | exact (rfl : List.set _ _ _ = _) | ((with_reducible apply ev_var); exact rfl) | with_reducible exact ev_con | with_reducible exact ev_nil | with_reducible exact es_pass | with_reducible exact int_i | with_reducible exact add_i | with_reducible exact sub_i | with_reducible apply ev_bin | with_reducible apply ev_un | with_reducible apply ev_cons | with_reducible apply ev_on | with_reducible apply ev_val | with_reducible apply ev_not | with_reducible apply es_set' | with_reducible apply es_exp | with_reducible apply es_ret | with_reducible apply es_setX | with_reducible apply es_par2)
        · exact es_pass
    · have a4 := lt_F (h := h) c
      refine ⟨0, ?_, by decide⟩
      apply es_ifF
      · apply ev_andF
        repeat' (first | with_reducible exact a1 | with_reducible exact a4 | exact (rfl : List.set _ _ _ = _) | ((with_reducible apply ev_var); exact rfl) | with_reducible exact ev_con | with_reducible exact ev_nil | with_reducible exact es_pass | with_reducible exact int_i | with_reducible exact add_i | with_reducible exact sub_i | with_reducible apply ev_bin | with_reducible apply ev_un | with_reducible apply ev_cons | with_reducible apply ev_on | with_reducible apply ev_val | with_reducible apply ev_not | with_reducible apply es_set' | with_reducible apply es_exp | with_reducible apply es_ret | with_reducible apply es_setX | with_reducible apply es_par2)
      · exact es_pass
  obtain ⟨r, e2, r0⟩ := key
  have fr := fin r
  refine ⟨r, m', ?_, r0, d0, d1⟩
  refine ef_rt rfl ?_
  unfold b_law_source
  apply es_seq
  · repeat' (first | with_reducible exact a0 | exact (rfl : List.set _ _ _ = _) | ((with_reducible apply ev_var); exact rfl) | with_reducible exact ev_con | with_reducible exact ev_nil | with_reducible exact es_pass | with_reducible exact int_i | with_reducible exact add_i | with_reducible exact sub_i | with_reducible apply ev_bin | with_reducible apply ev_un | with_reducible apply ev_cons | with_reducible apply ev_on | with_reducible apply ev_val | with_reducible apply ev_not | with_reducible apply es_set' | with_reducible apply es_exp | with_reducible apply es_ret | with_reducible apply es_setX | with_reducible apply es_par2)
  · apply es_seq
    · apply es_for
      · apply ei_rdl
        · exact ev_var rfl
        · exact hn
      · exact e1
    · apply es_seq
      · repeat' (first | with_reducible exact a0 | exact (rfl : List.set _ _ _ = _) | ((with_reducible apply ev_var); exact rfl) | with_reducible exact ev_con | with_reducible exact ev_nil | with_reducible exact es_pass | with_reducible exact int_i | with_reducible exact add_i | with_reducible exact sub_i | with_reducible apply ev_bin | with_reducible apply ev_un | with_reducible apply ev_cons | with_reducible apply ev_on | with_reducible apply ev_val | with_reducible apply ev_not | with_reducible apply es_set' | with_reducible apply es_exp | with_reducible apply es_ret | with_reducible apply es_setX | with_reducible apply es_par2)
      · apply es_seq
        · exact e2
        · repeat' (first | with_reducible exact fr | exact (rfl : List.set _ _ _ = _) | ((with_reducible apply ev_var); exact rfl) | with_reducible exact ev_con | with_reducible exact ev_nil | with_reducible exact es_pass | with_reducible exact int_i | with_reducible exact add_i | with_reducible exact sub_i | with_reducible apply ev_bin | with_reducible apply ev_un | with_reducible apply ev_cons | with_reducible apply ev_on | with_reducible apply ev_val | with_reducible apply ev_not | with_reducible apply es_set' | with_reducible apply es_exp | with_reducible apply es_ret | with_reducible apply es_setX | with_reducible apply es_par2)
theorem pick {h : MH} {k : Nat} {r m : Int} {x : D} {l : List D} (hk : h[k]? = some (.lst [.int r, .int m])) (hr : 0 ≤ r) (hm : 0 ≤ m) (hm2 : m < 2147483648) (hx : lenF [x] h = .ok (.int l.length) h) (h0 : 0 < l.length) (h1 : l.length < 1000)
    (hi : ∀ (r' m' : Int) (j : Nat) d, l[j]? = some d → ixF x (.int (j : Nat)) (h.set k (.lst [.int r', .int m'])) = .ok d (h.set k (.lst [.int r', .int m']))) :
    ∃ d r' m', m_law_pick [.ref k, x] h = .ok d (h.set k (.lst [.int r', .int m'])) ∧ d ∈ l ∧ 0 ≤ r' ∧ 0 ≤ m' ∧ m' < 2147483648 := by
  obtain ⟨v, r', m', e1, v0, v1, b0, b1, b2⟩ := draw hk hr hm hm2 (span := l.length) (by omega) (by omega)
  have hv : v.toNat < l.length := by omega
  have e2 := hi r' m' v.toNat _ (List.getElem?_eq_getElem hv)
  have ev : ((v.toNat : Nat) : Int) = v := by omega
  rw [ev] at e2
  refine ⟨l[v.toNat], r', m', ?_, List.getElem_mem hv, b0, b1, b2⟩
  refine ef_rt rfl ?_
  unfold b_law_pick
  repeat' (first | with_reducible exact e1 | with_reducible exact e2 | with_reducible exact hx | exact (rfl : List.set _ _ _ = _) | ((with_reducible apply ev_var); exact rfl) | with_reducible exact ev_con | with_reducible exact ev_nil | with_reducible exact es_pass | with_reducible exact int_i | with_reducible exact add_i | with_reducible exact sub_i | with_reducible apply ev_bin | with_reducible apply ev_un | with_reducible apply ev_cons | with_reducible apply ev_on | with_reducible apply ev_val | with_reducible apply ev_not | with_reducible apply es_set' | with_reducible apply es_exp | with_reducible apply es_ret | with_reducible apply es_setX | with_reducible apply es_par2)
end ML

/-! the source, what stands beside it; notes -/
namespace ML
open PySem PySem.Spec PyProof.Rows L2

/-- the source stands at k -/
def Src (h : MH) (k : Nat) : Prop := ∃ r m : Int, h[k]? = some (.lst [.int r, .int m]) ∧ 0 ≤ r ∧ 0 ≤ m ∧ m < 2147483648
/-- all but k stays -/
def KG (k : Nat) (h h' : MH) : Prop := h.length ≤ h'.length ∧ ∀ (n : Nat) o, n ≠ k → h[n]? = some o → h'[n]? = some o
theorem KG.refl {k : Nat} {h : MH} : KG k h h := ⟨Nat.le_refl _, fun _ _ _ e => e⟩
theorem KG.trans {k : Nat} {a b c : MH} (p : KG k a b) (q : KG k b c) : KG k a c := ⟨Nat.le_trans p.1 q.1, fun n o hn e => q.2 n o hn (p.2 n o hn e)⟩
theorem KG.set {k : Nat} {h : MH} {o : O} : KG k h (h.set k o) := ⟨by simp, fun n x hn e => by rw [List.getElem?_set_ne (Ne.symm hn)]; exact e⟩
theorem KG.app {k : Nat} {h t : MH} : KG k h (h ++ t) := ⟨by simp, fun n o _ e => by rw [List.getElem?_append_left (List.getElem?_eq_some_iff.mp e).1]; exact e⟩
theorem Src.lt {h : MH} {k : Nat} (S : Src h k) : k < h.length := by
  obtain ⟨r, m, e, _⟩ := S
  exact (List.getElem?_eq_some_iff.mp e).1
theorem Src.app {h t : MH} {k : Nat} (S : Src h k) : Src (h ++ t) k := by
  obtain ⟨r, m, e, q⟩ := S
  exact ⟨r, m, by rw [List.getElem?_append_left (List.getElem?_eq_some_iff.mp e).1]; exact e, q⟩
theorem Src.other {h : MH} {k n : Nat} {o : O} (S : Src h k) (hn : n ≠ k) : Src (h.set n o) k := by
  obtain ⟨r, m, e, q⟩ := S
  exact ⟨r, m, by rw [List.getElem?_set_ne hn]; exact e, q⟩
theorem draw2 {h : MH} {k : Nat} {span : Int} (S : Src h k) (hs : 0 < span) (hs2 : span < 1000000) : ∃ v h', m_law_draw [.ref k, .int span] h = .ok (.int v) h' ∧ 0 ≤ v ∧ v < span ∧ Src h' k ∧ KG k h h' ∧ h'.length = h.length := by
  obtain ⟨r, m, e, h0, h1, h2⟩ := S
  obtain ⟨v, r', m', e1, v0, v1, b0, b1, b2⟩ := draw e h0 h1 h2 hs hs2
  exact ⟨v, _, e1, v0, v1, ⟨r', m', set_get e, b0, b1, b2⟩, KG.set, by simp⟩
theorem pick2 {h : MH} {k n : Nat} {l : List D} (S : Src h k) (hn : n ≠ k) (e : h[n]? = some (.lst l)) (h0 : 0 < l.length) (h1 : l.length < 1000) : ∃ d h', m_law_pick [.ref k, .ref n] h = .ok d h' ∧ d ∈ l ∧ Src h' k ∧ KG k h h' ∧ h'.length = h.length := by
  obtain ⟨r, m, e0, a0, a1, a2⟩ := S
  obtain ⟨d, r', m', e1, dl, b0, b1, b2⟩ := pick (x := .ref n) (l := l) e0 a0 a1 a2 (len_lst e) h0 h1 (fun r' m' j d q => ix_lst (KG.set.2 _ _ hn e) (by omega) (by simpa using q))
  exact ⟨d, _, e1, dl, ⟨r', m', set_get e0, b0, b1, b2⟩, KG.set, by simp⟩
theorem ix_str {z : Str} {i : Int} {c : Nat} {h : MH} (hz : z.length ≤ 1000000) (h0 : 0 ≤ i) (h1 : z.cps.toList[i.toNat]? = some c) : ixF (.str z) (.int i) h = .ok (.str ⟨#[c]⟩) h := by
  have hl : i.toNat < z.cps.toList.length := (List.getElem?_eq_some_iff.mp h1).1
  have : atI z.cps.toList i = some c := by unfold atI; rw [ixN_ok h0 (by omega)]; exact h1
  unfold ixF
  dsimp only
  rw [if_pos hz, this]
theorem pickS {h : MH} {k : Nat} {z : Str} (S : Src h k) (h0 : 0 < z.length) (h1 : z.length < 1000) : ∃ c h', m_law_pick [.ref k, .str z] h = .ok (.str ⟨#[c]⟩) h' ∧ c ∈ z.cps.toList ∧ Src h' k ∧ KG k h h' ∧ h'.length = h.length := by
  obtain ⟨r, m, e0, a0, a1, a2⟩ := S
  have hz : z.length ≤ 1000000 := by omega
  have hl : (z.cps.toList.map fun c => D.str ⟨#[c]⟩).length = z.length := by simp [Str.length]
  obtain ⟨d, r', m', e1, dl, b0, b1, b2⟩ := pick (x := .str z) (l := z.cps.toList.map fun c => D.str ⟨#[c]⟩) e0 a0 a1 a2 (by rw [hl]; unfold lenF; dsimp only; rw [if_pos hz]) (by omega) (by omega) (fun r' m' j d q => by
    rw [List.getElem?_map] at q
    cases z1 : z.cps.toList[j]? with
    | none => rw [z1] at q; cases q
    | some c =>
      rw [z1] at q
      cases q
      exact ix_str hz (by omega) (by simpa using z1))
  obtain ⟨c, hc, ec⟩ := List.mem_map.mp dl
  subst ec
  exact ⟨c, _, e1, hc, ⟨r', m', set_get e0, b0, b1, b2⟩, KG.set, by simp⟩
/-- a note: its first sign, then up to seven small letters -/
def NoteT (c : Nat) (z : Str) : Prop := ∃ l : List Nat, z.cps.toList = c :: l ∧ l.length ≤ 7 ∧ ∀ x ∈ l, 97 ≤ x ∧ x ≤ 122
def note_body : SM := setS 2 (bin addF (varE 2) (onA m_law_pick (consA (varE 0) (consA (conE (.str "abcdefghijklmnopqrstuvwxyz")) (nilA)))))
theorem note_loop {c : Nat} {k : Nat} {x1 : Option D} : ∀ (ds : List D) (z : Str) (l : List Nat) (t : Option D) (h : MH), Src h k → z.cps.toList = c :: l → l.length + ds.length ≤ 7 → (∀ x ∈ l, 97 ≤ x ∧ x ≤ 122) →
    ∃ z' t' h', loopS [] (gnm 3) note_body ds [some (.ref k), x1, some (.str z), t] h = .nx [some (.ref k), x1, some (.str z'), t'] h' ∧ NoteT c z' ∧ Src h' k ∧ KG k h h' ∧ h'.length = h.length
  | [], z, l, t, h, S, e, hl, hx => ⟨z, t, h, loop_nil rfl, ⟨l, e, by simpa using hl, hx⟩, S, KG.refl, rfl⟩
  | d :: ds, z, l, t, h, S, e, hl, hx => by
    obtain ⟨y, h1, e1, yl, S1, g1, n1⟩ := pickS (z := "abcdefghijklmnopqrstuvwxyz") S (by decide) (by decide)
    have hy : 97 ≤ y ∧ y ≤ 122 := (by decide : ∀ y ∈ (Str.ofString "abcdefghijklmnopqrstuvwxyz").cps.toList, 97 ≤ y ∧ y ≤ 122) y yl
    have zl : z.length = l.length + 1 := by
      have := congrArg List.length e
      simpa [Str.length] using this
    have e2 : addF (.str z) (.str ⟨#[y]⟩) h1 = .ok (.str (z ++ ⟨#[y]⟩)) h1 := by
      unfold addF
      dsimp only
      rw [if_pos (by rw [zl]; simp only [List.length_cons] at hl; show l.length + 1 + 1 ≤ 1000000; omega)]
    have e3 : (z ++ (⟨#[y]⟩ : Str)).cps.toList = c :: (l ++ [y]) := by
      show (z.cps ++ #[y]).toList = _
      rw [Array.toList_append, e]
      rfl
    obtain ⟨z', t', h', e4, N, S', g', n'⟩ := note_loop (x1 := x1) ds (z ++ ⟨#[y]⟩) (l ++ [y]) (some d) h1 S1 e3 (by simp only [List.length_append, List.length_cons, List.length_nil] at hl ⊢; omega) (fun x hx' => by
      rcases List.mem_append.mp hx' with q | q
      · exact hx x q
      · simp only [List.mem_cons, List.not_mem_nil, or_false] at q
        subst q
        exact hy)
    refine ⟨z', t', h', ?_, N, S', g1.trans g', n'.trans n1⟩
    rw [← e4]
    apply loop_cons rfl rfl
    unfold note_body
    repeat' (first | with_reducible exact e1 | with_reducible exact e2 | exact (rfl : List.set _ _ _ = _) | ((with_reducible apply ev_var); exact rfl) | with_reducible exact ev_con | with_reducible exact ev_nil | with_reducible exact es_pass | with_reducible exact int_i | with_reducible exact add_i | with_reducible exact sub_i | with_reducible apply ev_bin | with_reducible apply ev_un | with_reducible apply ev_cons | with_reducible apply ev_on | with_reducible apply ev_val | with_reducible apply ev_not | with_reducible apply es_set' | with_reducible apply es_exp | with_reducible apply es_ret | with_reducible apply es_setX | with_reducible apply es_par2)
theorem note {h : MH} {k : Nat} {c : Nat} (S : Src h k) : ∃ z h', m_law_note [.ref k, .str ⟨#[c]⟩] h = .ok (.str z) h' ∧ NoteT c z ∧ Src h' k ∧ KG k h h' ∧ h'.length = h.length := by
  obtain ⟨v, h1, e1, v0, v1, S1, g1, n1⟩ := draw2 (span := 8) S (by decide) (by decide)
  obtain ⟨z', t', h', e4, N, S', g', n'⟩ := note_loop (c := c) (x1 := some (.str ⟨#[c]⟩)) (rangeD 0 v.toNat) ⟨#[c]⟩ [] none h1 S1 rfl (by unfold rangeD; simp; omega) (fun x hx => (nomatch hx))
  refine ⟨z', h', ?_, N, S', g1.trans g', n'.trans n1⟩
  refine ef_rt rfl ?_
  unfold b_law_note
  apply es_seq
  · repeat' (first | exact (rfl : List.set _ _ _ = _) | ((with_reducible apply ev_var); exact rfl) | with_reducible exact ev_con | with_reducible exact ev_nil | with_reducible exact es_pass | with_reducible exact int_i | with_reducible exact add_i | with_reducible exact sub_i | with_reducible apply ev_bin | with_reducible apply ev_un | with_reducible apply ev_cons | with_reducible apply ev_on | with_reducible apply ev_val | with_reducible apply ev_not | with_reducible apply es_set' | with_reducible apply es_exp | with_reducible apply es_ret | with_reducible apply es_setX | with_reducible apply es_par2)
  · apply es_seq
    · apply es_for
      · apply ei_rng
        · repeat' (first | with_reducible exact e1 | exact (rfl : List.set _ _ _ = _) | ((with_reducible apply ev_var); exact rfl) | with_reducible exact ev_con | with_reducible exact ev_nil | with_reducible exact es_pass | with_reducible exact int_i | with_reducible exact add_i | with_reducible exact sub_i | with_reducible apply ev_bin | with_reducible apply ev_un | with_reducible apply ev_cons | with_reducible apply ev_on | with_reducible apply ev_val | with_reducible apply ev_not | with_reducible apply es_set' | with_reducible apply es_exp | with_reducible apply es_ret | with_reducible apply es_setX | with_reducible apply es_par2)
        · omega
      · exact e4
    · repeat' (first | exact (rfl : List.set _ _ _ = _) | ((with_reducible apply ev_var); exact rfl) | with_reducible exact ev_con | with_reducible exact ev_nil | with_reducible exact es_pass | with_reducible exact int_i | with_reducible exact add_i | with_reducible exact sub_i | with_reducible apply ev_bin | with_reducible apply ev_un | with_reducible apply ev_cons | with_reducible apply ev_on | with_reducible apply ev_val | with_reducible apply ev_not | with_reducible apply es_set' | with_reducible apply es_exp | with_reducible apply es_ret | with_reducible apply es_setX | with_reducible apply es_par2)
end ML

/-! registers drawn -/
namespace ML
open PySem PySem.Spec PyProof.Rows L2

def barred : List Str := ["here", "new", "nothing", "is", "not", "from", "or", "ask", "do", "otherwise"]
/-- what is_name and BARRED let through -/
def GoodN (z : Str) : Prop := 1 ≤ z.length ∧ z.length ≤ 8 ∧ (∀ c ∈ z.cps.toList, 97 ≤ c ∧ c ≤ 122) ∧ z ∉ barred
def RegsOk (l : List Str) : Prop := l.length ≤ 3 ∧ l.Nodup ∧ ∀ z ∈ l, GoodN z
theorem NoteT.ne {c d : Nat} {y z : Str} (p : NoteT c y) (q : NoteT d z) (h : c ≠ d) : y ≠ z := fun e => by
  obtain ⟨l, e1, _⟩ := p
  obtain ⟨m, e2, _⟩ := q
  subst e
  rw [e1] at e2
  cases e2
  exact h rfl
theorem NoteT.not_lit {c : Nat} {y z : Str} (p : NoteT c y) (h : z.cps.toList.head? ≠ some c) : y ≠ z := fun e => by
  obtain ⟨l, e1, _⟩ := p
  subst e
  rw [e1] at h
  exact h rfl
theorem NoteT.good {c : Nat} {y : Str} (p : NoteT c y) (h1 : 97 ≤ c ∧ c ≤ 122) (hb : ∀ b ∈ barred, b.cps.toList.head? ≠ some c) : GoodN y := by
  have p' := p
  obtain ⟨l, e1, e2, e3⟩ := p
  have yl : y.length = l.length + 1 := by
    have := congrArg List.length e1
    simpa [Str.length] using this
  refine ⟨by omega, by omega, fun x hx => ?_, fun hx => p'.not_lit (hb y hx) rfl⟩
  rw [e1] at hx
  rcases List.mem_cons.mp hx with q | q
  · subst q; exact h1
  · exact e3 x q
theorem good_beside : GoodN "beside" := ⟨by decide, by decide, by decide, by decide⟩
theorem good_elder : GoodN "elder" := ⟨by decide, by decide, by decide, by decide⟩
/-- a list of registers that stands in the heap, at b or behind -/
def RegD (h : MH) (b : Nat) (d : D) : Prop := ∃ n l, d = .ref n ∧ b ≤ n ∧ h[n]? = some (.lst (l.map .str)) ∧ RegsOk l
theorem RegD.kg {h h' : MH} {b k : Nat} {d : D} (p : RegD h b d) (g : KG k h h') (hk : k < b) : RegD h' b d := by
  obtain ⟨n, l, e, hn, e1, q⟩ := p
  exact ⟨n, l, e, hn, g.2 _ _ (by omega) e1, q⟩
/-- a display of such lists -/
def Rests (k b : Nat) (e : Env) (rest : AM) (n : Nat) : Prop := ∀ h : MH, b ≤ h.length → Src h k → ∃ ds h', rest e h = .ok ds h' ∧ ds.length = n ∧ (∀ d ∈ ds, RegD h' b d) ∧ Src h' k ∧ KG k h h'
theorem Rests.nil {k b : Nat} {e : Env} : Rests k b e nilA 0 := fun h _ S => ⟨[], h, rfl, rfl, fun _ q => (nomatch q), S, KG.refl⟩
theorem Rests.cons {k b : Nat} {e : Env} {a rest : AM} {l : List Str} {n : Nat} (hb : k < b) (ha : ∀ h, a e h = .ok (l.map .str) h) (r : RegsOk l) (p : Rests k b e rest n) : Rests k b e (consA (onA lstF a) rest) (n + 1) := fun h hl S => by
  have e1 : onA lstF a e h = .ok (.ref h.length) (h ++ [.lst (l.map .str)]) := ev_on (ha h) (lst_new (by rw [List.length_map]; have := r.1; omega))
  obtain ⟨ds, h', e2, e3, e4, S', g⟩ := p (h ++ [.lst (l.map .str)]) (by simp; omega) S.app
  refine ⟨_, h', ev_cons e1 e2, by simp [e3], fun d hd => ?_, S', KG.app.trans g⟩
  rcases List.mem_cons.mp hd with q | q
  · subst q
    exact ⟨_, l, rfl, hl, g.2 _ _ (by omega) last_at', r⟩
  · exact e4 d q
where last_at' {h : MH} {o : O} : (h ++ [o])[h.length]? = some o := by simp
end ML

/-! registers drawn: the def -/
namespace ML
open PySem PySem.Spec PyProof.Rows L2

theorem noteL {h : MH} {k : Nat} {c : Nat} {z0 : Str} (hz : z0 = ⟨#[c]⟩) (S : Src h k) : ∃ z h', m_law_note [.ref k, .str z0] h = .ok (.str z) h' ∧ NoteT c z ∧ Src h' k ∧ KG k h h' ∧ h'.length = h.length := by
  subst hz
  exact note S
/-- a list of such lists -/
def RegL (h : MH) (b : Nat) (d : D) (n : Nat) : Prop := ∃ r ds, d = .ref r ∧ b ≤ r ∧ h[r]? = some (.lst ds) ∧ ds.length = n ∧ ∀ d ∈ ds, RegD h b d
theorem RegL.kg {h h' : MH} {b k n : Nat} {d : D} (p : RegL h b d n) (g : KG k h h') (hk : k < b) : RegL h' b d n := by
  obtain ⟨r, ds, e, hn, e1, l, q⟩ := p
  exact ⟨r, ds, e, hn, g.2 _ _ (by omega) e1, l, fun d hd => (q d hd).kg g hk⟩
theorem Rests.list {k b n : Nat} {e : Env} {rest : AM} (p : Rests k b e rest n) (hb : k < b) (hn : n ≤ 1000) {h : MH} (hl : b ≤ h.length) (S : Src h k) : ∃ d h', onA lstF rest e h = .ok d h' ∧ RegL h' b d n ∧ Src h' k ∧ KG k h h' := by
  obtain ⟨ds, h1, e1, e2, e3, S1, g1⟩ := p h hl S
  refine ⟨_, _, ev_on e1 (lst_new (by omega)), ⟨_, ds, rfl, by have := g1.1; omega, by simp, e2, fun d hd => (e3 d hd).kg (KG.app (k := k)) hb⟩, S1.app, g1.trans KG.app⟩
theorem RegL.add {k b n m : Nat} {x y : D} {h : MH} (p : RegL h b x n) (q : RegL h b y m) (hb : k < b) (hl : b ≤ h.length) (hn : n + m ≤ 1000) (S : Src h k) : ∃ d h', addF x y h = .ok d h' ∧ RegL h' b d (n + m) ∧ Src h' k ∧ KG k h h' := by
  obtain ⟨r, ds, rfl, r1, r2, r3, r4⟩ := p
  obtain ⟨t, es, rfl, t1, t2, t3, t4⟩ := q
  have e : addF (.ref r) (.ref t) h = .ok (.ref h.length) (h ++ [.lst (ds ++ es)]) := by
    unfold addF lstOf
    dsimp only
    rw [r2, t2]
    dsimp only
    rw [if_pos (by omega)]
  refine ⟨_, _, e, ⟨_, ds ++ es, rfl, hl, by simp, by simp [r3, t3], fun d hd => ?_⟩, S.app, KG.app⟩
  rcases List.mem_append.mp hd with z | z
  · exact (r4 d z).kg (KG.app (k := k)) hb
  · exact (t4 d z).kg (KG.app (k := k)) hb
theorem sum_rep (j n : Nat) : (List.replicate j n).sum = n * j := by
  induction j with
  | zero => simp
  | succ j ih => rw [List.replicate_succ, List.sum_cons, ih, Nat.mul_succ]; omega
theorem RegL.mul {k b n : Nat} {x : D} {j : Int} {h : MH} (p : RegL h b x n) (hb : k < b) (hl : b ≤ h.length) (hn : n ≤ 10) (j1 : -1 ≤ j) (j2 : j ≤ 5) (S : Src h k) : ∃ d h', mulF x (.int j) h = .ok d h' ∧ RegL h' b d (n * j.toNat) ∧ Src h' k ∧ KG k h h' := by
  obtain ⟨r, ds, rfl, r1, r2, r3, r4⟩ := p
  have e : mulF (.ref r) (.int j) h = .ok (.ref h.length) (h ++ [.lst (List.replicate j.toNat ds).flatten]) := by
    unfold mulF lstOf
    dsimp only
    rw [r2]
    dsimp only
    rw [if_pos (by omega)]
  refine ⟨_, _, e, ⟨_, (List.replicate j.toNat ds).flatten, rfl, hl, by rw [List.getElem?_append_right (Nat.le_refl _)]; simp, by rw [List.length_flatten, List.map_replicate, r3]; exact sum_rep j.toNat n, fun d hd => ?_⟩, S.app, KG.app⟩
  obtain ⟨l, hl1, hl2⟩ := List.mem_flatten.mp hd
  obtain ⟨_, z⟩ := List.mem_replicate.mp hl1
  subst z
  exact (r4 d hl2).kg (KG.app (k := k)) hb
theorem RegD.ne {h : MH} {b r : Nat} {ds : List D} {y : D} (p : RegD h b y) (e : h[r]? = some (.lst ds)) (h0 : 0 < ds.length) (q : ∀ d ∈ ds, RegD h b d) : y ≠ .ref r := fun z => by
  obtain ⟨n, l, e1, _, e2, _⟩ := p
  rw [z] at e1
  cases e1
  rw [e] at e2
  cases e2
  cases l with
  | nil => simp at h0
  | cons s l =>
    obtain ⟨_, _, e3, _⟩ := q (.str s) (by simp)
    cases e3
theorem RegD.other {h : MH} {b r : Nat} {ds : List D} {y : D} {o : O} (p : RegD h b y) (e : h[r]? = some (.lst ds)) (h0 : 0 < ds.length) (q : ∀ d ∈ ds, RegD h b d) : RegD (h.set r o) b y := by
  have ne := p.ne e h0 q
  obtain ⟨n, l, e1, h1, e2, h2⟩ := p
  exact ⟨n, l, e1, h1, by rw [List.getElem?_set_ne (fun z => ne (by rw [e1, z]))]; exact e2, h2⟩
/-- what stands ahead of b stays, but k -/
def KB (k b : Nat) (h h' : MH) : Prop := h.length ≤ h'.length ∧ ∀ (n : Nat) o, n < b → n ≠ k → h[n]? = some o → h'[n]? = some o
theorem KG.kb {k b : Nat} {h h' : MH} (g : KG k h h') : KB k b h h' := ⟨g.1, fun n o _ hn e => g.2 n o hn e⟩
theorem KB.trans {k b : Nat} {h1 h2 h3 : MH} (p : KB k b h1 h2) (q : KB k b h2 h3) : KB k b h1 h3 := ⟨Nat.le_trans p.1 q.1, fun n o hb hn e => q.2 n o hb hn (p.2 n o hb hn e)⟩
theorem KB.kg {k : Nat} {h h' : MH} (p : KB k h.length h h') : KG k h h' := ⟨p.1, fun n o hn e => p.2 n o (List.getElem?_eq_some_iff.mp e).1 hn e⟩
/-- x.append(y) -/
theorem RegL.push {k b n : Nat} {r : Nat} {y : D} {h : MH} (p : RegL h b (.ref r) n) (q : RegD h b y) (hb : k < b) (h0 : 0 < n) (hn : n ≤ 1000) (S : Src h k) : ∃ h', appF (.ref r) [y] h = .ok .non h' ∧ RegL h' b (.ref r) (n + 1) ∧ Src h' k ∧ KB k b h h' ∧ ∀ x m, RegL h b x m → x ≠ .ref r → RegL h' b x m := by
  obtain ⟨r', ds, er, r1, r2, r3, r4⟩ := p
  cases er
  have e : appF (.ref r) [y] h = .ok .non (h.set r (.lst (ds ++ [y]))) := by
    unfold appF
    dsimp only
    rw [r2]
    dsimp only
    rw [if_pos (by omega)]
  have d0 : 0 < ds.length := by omega
  refine ⟨_, e, ⟨r, _, rfl, r1, set_get r2, by simp [r3], fun d hd => ?_⟩, S.other (by omega), ⟨by simp, fun n o hn _ e => by rw [List.getElem?_set_ne (by omega)]; exact e⟩, fun x m ⟨t, es, ex, t1, t2, t3, t4⟩ hx => ⟨t, es, ex, t1, by rw [List.getElem?_set_ne (fun z => hx (by rw [ex, z]))]; exact t2, t3, fun d hd => (t4 d hd).other r2 d0 r4⟩⟩
  rcases List.mem_append.mp hd with z | z
  · exact (r4 d z).other r2 d0 r4
  · simp only [List.mem_cons, List.not_mem_nil, or_false] at z
    subst z
    exact q.other r2 d0 r4
theorem RegL.tyD {h : MH} {b n : Nat} {x : D} (p : RegL h b x n) : tyD h x = some "list" := by
  obtain ⟨r, ds, rfl, _, e, _⟩ := p
  unfold ML.tyD
  dsimp only
  rw [e]
theorem RegL.pick {k b n : Nat} {x : D} {h : MH} (p : RegL h b x n) (hb : k < b) (h0 : 0 < n) (h1 : n < 1000) (S : Src h k) : ∃ d h', m_law_pick [.ref k, x] h = .ok d h' ∧ RegD h' b d ∧ Src h' k ∧ KG k h h' ∧ h'.length = h.length := by
  obtain ⟨r, ds, rfl, r1, r2, r3, r4⟩ := p
  obtain ⟨d, h', e, dl, S', g, l⟩ := pick2 S (show r ≠ k by omega) r2 (by omega) (by omega)
  exact ⟨d, h', e, (r4 d dl).kg g hb, S', g, l⟩
end ML

/-! registers drawn: the def -/
namespace ML
open PySem PySem.Spec PyProof.Rows L2

theorem regs0 : RegsOk [] := ⟨by simp, List.nodup_nil, fun _ q => (nomatch q)⟩
theorem regs1 {a : Str} (ga : GoodN a) : RegsOk [a] := ⟨by simp, by simp, fun z q => by simp at q; subst q; exact ga⟩
theorem regs2 {a b : Str} (ga : GoodN a) (gb : GoodN b) (h : a ≠ b) : RegsOk [a, b] := ⟨by simp, by simp [h], fun z q => by
  simp at q
  rcases q with q | q <;> subst q
  · exact ga
  · exact gb⟩
theorem regs3 {a b c : Str} (ga : GoodN a) (gb : GoodN b) (gc : GoodN c) (h : a ≠ b) (h2 : a ≠ c) (h3 : b ≠ c) : RegsOk [a, b, c] := ⟨by simp, by simp [h, h2, h3], fun z q => by
  simp at q
  rcases q with q | q | q <;> subst q
  · exact ga
  · exact gb
  · exact gc⟩
theorem RegL.ne {h : MH} {b n m : Nat} {x y : D} (p : RegL h b x n) (q : RegL h b y m) (hn : n ≠ m) : x ≠ y := fun e => by
  obtain ⟨r, ds, e1, _, e2, e3, _⟩ := p
  obtain ⟨t, es, e4, _, e5, e6, _⟩ := q
  subst e
  rw [e1] at e4
  cases e4
  rw [e2] at e5
  cases e5
  omega
theorem registers {h : MH} {k : Nat} {most : Int} (S : Src h k) (m1 : 1 ≤ most) (m2 : most ≤ 3) : ∃ d h', m_law_registers [.ref k, .int most] h = .ok d h' ∧ RegD h' h.length d ∧ Src h' k ∧ KG k h h' := by
  obtain ⟨z1, a1, e1, N1, S1, g1, l1⟩ := noteL (c := 113) (z0 := "q") (by decide) S
  obtain ⟨z2, a2, e2, N2, S2, g2, l2⟩ := noteL (c := 120) (z0 := "x") (by decide) S1
  have hb : k < h.length := S.lt
  have G1 : GoodN z1 := N1.good (by decide) (by decide)
  have G2 : GoodN z2 := N2.good (by decide) (by decide)
  have n12 : z1 ≠ z2 := N1.ne N2 (by decide)
  have n1b : z1 ≠ "beside" := N1.not_lit (by decide)
  have n1e : z1 ≠ "elder" := N1.not_lit (by decide)
  have n2b : z2 ≠ "beside" := N2.not_lit (by decide)
  have n2e : z2 ≠ "elder" := N2.not_lit (by decide)
  have nbe : ("beside" : Str) ≠ "elder" := by decide
  obtain ⟨e7, de7⟩ : ∃ e : Option D → Option D → Option D → Env, e = fun x2 x3 x4 => [some (.ref k), some (.int most), x2, x3, x4, some (.str z1), some (.str z2)] := ⟨_, rfl⟩
  have v0 : ∀ {x2 x3 x4 h}, varE 0 (e7 x2 x3 x4) h = .ok (.ref k) h := fun {x2 x3 x4 h} => by rw [de7]; rfl
  have v1 : ∀ {x2 x3 x4 h}, varE 1 (e7 x2 x3 x4) h = .ok (.int most) h := fun {x2 x3 x4 h} => by rw [de7]; rfl
  have v5 : ∀ {x2 x3 x4 h}, varE 5 (e7 x2 x3 x4) h = .ok (.str z1) h := fun {x2 x3 x4 h} => by rw [de7]; rfl
  have v6 : ∀ {x2 x3 x4 h}, varE 6 (e7 x2 x3 x4) h = .ok (.str z2) h := fun {x2 x3 x4 h} => by rw [de7]; rfl
  have w2 : ∀ {y x3 x4 h}, varE 2 (e7 (some y) x3 x4) h = .ok y h := fun {y x3 x4 h} => by rw [de7]; rfl
  have w3 : ∀ {x2 y x4 h}, varE 3 (e7 x2 (some y) x4) h = .ok y h := fun {x2 y x4 h} => by rw [de7]; rfl
  have w4 : ∀ {x2 x3 y h}, varE 4 (e7 x2 x3 (some y)) h = .ok y h := fun {x2 x3 y h} => by rw [de7]; rfl
  have s2 : ∀ {x2 x3 x4 y}, (e7 x2 x3 x4).set 2 (some y) = e7 (some y) x3 x4 := fun {x2 x3 x4 y} => by rw [de7]; rfl
  have s3 : ∀ {x2 x3 x4 y}, (e7 x2 x3 x4).set 3 (some y) = e7 x2 (some y) x4 := fun {x2 x3 x4 y} => by rw [de7]; rfl
  have s4 : ∀ {x2 x3 x4 y}, (e7 x2 x3 x4).set 4 (some y) = e7 x2 x3 (some y) := fun {x2 x3 x4 y} => by rw [de7]; rfl
  have c1 : ∀ {e : Env} {h} {a : EM} {x : Str}, a e h = .ok (.str x) h → consA a nilA e h = R.ok ([x].map D.str) h := fun p => ev_cons p ev_nil
  have c2 : ∀ {e : Env} {h} {a b : EM} {x y : Str}, a e h = .ok (.str x) h → b e h = .ok (.str y) h → consA a (consA b nilA) e h = R.ok ([x, y].map D.str) h := fun p q => ev_cons p (ev_cons q ev_nil)
  have c3 : ∀ {e : Env} {h} {a b c : EM} {x y z : Str}, a e h = .ok (.str x) h → b e h = .ok (.str y) h → c e h = .ok (.str z) h → consA a (consA b (consA c nilA)) e h = R.ok ([x, y, z].map D.str) h := fun p q r => ev_cons p (ev_cons q (ev_cons r ev_nil))
  -- few
  have few := (Rests.cons (k := k) (b := h.length) (e := e7 none none none) hb (fun _ => c1 v5) (regs1 G1) (Rests.cons hb (fun _ => (ev_nil : nilA _ _ = R.ok (([] : List Str).map D.str) _)) regs0 (Rests.cons hb (fun _ => c1 v5) (regs1 G1) (Rests.cons hb (fun _ => c1 ev_con) (regs1 good_beside) (Rests.cons hb (fun _ => c1 ev_con) (regs1 good_elder) Rests.nil)))))
  obtain ⟨d2, a3, f1, L2', S3, g3⟩ := few.list hb (by decide) (h := a2) (by omega) S2
  have more := (Rests.cons (k := k) (b := h.length) (e := e7 (some d2) none none) hb (fun _ => c2 v5 v6) (regs2 G1 G2 n12) (Rests.cons hb (fun _ => c2 v5 ev_con) (regs2 G1 good_beside n1b) (Rests.cons hb (fun _ => c2 ev_con v5) (regs2 good_elder G1 (Ne.symm n1e)) Rests.nil)))
  obtain ⟨d3, a4, f2, L3, S4, g4⟩ := more.list hb (by decide) (h := a3) (by have := g3.1; omega) S3
  have more2 := (Rests.cons (k := k) (b := h.length) (e := e7 (some d2) (some d3) none) hb (fun _ => c2 ev_con ev_con) (regs2 good_beside good_elder nbe) (Rests.cons hb (fun _ => c2 v6 v5) (regs2 G2 G1 (Ne.symm n12)) (Rests.cons hb (fun _ => c2 v5 ev_con) (regs2 G1 good_elder n1e) Rests.nil)))
  obtain ⟨d3b, a5, f3, L3b, S5, g5⟩ := more2.list hb (by decide) (h := a4) (by have := g3.1; have := g4.1; omega) S4
  have q3 := g3.1
  have q4 := g4.1
  have q5 := g5.1
  obtain ⟨d3c, a6, f4, L3c, S6, g6⟩ := (L3.kg g5 hb).add L3b hb (by omega) (by decide) S5
  have q6 := g6.1
  have many := (Rests.cons (k := k) (b := h.length) (e := e7 (some d2) (some d3c) none) hb (fun _ => c3 v5 ev_con ev_con) (regs3 G1 good_beside good_elder n1b n1e nbe) (Rests.cons hb (fun _ => c3 ev_con v6 v5) (regs3 good_elder G2 G1 (Ne.symm n2e) (Ne.symm n1e) (Ne.symm n12)) (Rests.cons hb (fun _ => c3 ev_con v5 v6) (regs3 good_beside G1 G2 (Ne.symm n1b) (Ne.symm n2b) n12) Rests.nil)))
  obtain ⟨d4, a7, f5, L4, S7, g7⟩ := many.list hb (by decide) (h := a6) (by omega) S6
  have q7 := g7.1
  obtain ⟨z3, a8, e3, N3, S8, g8, l8⟩ := noteL (c := 122) (z0 := "z") (by decide) S7
  have G3 : GoodN z3 := N3.good (by decide) (by decide)
  obtain ⟨a9, da9⟩ : ∃ x, x = a8 ++ [O.lst ([z2, z3, z1].map D.str)] := ⟨_, rfl⟩
  have f6 : lstF ([z2, z3, z1].map D.str) a8 = .ok (.ref a8.length) a9 := by rw [da9]; exact lst_new (by decide : 3 ≤ 1000000)
  have g9 : KG k a8 a9 := by rw [da9]; exact KG.app
  have S9 : Src a9 k := by rw [da9]; exact S8.app
  have R9 : RegD a9 h.length (.ref a8.length) := ⟨_, [z2, z3, z1], rfl, by omega, by rw [da9]; simp, regs3 G2 G3 G1 (N2.ne N3 (by decide)) (Ne.symm n12) (N3.ne N1 (by decide))⟩
  have L4' := (L4.kg g8 hb).kg g9 hb
  have L2'' := ((((((L2'.kg g4 hb).kg g5 hb).kg g6 hb).kg g7 hb).kg g8 hb).kg g9 hb)
  have L3'' := ((L3c.kg g7 hb).kg g8 hb).kg g9 hb
  have ne24 := L2''.ne L4' (by decide)
  have ne34 := L3''.ne L4' (by decide)
  obtain ⟨r4, ds4, ed4, _⟩ := id L4'
  subst ed4
  obtain ⟨a10, f7, L4p, S10, b10, hst⟩ := L4'.push R9 hb (by decide) (by decide) S9
  have t4 := L4'.tyD
  have M2 := hst _ _ L2'' ne24
  have M3 := hst _ _ L3'' ne34
  have q8 := g8.1
  have q9 := g9.1
  have q10 := b10.1
  obtain ⟨d5, a11, f8, M5, S11, g11⟩ := M3.mul (j := most - 1) hb (by omega) (by decide) (by omega) (by omega) S10
  have q11 := g11.1
  obtain ⟨d6, a12, f9, M6, S12, g12⟩ := (M2.kg g11 hb).add M5 hb (by omega) (by omega) S11
  have q12 := g12.1
  obtain ⟨d7, a13, f10, M7, S13, g13⟩ := ((L4p.kg g11 hb).kg g12 hb).mul (j := most - 2) hb (by omega) (by decide) (by omega) (by omega) S12
  have q13 := g13.1
  obtain ⟨d8, a14, f11, M8, S14, g14⟩ := (M6.kg g13 hb).add M7 hb (by omega) (by omega) S13
  obtain ⟨d, a15, f12, Rd, S15, g15, l15⟩ := M8.pick hb (by omega) (by omega) S14
  refine ⟨d, a15, ?_, Rd, S15, ?_⟩
  · refine ef_rt rfl ?_
    unfold b_law_registers
    refine es_seq (e1 := e7 none none none) (by rw [de7]; exact es_par2 (ev_cons (ev_on (ev_cons (ev_var rfl) (ev_cons ev_con ev_nil)) e1) (ev_cons (ev_on (ev_cons (ev_var rfl) (ev_cons ev_con ev_nil)) e2) ev_nil))) ?_
    refine es_seq (es_set' f1 s2) ?_
    refine es_seq (es_set' f2 s3) ?_
    refine es_seq (es_set' (ev_bin w3 f3 f4) s3) ?_
    refine es_seq (es_set' f5 s4) ?_
    refine es_seq (es_exp (ev_bm w4 (L4.tyD) (ev_cons (ev_on (ev_cons v6 (ev_cons (ev_on (ev_cons v0 (ev_cons ev_con ev_nil)) e3) (ev_cons v5 ev_nil))) f6) ev_nil) f7)) ?_
    exact es_ret (ev_on (ev_cons v0 (ev_cons (ev_bin (ev_bin w2 (ev_bin w3 (ev_bin v1 ev_con sub_i) f8) f9) (ev_bin w4 (ev_bin v1 ev_con sub_i) f10) f11) ev_nil)) f12)
  · have k1 : KG k h a9 := ((((((((g1.trans g2).trans g3).trans g4).trans g5).trans g6).trans g7).trans g8).trans g9)
    have k2 : KG k a10 a15 := ((((g11.trans g12).trans g13).trans g14).trans g15)
    exact ((k1.kb.trans b10).trans k2.kb).kg
end ML

/-! lines drawn: tests, steps, rows -/
namespace ML
open PySem PySem.Spec PyProof.Rows L2

def LeftN (l : List Str) (s : Str) : Prop := s = "here" ∨ s = "new" ∨ s ∈ l
def TgtN (l : List Str) (s : Str) : Prop := s = "here" ∨ s ∈ l
def SrcN (l : List Str) (s : Str) : Prop := s = "here" ∨ s = "new" ∨ s = "nothing" ∨ s ∈ l
def TestD (l : List Str) (d : D) : Prop := ∃ a b v, d = .tup [.str a, .str b, .bl v] ∧ LeftN l a ∧ SrcN l b
def StepD (l : List Str) (d : D) : Prop := ∃ a b, d = .tup [.str a, .str b] ∧ TgtN l a ∧ SrcN l b
def StepsD (l : List Str) (d : D) : Prop := ∃ ss, d = .tup ss ∧ ss.length ≤ 4 ∧ ∀ s ∈ ss, StepD l s
/-- a line: tests, then one or two steps; last: no tests -/
def LineD (l : List Str) (last : Bool) (d : D) : Prop := ∃ ts st, d = .tup (.tup ts :: st) ∧ ts.length ≤ 4 ∧ (last = true → ts = []) ∧ (∀ t ∈ ts, TestD l t) ∧ (st.length = 1 ∨ st.length = 2) ∧ ∀ s ∈ st, StepsD l s
/-- a list of texts in the heap, beside the source -/
def StrL (h : MH) (k : Nat) (x : D) (L : List Str) : Prop := ∃ r, x = .ref r ∧ r ≠ k ∧ h[r]? = some (.lst (L.map .str))
theorem StrL.kg {h h' : MH} {k : Nat} {x : D} {L : List Str} (p : StrL h k x L) (g : KG k h h') : StrL h' k x L := by
  obtain ⟨r, e, hn, e1⟩ := p
  exact ⟨r, e, hn, g.2 _ _ hn e1⟩
theorem StrL.new {h : MH} {k : Nat} {L : List Str} (hl : L.length ≤ 1000) (S : Src h k) : ∃ d h', lstF (L.map .str) h = .ok d h' ∧ StrL h' k d L ∧ Src h' k ∧ KG k h h' :=
  ⟨_, _, lst_new (by rw [List.length_map]; omega), ⟨_, rfl, Nat.ne_of_gt S.lt, by simp⟩, S.app, KG.app⟩
theorem StrL.add {h : MH} {k : Nat} {x y : D} {A B : List Str} (p : StrL h k x A) (q : StrL h k y B) (hl : A.length + B.length ≤ 1000) (S : Src h k) : ∃ d h', addF x y h = .ok d h' ∧ StrL h' k d (A ++ B) ∧ Src h' k ∧ KG k h h' := by
  obtain ⟨r, rfl, r1, r2⟩ := p
  obtain ⟨t, rfl, t1, t2⟩ := q
  have e : addF (.ref r) (.ref t) h = .ok (.ref h.length) (h ++ [.lst (A.map .str ++ B.map .str)]) := by
    unfold addF lstOf
    dsimp only
    rw [r2, t2]
    dsimp only
    rw [if_pos (by simp; omega)]
  exact ⟨_, _, e, ⟨_, rfl, Nat.ne_of_gt S.lt, by simp⟩, S.app, KG.app⟩
theorem StrL.pick {h : MH} {k : Nat} {x : D} {L : List Str} (p : StrL h k x L) (h0 : 0 < L.length) (h1 : L.length < 1000) (S : Src h k) : ∃ s h', m_law_pick [.ref k, x] h = .ok (.str s) h' ∧ s ∈ L ∧ Src h' k ∧ KG k h h' := by
  obtain ⟨r, rfl, r1, r2⟩ := p
  obtain ⟨d, h', e, dl, S', g, _⟩ := pick2 S r1 r2 (by simpa using h0) (by simpa using h1)
  obtain ⟨s, hs, es⟩ := List.mem_map.mp dl
  subst es
  exact ⟨s, h', e, hs, S', g⟩
theorem gt_i {a b : Int} {h : MH} : gtF (.int a) (.int b) h = .ok (.bl (decide (b < a))) h := by unfold gtF ordF; rfl
theorem test {h : MH} {k : Nat} {x : D} {l : List Str} (S : Src h k) (N : StrL h k x l) (hl : l.length ≤ 3) : ∃ d h', m_law_test [.ref k, x] h = .ok d h' ∧ TestD l d ∧ Src h' k ∧ KG k h h' := by
  obtain ⟨d1, h1, e1, L1, S1, g1⟩ := StrL.new (L := ["here", "here", "new"]) (by decide) S
  obtain ⟨d2, h2, e2, L2, S2, g2⟩ := L1.add (N.kg g1) (by simp; omega) S1
  obtain ⟨a, h3, e3, ma, S3, g3⟩ := L2.pick (by simp) (by simp; omega) S2
  have N3 := ((N.kg g1).kg g2).kg g3
  obtain ⟨d4, h4, e4, L4, S4, g4⟩ := StrL.new (L := ["new", "nothing", "here"]) (by decide) S3
  obtain ⟨d5, h5, e5, L5, S5, g5⟩ := L4.add (N3.kg g4) (by simp; omega) S4
  obtain ⟨d6, h6, e6, L6, S6, g6⟩ := L5.add ((N3.kg g4).kg g5) (by simp; omega) S5
  obtain ⟨b, h7, e7, mb, S7, g7⟩ := L6.pick (by simp) (by simp; omega) S6
  obtain ⟨v, h8, e8, v0, v1, S8, g8, _⟩ := draw2 (span := 4) S7 (by decide) (by decide)
  refine ⟨.tup [.str a, .str b, .bl (decide (0 < v))], h8, ?_, ⟨a, b, _, rfl, ?_, ?_⟩, S8, ((((((g1.trans g2).trans g3).trans g4).trans g5).trans g6).trans g7).trans g8⟩
  · refine ef_rt rfl ?_
    unfold b_law_test
    refine es_seq (es_set' (ev_on (ev_cons (ev_var rfl) (ev_cons (ev_bin (ev_on (ev_cons ev_con (ev_cons ev_con (ev_cons ev_con ev_nil))) e1) (ev_var rfl) e2) ev_nil)) e3) rfl) ?_
    refine es_seq (es_set' (ev_on (ev_cons (ev_var rfl) (ev_cons (ev_bin (ev_bin (ev_on (ev_cons ev_con (ev_cons ev_con (ev_cons ev_con ev_nil))) e4) (ev_var rfl) e5) (ev_var rfl) e6) ev_nil)) e7) rfl) ?_
    exact es_ret (ev_on (ev_cons (ev_var rfl) (ev_cons (ev_var rfl) (ev_cons (ev_bin (ev_on (ev_cons (ev_var rfl) (ev_cons ev_con ev_nil)) e8) ev_con gt_i) ev_nil))) (tup_new (by decide : 3 ≤ 1000000)))
  · simp only [List.cons_append, List.nil_append, List.mem_cons] at ma
    unfold LeftN
    rcases ma with z | z | z | z
    · exact .inl z
    · exact .inl z
    · exact .inr (.inl z)
    · exact .inr (.inr z)
  · simp only [List.cons_append, List.nil_append, List.mem_cons, List.mem_append] at mb
    unfold SrcN
    rcases mb with z | z | z | z | z
    · exact .inr (.inl z)
    · exact .inr (.inr (.inl z))
    · exact .inl z
    · exact .inr (.inr (.inr z))
    · exact .inr (.inr (.inr z))
end ML

/-! steps drawn -/
namespace ML
open PySem PySem.Spec PyProof.Rows L2

/-- all but k and f stays -/
def KX (k f : Nat) (h h' : MH) : Prop := h.length ≤ h'.length ∧ ∀ (n : Nat) o, n ≠ k → n ≠ f → h[n]? = some o → h'[n]? = some o
theorem KX.refl {k f : Nat} {h : MH} : KX k f h h := ⟨Nat.le_refl _, fun _ _ _ _ e => e⟩
theorem KX.trans {k f : Nat} {a b c : MH} (p : KX k f a b) (q : KX k f b c) : KX k f a c := ⟨Nat.le_trans p.1 q.1, fun n o h1 h2 e => q.2 n o h1 h2 (p.2 n o h1 h2 e)⟩
theorem KG.kx {k f : Nat} {h h' : MH} (g : KG k h h') : KX k f h h' := ⟨g.1, fun n o h1 _ e => g.2 n o h1 e⟩
theorem KX.set {k f : Nat} {h : MH} {o : O} : KX k f h (h.set f o) := ⟨by simp, fun n x _ hn e => by rw [List.getElem?_set_ne (Ne.symm hn)]; exact e⟩
theorem KX.kg {k f : Nat} {h h1 h' : MH} (g : KG k h h1) (hf : h.length ≤ f) (p : KX k f h1 h') : KG k h h' := ⟨Nat.le_trans g.1 p.1, fun n o hn e => p.2 n o hn (by have := (List.getElem?_eq_some_iff.mp e).1; omega) (g.2 n o hn e)⟩
theorem StrL.kx {h h' : MH} {k f : Nat} {x : D} {L : List Str} (p : StrL h k x L) (g : KX k f h h') (hx : x ≠ .ref f) : StrL h' k x L := by
  obtain ⟨r, e, hn, e1⟩ := p
  exact ⟨r, e, hn, g.2 _ _ hn (fun z => hx (by rw [e, z])) e1⟩
theorem append_i {h : MH} {f : Nat} {ss : List D} {y : D} (e : h[f]? = some (.lst ss)) (hl : ss.length < 1000000) : appF (.ref f) [y] h = .ok .non (h.set f (.lst (ss ++ [y]))) := by
  unfold appF
  dsimp only
  rw [e]
  dsimp only
  rw [if_pos hl]
theorem ty_lst {h : MH} {f : Nat} {ss : List D} (e : h[f]? = some (.lst ss)) : tyD h (.ref f) = some "list" := by
  unfold tyD
  dsimp only
  rw [e]
def steps_body : SM := seqS (setS 5 (onA m_law_pick (consA (varE 0) (consA (bin addF (bin addF (onA lstF (consA (conE (.str "here")) (nilA))) (varE 1)) (varE 1)) (nilA))))) (expS (bmE "list" appF (varE 3) (consA (onA tupF (consA (varE 5) (consA (onA m_law_pick (consA (varE 0) (consA (bin addF (onA lstF (consA (conE (.str "new")) (consA (conE (.str "new")) (consA (conE (.str "here")) (consA (conE (.str "nothing")) (nilA)))))) (varE 1)) (nilA)))) (nilA)))) (nilA))))
theorem steps_loop {k f : Nat} {x : D} {l : List Str} {x2 : Option D} (hf : f ≠ k) (hx : x ≠ .ref f) (hl : l.length ≤ 3) : ∀ (ds ss : List D) (t y : Option D) (h : MH), Src h k → StrL h k x l → h[f]? = some (.lst ss) → (∀ s ∈ ss, StepD l s) → ss.length + ds.length ≤ 4 →
    ∃ ss' t' y' h', loopS [] (gnm 4) steps_body ds [some (.ref k), some x, x2, some (.ref f), t, y] h = .nx [some (.ref k), some x, x2, some (.ref f), t', y'] h' ∧ h'[f]? = some (.lst ss') ∧ (∀ s ∈ ss', StepD l s) ∧ ss'.length ≤ 4 ∧ Src h' k ∧ KX k f h h'
  | [], ss, t, y, h, S, N, e, hs, hn => ⟨ss, t, y, h, loop_nil rfl, e, hs, by simpa using hn, S, KX.refl⟩
  | d :: ds, ss, t, y, h, S, N, e, hs, hn => by
    obtain ⟨d1, h1, e1, L1, S1, g1⟩ := StrL.new (L := ["here"]) (by decide) S
    obtain ⟨d2, h2, e2, L2, S2, g2⟩ := L1.add (N.kg g1) (by simp; omega) S1
    obtain ⟨d3, h3, e3, L3, S3, g3⟩ := L2.add ((N.kg g1).kg g2) (by simp; omega) S2
    obtain ⟨a, h4, e4, ma, S4, g4⟩ := L3.pick (by simp) (by simp; omega) S3
    have N4 := (((N.kg g1).kg g2).kg g3).kg g4
    obtain ⟨d5, h5, e5, L5, S5, g5⟩ := StrL.new (L := ["new", "new", "here", "nothing"]) (by decide) S4
    obtain ⟨d6, h6, e6, L6, S6, g6⟩ := L5.add (N4.kg g5) (by simp; omega) S5
    obtain ⟨b, h7, e7, mb, S7, g7⟩ := L6.pick (by simp) (by simp; omega) S6
    have N7 := ((N4.kg g5).kg g6).kg g7
    have g4' := ((g1.trans g2).trans g3).trans g4
    have g7' := ((g4'.trans g5).trans g6).trans g7
    have f4 := g4'.2 _ _ hf e
    have f7 := g7'.2 _ _ hf e
    have e8 := append_i (y := .tup [.str a, .str b]) f7 (by simp only [List.length_cons] at hn; omega)
    have k8 : KX k f h7 (h7.set f (.lst (ss ++ [.tup [.str a, .str b]]))) := KX.set
    have st : StepD l (.tup [.str a, .str b]) := by
      refine ⟨a, b, rfl, ?_, ?_⟩
      · simp only [List.cons_append, List.nil_append, List.mem_cons, List.mem_append] at ma
        unfold TgtN
        rcases ma with z | z | z
        · exact .inl z
        · exact .inr z
        · exact .inr z
      · simp only [List.cons_append, List.nil_append, List.mem_cons] at mb
        unfold SrcN
        rcases mb with z | z | z | z | z
        · exact .inr (.inl z)
        · exact .inr (.inl z)
        · exact .inl z
        · exact .inr (.inr (.inl z))
        · exact .inr (.inr (.inr z))
    obtain ⟨ss', t', y', h', e9, q1, q2, q3, S', k9⟩ := steps_loop (x2 := x2) hf hx hl ds (ss ++ [.tup [.str a, .str b]]) (some d) (some (.str a)) _ (S7.other hf) (N7.kx k8 hx) (set_get f7) (fun s hs' => by
      rcases List.mem_append.mp hs' with z | z
      · exact hs s z
      · simp only [List.mem_cons, List.not_mem_nil, or_false] at z
        subst z
        exact st) (by simp only [List.length_append, List.length_cons, List.length_nil] at hn ⊢; omega)
    refine ⟨ss', t', y', h', ?_, q1, q2, q3, S', (g7'.kx.trans k8).trans k9⟩
    rw [← e9]
    apply loop_cons rfl rfl
    unfold steps_body
    refine es_seq (es_set' (ev_on (ev_cons (ev_var rfl) (ev_cons (ev_bin (ev_bin (ev_on (ev_cons ev_con ev_nil) e1) (ev_var rfl) e2) (ev_var rfl) e3) ev_nil)) e4) rfl) ?_
    exact es_exp (ev_bm (ev_var rfl) (ty_lst f4) (ev_cons (ev_on (ev_cons (ev_var rfl) (ev_cons (ev_on (ev_cons (ev_var rfl) (ev_cons (ev_bin (ev_on (ev_cons ev_con (ev_cons ev_con (ev_cons ev_con (ev_cons ev_con ev_nil)))) e5) (ev_var rfl) e6) ev_nil)) e7) ev_nil)) (tup_new (by decide : 2 ≤ 1000000))) ev_nil) e8)
theorem steps {h : MH} {k : Nat} {x : D} {l : List Str} {most : Int} (S : Src h k) (N : StrL h k x l) (hl : l.length ≤ 3) (m0 : 0 ≤ most) (m1 : most ≤ 4) : ∃ d h', m_law_steps [.ref k, x, .int most] h = .ok d h' ∧ StepsD l d ∧ Src h' k ∧ KG k h h' := by
  have hk := S.lt
  obtain ⟨v, h2, e2, v0, v1, S2, g2, n2⟩ := draw2 (span := most + 1) (S.app (t := [O.lst []])) (by omega) (by omega)
  have g1 : KG k h (h ++ [O.lst []]) := KG.app
  have e3 : h2[h.length]? = some (.lst []) := g2.2 _ _ (by omega) (by simp)
  have hx : x ≠ .ref h.length := fun z => by
    obtain ⟨r, er, _, e⟩ := N
    rw [z] at er
    cases er
    have := (List.getElem?_eq_some_iff.mp e).1
    omega
  obtain ⟨ss', t', y', h', e9, q1, q2, q3, S', k9⟩ := steps_loop (f := h.length) (x2 := some (.int most)) (by omega) hx hl (rangeD 0 v.toNat) [] none none h2 S2 ((N.kg g1).kg g2) e3 (fun _ z => (nomatch z)) (by unfold rangeD; simp; omega)
  refine ⟨.tup ss', h', ?_, ⟨ss', rfl, q3, q2⟩, S', KX.kg (g1.trans g2) (Nat.le_refl _) k9⟩
  refine ef_rt rfl ?_
  unfold b_law_steps
  refine es_seq (es_set' (ev_on ev_nil (lst_new (by decide : 0 ≤ 1000000))) rfl) ?_
  refine es_seq (es_for (ei_rng (ev_cons (ev_on (ev_cons (ev_var rfl) (ev_cons (ev_bin (ev_var rfl) ev_con add_i) ev_nil)) e2) ev_nil) (by omega)) e9) ?_
  exact es_ret (ev_on (ev_cons (ev_var rfl) ev_nil) (by unfold tupleF seqOf; dsimp only; rw [q1]))
end ML

/-! rows drawn -/
namespace ML
open PySem PySem.Spec PyProof.Rows L2

theorem eq_i {a b : Int} {h : MH} : eqF (.int a) (.int b) h = .ok (.bl (scalEq (.int a) (.int b))) h := rfl
def tests_body : SM := expS (bmE "list" appF (varE 5) (consA (onA m_law_test (consA (varE 0) (consA (varE 1) (nilA)))) (nilA)))
theorem tests_loop {k f : Nat} {x : D} {l : List Str} {x2 x4 x6 : Option D} (hf : f ≠ k) (hx : x ≠ .ref f) (hl : l.length ≤ 3) : ∀ (ds ts : List D) (t : Option D) (h : MH), Src h k → StrL h k x l → h[f]? = some (.lst ts) → (∀ s ∈ ts, TestD l s) → ts.length + ds.length ≤ 4 →
    ∃ ts' t' h', loopS [] (gnm 3) tests_body ds [some (.ref k), some x, x2, t, x4, some (.ref f), x6] h = .nx [some (.ref k), some x, x2, t', x4, some (.ref f), x6] h' ∧ h'[f]? = some (.lst ts') ∧ (∀ s ∈ ts', TestD l s) ∧ ts'.length = ts.length + ds.length ∧ Src h' k ∧ KX k f h h'
  | [], ts, t, h, S, N, e, hs, hn => ⟨ts, t, h, loop_nil rfl, e, hs, rfl, S, KX.refl⟩
  | d :: ds, ts, t, h, S, N, e, hs, hn => by
    obtain ⟨a, h1, e1, T, S1, g1⟩ := test S N hl
    have f1 := g1.2 _ _ hf e
    have e2 := append_i (y := a) f1 (by simp only [List.length_cons] at hn; omega)
    have k2 : KX k f h1 (h1.set f (.lst (ts ++ [a]))) := KX.set
    obtain ⟨ts', t', h', e9, q1, q2, q3, S', k9⟩ := tests_loop (x2 := x2) (x4 := x4) (x6 := x6) hf hx hl ds (ts ++ [a]) (some d) _ (S1.other hf) ((N.kg g1).kx k2 hx) (set_get f1) (fun s hs' => by
      rcases List.mem_append.mp hs' with z | z
      · exact hs s z
      · simp only [List.mem_cons, List.not_mem_nil, or_false] at z
        subst z
        exact T) (by simp only [List.length_append, List.length_cons, List.length_nil] at hn ⊢; omega)
    refine ⟨ts', t', h', ?_, q1, q2, by rw [q3]; simp; omega, S', (g1.kx.trans k2).trans k9⟩
    rw [← e9]
    apply loop_cons rfl rfl
    unfold tests_body
    exact es_exp (ev_bm (ev_var rfl) (ty_lst e) (ev_cons (ev_on (ev_cons (ev_var rfl) (ev_cons (ev_var rfl) ev_nil)) e1) ev_nil) e2)
theorem row {h : MH} {k : Nat} {x : D} {l : List Str} {last : Bool} (S : Src h k) (N : StrL h k x l) (hl : l.length ≤ 3) : ∃ d h', m_law_row [.ref k, x, .bl last] h = .ok d h' ∧ LineD l last d ∧ Src h' k ∧ KG k h h' := by
  have many : ∃ v h1, ifE (valT (varE 2)) (conE (.int 0)) (bin addF (conE (.int 1)) (onA m_law_draw (consA (varE 0) (consA (conE (.int 2)) (nilA))))) [some (.ref k), some x, some (.bl last), none, none, none, none] h = .ok (.int v) h1 ∧ 0 ≤ v ∧ v ≤ 2 ∧ (last = true → v = 0) ∧ Src h1 k ∧ KG k h h1 := by
    cases last with
    | true => exact ⟨0, h, ev_ifT (ev_val (ev_var rfl)) ev_con, by decide, by decide, fun _ => rfl, S, KG.refl⟩
    | false =>
      obtain ⟨v, h1, e1, v0, v1, S1, g1, _⟩ := draw2 (span := 2) S (by decide) (by decide)
      exact ⟨1 + v, h1, ev_ifF (ev_val (ev_var rfl)) (ev_bin ev_con (ev_on (ev_cons (ev_var rfl) (ev_cons ev_con ev_nil)) e1) add_i), by omega, by omega, fun z => (nomatch z), S1, g1⟩
  obtain ⟨v, h1, e1, v0, v1, v2, S1, g1⟩ := many
  have hk := S1.lt
  obtain ⟨f, hf⟩ : ∃ f, f = h1.length := ⟨_, rfl⟩
  have g2 : KG k h1 (h1 ++ [O.lst []]) := KG.app
  have S2 : Src (h1 ++ [O.lst []]) k := S1.app
  have e2 : (h1 ++ [O.lst []])[f]? = some (.lst []) := by rw [hf]; simp
  have N1 := N.kg g1
  have hx : x ≠ .ref f := fun z => by
    obtain ⟨r, er, _, e⟩ := N1
    rw [z] at er
    cases er
    have := (List.getElem?_eq_some_iff.mp e).1
    omega
  obtain ⟨ts, t', h3, e3, q1, q2, q3, S3, k3⟩ := tests_loop (x2 := some (.bl last)) (x4 := some (.int v)) (x6 := none) (by omega : f ≠ k) hx hl (rangeD 0 v.toNat) [] none _ S2 (N1.kg g2) e2 (fun _ z => (nomatch z)) (by unfold rangeD; simp; omega)
  have tl : ts.length = v.toNat := by rw [q3]; unfold rangeD; simp
  have N3 := (N1.kg g2).kx k3 hx
  have kk : KG k h h3 := KX.kg (g1.trans g2) (by have := g1.1; omega) k3
  have tn : last = true → ts = [] := fun z => List.eq_nil_of_length_eq_zero (by rw [tl, v2 z]; rfl)
  obtain ⟨c, h4, e4, c0, c1, S4, g4, _⟩ := draw2 (span := 3) S3 (by decide) (by decide)
  have q4 := g4.2 _ _ (by omega : f ≠ k) q1
  have tup : ∀ {h : MH}, h[f]? = some (.lst ts) → tupleF [.ref f] h = .ok (.tup ts) h := fun e => by unfold tupleF seqOf; dsimp only; rw [e]
  have start : ∀ {m : SM} {s : ML.S}, m [some (.ref k), some x, some (.bl last), t', some (.int v), some (.ref f), none] h3 = s →
      (seqS (parS [4, 5] (consA (ifE (valT (varE 2)) (conE (.int 0)) (bin addF (conE (.int 1)) (onA m_law_draw (consA (varE 0) (consA (conE (.int 2)) (nilA)))))) (consA (onA lstF (nilA)) (nilA)))) (seqS (forS (rng1I (consA (varE 4) (nilA))) (gnm 3) tests_body) m)) [some (.ref k), some x, some (.bl last), none, none, none, none] h = s := fun {m s} p => by
    refine es_seq (es_par2 (ev_cons e1 (ev_cons (ev_on ev_nil (lst_new (by decide : 0 ≤ 1000000))) ev_nil))) ?_
    rw [← hf]
    exact es_seq (es_for (ei_rng (ev_cons (ev_var rfl) ev_nil) (by omega)) e3) p
  by_cases c2 : c = 0
  · subst c2
    obtain ⟨s1, h5, e5, T1, S5, g5⟩ := steps (most := 2) S4 (N3.kg g4) hl (by decide) (by decide)
    obtain ⟨s2, h6, e6, T2, S6, g6⟩ := steps (most := 2) S5 ((N3.kg g4).kg g5) hl (by decide) (by decide)
    refine ⟨.tup [.tup ts, s1, s2], h6, ?_, ⟨ts, [s1, s2], rfl, by omega, tn, q2, .inr rfl, fun s hs => ?_⟩, S6, ((kk.trans g4).trans g5).trans g6⟩
    · refine ef_rt rfl ?_
      unfold b_law_row
      refine start (es_seqR (es_ifT (ev_val (ev_bin (ev_on (ev_cons (ev_var rfl) (ev_cons ev_con ev_nil)) e4) ev_con eq_i)) ?_))
      refine es_seq (es_set' (ev_on (ev_cons (ev_var rfl) (ev_cons (ev_var rfl) (ev_cons ev_con ev_nil))) e5) rfl) ?_
      exact es_ret (ev_on (ev_cons (ev_on (ev_cons (ev_var rfl) ev_nil) (tup (g5.2 _ _ (by omega) q4))) (ev_cons (ev_var rfl) (ev_cons (ev_on (ev_cons (ev_var rfl) (ev_cons (ev_var rfl) (ev_cons ev_con ev_nil))) e6) ev_nil))) (tup_new (by decide : 3 ≤ 1000000)))
    · simp only [List.mem_cons, List.not_mem_nil, or_false] at hs
      rcases hs with z | z <;> subst z
      · exact T1
      · exact T2
  · obtain ⟨s1, h5, e5, T1, S5, g5⟩ := steps (most := 3) S4 (N3.kg g4) hl (by decide) (by decide)
    refine ⟨.tup [.tup ts, s1], h5, ?_, ⟨ts, [s1], rfl, by omega, tn, q2, .inl rfl, fun s hs => ?_⟩, S5, (kk.trans g4).trans g5⟩
    · refine ef_rt rfl ?_
      unfold b_law_row
      have sc : scalEq (.int c) (.int 0) = false := by unfold scalEq; simp [c2]
      refine start (es_seq (es_ifF (ev_val (ev_bin (ev_on (ev_cons (ev_var rfl) (ev_cons ev_con ev_nil)) e4) ev_con (eq_i.trans (by rw [sc])))) es_pass) ?_)
      exact es_ret (ev_on (ev_cons (ev_on (ev_cons (ev_var rfl) ev_nil) (tup q4)) (ev_cons (ev_on (ev_cons (ev_var rfl) (ev_cons (ev_var rfl) (ev_cons ev_con ev_nil))) e5) ev_nil)) (tup_new (by decide : 2 ≤ 1000000)))
    · simp only [List.mem_cons, List.not_mem_nil, or_false] at hs
      subst hs
      exact T1
end ML

/-! the names that are no places -/
namespace ML
open PySem PySem.Spec PyProof.Rows L2

theorem stands1 {h : MH} {n : Nat} {l : List D} (e : h[n]? = some (.lst l)) : IT.ok h [(n, l)] = true := by
  unfold IT.ok stands
  simp only [List.all_cons, List.all_nil, Bool.and_true, e]
  exact sames_refl l
def isOwn (s : Str) : Bool := !(scalEq (.str "beside") (.str s) || (scalEq (.str "elder") (.str s) || false))
theorem nin_i {h : MH} {n : Nat} {s : Str} (e : h[n]? = some (.lst [D.str "beside", D.str "elder"])) : ninF (.str s) (.ref n) h = .ok (.bl (isOwn s)) h := by
  have ed : dctOf h (.ref n) = none := by unfold dctOf; dsimp only; rw [e]
  unfold ninF inT
  dsimp only
  rw [ed]
  unfold memT seqOf
  dsimp only
  rw [e]
  rfl
def ownT : TM := valT (bin ninF (varE 9) (onA lstF (consA (conE (.str "beside")) (consA (conE (.str "elder")) (nilA)))))
theorem own_loop {k r n : Nat} {L : List Str} {e0 : Env} (hn : n ≠ k) (hr : r ≠ n) (hk : r ≠ k) (h9 : e0.length = 10) : ∀ (ss acc : List Str) (h : MH), Src h k → h[r]? = some (.lst (L.map .str)) → h[n]? = some (.lst (acc.map .str)) → acc.length + ss.length ≤ 10 →
    ∃ h', lcLoop [(r, L.map .str)] (gnm 9) ownT (varE 9) n e0 (ss.map .str) h = .ok (.ref n) h' ∧ h'[n]? = some (.lst ((acc ++ ss.filter isOwn).map .str)) ∧ Src h' k ∧ KX k n h h'
  | [], acc, h, S, e1, e2, hl => ⟨h, by rw [List.map_nil]; unfold lcLoop; rw [if_pos (stands1 e1)], by simpa using e2, S, KX.refl⟩
  | s :: ss, acc, h, S, e1, e2, hl => by
    obtain ⟨h1, d1⟩ : ∃ x, x = h ++ [O.lst [D.str "beside", D.str "elder"]] := ⟨_, rfl⟩
    have g1 : KG k h h1 := by rw [d1]; exact KG.app
    have S1 : Src h1 k := by rw [d1]; exact S.app
    have q1 : h1[r]? = some (.lst (L.map .str)) := g1.2 _ _ hk e1
    have q2 : h1[n]? = some (.lst (acc.map .str)) := g1.2 _ _ hn e2
    have tg : gnm 9 (.str s) e0 h = some (e0.set 9 (some (.str s))) := rfl
    have v9 : ∀ {h : MH}, varE 9 (e0.set 9 (some (.str s))) h = .ok (.str s) h := fun {h} => ev_var (by rw [List.getElem?_set_self (by omega)])
    have t : ownT (e0.set 9 (some (.str s))) h = .ok (isOwn s) h1 := by
      unfold ownT
      refine ev_val (ev_bin v9 (ev_on (ev_cons ev_con (ev_cons ev_con ev_nil)) (lst_new (by decide : 2 ≤ 1000000))) ?_)
      rw [d1]
      exact nin_i (by simp)
    rw [List.map_cons]
    unfold lcLoop
    rw [if_pos (stands1 e1), tg]
    dsimp only
    rw [t]
    cases c : isOwn s with
    | false =>
      dsimp only
      obtain ⟨h', e3, e4, S', k'⟩ := own_loop hn hr hk h9 ss acc h1 S1 q1 q2 (by simp only [List.length_cons] at hl; omega)
      refine ⟨h', e3, ?_, S', g1.kx.trans k'⟩
      rw [List.filter_cons_of_neg (by rw [c]; decide)]
      exact e4
    | true =>
      dsimp only
      rw [v9]
      dsimp only
      rw [q2]
      dsimp only
      rw [if_pos (by rw [List.length_map]; simp only [List.length_cons] at hl; omega)]
      have ea : acc.map D.str ++ [D.str s] = (acc ++ [s]).map D.str := by simp
      rw [ea]
      obtain ⟨h', e3, e4, S', k'⟩ := own_loop hn hr hk h9 ss (acc ++ [s]) (h1.set n (.lst ((acc ++ [s]).map .str))) (S1.other hn) (by rw [List.getElem?_set_ne (Ne.symm hr)]; exact q1) (set_get q2) (by simp only [List.length_append, List.length_cons, List.length_nil] at hl ⊢; omega)
      refine ⟨h', e3, ?_, S', (g1.kx.trans KX.set).trans k'⟩
      rw [List.filter_cons_of_pos c]
      simpa using e4
end ML

/-! what the checks of Rule answer -/
namespace ML
open PySem PySem.Spec PyProof.Rows L2

theorem any_strs {h : MH} {s : Str} : ∀ (L : List Str), anyF (fun z => eqv h deep z (.str s)) (L.map D.str) = some (L.any fun y => scalEq (.str y) (.str s))
  | [] => rfl
  | y :: L => by
    rw [List.map_cons]
    unfold anyF
    rw [any_strs L]
    rfl
theorem in_tup {h : MH} {s : Str} {L : List Str} : inF (.str s) (.tup (L.map D.str)) h = .ok (.bl (L.any fun y => scalEq (.str y) (.str s))) h := by
  have ed : dctOf h (.tup (L.map D.str)) = none := rfl
  unfold inF inT
  dsimp only
  rw [ed]
  unfold memT seqOf
  dsimp only
  rw [any_strs]
theorem scal_str {y s : Str} : scalEq (.str y) (.str s) = decide (y = s) := by
  unfold scalEq
  first | rfl | simp
theorem any_mem {L : List Str} {s : Str} (h : s ∈ L) : (L.any fun y => scalEq (.str y) (.str s)) = true := List.any_eq_true.mpr ⟨s, h, by rw [scal_str]; simp⟩
theorem ev_andE {a b : EM} {e : Env} {h h1 : MH} {r : R D} (p : a e h = .ok (.bl true) h1) (q : b e h1 = r) : andE a b e h = r := by unfold andE; rw [p]; exact q
theorem ev_star {a : EM} {rest : AM} {e : Env} {h h1 h2 : MH} {x : D} {k : Bool} {l ys : List D} (p : a e h = .ok x h1) (q : seqOf h1 x = some (k, l)) (r : rest e h1 = .ok ys h2) : starA a rest e h = .ok (l ++ ys) h2 := by
  unfold starA
  rw [p]
  show (match seqOf h1 x with | some (_, l) => (rest e h1).bind fun ys h2 => R.ok (l ++ ys) h2 | none => .bad) = _
  rw [q]
  dsimp only
  rw [r]
  rfl
theorem one_of {s : Str} {L : List Str} {h : MH} (hs : s ∈ L) : m_is_one_of [.str s, .tup (L.map D.str)] h = .ok (.bl true) h := by
  refine ef_rt rfl ?_
  unfold b_is_one_of
  exact es_ret (ev_andE (ev_on (ev_cons (ev_var rfl) (ev_cons ev_con ev_nil)) rfl) (ev_bin (ev_var rfl) (ev_var rfl) (in_tup.trans (by rw [any_mem hs]))))
theorem StrL.seq {h : MH} {k : Nat} {x : D} {L : List Str} (p : StrL h k x L) : seqOf h x = some (false, L.map D.str) := by
  obtain ⟨r, rfl, _, e⟩ := p
  unfold seqOf
  dsimp only
  rw [e]
theorem step_ok {h : MH} {k : Nat} {x d : D} {l : List Str} (N : StrL h k x l) (hl : l.length ≤ 3) (p : StepD l d) : m_is_step [d, x] h = .ok (.bl true) h := by
  obtain ⟨a, b, rfl, ha, hb⟩ := p
  refine ef_rt rfl ?_
  unfold b_is_step
  have t1 : tupF (D.str "here" :: (l.map D.str ++ [])) h = .ok (.tup ((("here" : Str) :: l).map D.str)) h := by
    rw [List.append_nil]
    exact tup_new (by simp; omega)
  have t2 : tupF (D.str "here" :: D.str "new" :: D.str "nothing" :: (l.map D.str ++ [])) h = .ok (.tup ((("here" : Str) :: "new" :: "nothing" :: l).map D.str)) h := by
    rw [List.append_nil]
    exact tup_new (by simp; omega)
  refine es_seq (es_ifF (ev_orF (ev_not (v := true) (ev_val (ev_on (ev_cons (ev_var rfl) (ev_cons ev_con ev_nil)) rfl))) (ev_val (ev_bin (ev_on (ev_cons (ev_var rfl) ev_nil) rfl) ev_con rfl))) es_pass) ?_
  refine es_ret (ev_andE (ev_on (ev_cons (ev_bin (ev_var rfl) ev_con rfl) (ev_cons (ev_on (ev_cons ev_con (ev_star (ev_var rfl) N.seq ev_nil)) t1) ev_nil)) (one_of ?_)) (ev_on (ev_cons (ev_bin (ev_var rfl) ev_con rfl) (ev_cons (ev_on (ev_cons ev_con (ev_cons ev_con (ev_cons ev_con (ev_star (ev_var rfl) N.seq ev_nil)))) t2) ev_nil)) (one_of ?_)))
  · rcases ha with z | z
    · rw [z]; simp
    · simp [z]
  · rcases hb with z | z | z | z
    · rw [z]; simp
    · rw [z]; simp
    · rw [z]; simp
    · simp [z]
end ML

/-! is_test, are_steps -/
namespace ML
open PySem PySem.Spec PyProof.Rows L2

theorem test_ok {h : MH} {k : Nat} {x d : D} {l : List Str} (N : StrL h k x l) (hl : l.length ≤ 3) (p : TestD l d) : m_is_test [d, x] h = .ok (.bl true) h := by
  obtain ⟨a, b, v, rfl, ha, hb⟩ := p
  refine ef_rt rfl ?_
  unfold b_is_test
  have t1 : tupF (D.str "here" :: D.str "new" :: (l.map D.str ++ [])) h = .ok (.tup ((("here" : Str) :: "new" :: l).map D.str)) h := by
    rw [List.append_nil]
    exact tup_new (by simp; omega)
  have t2 : tupF (D.str "here" :: D.str "new" :: D.str "nothing" :: (l.map D.str ++ [])) h = .ok (.tup ((("here" : Str) :: "new" :: "nothing" :: l).map D.str)) h := by
    rw [List.append_nil]
    exact tup_new (by simp; omega)
  refine es_seq (es_ifF (ev_orF (ev_not (v := true) (ev_val (ev_on (ev_cons (ev_var rfl) (ev_cons ev_con ev_nil)) rfl))) (ev_orF (ev_val (ev_bin (ev_on (ev_cons (ev_var rfl) ev_nil) rfl) ev_con rfl)) (ev_not (v := true) (ev_val (ev_on (ev_cons (ev_bin (ev_var rfl) ev_con rfl) (ev_cons ev_con ev_nil)) rfl))))) es_pass) ?_
  refine es_ret (ev_andE (ev_on (ev_cons (ev_bin (ev_var rfl) ev_con rfl) (ev_cons (ev_on (ev_cons ev_con (ev_cons ev_con (ev_star (ev_var rfl) N.seq ev_nil))) t1) ev_nil)) (one_of ?_)) (ev_on (ev_cons (ev_bin (ev_var rfl) ev_con rfl) (ev_cons (ev_on (ev_cons ev_con (ev_cons ev_con (ev_cons ev_con (ev_star (ev_var rfl) N.seq ev_nil)))) t2) ev_nil)) (one_of ?_)))
  · rcases ha with z | z | z
    · rw [z]; simp
    · rw [z]; simp
    · simp [z]
  · rcases hb with z | z | z | z
    · rw [z]; simp
    · rw [z]; simp
    · rw [z]; simp
    · simp [z]
end ML

/-! [f(x) for x in a tuple] where every answer is True -/
namespace ML
open PySem PySem.Spec PyProof.Rows L2

theorem it_nil {h : MH} : IT.ok h [] = true := rfl
theorem bools_true : ∀ j : Nat, bools (List.replicate j (.bl true)) = some (List.replicate j true)
  | 0 => rfl
  | j + 1 => by
    rw [List.replicate_succ, List.replicate_succ]
    unfold bools
    rw [bools_true j]
theorem all_true {h : MH} {n : Nat} {j : Nat} (e : h[n]? = some (.lst (List.replicate j (.bl true)))) : allF [.ref n] h = .ok (.bl true) h := by
  unfold allF lstOf
  dsimp only
  rw [e]
  dsimp only
  rw [bools_true]
  dsimp only
  have : (List.replicate j true).all (fun b => b) = true := by simp
  rw [this]
theorem lc_all {P : MH → Prop} {elt : EM} {n i : Nat} {e0 : Env} (hP : ∀ h o, P h → P (h.set n o)) : ∀ (ds : List D) (j : Nat) (h : MH), P h → h[n]? = some (.lst (List.replicate j (.bl true))) → j + ds.length < 1000 → (∀ d ∈ ds, ∀ h, P h → elt (e0.set i (some d)) h = .ok (.bl true) h) →
    ∃ h', lcLoop [] (gnm i) yesT elt n e0 ds h = .ok (.ref n) h' ∧ h'[n]? = some (.lst (List.replicate (j + ds.length) (.bl true))) ∧ P h' ∧ h'.length = h.length ∧ ∀ m, m ≠ n → h'[m]? = h[m]?
  | [], j, h, p, e, hl, hd => ⟨h, by unfold lcLoop; rw [if_pos it_nil], by simpa using e, p, rfl, fun _ _ => rfl⟩
  | d :: ds, j, h, p, e, hl, hd => by
    have e1 := hd d List.mem_cons_self h p
    obtain ⟨h', e2, e3, p', l', k'⟩ := lc_all hP ds (j + 1) (h.set n (.lst (List.replicate j (.bl true) ++ [.bl true]))) (hP h _ p) (by rw [set_get e, List.replicate_succ']) (by simp only [List.length_cons] at hl; omega) (fun x hx => hd x (List.mem_cons_of_mem _ hx))
    refine ⟨h', ?_, by rw [e3]; simp only [List.length_cons]; rw [show j + 1 + ds.length = j + (ds.length + 1) by omega], p', by rw [l']; simp, fun m hm => by rw [k' m hm, List.getElem?_set_ne (Ne.symm hm)]⟩
    rw [← e2]
    conv => lhs; unfold lcLoop
    rw [if_pos it_nil]
    have tg : gnm i d e0 h = some (e0.set i (some d)) := rfl
    rw [tg]
    dsimp only [yesT]
    rw [e1]
    dsimp only
    rw [e]
    dsimp only
    rw [if_pos (by rw [List.length_replicate]; simp only [List.length_cons] at hl; omega)]
end ML

/-! are_steps, is_line -/
namespace ML
open PySem PySem.Spec PyProof.Rows L2

/-- all stays -/
def GA (h h' : MH) : Prop := h.length ≤ h'.length ∧ ∀ (n : Nat) o, h[n]? = some o → h'[n]? = some o
theorem GA.refl {h : MH} : GA h h := ⟨Nat.le_refl _, fun _ _ e => e⟩
theorem GA.trans {a b c : MH} (p : GA a b) (q : GA b c) : GA a c := ⟨Nat.le_trans p.1 q.1, fun n o e => q.2 n o (p.2 n o e)⟩
theorem GA.app {h t : MH} : GA h (h ++ t) := ⟨by simp, fun n o e => by rw [List.getElem?_append_left (List.getElem?_eq_some_iff.mp e).1]; exact e⟩
theorem GA.kg {k : Nat} {h h' : MH} (g : GA h h') : KG k h h' := ⟨g.1, fun n o _ e => g.2 n o e⟩
/-- names in the heap, at a place ahead of b -/
def NamL (h : MH) (b : Nat) (x : D) (l : List Str) : Prop := ∃ r, x = .ref r ∧ r < b ∧ h[r]? = some (.lst (l.map .str))
theorem NamL.ga {h h' : MH} {b : Nat} {x : D} {l : List Str} (p : NamL h b x l) (g : GA h h') : NamL h' b x l := by
  obtain ⟨r, e, hb, e1⟩ := p
  exact ⟨r, e, hb, g.2 _ _ e1⟩
theorem NamL.up {h : MH} {b b' : Nat} {x : D} {l : List Str} (p : NamL h b x l) (hb : b ≤ b') : NamL h b' x l := by
  obtain ⟨r, e, h1, e1⟩ := p
  exact ⟨r, e, by omega, e1⟩
theorem NamL.str {h : MH} {b : Nat} {x : D} {l : List Str} (p : NamL h b x l) : StrL h b x l := by
  obtain ⟨r, e, h1, e1⟩ := p
  exact ⟨r, e, by omega, e1⟩
/-- all([f(d) for d in ds]) where f leaves the heap alone -/
theorem ev_all {elt : EM} {i b : Nat} {e : Env} {own : List Nat} {it : IM} {ds : List D} {h : MH} {x : D} {l : List Str} (N : NamL h b x l) (hb : b ≤ h.length) (hi : it e h = .ok ⟨ds, []⟩ h) (hl : ds.length < 900) (hd : ∀ d ∈ ds, ∀ h', NamL h' b x l → elt ((wipeM e own).set i (some d)) h' = .ok (.bl true) h') :
    ∃ h', onA allF (consA (lcE own it (gnm i) yesT elt) nilA) e h = .ok (.bl true) h' ∧ GA h h' := by
  obtain ⟨h', e1, e2, p', l', k'⟩ := lc_all (P := fun h' => h.length ≤ h'.length ∧ NamL h' b x l ∧ ∀ m, m < h.length → h'[m]? = h[m]?) (n := h.length) (i := i) (elt := elt) (e0 := wipeM e own) (fun h1 o ⟨p1, ⟨r, er, rb, e⟩, p2⟩ => ⟨by simpa using p1, ⟨r, er, rb, by rw [List.getElem?_set_ne (by omega)]; exact e⟩, fun m hm => by rw [List.getElem?_set_ne (by omega)]; exact p2 m hm⟩) ds 0 (h ++ [O.lst []]) ⟨by simp, N.ga GA.app, fun m hm => List.getElem?_append_left hm⟩ (by simp) (by omega) (fun d hd' h1 p => hd d hd' h1 p.2.1)
  refine ⟨h', ?_, p'.1, fun n o e => by rw [p'.2.2 n (List.getElem?_eq_some_iff.mp e).1]; exact e⟩
  refine ev_on (ev_cons (x := .ref h.length) (h1 := h') ?_ ev_nil) (all_true e2)
  unfold lcE
  rw [hi]
  exact e1
end ML

/-! are_steps, is_line -/
namespace ML
open PySem PySem.Spec PyProof.Rows L2

theorem lc_allG {P : MH → Prop} {elt : EM} {n i b : Nat} {e0 : Env} (hP : ∀ h o, P h → P (h.set n o)) (hb : b ≤ n) : ∀ (ds : List D) (j : Nat) (h : MH), P h → h[n]? = some (.lst (List.replicate j (.bl true))) → j + ds.length < 1000 → (∀ d ∈ ds, ∀ h, P h → ∃ h', elt (e0.set i (some d)) h = .ok (.bl true) h' ∧ P h' ∧ GA h h') →
    ∃ h', lcLoop [] (gnm i) yesT elt n e0 ds h = .ok (.ref n) h' ∧ h'[n]? = some (.lst (List.replicate (j + ds.length) (.bl true))) ∧ P h' ∧ h.length ≤ h'.length ∧ ∀ m o, m < b → h[m]? = some o → h'[m]? = some o
  | [], j, h, p, e, hl, hd => ⟨h, by unfold lcLoop; rw [if_pos it_nil], by simpa using e, p, Nat.le_refl _, fun _ _ _ e => e⟩
  | d :: ds, j, h, p, e, hl, hd => by
    obtain ⟨h1, e1, p1, g1⟩ := hd d List.mem_cons_self h p
    have q1 := g1.2 _ _ e
    obtain ⟨h', e2, e3, p', l', k'⟩ := lc_allG hP hb ds (j + 1) (h1.set n (.lst (List.replicate j (.bl true) ++ [.bl true]))) (hP h1 _ p1) (by rw [set_get q1, List.replicate_succ']) (by simp only [List.length_cons] at hl; omega) (fun x hx => hd x (List.mem_cons_of_mem _ hx))
    refine ⟨h', ?_, by rw [e3]; simp only [List.length_cons]; rw [show j + 1 + ds.length = j + (ds.length + 1) by omega], p', Nat.le_trans g1.1 (by simpa using l'), fun m o hm e => k' m o hm (by rw [List.getElem?_set_ne (by omega)]; exact g1.2 _ _ e)⟩
    rw [← e2]
    conv => lhs; unfold lcLoop
    rw [if_pos it_nil]
    have tg : gnm i d e0 h = some (e0.set i (some d)) := rfl
    rw [tg]
    dsimp only [yesT]
    rw [e1]
    dsimp only
    rw [q1]
    dsimp only
    rw [if_pos (by rw [List.length_replicate]; simp only [List.length_cons] at hl; omega)]
/-- all([f(d) for d in ds]) where f makes things -/
theorem ev_allG {elt : EM} {i b : Nat} {e : Env} {own : List Nat} {it : IM} {ds : List D} {h : MH} {x : D} {l : List Str} (N : NamL h b x l) (hb : b ≤ h.length) (hi : it e h = .ok ⟨ds, []⟩ h) (hl : ds.length < 900) (hd : ∀ d ∈ ds, ∀ h', b ≤ h'.length → NamL h' b x l → ∃ h2, elt ((wipeM e own).set i (some d)) h' = .ok (.bl true) h2 ∧ GA h' h2) :
    ∃ h', onA allF (consA (lcE own it (gnm i) yesT elt) nilA) e h = .ok (.bl true) h' ∧ GA h h' := by
  obtain ⟨h', e1, e2, p', l', k'⟩ := lc_allG (P := fun h' => b ≤ h'.length ∧ NamL h' b x l) (n := h.length) (i := i) (elt := elt) (e0 := wipeM e own) (b := h.length) (fun h1 o ⟨p1, ⟨r, er, rb, e⟩⟩ => ⟨by simpa using p1, ⟨r, er, rb, by rw [List.getElem?_set_ne (by omega)]; exact e⟩⟩) (Nat.le_refl _) ds 0 (h ++ [O.lst []]) ⟨by simp; omega, N.ga GA.app⟩ (by simp) (by omega) (fun d hd' h1 p => by
    obtain ⟨h2, e, g⟩ := hd d hd' h1 p.1 p.2
    exact ⟨h2, e, ⟨Nat.le_trans p.1 g.1, p.2.ga g⟩, g⟩)
  refine ⟨h', ?_, Nat.le_trans (by simp) l', fun n o e => k' n o (List.getElem?_eq_some_iff.mp e).1 (GA.app.2 _ _ e)⟩
  refine ev_on (ev_cons (x := .ref h.length) (h1 := h') ?_ ev_nil) (all_true e2)
  unfold lcE
  rw [hi]
  exact e1
theorem i_tup {a : EM} {e : Env} {h : MH} {ds : List D} (p : a e h = .ok (.tup ds) h) : seqI a e h = .ok ⟨ds, []⟩ h := by unfold seqI; rw [p]; rfl
theorem le_T {a b : Int} {h : MH} (p : a ≤ b) : leF (.int a) (.int b) h = .ok (.bl true) h := by unfold leF ordF; dsimp only; rw [decide_eq_true p]
theorem gt_F {a b : Int} {h : MH} (p : ¬ b < a) : gtF (.int a) (.int b) h = .ok (.bl false) h := by rw [gt_i, decide_eq_false p]
theorem are_ok {h : MH} {b : Nat} {x d : D} {l : List Str} (N : NamL h b x l) (hb : b ≤ h.length) (hl : l.length ≤ 3) (p : StepsD l d) : ∃ h', m_are_steps [d, x] h = .ok (.bl true) h' ∧ GA h h' := by
  obtain ⟨ss, rfl, s4, hs⟩ := p
  obtain ⟨h', e1, g⟩ := ev_all (elt := onA m_is_step (consA (varE 2) (consA (varE 1) (nilA)))) (i := 2) (e := [some (.tup ss), some x, none]) (own := [2]) (it := seqI (varE 0)) N hb (i_tup (ev_var rfl)) (by omega) (fun d hd h1 N1 => ev_on (ev_cons (ev_var rfl) (ev_cons (ev_var rfl) ev_nil)) (step_ok N1.str hl (hs d hd)))
  refine ⟨h', ?_, g⟩
  refine ef_rt rfl ?_
  unfold b_are_steps
  exact es_ret (ev_andE (ev_on (ev_cons (ev_var rfl) (ev_cons ev_con ev_nil)) rfl) (ev_andE (ev_bin (ev_on (ev_cons (ev_var rfl) ev_nil) len_tup) ev_con (le_T (by omega))) e1))
end ML

/-! is_line, is_name, need_registers -/
namespace ML
open PySem PySem.Spec PyProof.Rows L2

theorem ef_nx {np n : Nat} {ds : List D} {b : SM} {h h1 : MH} {e1 : Env} (hl : ds.length = np) (p : b (ds.map some ++ List.replicate (n - ds.length) none) h = .nx e1 h1) : fnM np n b ds h = .ok .non h1 := by unfold fnM; rw [if_pos hl, p]
theorem GA.setB {h h1 : MH} {n : Nat} {o : O} (g : GA h h1) (hn : h.length ≤ n) : GA h (h1.set n o) := ⟨by simpa using g.1, fun m x e => by rw [List.getElem?_set_ne (by have := (List.getElem?_eq_some_iff.mp e).1; omega)]; exact g.2 m x e⟩
theorem lc_allA {srcs : List (Nat × List D)} {elt : EM} {n i : Nat} {e0 : Env} {h0 : MH} (hs : ∀ h, GA h0 h → IT.ok h srcs = true) (hn : h0.length ≤ n) : ∀ (ds : List D) (j : Nat) (h : MH), GA h0 h → h[n]? = some (.lst (List.replicate j (.bl true))) → j + ds.length < 1000 → (∀ d ∈ ds, ∀ h, GA h0 h → ∃ h', elt (e0.set i (some d)) h = .ok (.bl true) h' ∧ GA h h') →
    ∃ h', lcLoop srcs (gnm i) yesT elt n e0 ds h = .ok (.ref n) h' ∧ h'[n]? = some (.lst (List.replicate (j + ds.length) (.bl true))) ∧ GA h0 h'
  | [], j, h, p, e, hl, hd => ⟨h, by unfold lcLoop; rw [if_pos (hs h p)], by simpa using e, p⟩
  | d :: ds, j, h, p, e, hl, hd => by
    obtain ⟨h1, e1, g1⟩ := hd d List.mem_cons_self h p
    have q1 := g1.2 _ _ e
    obtain ⟨h', e2, e3, p'⟩ := lc_allA hs hn ds (j + 1) (h1.set n (.lst (List.replicate j (.bl true) ++ [.bl true]))) ((p.trans g1).setB hn) (by rw [set_get q1, List.replicate_succ']) (by simp only [List.length_cons] at hl; omega) (fun x hx => hd x (List.mem_cons_of_mem _ hx))
    refine ⟨h', ?_, by rw [e3]; simp only [List.length_cons]; rw [show j + 1 + ds.length = j + (ds.length + 1) by omega], p'⟩
    rw [← e2]
    conv => lhs; unfold lcLoop
    rw [if_pos (hs h p)]
    have tg : gnm i d e0 h = some (e0.set i (some d)) := rfl
    rw [tg]
    dsimp only [yesT]
    rw [e1]
    dsimp only
    rw [q1]
    dsimp only
    rw [if_pos (by rw [List.length_replicate]; simp only [List.length_cons] at hl; omega)]
/-- all([f(d) for d in ds]) -/
theorem ev_allA {elt : EM} {i : Nat} {e : Env} {own : List Nat} {it : IM} {ds : List D} {srcs : List (Nat × List D)} {h : MH} (hi : it e h = .ok ⟨ds, srcs⟩ h) (hs : ∀ h1, GA h h1 → IT.ok h1 srcs = true) (hl : ds.length < 900) (hd : ∀ d ∈ ds, ∀ h1, GA h h1 → ∃ h2, elt ((wipeM e own).set i (some d)) h1 = .ok (.bl true) h2 ∧ GA h1 h2) :
    ∃ h', onA allF (consA (lcE own it (gnm i) yesT elt) nilA) e h = .ok (.bl true) h' ∧ GA h h' := by
  obtain ⟨h', e1, e2, p'⟩ := lc_allA (n := h.length) (i := i) (elt := elt) (e0 := wipeM e own) hs (Nat.le_refl _) ds 0 (h ++ [O.lst []]) GA.app (by simp) (by omega) hd
  refine ⟨h', ?_, p'⟩
  refine ev_on (ev_cons (x := .ref h.length) (h1 := h') ?_ ev_nil) (all_true e2)
  unfold lcE
  rw [hi]
  exact e1
theorem ev_sl {a : EM} {lo hi : OM} {e : Env} {h h1 h2 h3 : MH} {x : D} {l u : Option Int} {r : R D} (p : a e h = .ok x h1) (q : lo e h1 = .ok l h2) (k : hi e h2 = .ok u h3) (w : slF x l u h3 = r) : slE a lo hi e h = r := by
  unfold slE
  rw [p]
  show R.bind (lo e h1) _ = r
  rw [q]
  show R.bind (hi e h2) _ = r
  rw [k]
  exact w
theorem ev_noO {e : Env} {h : MH} : noO e h = .ok none h := rfl
theorem ev_someO {a : EM} {e : Env} {h h1 : MH} {i : Int} (p : a e h = .ok (.int i) h1) : someO a e h = .ok (some i) h1 := by unfold someO; rw [p]; rfl
theorem line_ok {h : MH} {b : Nat} {x d : D} {l : List Str} {last : Bool} (N : NamL h b x l) (hb : b ≤ h.length) (hl : l.length ≤ 3) (p : LineD l last d) : ∃ h', m_is_line [d, x] h = .ok (.bl true) h' ∧ GA h h' := by
  obtain ⟨ts, st, rfl, t4, _, ht, s12, hs⟩ := p
  have hq : (valT (bin ninF (onA lenF (consA (varE 0) (nilA))) (onA tupF (consA (conE (.int 2)) (consA (conE (.int 3)) (nilA)))))) [some (.tup (.tup ts :: st)), some x, none, none, none] h = .ok false h := by
    refine ev_val (ev_bin (ev_on (ev_cons (ev_var rfl) ev_nil) len_tup) (ev_on (ev_cons ev_con (ev_cons ev_con ev_nil)) (tup_new (by decide : 2 ≤ 1000000))) ?_)
    rcases s12 with z | z
    · rw [List.length_cons, z]; rfl
    · rw [List.length_cons, z]; rfl
  obtain ⟨h1, e1, g1⟩ := ev_allA (elt := onA m_is_test (consA (varE 4) (consA (varE 1) (nilA)))) (i := 4) (e := [some (.tup (.tup ts :: st)), some x, some (.tup ts), none, none]) (own := [4]) (it := seqI (varE 2)) (h := h) (i_tup (ev_var rfl)) (fun _ _ => it_nil) (by omega) (fun d hd h1 g => ⟨h1, ev_on (ev_cons (ev_var rfl) (ev_cons (ev_var rfl) ev_nil)) (test_ok (N.ga g).str hl (ht d hd)), GA.refl⟩)
  have N1 := N.ga g1
  have i2 : seqI (slE (varE 0) (someO (conE (.int 1))) (noO)) [some (.tup (.tup ts :: st)), some x, some (.tup ts), none, none] h1 = .ok ⟨st, []⟩ h1 := by
    refine i_tup (ev_sl (ev_var rfl) (ev_someO ev_con) ev_noO ?_)
    unfold slF
    dsimp only
    have : cutD (D.tup ts :: st) (some 1) none = st := by
      rcases s12 with z | z
      · match st, z with
        | [a], _ => rfl
      · match st, z with
        | [a, b], _ => rfl
    rw [this]
  obtain ⟨h2, e2, g2⟩ := ev_allA (elt := onA m_are_steps (consA (varE 3) (consA (varE 1) (nilA)))) (i := 3) (own := [3]) i2 (fun _ _ => it_nil) (by omega) (fun d hd h2 g => by
    obtain ⟨h3, e3, g3⟩ := are_ok (N1.ga g) (by have := g1.1; have := g.1; omega) hl (hs d hd)
    exact ⟨h3, ev_on (ev_cons (ev_var rfl) (ev_cons (ev_var rfl) ev_nil)) e3, g3⟩)
  refine ⟨h2, ?_, g1.trans g2⟩
  refine ef_rt rfl ?_
  unfold b_is_line
  refine es_seq (es_ifF (ev_orF (ev_not (v := true) (ev_val (ev_on (ev_cons (ev_var rfl) (ev_cons ev_con ev_nil)) rfl))) hq) es_pass) ?_
  refine es_seq (es_set' (ev_bin (ev_var rfl) ev_con (ix_tup (d := .tup ts) (by decide) rfl)) rfl) ?_
  refine es_seq (es_ifF (ev_orF (ev_not (v := true) (ev_val (ev_on (ev_cons (ev_var rfl) (ev_cons ev_con ev_nil)) rfl))) (ev_orF (ev_val (ev_bin (ev_on (ev_cons (ev_var rfl) ev_nil) len_tup) ev_con (gt_F (by omega)))) (ev_not (v := true) (ev_val e1)))) es_pass) ?_
  exact es_ret e2
/-! names -/
theorem in_abc {c : Nat} (h1 : 97 ≤ c ∧ c ≤ 122) {h : MH} : inF (.str ⟨#[c]⟩) (.str "abcdefghijklmnopqrstuvwxyz") h = .ok (.bl true) h := by
  have : c ∈ (Str.ofString "abcdefghijklmnopqrstuvwxyz").cps.toList := (by decide +kernel : ∀ c, c < 123 → 97 ≤ c → c ∈ (Str.ofString "abcdefghijklmnopqrstuvwxyz").cps.toList) c (by omega) h1.1
  unfold inF inT
  dsimp only
  show R.ok (D.bl (decide _)) h = _
  rw [decide_eq_true this]
theorem ev_chain {f g : D → D → MH → R D} {a b c : EM} {e : Env} {h h1 h2 h3 h4 : MH} {x y w : D} {r : R D} (p : a e h = .ok x h1) (q : b e h1 = .ok y h2) (k : f x y h2 = .ok (.bl true) h3) (z : c e h3 = .ok w h4) (j : g y w h4 = r) : chainE f g a b c e h = r := by
  unfold chainE
  rw [p]
  show R.bind (b e h1) _ = r
  rw [q]
  show R.bind (f x y h2) _ = r
  rw [k]
  show R.bind (c e h3) _ = r
  rw [z]
  exact j
theorem name_ok {h : MH} {z : Str} (g : GoodN z) : ∃ h', m_is_name [.str z] h = .ok (.bl true) h' ∧ GA h h' := by
  obtain ⟨l1, l2, hc, _⟩ := g
  have cl : (chars z).length = z.length := by unfold chars; simp [Str.length]
  obtain ⟨h', e1, g1⟩ := ev_allA (elt := bin inF (varE 1) (conE (.str "abcdefghijklmnopqrstuvwxyz"))) (i := 1) (e := [some (.str z), none]) (own := [1]) (it := seqI (varE 0)) (h := h) (ds := chars z) (srcs := []) rfl (fun _ _ => it_nil) (by omega) (fun d hd h1 g => by
    obtain ⟨c, c1, c2⟩ := List.mem_map.mp hd
    subst c2
    exact ⟨h1, ev_bin (ev_var rfl) ev_con (in_abc (hc c c1)), GA.refl⟩)
  refine ⟨h', ?_, g1⟩
  refine ef_rt rfl ?_
  unfold b_is_name
  have ln : lenF [.str z] h = .ok (.int z.length) h := by unfold lenF; dsimp only; rw [if_pos (by omega)]
  exact es_ret (ev_andE (ev_on (ev_cons (ev_var rfl) (ev_cons ev_con ev_nil)) rfl) (ev_andE (ev_chain ev_con (ev_on (ev_cons (ev_var rfl) ev_nil) ln) (le_T (by omega)) ev_con (le_T (by omega))) e1))
theorem nin_barred {z : Str} {h : MH} (g : z ∉ barred) : ninF (.str z) (strsD ["here", "new", "nothing", "is", "not", "from", "or", "ask", "do", "otherwise"]) h = .ok (.bl true) h := by
  have e := in_tup (h := h) (s := z) (L := barred)
  have a0 : (barred.any fun y => scalEq (.str y) (.str z)) = false := by
    cases c : barred.any fun y => scalEq (.str y) (.str z) with
    | false => rfl
    | true =>
      obtain ⟨y, hy, q⟩ := List.any_eq_true.mp c
      rw [scal_str] at q
      exact absurd (of_decide_eq_true q ▸ hy) g
  rw [a0] at e
  unfold inF at e
  unfold ninF
  show (match inT h (.str z) (.tup (barred.map D.str)) with | some b => R.ok (D.bl (!b)) h | none => .bad) = _
  cases q : inT h (.str z) (.tup (barred.map D.str)) with
  | none => rw [q] at e; cases e
  | some b =>
    rw [q] at e
    cases e
    rfl
theorem many_nodup {xs : List Str} (nd : xs.Nodup) : ∀ i, i ≤ xs.length → SetM.many xs i = i
  | 0, _ => rfl
  | i + 1, hi => by
    have ih := many_nodup nd i (by omega)
    unfold SetM.many
    have : SetM.seen xs i (xs.getD i Str.empty) = false := by
      unfold SetM.seen
      cases c : (xs.take i).any (· == xs.getD i Str.empty) with
      | false => rfl
      | true =>
        obtain ⟨y, hy, q⟩ := List.any_eq_true.mp c
        obtain ⟨j, hj, ej⟩ := List.mem_iff_getElem.mp hy
        have q := eq_of_beq q
        rw [List.getElem_take] at ej
        rw [List.length_take] at hj
        have e2 : xs.getD i Str.empty = xs[i]'(by omega) := by rw [List.getD_eq_getElem?_getD, List.getElem?_eq_getElem (by omega)]; rfl
        rw [e2] at q
        have := (List.getElem_inj nd).mp (ej.trans q)
        omega
    rw [this, ih]
    rfl
theorem strs_of : ∀ l : List Str, strsOf (l.map D.str) = some l
  | [] => rfl
  | s :: l => by
    rw [List.map_cons]
    unfold strsOf
    rw [strs_of l]
theorem regs_ok {h : MH} {r : Nat} {l : List Str} (e : h[r]? = some (.lst (l.map .str))) (g : RegsOk l) : ∃ h', m_need_registers [.ref r] h = .ok .non h' ∧ GA h h' := by
  obtain ⟨l3, nd, hg⟩ := g
  have hr := (List.getElem?_eq_some_iff.mp e).1
  have ty : tyD h (.ref r) = some "list" := by unfold tyD; dsimp only; rw [e]
  obtain ⟨h', e1, g1⟩ := ev_allA (elt := andE (onA m_is_name (consA (varE 1) (nilA))) (bin ninF (varE 1) (conE (strsD ["here", "new", "nothing", "is", "not", "from", "or", "ask", "do", "otherwise"])))) (i := 1) (e := [some (.ref r), none]) (own := [1]) (it := seqI (varE 0)) (h := h) (ei_lst (ev_var rfl) e) (fun h1 g => stands1 (g.2 _ _ e)) (by simp; omega) (fun d hd h1 g => by
    obtain ⟨z, z1, z2⟩ := List.mem_map.mp hd
    subst z2
    obtain ⟨h2, e2, g2⟩ := name_ok (h := h1) (hg z z1)
    exact ⟨h2, ev_andE (ev_on (ev_cons (ev_var rfl) ev_nil) e2) (ev_bin (ev_var rfl) ev_con (nin_barred (hg z z1).2.2.2)), g2⟩)
  refine ⟨h', ?_, g1⟩
  have e' := g1.2 _ _ e
  have i1 : isiT ["list", "tuple"] (.ref r) h = .ok (.bl true) h := by unfold isiT; rw [ty]; rfl
  have i2 : lensetF (.ref r) h' = .ok (.int l.length) h' := by
    unfold lensetF seqOf
    dsimp only
    rw [e']
    dsimp only
    rw [strs_of]
    dsimp only
    rw [if_pos (by omega), many_nodup nd _ (Nat.le_refl _)]
  have ne : ∀ {i : Int} {h : MH}, neF (.int i) (.int i) h = .ok (.bl false) h := fun {i h} => by
    unfold neF eqT eqTop isScal
    dsimp only
    unfold scalEq
    simp
  have ln := len_lst e'
  rw [List.length_map] at ln
  have ln0 := len_lst e
  rw [List.length_map] at ln0
  have body : b_need_registers [some (.ref r), none] h = .nx [some (.ref r), none] h' := by
    unfold b_need_registers
    refine es_seq (es_ifF (ev_orF (ev_not (v := true) (ev_val (ev_un (ev_var rfl) i1))) (ev_val (ev_bin (ev_on (ev_cons (ev_var rfl) ev_nil) ln0) ev_con (gt_F (by omega))))) es_pass) ?_
    exact es_ifF (ev_orF (ev_not (v := true) (ev_val e1)) (ev_val (ev_bin (ev_un (ev_var rfl) i2) (ev_on (ev_cons (ev_var rfl) ev_nil) ln) ne))) es_pass
  exact ef_nx rfl body
end ML

/-! a rule is made -/
namespace ML
open PySem PySem.Spec PyProof.Rows L2

def LinesD (l : List Str) (ls : List D) : Prop := 1 ≤ ls.length ∧ ls.length ≤ 8 ∧ (∀ d ∈ ls, LineD l false d) ∧ ∀ d, ls.getLast? = some d → LineD l true d
theorem es_fld {ci : List Str} {f : Str} {o a : EM} {e : Env} {h h1 h2 h3 : MH} {v x : D} (p : a e h = .ok v h1) (q : o e h1 = .ok x h2) (w : putO ci f x v h2 = some h3) : stFld ci f o a e h = .nx e h3 := by
  unfold stFld ofE
  rw [p]
  dsimp only
  rw [q]
  dsimp only
  rw [w]
theorem putI {ci : List Str} {f c : Str} {n : Nat} {v : D} {h : MH} {fs : List (Str × D)} (e : h[n]? = some (.ins c fs)) (hc : c ∈ ci) (hl : fs.length < 1000) : putO ci f (.ref n) v h = some (h.set n (.ins c (putFD f v fs))) := by
  unfold putO
  dsimp only
  rw [e]
  dsimp only
  rw [if_pos ⟨hc, hl⟩]
def init_body : SM := ifS (orT (notT (valT (onA m_is_line (consA (varE 4) (consA (varE 1) (nilA)))))) (andT (valT (bin eqF (varE 3) (bin subF (onA lenF (consA (varE 2) (nilA))) (conE (.int 1))))) (valT (bin neF (bin ixF (varE 4) (conE (.int 0))) (onA tupF (nilA)))))) (raiseS "BadLine" "position" (consA (varE 3) (nilA))) (passS)
theorem init_loop {b q : Nat} {x self : D} {l : List Str} {ls : List D} {h0 : MH} (N : NamL h0 b x l) (hb : b ≤ h0.length) (hl : l.length ≤ 3) (eq : h0[q]? = some (.lst ls)) : ∀ (ds : List D) (i0 : Nat) (e3 e4 : Option D) (h : MH), GA h0 h → (∀ j d, ds[j]? = some d → LineD l (decide (i0 + j + 1 = ls.length)) d) →
    ∃ e3' e4' h', loopS [(q, ls)] (gtp [gnm 3, gnm 4]) init_body ((ds.zipIdx i0).map fun p => .tup [.int (p.2 : Nat), p.1]) [some self, some x, some (.ref q), e3, e4] h = .nx [some self, some x, some (.ref q), e3', e4'] h' ∧ GA h h'
  | [], i0, e3, e4, h, g, hd => ⟨e3, e4, h, loop_nil (stands1 (g.2 _ _ eq)), GA.refl⟩
  | d :: ds, i0, e3, e4, h, g, hd => by
    have ld := hd 0 d rfl
    obtain ⟨h1, e1, g1⟩ := line_ok (N.ga g) (Nat.le_trans hb g.1) hl ld
    obtain ⟨e3', e4', h', e2, g2⟩ := init_loop N hb hl eq ds (i0 + 1) (some (.int (i0 : Nat))) (some d) h1 (g.trans g1) (fun j d' q => by
      have := hd (j + 1) d' (by simpa using q)
      rw [show i0 + 1 + j + 1 = i0 + (j + 1) + 1 by omega]
      exact this)
    refine ⟨e3', e4', h', ?_, g1.trans g2⟩
    rw [List.zipIdx_cons, List.map_cons, ← e2]
    apply loop_cons (stands1 (g.2 _ _ eq)) rfl
    have ln := len_lst ((g.trans g1).2 _ _ eq)
    unfold init_body
    refine es_ifF (ev_orF (ev_not (v := true) (ev_val (ev_on (ev_cons (ev_var rfl) (ev_cons (ev_var rfl) ev_nil)) e1))) ?_) es_pass
    by_cases c : i0 + 0 + 1 = ls.length
    · rw [decide_eq_true c] at ld
      obtain ⟨ts, st, rfl, _, tn, _⟩ := ld
      have := tn rfl
      subst this
      refine ev_andT (ev_val (v := true) (ev_bin (ev_var rfl) (ev_bin (ev_on (ev_cons (ev_var rfl) ev_nil) ln) ev_con sub_i) (eq_i.trans ?_))) (ev_val (ev_bin (ev_bin (ev_var rfl) ev_con (ix_tup (d := .tup []) (by decide) rfl)) (ev_on ev_nil (tup_new (by decide : 0 ≤ 1000000))) rfl))
      have : scalEq (.int (i0 : Nat)) (.int ((ls.length : Nat) - 1)) = true := by unfold scalEq; simp; omega
      rw [this]
    · refine ev_andF (ev_val (ev_bin (ev_var rfl) (ev_bin (ev_on (ev_cons (ev_var rfl) ev_nil) ln) ev_con sub_i) (eq_i.trans ?_)))
      have : scalEq (.int (i0 : Nat)) (.int ((ls.length : Nat) - 1)) = false := by unfold scalEq; simp; omega
      rw [this]
theorem init_ok {h : MH} {s r q : Nat} {l : List Str} {ls : List D} (es : h[s]? = some (.ins "Rule" [])) (er : h[r]? = some (.lst (l.map .str))) (eq : h[q]? = some (.lst ls)) (g : RegsOk l) (L : LinesD l ls) :
    ∃ h', m_Rule_init [.ref s, .ref r, .ref q] h = .ok .non h' ∧ h'[s]? = some (.ins "Rule" [("own_names", .tup (l.map .str)), ("rows", .tup ls)]) ∧ KG s h h' := by
  obtain ⟨L1, L8, LA, LL⟩ := L
  obtain ⟨h1, e1, g1⟩ := regs_ok er g
  have hr := (List.getElem?_eq_some_iff.mp er).1
  have N1 : NamL h1 h1.length (.ref r) l := ⟨r, rfl, by have := g1.1; omega, g1.2 _ _ er⟩
  have q1 := g1.2 _ _ eq
  obtain ⟨e3, e4, h2, e2, g2⟩ := init_loop (self := .ref s) N1 (Nat.le_refl _) g.1 q1 ls 0 none none h1 GA.refl (fun j d hj => by
    have hm := List.mem_of_getElem? hj
    by_cases c : 0 + j + 1 = ls.length
    · rw [decide_eq_true c]
      refine LL d ?_
      rw [List.getLast?_eq_getElem?, ← hj]
      congr 1
      omega
    · rw [decide_eq_false c]
      exact LA d hm)
  have r2 := (g1.trans g2).2 _ _ er
  have q2 := g2.2 _ _ q1
  have s2 := (g1.trans g2).2 _ _ es
  have sr : s ≠ r := fun z => by rw [z, er] at es; cases es
  have sq : s ≠ q := fun z => by rw [z, eq] at es; cases es
  have p1 := putI (ci := ["Rule"]) (f := "own_names") (v := .tup (l.map .str)) s2 (by simp) (show (0 : Nat) < 1000 by decide)
  obtain ⟨h3, d3⟩ : ∃ x, x = h2.set s (.ins "Rule" (putFD "own_names" (.tup (l.map .str)) [])) := ⟨_, rfl⟩
  rw [← d3] at p1
  have s3 : h3[s]? = some (.ins "Rule" [("own_names", .tup (l.map .str))]) := by rw [d3, set_get s2]; rfl
  have q3 : h3[q]? = some (.lst ls) := by rw [d3, List.getElem?_set_ne sq]; exact q2
  have p2 := putI (ci := ["Rule"]) (f := "rows") (v := .tup ls) s3 (by simp) (show (1 : Nat) < 1000 by decide)
  refine ⟨_, ?_, set_get s3, ((g1.trans g2).kg.trans (by rw [d3]; exact KG.set)).trans KG.set⟩
  refine ef_nx (e1 := [some (.ref s), some (.ref r), some (.ref q), e3, e4]) rfl ?_
  have ty : tyD h1 (.ref q) = some "list" := by unfold tyD; dsimp only; rw [q1]
  have i1 : isiT ["list", "tuple"] (.ref q) h1 = .ok (.bl true) h1 := by unfold isiT; rw [ty]; rfl
  have tup : ∀ {h : MH} {n : Nat} {ts : List D}, h[n]? = some (.lst ts) → tupleF [.ref n] h = .ok (.tup ts) h := fun e => by unfold tupleF seqOf; dsimp only; rw [e]
  have en : enumI2 (consA (varE 2) (nilA)) [some (.ref s), some (.ref r), some (.ref q), none, none] h1 = .ok ⟨enumD ls, [(q, ls)]⟩ h1 := by
    unfold enumI2
    rw [show consA (varE 2) nilA [some (.ref s), some (.ref r), some (.ref q), none, none] h1 = R.ok [.ref q] h1 from ev_cons (ev_var rfl) ev_nil]
    show enumF2 [.ref q] h1 = _
    unfold enumF2 enumF
    dsimp only
    rw [q1]
  unfold b_Rule_init
  refine es_seq (es_exp (ev_on (ev_cons (ev_var rfl) ev_nil) e1)) ?_
  refine es_seq (es_ifF (ev_orF (ev_not (v := true) (ev_val (ev_un (ev_var rfl) i1))) (ev_not (v := true) (ev_val (ev_chain ev_con (ev_on (ev_cons (ev_var rfl) ev_nil) (len_lst q1)) (le_T (by omega)) ev_con (le_T (by omega)))))) es_pass) ?_
  refine es_seq (es_for en e2) ?_
  refine es_seq (es_fld (ev_on (ev_cons (ev_var rfl) ev_nil) (tup r2)) (ev_var rfl) p1) ?_
  exact es_fld (ev_on (ev_cons (ev_var rfl) ev_nil) (tup q3)) (ev_var rfl) p2
/-- a rule in the heap -/
def RuleD (h : MH) (d : D) (l : List Str) (ls : List D) : Prop := ∃ s, d = .ref s ∧ h[s]? = some (.ins "Rule" [("own_names", .tup (l.map .str)), ("rows", .tup ls)])
theorem made {h : MH} {n r q : Nat} {l : List Str} {ls : List D} (en : h[n]? = some (.lst [.ref r, .ref q])) (er : h[r]? = some (.lst (l.map .str))) (eq : h[q]? = some (.lst ls)) (g : RegsOk l) (L : LinesD l ls) :
    ∃ s h', m_law_made [.ref n] h = .ok (.ref s) h' ∧ h.length ≤ s ∧ RuleD h' (.ref s) l ls ∧ GA h h' := by
  obtain ⟨h1, d1⟩ : ∃ x, x = h ++ [O.lst (l.map .str)] := ⟨_, rfl⟩
  obtain ⟨h2, d2⟩ : ∃ x, x = h1 ++ [O.lst ls] := ⟨_, rfl⟩
  obtain ⟨h3, d3⟩ : ∃ x, x = h2 ++ [O.ins "Rule" []] := ⟨_, rfl⟩
  have g1 : GA h h1 := by rw [d1]; exact GA.app
  have g2 : GA h1 h2 := by rw [d2]; exact GA.app
  have g3 : GA h2 h3 := by rw [d3]; exact GA.app
  have r1 : h1[h.length]? = some (.lst (l.map .str)) := by rw [d1]; simp
  have q2 : h2[h1.length]? = some (.lst ls) := by rw [d2]; simp
  have s3 : h3[h2.length]? = some (.ins "Rule" []) := by rw [d3]; simp
  obtain ⟨h4, e4, s4, g4⟩ := init_ok s3 ((g2.trans g3).2 _ _ r1) (g3.2 _ _ q2) g L
  refine ⟨h2.length, h4, ?_, by have := g1.1; have := g2.1; omega, ⟨_, rfl, s4⟩, ⟨Nat.le_trans ((g1.trans g2).trans g3).1 g4.1, fun m o e => g4.2 m o (by have := (List.getElem?_eq_some_iff.mp e).1; have := g1.1; have := g2.1; omega) (((g1.trans g2).trans g3).2 m o e)⟩⟩
  refine ef_rt rfl ?_
  unfold b_law_made
  have l1 : listF [.ref r] h = .ok (.ref h.length) h1 := by unfold listF seqOf; dsimp only; rw [er]; dsimp only; rw [d1]
  have l2 : listF [.ref q] h1 = .ok (.ref h1.length) h2 := by unfold listF seqOf; dsimp only; rw [g1.2 _ _ eq]; dsimp only; rw [d2]
  refine es_ret (ev_on (ev_cons (ev_on (ev_cons (ev_bin (ev_var rfl) ev_con (ix_lst (i := 0) (d := .ref r) en (by decide) rfl)) ev_nil) l1) (ev_cons (ev_on (ev_cons (ev_bin (ev_var rfl) ev_con (ix_lst (i := 1) (d := .ref q) (g1.2 _ _ en) (by decide) rfl)) ev_nil) l2) ev_nil)) ?_)
  unfold makeX
  rw [← d3, e4]
end ML

/-! lines that keep most changes -/
namespace ML
open PySem PySem.Spec PyProof.Rows L2

theorem fa0 {P : D → Prop} : ∀ d ∈ ([] : List D), P d := fun _ h => (nomatch h)
theorem fa1 {P : D → Prop} {x : D} {l : List D} (p : P x) (q : ∀ d ∈ l, P d) : ∀ d ∈ x :: l, P d := fun d h => by
  rcases List.mem_cons.mp h with z | z
  · rw [z]; exact p
  · exact q d z
theorem faA {P : D → Prop} {l m : List D} (p : ∀ d ∈ l, P d) (q : ∀ d ∈ m, P d) : ∀ d ∈ l ++ m, P d := fun d h => by
  rcases List.mem_append.mp h with z | z
  · exact p d z
  · exact q d z
theorem mkT {l : List Str} {a b : Str} {v : Bool} (p : LeftN l a) (q : SrcN l b) : TestD l (.tup [.str a, .str b, .bl v]) := ⟨a, b, v, rfl, p, q⟩
theorem mkS {l : List Str} {a b : Str} (p : TgtN l a) (q : SrcN l b) : StepD l (.tup [.str a, .str b]) := ⟨a, b, rfl, p, q⟩
theorem mkSs {l : List Str} {ss : List D} (h : ss.length ≤ 4) (p : ∀ d ∈ ss, StepD l d) : StepsD l (.tup ss) := ⟨ss, rfl, h, p⟩
theorem mkL1 {l : List Str} {b : Bool} {ts : List D} {s : D} (h : ts.length ≤ 4) (n : b = true → ts = []) (p : ∀ d ∈ ts, TestD l d) (q : StepsD l s) : LineD l b (.tup [.tup ts, s]) := ⟨ts, [s], rfl, h, n, p, .inl rfl, fa1 q fa0⟩
theorem mkL2 {l : List Str} {b : Bool} {ts : List D} {s u : D} (h : ts.length ≤ 4) (n : b = true → ts = []) (p : ∀ d ∈ ts, TestD l d) (q : StepsD l s) (q2 : StepsD l u) : LineD l b (.tup [.tup ts, s, u]) := ⟨ts, [s, u], rfl, h, n, p, .inr rfl, fa1 q (fa1 q2 fa0)⟩
theorem LineD.up {l : List Str} {b : Bool} {d : D} (p : LineD l b d) : LineD l false d := by
  obtain ⟨ts, st, e, h, _, p⟩ := p
  exact ⟨ts, st, e, h, fun z => (nomatch z), p⟩
theorem lh {l : List Str} : LeftN l "here" := .inl rfl
theorem ln {l : List Str} : LeftN l "new" := .inr (.inl rfl)
theorem th {l : List Str} : TgtN l "here" := .inl rfl
theorem sh {l : List Str} : SrcN l "here" := .inl rfl
theorem sn {l : List Str} : SrcN l "new" := .inr (.inl rfl)
theorem so {l : List Str} : SrcN l "nothing" := .inr (.inr (.inl rfl))
theorem LinesD.snoc {l : List Str} {ls : List D} {d : D} (h : ls.length ≤ 7) (p : ∀ d ∈ ls, LineD l false d) (q : LineD l true d) : LinesD l (ls ++ [d]) := ⟨by simp, by simp; omega, faA p (fa1 q.up fa0), fun x hx => by
  rw [List.getLast?_append] at hx
  simp at hx
  rw [← hx]
  exact q⟩
theorem eq_lnil {h : MH} {n m : Nat} {xs : List D} (e : h[n]? = some (.lst xs)) (f : h[m]? = some (.lst [])) : eqF (.ref n) (.ref m) h = .ok (.bl xs.isEmpty) h := by
  unfold eqF eqT eqTop isScal seqOf
  dsimp only
  rw [e, f]
  dsimp only
  rw [if_pos rfl]
  cases xs with
  | nil => rfl
  | cons x xs => rfl
theorem ne_lnil {h : MH} {n m : Nat} {xs : List D} (e : h[n]? = some (.lst xs)) (f : h[m]? = some (.lst [])) : neF (.ref n) (.ref m) h = .ok (.bl !xs.isEmpty) h := by
  unfold neF eqT eqTop isScal seqOf
  dsimp only
  rw [e, f]
  dsimp only
  rw [if_pos rfl]
  cases xs with
  | nil => rfl
  | cons x xs => rfl
theorem in_lst {h : MH} {n : Nat} {s : Str} {L : List Str} (e : h[n]? = some (.lst (L.map .str))) : inF (.str s) (.ref n) h = .ok (.bl (decide (s ∈ L))) h := by
  have ed : dctOf h (.ref n) = none := by unfold dctOf; dsimp only; rw [e]
  unfold inF inT
  dsimp only
  rw [ed]
  unfold memT seqOf
  dsimp only
  rw [e]
  dsimp only
  rw [any_strs]
  dsimp only
  have : (L.any fun y => scalEq (.str y) (.str s)) = decide (s ∈ L) := by
    by_cases c : s ∈ L
    · rw [any_mem c, decide_eq_true c]
    · rw [decide_eq_false c]
      cases z : L.any fun y => scalEq (.str y) (.str s) with
      | false => rfl
      | true =>
        obtain ⟨y, hy, q⟩ := List.any_eq_true.mp z
        rw [scal_str] at q
        exact absurd (of_decide_eq_true q ▸ hy) c
  rw [this]
theorem ne_str {a b : Str} {h : MH} : neF (.str a) (.str b) h = .ok (.bl (!decide (a = b))) h := by
  unfold neF eqT eqTop isScal
  dsimp only
  rw [scal_str]
theorem add_tup {l m : List D} {h : MH} (hl : l.length + m.length ≤ 1000000) : addF (.tup l) (.tup m) h = .ok (.tup (l ++ m)) h := by unfold addF; dsimp only; rw [if_pos hl]
/-- own lines so far, in the heap at n -/
theorem pushL {a : EM} {e : Env} {h : MH} {n : Nat} {ls : List D} {d : D} (v : e[3]? = some (some (.ref n))) (e1 : h[n]? = some (.lst ls)) (hl : ls.length ≤ 7) (p : a e h = .ok d h) : ∃ h', expS (bmE "list" appF (varE 3) (consA a nilA)) e h = .nx e h' ∧ h'[n]? = some (.lst (ls ++ [d])) ∧ h'.length = h.length ∧ ∀ m, m ≠ n → h'[m]? = h[m]? :=
  ⟨_, es_exp (ev_bm (ev_var v) (ty_lst e1) (ev_cons p ev_nil) (append_i e1 (by omega))), set_get e1, by simp, fun m hm => by rw [List.getElem?_set_ne (Ne.symm hm)]⟩
theorem SrcN.own {l : List Str} {s : Str} (h : s ∈ l) : SrcN l s := .inr (.inr (.inr h))
theorem LeftN.own {l : List Str} {s : Str} (h : s ∈ l) : LeftN l s := .inr (.inr h)
theorem TgtN.own {l : List Str} {s : Str} (h : s ∈ l) : TgtN l s := .inr h
theorem tup1 {a : EM} {e : Env} {h : MH} {x : D} (p : a e h = .ok x h) : onA tupF (consA a nilA) e h = .ok (.tup [x]) h := ev_on (ev_cons p ev_nil) (tup_new (by decide : 1 ≤ 1000000))
theorem tup2 {a b : EM} {e : Env} {h : MH} {x y : D} (p : a e h = .ok x h) (q : b e h = .ok y h) : onA tupF (consA a (consA b nilA)) e h = .ok (.tup [x, y]) h := ev_on (ev_cons p (ev_cons q ev_nil)) (tup_new (by decide : 2 ≤ 1000000))
theorem tup3 {a b c : EM} {e : Env} {h : MH} {x y z : D} (p : a e h = .ok x h) (q : b e h = .ok y h) (r : c e h = .ok z h) : onA tupF (consA a (consA b (consA c nilA))) e h = .ok (.tup [x, y, z]) h := ev_on (ev_cons p (ev_cons q (ev_cons r ev_nil))) (tup_new (by decide : 3 ≤ 1000000))
theorem tup0 {e : Env} {h : MH} : onA tupF nilA e h = .ok (.tup []) h := ev_on ev_nil (tup_new (by decide : 0 ≤ 1000000))
theorem isOwn_mem {l : List Str} {s : Str} (h : s ∈ l.filter isOwn) : s ∈ l := (List.mem_filter.mp h).1
theorem neg_i {a : Int} {h : MH} : negF (.int a) h = .ok (.int (-a)) h := rfl
theorem ix_last {h : MH} {n : Nat} {L : List Str} (e : h[n]? = some (.lst (L.map .str))) (hL : L ≠ []) : ∃ s ∈ L, ixF (.ref n) (.int (-1)) h = .ok (.str s) h := by
  have hl : 0 < L.length := List.length_pos_iff.mpr hL
  refine ⟨L[L.length - 1]'(by omega), List.getElem_mem _, ?_⟩
  have a : atI (L.map D.str) (-1) = some (.str (L[L.length - 1]'(by omega))) := by
    have i : ixN (L.map D.str).length (-1) = some (L.length - 1) := by
      unfold ixN
      rw [List.length_map]
      first
        | (rw [if_neg (by decide), if_pos (by omega)]; congr 1; omega)
        | (simp; omega)
    unfold atI
    rw [i]
    simp
  simp [ixF, seqOf, e, a]
theorem ix_first {h : MH} {n : Nat} {L : List Str} (e : h[n]? = some (.lst (L.map .str))) (hL : L ≠ []) : ∃ s ∈ L, ixF (.ref n) (.int 0) h = .ok (.str s) h := by
  cases L with
  | nil => exact absurd rfl hL
  | cons s L => exact ⟨s, List.mem_cons_self, ix_lst e (by decide) rfl⟩
/-- the lines of a rule in the heap -/
def LinL (h : MH) (k b : Nat) (d : D) (l : List Str) : Prop := ∃ n ls, d = .ref n ∧ n ≠ k ∧ b ≤ n ∧ h[n]? = some (.lst ls) ∧ LinesD l ls
theorem LinL.kg {h h' : MH} {k b : Nat} {d : D} {l : List Str} (p : LinL h k b d l) (g : KG k h h') : LinL h' k b d l := by
  obtain ⟨n, ls, e, hn, hb, e1, q⟩ := p
  exact ⟨n, ls, e, hn, hb, g.2 _ _ hn e1, q⟩
theorem good {h : MH} {k : Nat} {x : D} {l : List Str} (S : Src h k) (N : StrL h k x l) (hl : l.length ≤ 3) : ∃ d h', m_law_good [x] h = .ok d h' ∧ LinL h' k h.length d l ∧ Src h' k ∧ KG k h h' := by
  have hk := S.lt
  obtain ⟨r, rfl, rk, er⟩ := N
  have hr := (List.getElem?_eq_some_iff.mp er).1
  obtain ⟨n1, dn1⟩ : ∃ x, x = h.length := ⟨_, rfl⟩
  obtain ⟨h1, e1, own1, S1, k1⟩ := own_loop (k := k) (r := r) (n := h.length) (L := l) (e0 := [some (.ref r), none, none, none, none, none, none, none, none, none]) (by omega) (by omega) rk rfl l [] (h ++ [O.lst []]) S.app (by rw [List.getElem?_append_left hr]; exact er) (by simp) (by simp; omega)
  rw [List.nil_append] at own1
  have g1 : KG k h h1 := KX.kg (KG.app (t := [O.lst []])) (Nat.le_refl _) k1
  have er1 := g1.2 _ _ rk er
  have lc : lcE [9] (seqI (varE 0)) (gnm 9) ownT (varE 9) [some (.ref r), none, none, none, none, none, none, none, none, none] h = .ok (.ref h.length) h1 := by
    unfold lcE
    rw [ei_lst (ev_var rfl) er]
    exact e1
  rw [← dn1] at lc own1
  obtain ⟨own, down⟩ : ∃ x, x = l.filter isOwn := ⟨_, rfl⟩
  rw [← down] at own1
  have hown : ∀ s ∈ own, s ∈ l := fun s hs => isOwn_mem (down ▸ hs)
  obtain ⟨h2, d2⟩ : ∃ x, x = h1 ++ [O.lst []] := ⟨_, rfl⟩
  have g2 : KG k h1 h2 := by rw [d2]; exact KG.app
  have S2 : Src h2 k := by rw [d2]; exact S1.app
  have n1k : n1 ≠ k := by omega
  have own2 := g2.2 _ _ n1k own1
  have er2 := g2.2 _ _ rk er1
  have q0 : h2[h1.length]? = some (.lst []) := by rw [d2]; simp
  have c1 := eq_lnil own2 q0
  have ls0 : lstF [] h1 = .ok (.ref h1.length) h2 := by rw [d2]; exact lst_new (by decide : 0 ≤ 1000000)
  have gl1 := g1.1
  have gl2 := g2.1
  by_cases ho : own = []
  · rw [ho] at c1
    -- aside
    obtain ⟨A, a1, a2, a3⟩ : ∃ A : List D, ifE (valT (bin inF (conE (.str "beside")) (varE 0))) (onA tupF (consA (onA tupF (consA (conE (.str "beside")) (consA (conE (.str "here")) (nilA)))) (nilA))) (onA tupF (nilA)) [some (.ref r), some (.ref n1), none, none, none, none, none, none, none, none] h2 = .ok (.tup A) h2 ∧ A.length ≤ 1 ∧ ∀ d ∈ A, StepD l d := by
      by_cases c : ("beside" : Str) ∈ l
      · exact ⟨[.tup [.str "beside", .str "here"]], ev_ifT (ev_val (ev_bin ev_con (ev_var rfl) ((in_lst er2).trans (by rw [decide_eq_true c])))) (tup1 (tup2 ev_con ev_con)), by simp, fa1 (mkS (.own c) sh) fa0⟩
      · exact ⟨[], ev_ifF (ev_val (ev_bin ev_con (ev_var rfl) ((in_lst er2).trans (by rw [decide_eq_false c])))) tup0, by simp, fa0⟩
    obtain ⟨t1, dt1⟩ : ∃ x, x = D.tup [.tup [.tup [.str "here", .str "new", .bl true]], .tup []] := ⟨_, rfl⟩
    obtain ⟨t2, dt2⟩ : ∃ x, x = D.tup [.tup [.tup [.str "here", .str "nothing", .bl true]], .tup [.tup [.str "here", .str "new"]]] := ⟨_, rfl⟩
    obtain ⟨t3, dt3⟩ : ∃ x, x = D.tup [.tup [], .tup (A ++ [.tup [.str "here", .str "new"]]), .tup []] := ⟨_, rfl⟩
    have L1 : LineD l false t1 := by rw [dt1]; exact mkL1 (by simp) (fun z => (nomatch z)) (fa1 (mkT lh sn) fa0) (mkSs (by simp) fa0)
    have L2 : LineD l false t2 := by rw [dt2]; exact mkL1 (by simp) (fun z => (nomatch z)) (fa1 (mkT lh so) fa0) (mkSs (by simp) (fa1 (mkS th sn) fa0))
    have L3 : LineD l true t3 := by rw [dt3]; exact mkL2 (by simp) (fun _ => rfl) fa0 (mkSs (by simp; omega) (faA a3 (fa1 (mkS th sn) fa0))) (mkSs (by simp) fa0)
    obtain ⟨h3, d3⟩ : ∃ x, x = h2 ++ [O.lst [t1, t2]] := ⟨_, rfl⟩
    obtain ⟨h4, d4⟩ : ∃ x, x = h3 ++ [O.lst [t3]] := ⟨_, rfl⟩
    have g3 : KG k h2 h3 := by rw [d3]; exact KG.app
    have g4 : KG k h3 h4 := by rw [d4]; exact KG.app
    have l3 := g3.1
    have l4 := g4.1
    have q3 : h3[h2.length]? = some (.lst [t1, t2]) := by rw [d3]; simp
    have q4 : h4[h3.length]? = some (.lst [t3]) := by rw [d4]; simp
    have q3' := g4.2 _ _ (by omega) q3
    have S4 : Src h4 k := by rw [d4, d3]; exact (S2.app).app
    have e5 : addF (.ref h2.length) (.ref h3.length) h4 = .ok (.ref h4.length) (h4 ++ [.lst [t1, t2, t3]]) := by
      unfold addF lstOf
      dsimp only
      rw [q3', q4]
      rfl
    refine ⟨.ref h4.length, _, ?_, ⟨_, [t1, t2, t3], rfl, by omega, by omega, List.getElem?_concat_length, LinesD.snoc (ls := [t1, t2]) (by simp) (fa1 L1 (fa1 L2 fa0)) L3⟩, S4.app, (((g1.trans g2).trans g3).trans g4).trans KG.app⟩
    have new3 : lstF [D.tup [.tup [.tup [.str "here", .str "new", .bl true]], .tup []], D.tup [.tup [.tup [.str "here", .str "nothing", .bl true]], .tup [.tup [.str "here", .str "new"]]]] h2 = .ok (.ref h2.length) h3 := by
      rw [d3, dt1, dt2]
      exact lst_new (by simp)
    have new4 : lstF [D.tup [.tup [], .tup (A ++ [.tup [.str "here", .str "new"]]), .tup []]] h3 = .ok (.ref h3.length) h4 := by
      rw [d4, dt3]
      exact lst_new (by simp)
    refine ef_rt rfl ?_
    unfold b_law_good
    refine es_seq (es_set' lc rfl) ?_
    refine es_seqR (es_ifT (ev_val (ev_bin (ev_var rfl) (ev_on ev_nil ls0) c1)) ?_)
    refine es_seq (es_set' a1 rfl) ?_
    refine es_seq (es_set' (ev_on (ev_cons (tup2 (tup1 (tup3 ev_con ev_con ev_con)) tup0) (ev_cons (tup2 (tup1 (tup3 ev_con ev_con ev_con)) (tup1 (tup2 ev_con ev_con))) ev_nil)) new3) rfl) ?_
    exact es_ret (ev_bin (ev_var rfl) (ev_on (ev_cons (tup3 tup0 (ev_bin (ev_var rfl) (tup1 (tup2 ev_con ev_con)) (add_tup (by simp; omega))) tup0) ev_nil) new4) e5)
  · have c2 : own.isEmpty = false := by cases own with
      | nil => exact absurd rfl ho
      | cons => rfl
    have c1' : (List.map D.str own).isEmpty = false := by simpa using c2
    rw [c1'] at c1
    obtain ⟨was, hw, w1⟩ := ix_first own2 ho
    obtain ⟨plan, hp, p1⟩ := ix_last own2 ho
    have hw := hown _ hw
    have hp := hown _ hp
    obtain ⟨n, dn⟩ : ∃ x, x = h2.length := ⟨_, rfl⟩
    obtain ⟨h3, d3⟩ : ∃ x, x = h2 ++ [O.lst []] := ⟨_, rfl⟩
    have g3 : KG k h2 h3 := by rw [d3]; exact KG.app
    have S3 : Src h3 k := by rw [d3]; exact S2.app
    have q3 : h3[n]? = some (.lst []) := by rw [d3, dn]; simp
    have er3 := g3.2 _ _ rk er2
    have nk : n ≠ k := by omega
    have nr : r ≠ n := by omega
    obtain ⟨eG, deG⟩ : ∃ e : Option D → List D → List D → Env, e = fun m8 T B => [some (.ref r), some (.ref n1), none, some (.ref n), some (.str was), some (.str plan), some (.tup T), some (.tup B), m8, none] := ⟨_, rfl⟩
    have v0 : ∀ {m8 T B h}, varE 0 (eG m8 T B) h = .ok (.ref r) h := fun {m8 T B h} => by rw [deG]; rfl
    have v4 : ∀ {m8 T B h}, varE 4 (eG m8 T B) h = .ok (.str was) h := fun {m8 T B h} => by rw [deG]; rfl
    have v5 : ∀ {m8 T B h}, varE 5 (eG m8 T B) h = .ok (.str plan) h := fun {m8 T B h} => by rw [deG]; rfl
    have v6 : ∀ {m8 T B h}, varE 6 (eG m8 T B) h = .ok (.tup T) h := fun {m8 T B h} => by rw [deG]; rfl
    have v7 : ∀ {m8 T B h}, varE 7 (eG m8 T B) h = .ok (.tup B) h := fun {m8 T B h} => by rw [deG]; rfl
    have v8 : ∀ {y T B h}, varE 8 (eG (some y) T B) h = .ok y h := fun {y T B h} => by rw [deG]; rfl
    have v3 : ∀ {m8 T B}, (eG m8 T B)[3]? = some (some (.ref n)) := fun {m8 T B} => by rw [deG]; rfl
    have s8 : ∀ {m8 T B y}, (eG m8 T B).set 8 (some y) = eG (some y) T B := fun {m8 T B y} => by rw [deG]; rfl
    have s67 : ∀ {m8 T B T' B'}, ((eG m8 T B).set 6 (some (.tup T'))).set 7 (some (.tup B')) = eG m8 T' B' := fun {m8 T B T' B'} => by rw [deG]; rfl
    have nw : ∀ {e : Env} {h : MH}, varE 4 e h = .ok (.str was) h → onA tupF (consA (varE 4) (consA (conE (.str "new")) nilA)) e h = .ok (.tup [.str was, .str "new"]) h := fun p => tup2 p ev_con
    -- take, both
    have st1 : ∃ e, parS [6, 7, 3] (consA (onA tupF (consA (onA tupF (consA (conE (.str "here")) (consA (conE (.str "new")) (nilA)))) (consA (onA tupF (consA (varE 4) (consA (conE (.str "new")) (nilA)))) (nilA)))) (consA (onA tupF (consA (onA tupF (consA (varE 4) (consA (conE (.str "new")) (nilA)))) (nilA))) (consA (onA lstF (nilA)) (nilA)))) [some (.ref r), some (.ref n1), none, none, some (.str was), some (.str plan), none, none, none, none] h2 = .nx e h3 ∧ e = eG none [.tup [.str "here", .str "new"], .tup [.str was, .str "new"]] [.tup [.str was, .str "new"]] := by
      refine ⟨_, ?_, rfl⟩
      rw [deG, dn]
      unfold parS ofA
      have ls3 : lstF [] h2 = .ok (.ref h2.length) h3 := by rw [d3]; exact lst_new (by decide : 0 ≤ 1000000)
      have all : (consA (onA tupF (consA (onA tupF (consA (conE (.str "here")) (consA (conE (.str "new")) (nilA)))) (consA (onA tupF (consA (varE 4) (consA (conE (.str "new")) (nilA)))) (nilA)))) (consA (onA tupF (consA (onA tupF (consA (varE 4) (consA (conE (.str "new")) (nilA)))) (nilA))) (consA (onA lstF (nilA)) (nilA)))) [some (.ref r), some (.ref n1), none, none, some (.str was), some (.str plan), none, none, none, none] h2 = .ok [.tup [.tup [.str "here", .str "new"], .tup [.str was, .str "new"]], .tup [.tup [.str was, .str "new"]], .ref h2.length] h3 := ev_cons (tup2 (tup2 ev_con ev_con) (tup2 (ev_var rfl) ev_con)) (ev_cons (tup1 (tup2 (ev_var rfl) ev_con)) (ev_cons (ev_on ev_nil ls3) ev_nil))
      rw [all]
      rfl
    obtain ⟨_, st1, rfl⟩ := st1
    have TG : ∃ T B, ifS (valT (bin neF (varE 5) (varE 4))) (parS [6, 7] (consA (bin addF (onA tupF (consA (onA tupF (consA (varE 5) (consA (conE (.str "new")) (nilA)))) (nilA))) (varE 6)) (consA (onA tupF (consA (onA tupF (consA (varE 5) (consA (conE (.str "new")) (nilA)))) (consA (onA tupF (consA (varE 4) (consA (conE (.str "new")) (nilA)))) (nilA)))) (nilA)))) (passS) (eG none [.tup [.str "here", .str "new"], .tup [.str was, .str "new"]] [.tup [.str was, .str "new"]]) h3 = .nx (eG none T B) h3 ∧ T.length ≤ 3 ∧ B.length ≤ 3 ∧ (∀ d ∈ T, StepD l d) ∧ (∀ d ∈ B, StepD l d) := by
      by_cases c : plan = was
      · exact ⟨_, _, es_ifF (ev_val (ev_bin v5 v4 (ne_str.trans (by rw [decide_eq_true c]; rfl)))) es_pass, by simp, by simp, fa1 (mkS th sn) (fa1 (mkS (.own hw) sn) fa0), fa1 (mkS (.own hw) sn) fa0⟩
      · refine ⟨[.tup [.str plan, .str "new"], .tup [.str "here", .str "new"], .tup [.str was, .str "new"]], [.tup [.str plan, .str "new"], .tup [.str was, .str "new"]], es_ifT (ev_val (ev_bin v5 v4 (ne_str.trans (by rw [decide_eq_false c]; rfl)))) ?_, by simp, by simp, fa1 (mkS (.own hp) sn) (fa1 (mkS th sn) (fa1 (mkS (.own hw) sn) fa0)), fa1 (mkS (.own hp) sn) (fa1 (mkS (.own hw) sn) fa0)⟩
        rw [es_par2 (ev_cons (ev_bin (tup1 (tup2 v5 ev_con)) v6 (add_tup (by simp))) (ev_cons (tup2 (tup2 v5 ev_con) (tup2 v4 ev_con)) ev_nil)), s67]
        rfl
    obtain ⟨T, B, st2, T3, B3, TS, BS⟩ := TG
    -- elder
    have E3 : ∃ m8 ls h4, ifS (valT (bin inF (conE (.str "elder")) (varE 0))) (seqS (setS 8 (onA tupF (consA (onA tupF (consA (conE (.str "here")) (consA (conE (.str "nothing")) (consA (conE (.bl true)) (nilA))))) (consA (onA tupF (consA (conE (.str "elder")) (consA (varE 4) (consA (conE (.bl true)) (nilA))))) (nilA))))) (seqS (expS (bmE "list" appF (varE 3) (consA (onA tupF (consA (varE 8) (consA (onA tupF (consA (onA tupF (consA (conE (.str "here")) (consA (conE (.str "new")) (nilA)))) (consA (onA tupF (consA (varE 4) (consA (conE (.str "new")) (nilA)))) (consA (onA tupF (consA (conE (.str "elder")) (consA (conE (.str "nothing")) (nilA)))) (nilA))))) (nilA)))) (nilA)))) (seqS (setS 8 (onA tupF (consA (onA tupF (consA (conE (.str "here")) (consA (conE (.str "nothing")) (consA (conE (.bl true)) (nilA))))) (consA (onA tupF (consA (conE (.str "elder")) (consA (conE (.str "nothing")) (consA (conE (.bl false)) (nilA))))) (nilA))))) (expS (bmE "list" appF (varE 3) (consA (onA tupF (consA (varE 8) (consA (onA tupF (consA (onA tupF (consA (conE (.str "here")) (consA (conE (.str "elder")) (nilA)))) (consA (onA tupF (consA (conE (.str "elder")) (consA (conE (.str "nothing")) (nilA)))) (consA (onA tupF (consA (varE 4) (consA (conE (.str "new")) (nilA)))) (nilA))))) (nilA)))) (nilA))))))) (passS) (eG none T B) h3 = .nx (eG m8 T B) h4 ∧ h4[n]? = some (.lst ls) ∧ ls.length ≤ 2 ∧ (∀ d ∈ ls, LineD l false d) ∧ h4.length = h3.length ∧ ∀ m, m ≠ n → h4[m]? = h3[m]? := by
      by_cases c : ("elder" : Str) ∈ l
      · obtain ⟨h4, p4, q4, l4, k4⟩ := pushL (v3 (m8 := some (.tup [.tup [.str "here", .str "nothing", .bl true], .tup [.str "elder", .str was, .bl true]])) (T := T) (B := B)) q3 (by decide) (tup2 v8 (tup3 (tup2 ev_con ev_con) (tup2 v4 ev_con) (tup2 ev_con ev_con)))
        obtain ⟨h5, p5, q5, l5, k5⟩ := pushL (v3 (m8 := some (.tup [.tup [.str "here", .str "nothing", .bl true], .tup [.str "elder", .str "nothing", .bl false]])) (T := T) (B := B)) q4 (by simp) (tup2 v8 (tup3 (tup2 ev_con ev_con) (tup2 ev_con ev_con) (tup2 v4 ev_con)))
        refine ⟨_, _, h5, es_ifT (ev_val (ev_bin ev_con v0 ((in_lst er3).trans (by rw [decide_eq_true c])))) (es_seq (es_set' (tup2 (tup3 ev_con ev_con ev_con) (tup3 ev_con v4 ev_con)) s8) (es_seq p4 (es_seq (es_set' (tup2 (tup3 ev_con ev_con ev_con) (tup3 ev_con ev_con ev_con)) s8) p5))), q5, by simp, ?_, by rw [l5, l4], fun m hm => by rw [k5 m hm, k4 m hm]⟩
        exact faA (faA fa0 (fa1 (mkL1 (by simp) (fun z => (nomatch z)) (fa1 (mkT lh so) (fa1 (mkT (.own c) (.own hw)) fa0)) (mkSs (by simp) (fa1 (mkS th sn) (fa1 (mkS (.own hw) sn) (fa1 (mkS (.own c) so) fa0))))) fa0)) (fa1 (mkL1 (by simp) (fun z => (nomatch z)) (fa1 (mkT lh so) (fa1 (mkT (.own c) so) fa0)) (mkSs (by simp) (fa1 (mkS th (.own c)) (fa1 (mkS (.own c) so) (fa1 (mkS (.own hw) sn) fa0))))) fa0)
      · exact ⟨none, [], h3, es_ifF (ev_val (ev_bin ev_con v0 ((in_lst er3).trans (by rw [decide_eq_false c])))) es_pass, q3, by simp, fa0, rfl, fun _ _ => rfl⟩
    obtain ⟨m8, ls4, h4, st3, q4, l4, L4, n4, k4⟩ := E3
    obtain ⟨h5, st4, q5, n5, k5⟩ := pushL (v3 (m8 := m8) (T := T) (B := B)) q4 (by omega) (tup2 (tup1 (tup3 ev_con v4 ev_con)) v6)
    have L5 := faA L4 (fa1 (mkL1 (b := false) (by simp) (fun z => (nomatch z)) (fa1 (mkT (v := true) lh (.own hw)) fa0) (mkSs (by omega) TS)) fa0)
    obtain ⟨ls5, dl5⟩ : ∃ x, x = ls4 ++ [D.tup [.tup [.tup [.str "here", .str was, .bl true]], .tup T]] := ⟨_, rfl⟩
    rw [← dl5] at q5 L5
    have l5 : ls5.length ≤ 3 := by rw [dl5]; simp; omega
    have E5 : ∃ ls h6, ifS (valT (bin neF (varE 5) (varE 4))) (expS (bmE "list" appF (varE 3) (consA (onA tupF (consA (onA tupF (consA (onA tupF (consA (conE (.str "here")) (consA (varE 5) (consA (conE (.bl true)) (nilA))))) (nilA))) (consA (bin addF (onA tupF (consA (onA tupF (consA (varE 4) (consA (conE (.str "here")) (nilA)))) (nilA))) (varE 6)) (nilA)))) (nilA)))) (passS) (eG m8 T B) h5 = .nx (eG m8 T B) h6 ∧ h6[n]? = some (.lst ls) ∧ ls.length ≤ 4 ∧ (∀ d ∈ ls, LineD l false d) ∧ h6.length = h5.length ∧ ∀ m, m ≠ n → h6[m]? = h5[m]? := by
      by_cases c : plan = was
      · exact ⟨ls5, h5, es_ifF (ev_val (ev_bin v5 v4 (ne_str.trans (by rw [decide_eq_true c]; rfl)))) es_pass, q5, by omega, L5, rfl, fun _ _ => rfl⟩
      · obtain ⟨h6, p6, q6, l6, k6⟩ := pushL (v3 (m8 := m8) (T := T) (B := B)) q5 (by omega) (tup2 (tup1 (tup3 ev_con v5 ev_con)) (ev_bin (tup1 (tup2 v4 ev_con)) v6 (add_tup (by simp; omega))))
        exact ⟨_, h6, es_ifT (ev_val (ev_bin v5 v4 (ne_str.trans (by rw [decide_eq_false c]; rfl)))) p6, q6, by simp; omega, faA L5 (fa1 (mkL1 (by simp) (fun z => (nomatch z)) (fa1 (mkT lh (.own hp)) fa0) (mkSs (by simp; omega) (fa1 (mkS (.own hw) sh) TS))) fa0), l6, k6⟩
    obtain ⟨ls6, h6, st5, q6, l6, L6, n6, k6⟩ := E5
    obtain ⟨h7, st6, q7, n7, k7⟩ := pushL (v3 (m8 := m8) (T := T) (B := B)) q6 (by omega) (tup2 (tup1 (tup3 ev_con ev_con ev_con)) v7)
    have L7 := faA L6 (fa1 (mkL1 (b := false) (by simp) (fun z => (nomatch z)) (fa1 (mkT (v := true) lh sn) fa0) (mkSs (by omega) BS)) fa0)
    obtain ⟨ls7, dl7⟩ : ∃ x, x = ls6 ++ [D.tup [.tup [.tup [.str "here", .str "new", .bl true]], .tup B]] := ⟨_, rfl⟩
    rw [← dl7] at q7 L7
    have l7 : ls7.length ≤ 5 := by rw [dl7]; simp; omega
    obtain ⟨Z, z1, z2, z3⟩ : ∃ Z : List D, ifE (valT (bin neF (varE 5) (varE 4))) (onA tupF (consA (onA tupF (consA (varE 5) (consA (varE 4) (nilA)))) (nilA))) (onA tupF (nilA)) (eG m8 T B) h7 = .ok (.tup Z) h7 ∧ Z.length ≤ 1 ∧ ∀ d ∈ Z, StepD l d := by
      by_cases c : plan = was
      · exact ⟨[], ev_ifF (ev_val (ev_bin v5 v4 (ne_str.trans (by rw [decide_eq_true c]; rfl)))) tup0, by simp, fa0⟩
      · exact ⟨[.tup [.str plan, .str was]], ev_ifT (ev_val (ev_bin v5 v4 (ne_str.trans (by rw [decide_eq_false c]; rfl)))) (tup1 (tup2 v5 v4)), by simp, fa1 (mkS (.own hp) (.own hw)) fa0⟩
    obtain ⟨h8, st7, q8, n8, k8⟩ := pushL (v3 (m8 := m8) (T := T) (B := B)) q7 (by omega) (tup2 (tup1 (tup3 ev_con v4 ev_con)) z1)
    have L8 := faA L7 (fa1 (mkL1 (b := false) (by simp) (fun z => (nomatch z)) (fa1 (mkT (v := true) ln (.own hw)) fa0) (mkSs (by omega) z3)) fa0)
    obtain ⟨ls8, dl8⟩ : ∃ x, x = ls7 ++ [D.tup [.tup [.tup [.str "new", .str was, .bl true]], .tup Z]] := ⟨_, rfl⟩
    rw [← dl8] at q8 L8
    have l8 : ls8.length ≤ 6 := by rw [dl8]; simp; omega
    have er8 : h8[r]? = some (.lst (l.map .str)) := by rw [k8 r nr, k7 r nr, k6 r nr, k5 r nr, k4 r nr]; exact er3
    obtain ⟨W, w2, w3⟩ : ∃ W : D, ifE (valT (bin inF (conE (.str "beside")) (varE 0))) (onA tupF (consA (onA tupF (nilA)) (consA (bin addF (onA tupF (consA (onA tupF (consA (conE (.str "beside")) (consA (conE (.str "here")) (nilA)))) (nilA))) (varE 6)) (nilA)))) (onA tupF (consA (onA tupF (nilA)) (consA (varE 6) (consA (varE 7) (nilA))))) (eG m8 T B) h8 = .ok W h8 ∧ LineD l true W := by
      by_cases c : ("beside" : Str) ∈ l
      · exact ⟨_, ev_ifT (ev_val (ev_bin ev_con v0 ((in_lst er8).trans (by rw [decide_eq_true c])))) (tup2 tup0 (ev_bin (tup1 (tup2 ev_con ev_con)) v6 (add_tup (by simp; omega)))), mkL1 (by simp) (fun _ => rfl) fa0 (mkSs (by simp; omega) (fa1 (mkS (.own c) sh) TS))⟩
      · exact ⟨_, ev_ifF (ev_val (ev_bin ev_con v0 ((in_lst er8).trans (by rw [decide_eq_false c])))) (tup3 tup0 v6 v7), mkL2 (by simp) (fun _ => rfl) fa0 (mkSs (by omega) TS) (mkSs (by omega) BS)⟩
    obtain ⟨h9, st8, q9, n9, k9⟩ := pushL (v3 (m8 := m8) (T := T) (B := B)) q8 (by omega) w2
    have kk : ∀ m, m ≠ n → h9[m]? = h3[m]? := fun m hm => by rw [k9 m hm, k8 m hm, k7 m hm, k6 m hm, k5 m hm, k4 m hm]
    have gl3 := g3.1
    have kx : KX k n h3 h9 := ⟨by omega, fun m o h1 h2 e => by rw [kk m h2]; exact e⟩
    have S9 : Src h9 k := by
      obtain ⟨rr, mm, e, q⟩ := S3
      exact ⟨rr, mm, by rw [kk k (Ne.symm nk)]; exact e, q⟩
    refine ⟨.ref n, h9, ?_, ⟨n, _, rfl, nk, by omega, q9, LinesD.snoc (by omega) L8 w3⟩, S9, KX.kg ((g1.trans g2).trans g3) (by omega) kx⟩
    refine ef_rt rfl ?_
    unfold b_law_good
    refine es_seq (es_set' lc rfl) ?_
    refine es_seq (es_ifF (ev_val (ev_bin (ev_var rfl) (ev_on ev_nil ls0) c1)) es_pass) ?_
    refine es_seq (es_par2 (ev_cons (ev_bin (ev_var rfl) ev_con w1) (ev_cons (ev_bin (ev_var rfl) (ev_un ev_con neg_i) p1) ev_nil))) ?_
    refine es_seq st1 ?_
    refine es_seq st2 ?_
    refine es_seq st3 ?_
    refine es_seq st4 ?_
    refine es_seq st5 ?_
    refine es_seq st6 ?_
    refine es_seq st7 ?_
    refine es_seq st8 ?_
    rw [deG]
    exact es_ret (ev_var rfl)
end ML

/-! some lines with one thing changed -/
namespace ML
open PySem PySem.Spec PyProof.Rows L2

theorem eq_iT {a : Int} {h : MH} : eqF (.int a) (.int a) h = .ok (.bl true) h := by rw [eq_i]; unfold scalEq; simp
theorem eq_iF {a b : Int} {h : MH} (n : a ≠ b) : eqF (.int a) (.int b) h = .ok (.bl false) h := by rw [eq_i]; unfold scalEq; simp [n]
theorem cut_to {l : List D} {i : Nat} (hi : i ≤ l.length) : cutD l none (some (i : Int)) = l.take i := by
  unfold cutD
  rw [HT.sIx_nat, HT.sIx_none, Nat.min_eq_left hi]
  simp
theorem cut_from {l : List D} {i : Nat} (hi : i ≤ l.length) : cutD l (some (i : Int)) none = l.drop i := by
  unfold cutD
  rw [HT.sIx_nat, HT.sIx_none, Nat.min_eq_left hi]
  rw [List.take_of_length_le (by simp)]
theorem cut_last {l : List D} (hl : 0 < l.length) : cutD l none (some (-1)) = l.take (l.length - 1) := by
  unfold cutD
  rw [HT.sIx_none]
  have : HT.sIx l.length l.length (some (-1)) = l.length - 1 := by
    show (if (-1 : Int) < 0 then ((-1 : Int) + (l.length : Int)).toNat else min (-1 : Int).toNat l.length) = _
    rw [if_pos (by decide)]
    omega
  rw [this]
  simp
theorem slL {h : MH} {n : Nat} {l : List D} {lo hi : Option Int} (e : h[n]? = some (.lst l)) : slF (.ref n) lo hi h = .ok (.ref h.length) (h ++ [.lst (cutD l lo hi)]) := by
  unfold slF seqOf
  dsimp only
  rw [e]
theorem addL {h : MH} {n m : Nat} {A B : List D} (e : h[n]? = some (.lst A)) (f : h[m]? = some (.lst B)) (hl : A.length + B.length ≤ 1000) : addF (.ref n) (.ref m) h = .ok (.ref h.length) (h ++ [.lst (A ++ B)]) := by
  unfold addF lstOf
  dsimp only
  rw [e, f]
  dsimp only
  rw [if_pos (by omega)]
theorem gl {A B : List D} (h : B ≠ []) : (A ++ B).getLast? = B.getLast? := by
  rw [List.getLast?_append]
  cases q : B.getLast? with
  | none => rw [List.getLast?_eq_none_iff] at q; exact absurd q h
  | some y => rfl
theorem new0 {h h1 : MH} (d : h1 = h ++ [O.lst []]) : lstF [] h = .ok (.ref h.length) h1 := by rw [d]; exact lst_new (by decide : 0 ≤ 1000000)
theorem new1 {h h1 : MH} {w : D} (d : h1 = h ++ [O.lst [w]]) : lstF [w] h = .ok (.ref h.length) h1 := by rw [d]; exact lst_new (by simp)
theorem cut_mem {l : List D} {lo hi : Option Int} {d : D} (h : d ∈ cutD l lo hi) : d ∈ l := by
  unfold cutD at h
  exact List.mem_of_mem_drop (List.mem_of_mem_take h)
theorem cut_len {l : List D} {lo hi : Option Int} : (cutD l lo hi).length ≤ l.length := by
  unfold cutD
  rw [List.length_take, List.length_drop]
  omega
theorem LinesD.bend {l : List Str} {A C M : List D} {L : D} (p : LinesD l (A ++ L :: C)) (h0 : M ≠ []) (hM : ∀ d ∈ M, LineD l false d) (hL : C = [] → ∀ d, M.getLast? = some d → LineD l true d) (hl : A.length + M.length + C.length ≤ 8) : LinesD l (A ++ M ++ C) := by
  obtain ⟨p1, p2, p3, p4⟩ := p
  have hm : 0 < M.length := List.length_pos_iff.mpr h0
  refine ⟨by simp; omega, by simp; omega, faA (faA (fun d hd => p3 d (by simp [hd])) hM) (fun d hd => p3 d (by simp [hd])), fun d hd => ?_⟩
  cases C with
  | nil =>
    rw [List.append_nil, List.getLast?_append] at hd
    cases q : M.getLast? with
    | none => rw [List.getLast?_eq_none_iff] at q; exact absurd q h0
    | some y =>
      rw [q] at hd
      exact hL rfl d (by rw [q]; simpa using hd)
  | cons c C =>
    refine p4 d ?_
    rw [gl (by simp)] at hd
    rw [show A ++ L :: c :: C = (A ++ [L]) ++ (c :: C) by simp, gl (by simp)]
    exact hd
theorem LinesD.at {l : List Str} {A C : List D} {L : D} (p : LinesD l (A ++ L :: C)) : LineD l (decide (C = [])) L := by
  obtain ⟨p1, p2, p3, p4⟩ := p
  by_cases c : C = []
  · rw [decide_eq_true c]
    refine p4 L ?_
    rw [c, List.getLast?_append]
    simp
  · rw [decide_eq_false c]
    exact p3 L (by simp)
/-- front + [..] + rest -/
theorem cat3 {k b : Nat} {h h1 : MH} {e : Env} {as : AM} {third : EM} {f : Nat} {A M C : List D} (v5 : e[5]? = some (some (.ref f))) (ef : h[f]? = some (.lst A)) (fk : f ≠ k) (hb : b ≤ h.length) (kb : k < b) (hl : A.length + M.length + C.length ≤ 100) (p : as e h = .ok M h1) (g : KG k h h1) (S1 : Src h1 k)
    (q : ∀ h1, KG k h h1 → Src h1 k → ∃ c h2, third e h1 = .ok (.ref c) h2 ∧ c ≠ k ∧ h2[c]? = some (.lst C) ∧ Src h2 k ∧ KG k h1 h2) :
    ∃ n h', bin addF (bin addF (varE 5) (onA lstF as)) third e h = .ok (.ref n) h' ∧ n ≠ k ∧ b ≤ n ∧ h'[n]? = some (.lst (A ++ M ++ C)) ∧ Src h' k ∧ KG k h h' := by
  obtain ⟨h2, d2⟩ : ∃ x, x = h1 ++ [O.lst M] := ⟨_, rfl⟩
  have g2 : KG k h1 h2 := by rw [d2]; exact KG.app
  have S2 : Src h2 k := by rw [d2]; exact S1.app
  have q2 : h2[h1.length]? = some (.lst M) := by rw [d2]; simp
  have l1 := g.1
  have l2 := g2.1
  obtain ⟨h3, d3⟩ : ∃ x, x = h2 ++ [O.lst (A ++ M)] := ⟨_, rfl⟩
  have g3 : KG k h2 h3 := by rw [d3]; exact KG.app
  have S3 : Src h3 k := by rw [d3]; exact S2.app
  have q3 : h3[h2.length]? = some (.lst (A ++ M)) := by rw [d3]; simp
  have l3 := g3.1
  obtain ⟨c, h4, e4, ck, q4, S4, g4⟩ := q h3 ((g.trans g2).trans g3) S3
  have l4 := g4.1
  have q3' := g4.2 _ _ (by omega) q3
  refine ⟨h4.length, _, ?_, by omega, by omega, List.getElem?_concat_length, S4.app, (((g.trans g2).trans g3).trans g4).trans KG.app⟩
  exact ev_bin (ev_bin (ev_var v5) (ev_on p ((lst_new (by omega)).trans (by rw [← d2]))) ((addL ((g.trans g2).2 _ _ fk ef) q2 (by omega)).trans (by rw [← d3]))) e4 (addL q3' q4 (by simp; omega))
theorem bent {h : MH} {k b n : Nat} {x : D} {l : List Str} {ls : List D} (S : Src h k) (N : StrL h k x l) (hl : l.length ≤ 3) (kb : k < b) (hb : b ≤ n) (en : h[n]? = some (.lst ls)) (L : LinesD l ls) : ∃ d h', m_law_bent [.ref k, x, .ref n] h = .ok d h' ∧ LinL h' k b d l ∧ Src h' k ∧ KG k h h' := by
  obtain ⟨kind, h1, e1, kd0, kd1, S1, g1, _⟩ := draw2 (span := 8) S (by decide) (by decide)
  have nk : n ≠ k := by omega
  have en1 := g1.2 _ _ nk en
  have L0 := L.1
  have L8 := L.2.1
  obtain ⟨at_, h2, e2, at0, at1, S2, g2, _⟩ := draw2 (span := (ls.length : Int)) S1 (by omega) (by omega)
  have en2 := g2.2 _ _ nk en1
  obtain ⟨a, rfl⟩ : ∃ a : Nat, at_ = (a : Int) := ⟨at_.toNat, by omega⟩
  have ha : a < ls.length := by omega
  have nl := (List.getElem?_eq_some_iff.mp en2).1
  obtain ⟨A, dA⟩ : ∃ x, x = ls.take a := ⟨_, rfl⟩
  obtain ⟨C, dC⟩ : ∃ x, x = ls.drop (a + 1) := ⟨_, rfl⟩
  obtain ⟨M, dM⟩ : ∃ x, x = ls[a] := ⟨_, rfl⟩
  have split : ls = A ++ M :: C := by rw [dA, dM, dC, List.getElem_cons_drop, List.take_append_drop]
  have la : A.length = a := by rw [dA, List.length_take]; omega
  have len : A.length + 1 + C.length = ls.length := by rw [split]; simp; omega
  obtain ⟨h3, d3⟩ : ∃ x, x = h2 ++ [O.lst A] := ⟨_, rfl⟩
  have g3 : KG k h2 h3 := by rw [d3]; exact KG.app
  have S3 : Src h3 k := by rw [d3]; exact S2.app
  have qf : h3[h2.length]? = some (.lst A) := by rw [d3]; simp
  obtain ⟨h4, d4⟩ : ∃ x, x = h3 ++ [O.lst C] := ⟨_, rfl⟩
  have g4 : KG k h3 h4 := by rw [d4]; exact KG.app
  have S4 : Src h4 k := by rw [d4]; exact S3.app
  have qc : h4[h3.length]? = some (.lst C) := by rw [d4]; simp
  have l3 := g3.1
  have l4 := g4.1
  have qf4 := g4.2 _ _ (by omega) qf
  have en3 := g3.2 _ _ nk en2
  have en4 := g4.2 _ _ nk en3
  have g0 := ((g1.trans g2).trans g3).trans g4
  have N4 := N.kg g0
  have LM : LineD l (decide (C = [])) M := (split ▸ L : LinesD l (A ++ M :: C)).at
  have LS : LinesD l (A ++ M :: C) := split ▸ L
  obtain ⟨f, df⟩ : ∃ f, f = h2.length := ⟨_, rfl⟩
  obtain ⟨c, dc⟩ : ∃ c, c = h3.length := ⟨_, rfl⟩
  rw [← df] at qf qf4
  rw [← dc] at qc
  have fk : f ≠ k := by omega
  have ck : c ≠ k := by omega
  obtain ⟨e, de⟩ : ∃ e : Env, e = [some (.ref k), some x, some (.ref n), some (.int kind), some (.int (a : Int)), some (.ref f), some M, some (.ref c)] := ⟨_, rfl⟩
  have v0 : ∀ {h}, varE 0 e h = .ok (.ref k) h := fun {h} => by rw [de]; rfl
  have v1 : ∀ {h}, varE 1 e h = .ok x h := fun {h} => by rw [de]; rfl
  have v2 : ∀ {h}, varE 2 e h = .ok (.ref n) h := fun {h} => by rw [de]; rfl
  have v3 : ∀ {h}, varE 3 e h = .ok (.int kind) h := fun {h} => by rw [de]; rfl
  have v5 : ∀ {h}, varE 5 e h = .ok (.ref f) h := fun {h} => by rw [de]; rfl
  have v6 : ∀ {h}, varE 6 e h = .ok M h := fun {h} => by rw [de]; rfl
  have v7 : ∀ {h}, varE 7 e h = .ok (.ref c) h := fun {h} => by rw [de]; rfl
  have w5 : e[5]? = some (some (.ref f)) := by rw [de]; rfl
  have rest : ∀ {h1 : MH}, KG k h4 h1 → Src h1 k → ∃ c' h2, varE 7 e h1 = .ok (.ref c') h2 ∧ c' ≠ k ∧ h2[c']? = some (.lst C) ∧ Src h2 k ∧ KG k h1 h2 := fun {h1} g S => ⟨c, h1, v7, ck, g.2 _ _ ck qc, S, KG.refl⟩
  have start : ∀ {m : SM} {s : ML.S}, m e h4 = s → seqS (parS [3, 4] (consA (onA m_law_draw (consA (varE 0) (consA (conE (.int 8)) (nilA)))) (consA (onA m_law_draw (consA (varE 0) (consA (onA lenF (consA (varE 2) (nilA))) (nilA)))) (nilA)))) (seqS (parS [5, 6, 7] (consA (slE (varE 2) (noO) (someO (varE 4))) (consA (bin ixF (varE 2) (varE 4)) (consA (slE (varE 2) (someO (bin addF (varE 4) (conE (.int 1)))) (noO)) (nilA))))) m) [some (.ref k), some x, some (.ref n), none, none, none, none, none] h = s := fun {m s} p => by
    refine es_seq (es_par2 (ev_cons (ev_on (ev_cons (ev_var rfl) (ev_cons ev_con ev_nil)) e1) (ev_cons (ev_on (ev_cons (ev_var rfl) (ev_cons (ev_on (ev_cons (ev_var rfl) ev_nil) (len_lst en1)) ev_nil)) e2) ev_nil))) ?_
    refine es_seq (e1 := e) (h1 := h4) ?_ p
    have t1 : slF (.ref n) none (some (a : Int)) h2 = .ok (.ref f) h3 := by rw [slL en2, cut_to (by omega), ← dA, ← d3, df]
    have t2 : ixF (.ref n) (.int (a : Int)) h3 = .ok M h3 := ix_lst en3 (by omega) (by rw [Int.toNat_natCast, List.getElem?_eq_getElem ha, dM])
    have t3 : slF (.ref n) (some ((a : Int) + 1)) none h3 = .ok (.ref c) h4 := by
      rw [slL en3, show (a : Int) + 1 = ((a + 1 : Nat) : Int) by omega, cut_from (by omega), ← dC, ← d4, dc]
    unfold parS ofA
    rw [ev_cons (ev_sl (ev_var rfl) ev_noO (ev_someO (ev_var rfl)) t1) (ev_cons (ev_bin (ev_var rfl) (ev_var rfl) t2) (ev_cons (ev_sl (ev_var rfl) (ev_someO (ev_bin (ev_var rfl) ev_con add_i)) ev_noO t3) ev_nil))]
    rw [de]
    rfl
  have fin : ∀ {d : D} {h'} , b_law_bent [some (.ref k), some x, some (.ref n), none, none, none, none, none] h = .rt d h' → m_law_bent [.ref k, x, .ref n] h = .ok d h' := fun p => ef_rt rfl p
  have hb4 : b ≤ h4.length := by have := g1.1; have := g2.1; omega
  -- one line in the place of M
  have one : ∀ {a : EM} {M' : D}, (∀ {h}, a e h = .ok M' h) → (∀ b, LineD l b M → LineD l b M') → ∃ d h', bin addF (bin addF (varE 5) (onA lstF (consA a nilA))) (varE 7) e h4 = .ok d h' ∧ LinL h' k b d l ∧ Src h' k ∧ KG k h4 h' := fun {a M'} p q => by
    obtain ⟨m, h', e5, m1, m2, m3, S', g'⟩ := cat3 (C := C) w5 qf4 fk hb4 kb (by simp; omega) (ev_cons p ev_nil) KG.refl S4 (fun _ => rest)
    refine ⟨_, h', e5, ⟨m, _, rfl, m1, m2, m3, LS.bend (by simp) (fa1 (q _ LM).up fa0) (fun z d hd => ?_) (by simp; omega)⟩, S', g'⟩
    rw [decide_eq_true z] at LM
    simp at hd
    rw [← hd]
    exact q _ LM
  obtain ⟨ts, st, dMs, t4, tn, ht, s12, hs⟩ := LM
  obtain ⟨ss, st', ds1, ds2, ss4, hss, hst⟩ : ∃ ss st', st = .tup ss :: st' ∧ st'.length ≤ 1 ∧ ss.length ≤ 4 ∧ (∀ d ∈ ss, StepD l d) ∧ ∀ s ∈ st', StepsD l s := by
    cases st with
    | nil => rcases s12 with z | z <;> cases z
    | cons s st' =>
      obtain ⟨ss, rfl, a1, a2⟩ := hs s (by simp)
      exact ⟨ss, st', rfl, by simp only [List.length_cons] at s12; omega, a1, a2, fun s z => hs s (by simp [z])⟩
  subst ds1
  have i0 : ∀ {h}, bin ixF (varE 6) (conE (.int 0)) e h = .ok (.tup ts) h := fun {h} => ev_bin v6 ev_con (by rw [dMs]; exact ix_tup (by decide) rfl)
  have i1 : ∀ {h}, bin ixF (varE 6) (conE (.int 1)) e h = .ok (.tup ss) h := fun {h} => ev_bin v6 ev_con (by rw [dMs]; exact ix_tup (by decide) rfl)
  have i2 : ∀ {h}, slE (varE 6) (someO (conE (.int 2))) (noO) e h = .ok (.tup st') h := fun {h} => ev_sl v6 (ev_someO ev_con) ev_noO (by
    rw [dMs]
    unfold slF
    dsimp only
    rw [show (2 : Int) = ((2 : Nat) : Int) by rfl, cut_from (by simp)]
    rfl)
  have chg : ∀ {ss' : List D}, ss'.length ≤ 4 → (∀ d ∈ ss', StepD l d) → ∀ b, LineD l b M → LineD l b (.tup ([.tup ts, .tup ss'] ++ st')) := fun {ss'} p q b z => by
    obtain ⟨ts', st2, z1, z2, z3, z4, _⟩ := z
    rw [dMs] at z1
    cases z1
    refine ⟨ts, .tup ss' :: st', rfl, z2, z3, z4, by simp only [List.length_cons] at s12 ⊢; omega, ?_⟩
    exact fa1 (mkSs p q) hst
  by_cases k0 : kind = 0 ∧ C ≠ []
  · obtain ⟨rfl, hC⟩ := k0
    obtain ⟨c0, C', rfl⟩ : ∃ c0 C', C = c0 :: C' := by
      cases C with
      | nil => exact absurd rfl hC
      | cons c0 C' => exact ⟨c0, C', rfl⟩
    obtain ⟨h5, d5⟩ : ∃ x, x = h4 ++ [O.lst []] := ⟨_, rfl⟩
    have g5 : KG k h4 h5 := by rw [d5]; exact KG.app
    have q5 : h5[h4.length]? = some (.lst []) := by rw [d5]; simp
    have S5 : Src h5 k := by rw [d5]; exact S4.app
    have l5 := g5.1
    refine ⟨.ref h5.length, _, fin ?_, ⟨_, A ++ c0 :: C', rfl, by omega, by omega, List.getElem?_concat_length, ?_⟩, S5.app, (g0.trans g5).trans KG.app⟩
    · unfold b_law_bent
      refine start (es_seqR (es_ifT (ev_andT (ev_val (ev_bin v3 ev_con eq_iT)) (ev_val (ev_bin v7 (ev_on ev_nil (new0 d5)) (ne_lnil (g5.2 _ _ ck qc) q5)))) (es_ret (ev_bin v5 v7 (addL (g5.2 _ _ fk qf4) (g5.2 _ _ ck qc) (by simp only [List.length_cons] at *; omega)))))) 
    · obtain ⟨p1, p2, p3, p4⟩ := LS
      refine ⟨by simp; omega, by simp at p2 ⊢; omega, faA (fun d hd => p3 d (by simp [hd])) (fun d hd => p3 d (by simp only [List.mem_append, List.mem_cons] at hd ⊢; rcases hd with z | z <;> simp [z])), fun d hd => p4 d ?_⟩
      rw [gl (by simp)] at hd
      rw [show A ++ M :: c0 :: C' = (A ++ [M]) ++ (c0 :: C') by simp, gl (by simp)]
      exact hd
  have sk0 : ∃ h5, ifS (andT (valT (bin eqF (varE 3) (conE (.int 0)))) (valT (bin neF (varE 7) (onA lstF (nilA))))) (retS (bin addF (varE 5) (varE 7))) passS e h4 = .nx e h5 ∧ KG k h4 h5 ∧ Src h5 k := by
    by_cases z : kind = 0
    · have hC : C = [] := Decidable.byContradiction fun w => k0 ⟨z, w⟩
      obtain ⟨h5, d5⟩ : ∃ x, x = h4 ++ [O.lst []] := ⟨_, rfl⟩
      have g5 : KG k h4 h5 := by rw [d5]; exact KG.app
      have q5 : h5[h4.length]? = some (.lst []) := by rw [d5]; simp
      refine ⟨h5, es_ifF (ev_andT (ev_val (ev_bin v3 ev_con (by rw [z]; exact eq_iT))) (ev_val (ev_bin v7 (ev_on ev_nil (new0 d5)) ((ne_lnil (g5.2 _ _ ck qc) q5).trans (by rw [hC]; rfl))))) es_pass, g5, by rw [d5]; exact S4.app⟩
    · exact ⟨h4, es_ifF (ev_andF (ev_val (ev_bin v3 ev_con (eq_iF z)))) es_pass, KG.refl, S4⟩
  obtain ⟨h5, sk0, g5, S5⟩ := sk0
  have qf5 := g5.2 _ _ fk qf4
  have qc5 := g5.2 _ _ ck qc
  have en5 := g5.2 _ _ nk en4
  have N5 := N4.kg g5
  have l5 := g5.1
  have rest5 : ∀ {h1 : MH}, KG k h5 h1 → Src h1 k → ∃ c' h2, varE 7 e h1 = .ok (.ref c') h2 ∧ c' ≠ k ∧ h2[c']? = some (.lst C) ∧ Src h2 k ∧ KG k h1 h2 := fun {h1} g S => ⟨c, h1, v7, ck, g.2 _ _ ck qc5, S, KG.refl⟩
  have one5 : ∀ {a : EM} {M' : D}, (∀ {h}, a e h = .ok M' h) → (∀ b, LineD l b M → LineD l b M') → ∃ d h', bin addF (bin addF (varE 5) (onA lstF (consA a nilA))) (varE 7) e h5 = .ok d h' ∧ LinL h' k b d l ∧ Src h' k ∧ KG k h5 h' := fun {a M'} p q => by
    have LM : LineD l (decide (C = [])) M := LS.at
    obtain ⟨m, h', e5, m1, m2, m3, S', g'⟩ := cat3 (C := C) w5 qf5 fk (by omega) kb (by simp; omega) (ev_cons p ev_nil) KG.refl S5 (fun _ => rest5)
    refine ⟨_, h', e5, ⟨m, _, rfl, m1, m2, m3, LS.bend (by simp) (fa1 (q _ LM).up fa0) (fun z d hd => ?_) (by simp; omega)⟩, S', g'⟩
    rw [decide_eq_true z] at LM
    simp at hd
    rw [← hd]
    exact q _ LM
  have g05 := g0.trans g5
  have no : ∀ {c : Int} {m : SM} {h}, kind ≠ c → ifS (valT (bin eqF (varE 3) (conE (.int c)))) m passS e h = .nx e h := fun z => es_ifF (ev_val (ev_bin v3 ev_con (eq_iF z))) es_pass
  by_cases k1 : kind = 1
  · subst k1
    obtain ⟨d, h6, e6, L6, S6, g6⟩ := one5 (a := bin addF (onA tupF (consA (bin ixF (varE 6) (conE (.int 0))) (consA (revE (bin ixF (varE 6) (conE (.int 1)))) (nilA)))) (slE (varE 6) (someO (conE (.int 2))) (noO))) (M' := .tup ([.tup ts, .tup ss.reverse] ++ st')) (ev_bin (tup2 i0 (by unfold revE; rw [i1]; rfl)) i2 (add_tup (by simp; omega))) (chg (by simpa using ss4) (fun d hd => hss d (by simpa using hd)))
    refine ⟨d, h6, fin ?_, L6, S6, g05.trans g6⟩
    unfold b_law_bent
    exact start (es_seq sk0 (es_seqR (es_ifT (ev_val (ev_bin v3 ev_con eq_iT)) (es_ret e6))))
  by_cases k2 : kind = 2
  · subst k2
    obtain ⟨d, h6, e6, L6, S6, g6⟩ := one5 (a := bin addF (onA tupF (consA (bin ixF (varE 6) (conE (.int 0))) (consA (slE (bin ixF (varE 6) (conE (.int 1))) (someO (conE (.int 1))) (noO)) (nilA)))) (slE (varE 6) (someO (conE (.int 2))) (noO))) (M' := .tup ([.tup ts, .tup (cutD ss (some 1) none)] ++ st')) (ev_bin (tup2 i0 (ev_sl i1 (ev_someO ev_con) ev_noO rfl)) i2 (add_tup (by simp; omega))) (chg (Nat.le_trans cut_len ss4) (fun d hd => hss d (cut_mem hd)))
    refine ⟨d, h6, fin ?_, L6, S6, g05.trans g6⟩
    unfold b_law_bent
    exact start (es_seq sk0 (es_seq (no k1) (es_seqR (es_ifT (ev_val (ev_bin v3 ev_con eq_iT)) (es_ret e6)))))
  by_cases k3 : kind = 3 ∧ 1 < C.length
  · obtain ⟨rfl, hC⟩ := k3
    obtain ⟨c0, c1, C', rfl⟩ : ∃ c0 c1 C', C = c0 :: c1 :: C' := by
      match C, hC with
      | c0 :: c1 :: C', _ => exact ⟨c0, c1, C', rfl⟩
    have LM0 : LineD l false M := LS.at.up
    obtain ⟨m, h6, e6, m1, m2, m3, S6, g6⟩ := cat3 (C := c1 :: C') (M := [c0, M]) (third := slE (varE 7) (someO (conE (.int 1))) (noO)) (as := consA (bin ixF (varE 7) (conE (.int 0))) (consA (varE 6) (nilA))) w5 qf5 fk (by omega : b ≤ h5.length) kb (by simp only [List.length_cons, List.length_nil] at *; omega) (ev_cons (ev_bin v7 ev_con (ix_lst qc5 (by decide) rfl)) (ev_cons v6 ev_nil)) KG.refl S5 (fun h1 g S => by
      have q := g.2 _ _ ck qc5
      have := g.1
      refine ⟨h1.length, _, ev_sl v7 (ev_someO ev_con) ev_noO (slL q), by omega, List.getElem?_concat_length.trans ?_, S.app, KG.app⟩
      rw [show (1 : Int) = ((1 : Nat) : Int) by rfl, cut_from (by simp)]
      rfl)
    refine ⟨_, h6, fin ?_, ⟨m, _, rfl, m1, m2, m3, ?_⟩, S6, g05.trans g6⟩
    · unfold b_law_bent
      exact start (es_seq sk0 (es_seq (no k1) (es_seq (no k2) (es_seqR (es_ifT (ev_andT (ev_val (ev_bin v3 ev_con eq_iT)) (ev_val (ev_bin (ev_on (ev_cons v7 ev_nil) (len_lst qc5)) ev_con (gt_i.trans (by rw [decide_eq_true (by simp only [List.length_cons]; omega)]))))) (es_ret e6))))))
    · obtain ⟨p1, p2, p3, p4⟩ := LS
      refine ⟨by simp; omega, by simp at p2 ⊢; omega, faA (faA (fun d hd => p3 d (by simp [hd])) (fa1 (p3 c0 (by simp)) (fa1 LM0 fa0))) (fun d hd => p3 d (by simp only [List.mem_append, List.mem_cons] at hd ⊢; rcases hd with z | z <;> simp [z])), fun d hd => p4 d ?_⟩
      rw [gl (by simp)] at hd
      rw [show A ++ M :: c0 :: c1 :: C' = (A ++ [M, c0]) ++ (c1 :: C') by simp, gl (by simp)]
      exact hd
  have sk3 : ifS (andT (valT (bin eqF (varE 3) (conE (.int 3)))) (valT (bin gtF (onA lenF (consA (varE 7) (nilA))) (conE (.int 1))))) (retS (bin addF (bin addF (varE 5) (onA lstF (consA (bin ixF (varE 7) (conE (.int 0))) (consA (varE 6) (nilA))))) (slE (varE 7) (someO (conE (.int 1))) (noO)))) (passS) e h5 = .nx e h5 := by
    by_cases z : kind = 3
    · refine es_ifF (ev_andT (ev_val (ev_bin v3 ev_con (by rw [z]; exact eq_iT))) (ev_val (ev_bin (ev_on (ev_cons v7 ev_nil) (len_lst qc5)) ev_con (gt_F ?_)))) es_pass
      intro w
      exact k3 ⟨z, by omega⟩
    · exact es_ifF (ev_andF (ev_val (ev_bin v3 ev_con (eq_iF z)))) es_pass
  by_cases k4 : kind = 4 ∧ ls.length < 8
  · obtain ⟨rfl, h8⟩ := k4
    obtain ⟨w, h6, e6, W, S6, g6⟩ := row (last := false) S5 N5 hl
    obtain ⟨m, h7, e7, m1, m2, m3, S7, g7⟩ := cat3 (C := C) (M := [w, M]) (third := varE 7) (as := consA (onA m_law_row (consA (varE 0) (consA (varE 1) (consA (conE (.bl false)) (nilA))))) (consA (varE 6) (nilA))) w5 qf5 fk (by omega : b ≤ h5.length) kb (by simp; omega) (ev_cons (ev_on (ev_cons v0 (ev_cons v1 (ev_cons ev_con ev_nil))) e6) (ev_cons v6 ev_nil)) g6 S6 (fun h1 g S => rest5 g S)
    refine ⟨_, h7, fin ?_, ⟨m, _, rfl, m1, m2, m3, LS.bend (by simp) (fa1 W (fa1 LS.at.up fa0)) (fun z d hd => ?_) (by simp; omega)⟩, S7, g05.trans g7⟩
    · unfold b_law_bent
      exact start (es_seq sk0 (es_seq (no k1) (es_seq (no k2) (es_seq sk3 (es_seqR (es_ifT (ev_andT (ev_val (ev_bin v3 ev_con eq_iT)) (ev_val (ev_bin (ev_on (ev_cons v2 ev_nil) (len_lst en5)) ev_con (lt_T (by omega))))) (es_ret e7)))))))
    · have := LS.at
      rw [decide_eq_true z] at this
      simp at hd
      rw [← hd]
      exact this
  have sk4 : ifS (andT (valT (bin eqF (varE 3) (conE (.int 4)))) (valT (bin ltF (onA lenF (consA (varE 2) (nilA))) (conE (.int 8))))) (retS (bin addF (bin addF (varE 5) (onA lstF (consA (onA m_law_row (consA (varE 0) (consA (varE 1) (consA (conE (.bl false)) (nilA))))) (consA (varE 6) (nilA))))) (varE 7))) (passS) e h5 = .nx e h5 := by
    by_cases z : kind = 4
    · refine es_ifF (ev_andT (ev_val (ev_bin v3 ev_con (by rw [z]; exact eq_iT))) (ev_val (ev_bin (ev_on (ev_cons v2 ev_nil) (len_lst en5)) ev_con (lt_F ?_)))) es_pass
      intro w
      exact k4 ⟨z, by omega⟩
    · exact es_ifF (ev_andF (ev_val (ev_bin v3 ev_con (eq_iF z)))) es_pass
  by_cases k5 : kind = 5
  · subst k5
    obtain ⟨h6, d6⟩ : ∃ x, x = h5 ++ [O.lst (ls.take (ls.length - 1))] := ⟨_, rfl⟩
    have g6 : KG k h5 h6 := by rw [d6]; exact KG.app
    have S6 : Src h6 k := by rw [d6]; exact S5.app
    have q6 : h6[h5.length]? = some (.lst (ls.take (ls.length - 1))) := by rw [d6]; simp
    have l6 := g6.1
    obtain ⟨w, h7, e7, W, S7, g7⟩ := row (last := true) S6 (N5.kg g6) hl
    have l7 := g7.1
    obtain ⟨h8, d8⟩ : ∃ x, x = h7 ++ [O.lst [w]] := ⟨_, rfl⟩
    have g8 : KG k h7 h8 := by rw [d8]; exact KG.app
    have S8 : Src h8 k := by rw [d8]; exact S7.app
    have q8 : h8[h7.length]? = some (.lst [w]) := by rw [d8]; simp
    have l8 := g8.1
    have tl : (ls.take (ls.length - 1)).length = ls.length - 1 := by rw [List.length_take]; omega
    refine ⟨.ref h8.length, _, fin ?_, ⟨_, ls.take (ls.length - 1) ++ [w], rfl, by omega, by omega, List.getElem?_concat_length, LinesD.snoc (by omega) (fun d hd => L.2.2.1 d (List.mem_of_mem_take hd)) W⟩, S8.app, (((g05.trans g6).trans g7).trans g8).trans KG.app⟩
    unfold b_law_bent
    refine start (es_seq sk0 (es_seq (no k1) (es_seq (no k2) (es_seq sk3 (es_seq sk4 (es_seqR (es_ifT (ev_val (ev_bin v3 ev_con eq_iT)) (es_ret (ev_bin (ev_sl v2 ev_noO (ev_someO (ev_un ev_con neg_i)) ((slL en5).trans (by rw [cut_last (by omega), ← d6]))) (ev_on (ev_cons (ev_on (ev_cons v0 (ev_cons v1 (ev_cons ev_con ev_nil))) e7) ev_nil) (new1 d8)) (addL ((g7.trans g8).2 _ _ (by omega) q6) q8 (by simp; omega))))))))))) 
  by_cases k6 : kind = 6
  · subst k6
    obtain ⟨d, h6, e6, L6, S6, g6⟩ := one5 (a := onA tupF (consA (bin ixF (varE 6) (conE (.int 0))) (consA (bin ixF (varE 6) (conE (.int 1))) (consA (onA tupF (nilA)) (nilA))))) (M' := .tup [.tup ts, .tup ss, .tup []]) (tup3 i0 i1 tup0) (fun b z => by
      obtain ⟨ts', st2, z1, z2, z3, z4, _⟩ := z
      rw [dMs] at z1
      cases z1
      exact mkL2 z2 z3 z4 (mkSs ss4 hss) (mkSs (by decide) fa0))
    refine ⟨d, h6, fin ?_, L6, S6, g05.trans g6⟩
    unfold b_law_bent
    exact start (es_seq sk0 (es_seq (no k1) (es_seq (no k2) (es_seq sk3 (es_seq sk4 (es_seq (no k5) (es_seqR (es_ifT (ev_val (ev_bin v3 ev_con eq_iT)) (es_ret e6)))))))))
  refine ⟨.ref n, h5, fin ?_, ⟨n, ls, rfl, nk, hb, en5, L⟩, S5, g05⟩
  unfold b_law_bent
  exact start (es_seq sk0 (es_seq (no k1) (es_seq (no k2) (es_seq sk3 (es_seq sk4 (es_seq (no k5) (es_seq (no k6) (es_ret v2))))))))
end ML

/-! a drawn rule -/
namespace ML
open PySem PySem.Spec PyProof.Rows L2

def row_elt : EM := onA m_law_row (consA (varE 0) (consA (varE 2) (consA (bin eqF (varE 4) (varE 5)) (nilA))))
theorem rows_loop {k n m : Nat} {x : D} {l : List Str} {m1 m3 : Option D} (nk : n ≠ k) (hx : x ≠ .ref n) (hl : l.length ≤ 3) (hm : m ≤ 3) : ∀ (j i : Nat) (ls : List D) (h : MH), Src h k → StrL h k x l → h[n]? = some (.lst ls) → (∀ d ∈ ls, LineD l false d) → ls.length = i → i + j = m + 1 → 0 < j →
    ∃ h' ls', lcLoop [] (gnm 4) yesT row_elt n [some (.ref k), m1, some x, m3, none, some (.int (m : Nat))] ((List.range' i j).map fun (i : Nat) => D.int (0 + i)) h = .ok (.ref n) h' ∧ h'[n]? = some (.lst ls') ∧ LinesD l ls' ∧ Src h' k ∧ KX k n h h'
  | 0, i, ls, h, S, N, e, hs, hi, ij, hj => absurd hj (by decide)
  | j + 1, i, ls, h, S, N, e, hs, hi, ij, hj => by
    obtain ⟨d, h1, e1, W, S1, g1⟩ := row (last := decide (i = m)) S N hl
    have q1 := g1.2 _ _ nk e
    have w1 : row_elt ([some (.ref k), m1, some x, m3, none, some (.int (m : Nat))].set 4 (some (D.int (0 + (i : Nat))))) h = .ok d h1 := by
      unfold row_elt
      refine ev_on (ev_cons (ev_var rfl) (ev_cons (ev_var rfl) (ev_cons (ev_bin (ev_var rfl) (ev_var rfl) (eq_i.trans ?_)) ev_nil))) e1
      have : scalEq (.int (0 + (i : Nat))) (.int (m : Nat)) = decide (i = m) := by
        unfold scalEq
        by_cases c : i = m
        · simp [c]
        · have : ¬ (0 + (i : Int) = (m : Int)) := by omega
          rw [decide_eq_false c]
          simp [c]
          first | done | omega
      rw [this]
    obtain ⟨h2, d2⟩ : ∃ x, x = h1.set n (.lst (ls ++ [d])) := ⟨_, rfl⟩
    have k2 : KX k n h1 h2 := by rw [d2]; exact KX.set
    have S2 : Src h2 k := by rw [d2]; exact S1.other nk
    have q2 : h2[n]? = some (.lst (ls ++ [d])) := by rw [d2]; exact set_get q1
    have N2 := (N.kg g1).kx k2 hx
    have go : ∀ {r : R D}, lcLoop [] (gnm 4) yesT row_elt n [some (.ref k), m1, some x, m3, none, some (.int (m : Nat))] ((List.range' (i + 1) j).map fun (i : Nat) => D.int (0 + i)) h2 = r → lcLoop [] (gnm 4) yesT row_elt n [some (.ref k), m1, some x, m3, none, some (.int (m : Nat))] ((List.range' i (j + 1)).map fun (i : Nat) => D.int (0 + i)) h = r := fun {r} p => by
      rw [← p, List.range'_succ, List.map_cons]
      conv => lhs; unfold lcLoop
      rw [if_pos it_nil]
      have tg : gnm 4 (D.int (0 + (i : Nat))) [some (.ref k), m1, some x, m3, none, some (.int (m : Nat))] h = some ([some (.ref k), m1, some x, m3, none, some (.int (m : Nat))].set 4 (some (D.int (0 + (i : Nat))))) := rfl
      rw [tg]
      dsimp only [yesT]
      rw [w1]
      dsimp only
      rw [q1]
      dsimp only
      rw [if_pos (by omega), d2]
    by_cases c : i = m
    · have : j = 0 := by omega
      subst this
      rw [decide_eq_true c] at W
      refine ⟨h2, _, go ?_, q2, LinesD.snoc (by omega) hs W, S2, g1.kx.trans k2⟩
      show lcLoop _ _ _ _ _ _ [] h2 = _
      unfold lcLoop
      rw [if_pos it_nil]
    · obtain ⟨h', ls', e3, q3, L3, S3, k3⟩ := rows_loop (m1 := m1) (m3 := m3) nk hx hl hm j (i + 1) (ls ++ [d]) h2 S2 N2 q2 (faA hs (fa1 W.up fa0)) (by simp [hi]) (by omega) (by omega)
      exact ⟨h', ls', go e3, q3, L3, S3, (g1.kx.trans k2).trans k3⟩
def bent_body : SM := setS 3 (onA m_law_bent (consA (varE 0) (consA (varE 2) (consA (varE 3) (nilA)))))
theorem bent_loop {k b : Nat} {x : D} {l : List Str} {m1 : Option D} (hl : l.length ≤ 3) (kb : k < b) : ∀ (ds : List D) (d : D) (t m5 : Option D) (h : MH), Src h k → StrL h k x l → LinL h k b d l →
    ∃ d' t' h', loopS [] (gnm 4) bent_body ds [some (.ref k), m1, some x, some d, t, m5] h = .nx [some (.ref k), m1, some x, some d', t', m5] h' ∧ LinL h' k b d' l ∧ Src h' k ∧ KG k h h'
  | [], d, t, m5, h, S, N, L => ⟨d, t, h, loop_nil rfl, L, S, KG.refl⟩
  | c :: ds, d, t, m5, h, S, N, L => by
    obtain ⟨n, ls, rfl, nk, hb, en, LL⟩ := L
    obtain ⟨d1, h1, e1, L1, S1, g1⟩ := bent S N hl kb hb en LL
    obtain ⟨d', t', h', e2, L2, S2, g2⟩ := bent_loop (m1 := m1) hl kb ds d1 (some c) m5 h1 S1 (N.kg g1) L1
    refine ⟨d', t', h', ?_, L2, S2, g1.trans g2⟩
    rw [← e2]
    apply loop_cons rfl rfl
    unfold bent_body
    exact es_set' (ev_on (ev_cons (ev_var rfl) (ev_cons (ev_var rfl) (ev_cons (ev_var rfl) ev_nil))) e1) rfl
theorem rule {h : MH} {k : Nat} {most : Int} (S : Src h k) (m1 : 1 ≤ most) (m2 : most ≤ 3) : ∃ n r q l ls h', m_law_rule [.ref k, .int most] h = .ok (.ref n) h' ∧ h'[n]? = some (.lst [.ref r, .ref q]) ∧ h'[r]? = some (.lst (l.map .str)) ∧ h'[q]? = some (.lst ls) ∧ RegsOk l ∧ LinesD l ls ∧ (h.length ≤ r ∧ h.length ≤ q ∧ h.length ≤ n) ∧ Src h' k ∧ KG k h h' := by
  have hk := S.lt
  obtain ⟨_, h1, e1, ⟨r, l, rfl, rb, er, RO⟩, S1, g1⟩ := registers S m1 m2
  have N1 : StrL h1 k (.ref r) l := ⟨r, rfl, by omega, er⟩
  obtain ⟨d2, h2, e2, L2, S2, g2⟩ := good S1 N1 RO.1
  obtain ⟨v, h3, e3, v0, v1, S3, g3, _⟩ := draw2 (span := 3) S2 (by decide) (by decide)
  have N3 := (N1.kg g2).kg g3
  have kb : k < h1.length := S1.lt
  have st3 : ∃ d m5 t h4, ifS (valT (bin eqF (onA m_law_draw (consA (varE 0) (consA (conE (.int 3)) (nilA)))) (conE (.int 0)))) (seqS (setS 5 (onA m_law_draw (consA (varE 0) (consA (conE (.int 4)) (nilA))))) (setS 3 (lcE [4] (rng1I (consA (bin addF (varE 5) (conE (.int 1))) (nilA))) (gnm 4) (yesT) row_elt))) (passS) [some (.ref k), some (.int most), some (.ref r), some d2, none, none] h2 = .nx [some (.ref k), some (.int most), some (.ref r), some d, t, m5] h4 ∧ LinL h4 k h1.length d l ∧ Src h4 k ∧ KG k h3 h4 := by
    by_cases c : v = 0
    · subst c
      obtain ⟨m, h4, e4, mm0, mm1, S4, g4, _⟩ := draw2 (span := 4) S3 (by decide) (by decide)
      obtain ⟨m, rfl⟩ : ∃ a : Nat, m = (a : Int) := ⟨m.toNat, by omega⟩
      obtain ⟨h5, d5⟩ : ∃ x, x = h4 ++ [O.lst []] := ⟨_, rfl⟩
      have g5 : KG k h4 h5 := by rw [d5]; exact KG.app
      have S5 : Src h5 k := by rw [d5]; exact S4.app
      have q5 : h5[h4.length]? = some (.lst []) := by rw [d5]; simp
      have b2 := g2.1
      have b3 := g3.1
      have b4 := g4.1
      have N4 := N3.kg g4
      have rl : r < h4.length := by
        have := (List.getElem?_eq_some_iff.mp (((g2.trans g3).trans g4).2 _ _ (by omega) er)).1
        exact this
      obtain ⟨h6, ls', e6, q6, L6, S6, k6⟩ := rows_loop (m := m) (m1 := some (.int most)) (m3 := some d2) (by omega : h4.length ≠ k) (x := .ref r) (fun z => by cases z; omega) RO.1 (by omega) (m + 1) 0 [] h5 S5 (N4.kg g5) q5 fa0 rfl (by omega) (by omega)
      refine ⟨.ref h4.length, some (.int m), none, h6, ?_, ⟨_, ls', rfl, by omega, by omega, q6, L6⟩, S6, g4.trans (KX.kg g5 (Nat.le_refl _) k6)⟩
      refine es_ifT (ev_val (ev_bin (ev_on (ev_cons (ev_var rfl) (ev_cons ev_con ev_nil)) e3) ev_con eq_iT)) ?_
      refine es_seq (es_set' (ev_on (ev_cons (ev_var rfl) (ev_cons ev_con ev_nil)) e4) rfl) ?_
      refine es_set' (d := .ref h4.length) (h1 := h6) ?_ rfl
      unfold lcE
      rw [ei_rng (ev_cons (ev_bin (ev_var rfl) ev_con add_i) ev_nil) (by omega)]
      rw [d5] at e6
      have : rangeD 0 ((m : Int) + 1).toNat = (List.range' 0 (m + 1)).map fun (i : Nat) => D.int (0 + i) := by
        unfold rangeD
        rw [show ((m : Int) + 1).toNat = m + 1 by omega, List.range_eq_range']
      show lcLoop [] _ _ _ _ _ (rangeD 0 ((m : Int) + 1).toNat) _ = _
      rw [this]
      exact e6
    · exact ⟨d2, none, none, h3, es_ifF (ev_val (ev_bin (ev_on (ev_cons (ev_var rfl) (ev_cons ev_con ev_nil)) e3) ev_con (eq_iF c))) es_pass, L2.kg g3, S3, KG.refl⟩
  obtain ⟨d4, m5, t4, h4, st3, L4, S4, g4⟩ := st3
  obtain ⟨u, h5, e5, u0, u1, S5, g5, _⟩ := draw2 (span := 3) S4 (by decide) (by decide)
  have N5 := (N3.kg g4).kg g5
  obtain ⟨d6, t6, h6, e6, L6, S6, g6⟩ := bent_loop (m1 := some (.int most)) RO.1 kb (rangeD 0 u.toNat) d4 t4 m5 h5 S5 N5 (L4.kg g5)
  obtain ⟨q, ls, rfl, qk, qb, eq, LD⟩ := L6
  have N6 := N5.kg g6
  obtain ⟨_, er', _, er6⟩ := N6
  cases er'
  have b1 := g1.1
  have b2 := g2.1
  have b3 := g3.1
  have b4 := g4.1
  have b5 := g5.1
  have b6 := g6.1
  have a6 : KG k h6 (h6 ++ [O.lst [.ref r, .ref q]]) := KG.app
  refine ⟨h6.length, r, q, l, ls, h6 ++ [.lst [.ref r, .ref q]], ?_, by simp, a6.2 _ _ (by omega) er6, a6.2 _ _ qk eq, RO, LD, ⟨rb, by omega, by omega⟩, S6.app, (((((g1.trans g2).trans g3).trans g4).trans g5).trans g6).trans a6⟩
  refine ef_rt rfl ?_
  unfold b_law_rule
  refine es_seq (es_set' (ev_on (ev_cons (ev_var rfl) (ev_cons (ev_var rfl) ev_nil)) e1) rfl) ?_
  refine es_seq (es_set' (ev_on (ev_cons (ev_var rfl) ev_nil) e2) rfl) ?_
  refine es_seq st3 ?_
  refine es_seq (es_for (ei_rng (ev_cons (ev_on (ev_cons (ev_var rfl) (ev_cons ev_con ev_nil)) e5) ev_nil) (by omega)) e6) ?_
  exact es_ret (ev_on (ev_cons (ev_var rfl) (ev_cons (ev_var rfl) ev_nil)) (lst_new (by decide : 2 ≤ 1000000)))
end ML

namespace ML
open PySem PySem.Spec PyProof.Rows L2
/-! Mr: values that stand in a mirror heap, as trees; their texts -/
/-- what stands at d, as a tree: its references are all below b, and none is k -/
def rawP (k : Nat) (h : MH) : Nat → Nat → D → Option PyData
  | 0, _, _ => none
  | _ + 1, _, .non => some .none
  | _ + 1, _, .bl b => some (.bool b)
  | _ + 1, _, .int i => some (.int i)
  | _ + 1, _, .str x => some (.str x)
  | f + 1, b, .tup l => (match allO (rawP k h f b) l with
    | some ps => some (.tuple ps)
    | none => none)
  | f + 1, b, .ref n => if n < b ∧ n ≠ k then (match h[n]? with
    | some (.lst l) => (match allO (rawP k h f n) l with
      | some ps => some (.list ps)
      | none => none)
    | some (.dct kvs) => (match kvO (rawP k h f n) kvs with
      | some ps => some (.dict ps)
      | none => none)
    | _ => none) else none
  | _ + 1, _, _ => none
theorem allO_mono {F G : D → Option PyData} : ∀ {l : List D} {ps : List PyData}, allO F l = some ps → (∀ d ∈ l, ∀ p, F d = some p → G d = some p) → allO G l = some ps
  | [], _, e, _ => e
  | d :: l, ps, e, hm => by
    unfold allO at e ⊢
    split at e
    · rename_i p hp
      split at e
      · rename_i qs hq
        cases e
        rw [hm d List.mem_cons_self p hp, allO_mono hq (fun x hx => hm x (List.mem_cons_of_mem _ hx))]
      · cases e
    · cases e
theorem kvO_mono {F G : D → Option PyData} : ∀ {l : List (Key × D)} {ps : List (PyData × PyData)}, kvO F l = some ps → (∀ d ∈ l, ∀ p, F d.2 = some p → G d.2 = some p) → kvO G l = some ps
  | [], _, e, _ => e
  | (y, d) :: l, ps, e, hm => by
    unfold kvO at e ⊢
    split at e
    · rename_i p hp
      split at e
      · rename_i qs hq
        cases e
        rw [hm (y, d) List.mem_cons_self p hp, kvO_mono hq (fun x hx => hm x (List.mem_cons_of_mem _ hx))]
      · cases e
    · cases e
theorem raw_mono {k : Nat} {h h' : MH} : ∀ (f f' b b' : Nat) (d : D) (p : PyData), f ≤ f' → b ≤ b' → (∀ (n : Nat) o, n < b → n ≠ k → h[n]? = some o → h'[n]? = some o) → rawP k h f b d = some p → rawP k h' f' b' d = some p
  | 0, _, _, _, _, _, _, _, _, e => by cases e
  | f + 1, 0, _, _, _, _, hf, _, _, _ => by omega
  | f + 1, f' + 1, b, b', d, p, hf, hb, hk, e => by
    cases d with
    | non => exact e
    | bl _ => exact e
    | int _ => exact e
    | str _ => exact e
    | ty _ => cases e
    | glb _ => cases e
    | tup l =>
      unfold rawP at e ⊢
      split at e
      · rename_i ps hp
        rw [allO_mono hp (fun d _ p q => raw_mono f f' b b' d p (by omega) hb hk q)]
        exact e
      · cases e
    | ref n =>
      unfold rawP at e ⊢
      split at e
      · rename_i c
        rw [if_pos ⟨by omega, c.2⟩]
        cases z : h[n]? with
        | none => rw [z] at e; cases e
        | some o =>
          rw [z] at e
          rw [hk n o c.1 c.2 z]
          cases o with
          | lst l =>
            dsimp only at e ⊢
            split at e
            · rename_i ps hp
              rw [allO_mono hp (fun d _ p q => raw_mono f f' n n d p (by omega) (Nat.le_refl _) (fun m o hm => hk m o (by omega)) q)]
              exact e
            · cases e
          | dct kvs =>
            dsimp only at e ⊢
            split at e
            · rename_i ps hp
              rw [kvO_mono hp (fun d _ p q => raw_mono f f' n n d.2 p (by omega) (Nat.le_refl _) (fun m o hm => hk m o (by omega)) q)]
              exact e
            · cases e
          | _ => cases e
      · cases e
theorem listText_le : ∀ ts : List Str, (listText ts).length ≤ piled ts + 2
  | [] => by decide +kernel
  | t :: ts => by
    have e1 : listText (t :: ts) = textFrom 1 (("[" : Str) ++ t) ts ++ "]" := rfl
    have e2 : ((("]" : String) : Str)).length = 1 := rfl
    have e3 : ((("[" : String) : Str)).length = 1 := rfl
    rw [e1, strLen_append, textFrom_length_pos ts 1 _ (by decide), strLen_append, piled_cons, e2, e3]
    omega
theorem join_le (ts : List Str) : (Str.join ", " ts).length ≤ piled ts := by
  cases ts with
  | nil => decide +kernel
  | cons t ts =>
    have := join_length_add (t :: ts) (by simp)
    omega
theorem tupleText_le (ts : List Str) : (tupleText ts).length ≤ piled ts + 3 := by
  unfold tupleText
  rw [strLen_append, strLen_append]
  have e1 : ((("(" : String) : Str)).length = 1 := rfl
  have e2 : ((if (ts.length == 1) = true then (",)" : String) else ")" : String) : Str).length ≤ 2 := by split <;> decide +kernel
  have := join_le ts
  omega
theorem dictText_le (ts : List Str) : (dictText ts).length ≤ piled ts + 2 := by
  unfold dictText
  rw [strLen_append, strLen_append]
  have e1 : ((("{" : String) : Str)).length = 1 := rfl
  have e2 : ((("}" : String) : Str)).length = 1 := rfl
  have := join_le ts
  omega
theorem piled_mem {t : Str} : ∀ {ts : List Str}, t ∈ ts → t.length ≤ piled ts
  | [], h => (nomatch h)
  | u :: ts, h => by
    rw [piled_cons]
    rcases List.mem_cons.mp h with z | z
    · subst z; omega
    · have := piled_mem z; omega
theorem shownAll_map : ∀ ps : List PyData, PyData.shownAll ps = ps.map PyData.shown
  | [] => by simp only [PyData.shownAll, List.map_nil]
  | p :: ps => by simp only [PyData.shownAll, List.map_cons, shownAll_map ps]
theorem showableAll_iff : ∀ ps : List PyData, PyData.showableAll ps = true ↔ ∀ p ∈ ps, p.showable = true
  | [] => by simp [PyData.showableAll]
  | p :: ps => by
    simp only [PyData.showableAll, Bool.and_eq_true, List.forall_mem_cons]
    rw [showableAll_iff ps]
theorem depthAll_le : ∀ (ps : List PyData) (n : Nat), PyData.depthAll ps ≤ n ↔ ∀ p ∈ ps, p.depth ≤ n
  | [], n => by simp [PyData.depthAll]
  | p :: ps, n => by
    simp only [PyData.depthAll, List.forall_mem_cons]
    rw [← depthAll_le ps n]
    omega
theorem piled_le {m c : Nat} : ∀ (ts : List Str), (∀ t ∈ ts, t.length ≤ c) → ts.length ≤ m → piled ts ≤ m * (c + 2)
  | [], _, _ => by rw [piled_nil]; omega
  | t :: ts, h, hl => by
    cases m with
    | zero => simp at hl
    | succ m =>
      have := piled_le (m := m) ts (fun u hu => h u (List.mem_cons_of_mem _ hu)) (by simpa using hl)
      have := h t List.mem_cons_self
      rw [piled_cons, Nat.succ_mul]
      omega
/-- what repr needs of a tree -/
def Ok3 (p : PyData) : Prop := p.showable = true ∧ p.shown.length ≤ 1000000 ∧ p.depth ≤ 40
theorem Ok3.small {p : PyData} (h : Ok3 p) : small p = some p := by
  unfold ML.small
  exact if_pos h
theorem ok3_all {ps : List PyData} (s : PyData.showableAll ps = true) (l : piled (PyData.shownAll ps) ≤ 1000000) (d : PyData.depthAll ps ≤ 40) : ∀ p ∈ ps, Ok3 p := fun p hp => by
  refine ⟨(showableAll_iff ps).mp s p hp, ?_, (depthAll_le ps 40).mp d p hp⟩
  rw [shownAll_map] at l
  exact Nat.le_trans (piled_mem (List.mem_map.mpr ⟨p, hp, rfl⟩)) l
theorem allO_to {F G : D → Option PyData} : ∀ {l : List D} {ps : List PyData}, allO F l = some ps → (∀ p ∈ ps, Ok3 p) → (∀ d ∈ l, ∀ p, F d = some p → Ok3 p → G d = some p) → allO G l = some ps
  | [], _, e, _, _ => e
  | d :: l, ps, e, ho, hm => by
    unfold allO at e ⊢
    split at e
    · rename_i p hp
      split at e
      · rename_i qs hq
        cases e
        rw [hm d List.mem_cons_self p hp (ho p List.mem_cons_self), allO_to hq (fun x hx => ho x (List.mem_cons_of_mem _ hx)) (fun x hx => hm x (List.mem_cons_of_mem _ hx))]
      · cases e
    · cases e
theorem kvO_to {F G : D → Option PyData} : ∀ {l : List (Key × D)} {ps : List (PyData × PyData)}, kvO F l = some ps → (∀ p ∈ ps, Ok3 p.2) → (∀ d ∈ l, ∀ p, F d.2 = some p → Ok3 p → G d.2 = some p) → kvO G l = some ps
  | [], _, e, _, _ => e
  | (y, d) :: l, ps, e, ho, hm => by
    unfold kvO at e ⊢
    split at e
    · rename_i p hp
      split at e
      · rename_i qs hq
        cases e
        rw [hm (y, d) List.mem_cons_self p hp (ho (keyP y, p) List.mem_cons_self), kvO_to hq (fun x hx => ho x (List.mem_cons_of_mem _ hx)) (fun x hx => hm x (List.mem_cons_of_mem _ hx))]
      · cases e
    · cases e
theorem kv_ok3 : ∀ {ps : List (PyData × PyData)}, PyData.showableKv ps = true → piled (PyData.shownKv ps) ≤ 1000000 → PyData.depthKv ps ≤ 40 → ∀ p ∈ ps, Ok3 p.1 ∧ Ok3 p.2
  | [], _, _, _, _, h => (nomatch h)
  | (a, b) :: ps, s, l, d, p, h => by
    simp only [PyData.showableKv, Bool.and_eq_true] at s
    simp only [PyData.shownKv, piled_cons, strLen_append] at l
    simp only [PyData.depthKv] at d
    rcases List.mem_cons.mp h with z | z
    · subst z
      exact ⟨⟨s.1.1, by dsimp only; omega, by dsimp only; omega⟩, ⟨s.1.2, by dsimp only; omega, by dsimp only; omega⟩⟩
    · exact kv_ok3 s.2 (by omega) (by omega) p z
theorem raw_to {k : Nat} {h : MH} : ∀ (f b : Nat) (d : D) (p : PyData), rawP k h f b d = some p → Ok3 p → toP h f d = some p
  | 0, _, _, _, e, _ => by cases e
  | f + 1, b, d, p, e, o => by
    cases d with
    | non => exact e
    | bl _ => exact e
    | int _ => cases e; exact o.small
    | str _ => cases e; exact o.small
    | ty _ => cases e
    | glb _ => cases e
    | tup l =>
      unfold rawP at e
      unfold toP
      split at e
      · rename_i ps hp
        cases e
        obtain ⟨o1, o2, o3⟩ := id o
        simp only [PyData.showable] at o1
        simp only [PyData.shown] at o2
        simp only [PyData.depth] at o3
        have ok := ok3_all o1 (Nat.le_trans (piled_le_tupleText _) o2) (by omega)
        rw [allO_to hp ok (fun d _ p q r => raw_to f b d p q r)]
        exact o.small
      · cases e
    | ref n =>
      unfold rawP at e
      unfold toP
      split at e
      · rename_i c
        split at e
        · rename_i l hl
          split at e
          · rename_i ps hp
            cases e
            obtain ⟨o1, o2, o3⟩ := id o
            simp only [PyData.showable] at o1
            simp only [PyData.shown] at o2
            simp only [PyData.depth] at o3
            have ok := ok3_all o1 (Nat.le_trans (piled_le_listText _) o2) (by omega)
            try simp only [hl]
            rw [allO_to hp ok (fun d _ p q r => raw_to f n d p q r)]
            exact o.small
          · cases e
        · rename_i kvs hl
          split at e
          · rename_i ps hp
            cases e
            obtain ⟨o1, o2, o3⟩ := id o
            simp only [PyData.showable] at o1
            simp only [PyData.shown] at o2
            simp only [PyData.depth] at o3
            have ok := kv_ok3 o1 (Nat.le_trans (piled_le_dictText _) o2) (by omega)
            try simp only [hl]
            rw [kvO_to hp (fun p hp => (ok p hp).2) (fun d _ p q r => raw_to f n d.2 p q r)]
            dsimp only
            rw [if_pos (List.all_eq_true.mpr fun p hp => by rw [(ok p hp).1.small]; rfl)]
            exact o.small
          · cases e
        · cases e
      · cases e
end ML

namespace ML
open PySem PySem.Spec PyProof.Rows L2
/-! Ms: values with a short text -/
def V (k b : Nat) (h : MH) (f c : Nat) (d : D) : Prop := ∃ p, rawP k h f b d = some p ∧ p.showable = true ∧ p.shown.length ≤ c ∧ p.depth ≤ f
theorem V.up {k b b' f f' c c' : Nat} {h h' : MH} {d : D} (v : V k b h f c d) (hf : f ≤ f') (hc : c ≤ c') (hb : b ≤ b') (hk : ∀ (n : Nat) o, n < b → n ≠ k → h[n]? = some o → h'[n]? = some o) : V k b' h' f' c' d := by
  obtain ⟨p, e, s, l, dp⟩ := v
  exact ⟨p, raw_mono f f' b b' d p hf hb hk e, s, by omega, by omega⟩
theorem V.ga {k b f c : Nat} {h h' : MH} {d : D} (v : V k b h f c d) (g : GA h h') : V k b h' f c d := v.up (Nat.le_refl _) (Nat.le_refl _) (Nat.le_refl _) (fun n o _ _ e => g.2 n o e)
theorem V.kg {k b f c : Nat} {h h' : MH} {d : D} (v : V k b h f c d) (g : KG k h h') : V k b h' f c d := v.up (Nat.le_refl _) (Nat.le_refl _) (Nat.le_refl _) (fun n o _ hn e => g.2 n o hn e)
theorem V.le {k b b' f f' c c' : Nat} {h : MH} {d : D} (v : V k b h f c d) (hf : f ≤ f') (hc : c ≤ c') (hb : b ≤ b') : V k b' h f' c' d := v.up hf hc hb fun _ _ _ _ e => e
theorem V.gal {k b f c : Nat} {h h' : MH} {d : D} (v : V k b h f c d) (g : GA h h') (hb : b ≤ h'.length) : V k h'.length h' f c d := (v.ga g).le (Nat.le_refl _) (Nat.le_refl _) hb
section
variable {k b f c : Nat} {h : MH}
theorem V.non (hf : 1 ≤ f) (hc : 100 ≤ c) : V k b h f c .non := by
  obtain ⟨f, rfl⟩ : ∃ j, f = j + 1 := ⟨f - 1, by omega⟩
  exact ⟨.none, rfl, by simp only [PyData.showable], Nat.le_trans (by decide +kernel : PyData.none.shown.length ≤ 100) hc, by simp only [PyData.depth]; omega⟩
theorem V.bl {x : Bool} (hf : 1 ≤ f) (hc : 100 ≤ c) : V k b h f c (.bl x) := by
  obtain ⟨f, rfl⟩ : ∃ j, f = j + 1 := ⟨f - 1, by omega⟩
  exact ⟨.bool x, rfl, by simp only [PyData.showable], Nat.le_trans (by cases x <;> decide +kernel : (PyData.bool x).shown.length ≤ 100) hc, by simp only [PyData.depth]; omega⟩
theorem int_small : ∀ i : Nat, i < 64 → (PyData.int (i : Nat)).showable = true ∧ (PyData.int (i : Nat)).shown.length ≤ 100 := by
  have e : ((List.range 64).all fun i => (PyData.int (i : Nat)).showable && decide ((PyData.int (i : Nat)).shown.length ≤ 100)) = true := by decide +kernel
  intro i hi
  have := List.all_eq_true.mp e i (List.mem_range.mpr hi)
  simpa only [Bool.and_eq_true, decide_eq_true_eq] using this
theorem V.nat {i : Nat} (hf : 1 ≤ f) (hc : 100 ≤ c) (hi : i < 64) : V k b h f c (.int (i : Nat)) := by
  obtain ⟨f, rfl⟩ : ∃ j, f = j + 1 := ⟨f - 1, by omega⟩
  obtain ⟨s, l⟩ := int_small i hi
  exact ⟨.int (i : Nat), rfl, s, Nat.le_trans l hc, by simp only [PyData.depth]; omega⟩
theorem V.str {s : Str} (hf : 1 ≤ f) (hc : 100 ≤ c) (hs : s.length ≤ 9) (ha : ∀ x ∈ s.cps.toList, x < 128) : V k b h f c (.str s) := by
  obtain ⟨f, rfl⟩ : ∃ j, f = j + 1 := ⟨f - 1, by omega⟩
  refine ⟨.str s, rfl, by simp only [PyData.showable], ?_, by simp only [PyData.depth]; omega⟩
  have := StrLaws.reprText_len s (fun x hx => Nat.lt_trans (ha x hx) (by decide))
  simp only [PyData.shown]
  omega
/-- a text that is written out -/
theorem V.lit {s : Str} (hf : 1 ≤ f) (hc : 100 ≤ c) (hs : (decide (s.length ≤ 9) && s.cps.toList.all fun x => decide (x < 128)) = true) : V k b h f c (.str s) := by
  simp only [Bool.and_eq_true, decide_eq_true_eq] at hs
  exact V.str hf hc hs.1 fun x hx => by simpa using List.all_eq_true.mp hs.2 x hx
theorem allO_ex {F : D → Option PyData} {c n : Nat} : ∀ {l : List D}, (∀ d ∈ l, ∃ p, F d = some p ∧ p.showable = true ∧ p.shown.length ≤ c ∧ p.depth ≤ n) → ∃ ps, allO F l = some ps ∧ ps.length = l.length ∧ ∀ p ∈ ps, p.showable = true ∧ p.shown.length ≤ c ∧ p.depth ≤ n
  | [], _ => ⟨[], rfl, rfl, fun _ h => (nomatch h)⟩
  | d :: l, hd => by
    obtain ⟨p, e, hp⟩ := hd d List.mem_cons_self
    obtain ⟨ps, e2, hl, h2⟩ := allO_ex (l := l) fun x hx => hd x (List.mem_cons_of_mem _ hx)
    refine ⟨p :: ps, ?_, by simp [hl], fun q hq => ?_⟩
    · unfold allO
      rw [e]
      dsimp only
      rw [e2]
    · rcases List.mem_cons.mp hq with z | z
      · rw [z]; exact hp
      · exact h2 q z
theorem piled_ps {m c : Nat} {ps : List PyData} (hl : ps.length ≤ m) (h : ∀ p ∈ ps, p.shown.length ≤ c) : piled (PyData.shownAll ps) ≤ m * (c + 2) := by
  rw [shownAll_map]
  exact piled_le _ (fun t ht => by
    obtain ⟨p, hp, e⟩ := List.mem_map.mp ht
    rw [← e]
    exact h p hp) (by simpa using hl)
theorem V.tup {l : List D} {m c' : Nat} (hv : ∀ d ∈ l, V k b h f c d) (hl : l.length ≤ m) (hc : m * (c + 2) + 3 ≤ c') : V k b h (f + 1) c' (.tup l) := by
  obtain ⟨ps, e, hlen, hp⟩ := allO_ex hv
  refine ⟨.tuple ps, ?_, ?_, ?_, ?_⟩
  · unfold rawP
    rw [e]
  · simp only [PyData.showable]
    exact (showableAll_iff ps).mpr fun p h => (hp p h).1
  · simp only [PyData.shown]
    have := tupleText_le (PyData.shownAll ps)
    have := piled_ps (m := m) (c := c) (ps := ps) (by omega) fun p h => (hp p h).2.1
    omega
  · simp only [PyData.depth]
    have := (depthAll_le ps f).mpr fun p h => (hp p h).2.2
    omega
theorem V.lst {n : Nat} {l : List D} {m c' : Nat} (hv : ∀ d ∈ l, V k n h f c d) (he : h[n]? = some (.lst l)) (hn : n < b) (hk : n ≠ k) (hl : l.length ≤ m) (hc : m * (c + 2) + 3 ≤ c') : V k b h (f + 1) c' (.ref n) := by
  obtain ⟨ps, e, hlen, hp⟩ := allO_ex hv
  refine ⟨.list ps, ?_, ?_, ?_, ?_⟩
  · unfold rawP
    rw [if_pos ⟨hn, hk⟩, he]
    dsimp only
    rw [e]
  · simp only [PyData.showable]
    exact (showableAll_iff ps).mpr fun p h => (hp p h).1
  · simp only [PyData.shown]
    have := listText_le (PyData.shownAll ps)
    have := piled_ps (m := m) (c := c) (ps := ps) (by omega) fun p h => (hp p h).2.1
    omega
  · simp only [PyData.depth]
    have := (depthAll_le ps f).mpr fun p h => (hp p h).2.2
    omega
theorem V.dct0 {n : Nat} (hf : 1 ≤ f) (hc : 100 ≤ c) (he : h[n]? = some (.dct [])) (hn : n < b) (hk : n ≠ k) : V k b h f c (.ref n) := by
  obtain ⟨f, rfl⟩ : ∃ j, f = j + 1 := ⟨f - 1, by omega⟩
  refine ⟨.dict [], ?_, by simp [PyData.showable, PyData.showableKv], Nat.le_trans (by decide +kernel : (PyData.dict []).shown.length ≤ 100) hc, ?_⟩
  · unfold rawP
    rw [if_pos ⟨hn, hk⟩, he]
    rfl
  · simp only [PyData.depth, PyData.depthKv]
    omega
theorem V.dct1 {n i : Nat} {d : D} {c' : Nat} (hv : V k n h f c d) (hi : i < 64) (he : h[n]? = some (.dct [(.inl (i : Nat), d)])) (hn : n < b) (hk : n ≠ k) (hc : c + 110 ≤ c') : V k b h (f + 1) c' (.ref n) := by
  obtain ⟨p, e, s, l, dp⟩ := hv
  obtain ⟨s1, l1⟩ := int_small i hi
  refine ⟨.dict [(.int (i : Nat), p)], ?_, ?_, ?_, ?_⟩
  · unfold rawP
    rw [if_pos ⟨hn, hk⟩, he]
    dsimp only
    unfold kvO
    rw [e]
    rfl
  · simp only [PyData.showable, PyData.showableKv, Bool.and_eq_true] at s1 ⊢
    exact ⟨⟨s1, s⟩, trivial⟩
  · have e1 : (PyData.dict [(.int (i : Nat), p)]).shown = dictText [(PyData.int (i : Nat)).shown ++ ": " ++ p.shown] := by simp only [PyData.shown, PyData.shownKv]
    rw [e1]
    have := dictText_le [(PyData.int (i : Nat)).shown ++ ": " ++ p.shown]
    rw [piled_cons, piled_nil, strLen_append, strLen_append] at this
    have e2 : (((": " : String) : Str)).length = 2 := rfl
    omega
  · simp only [PyData.depth, PyData.depthKv]
    omega
/-- what a value can be -/
theorem V.cases {d : D} (v : V k b h (f + 1) c d) : d = .non ∨ (∃ x, d = .bl x) ∨ (∃ i, d = .int i) ∨ (∃ s, d = .str s) ∨ (∃ l, d = .tup l ∧ ∀ x ∈ l, ∃ c', V k b h f c' x) ∨
    (∃ n l, d = .ref n ∧ h[n]? = some (.lst l) ∧ n < b ∧ n ≠ k ∧ ∀ x ∈ l, ∃ c', V k n h f c' x) ∨ ∃ n kvs, d = .ref n ∧ h[n]? = some (.dct kvs) := by
  have back : ∀ {F : D → Option PyData} {l : List D} {ps : List PyData}, allO F l = some ps → (∀ p ∈ ps, p.showable = true ∧ p.depth ≤ f) → ∀ x ∈ l, ∃ p, F x = some p ∧ p.showable = true ∧ p.depth ≤ f := by
    intro F l
    induction l with
    | nil => exact fun _ _ _ h => (nomatch h)
    | cons y l ih =>
      intro ps e hp x hx
      unfold allO at e
      split at e
      · rename_i p he
        split at e
        · rename_i qs hq
          cases e
          rcases List.mem_cons.mp hx with z | z
          · subst z
            exact ⟨p, he, hp p List.mem_cons_self⟩
          · exact ih hq (fun q hq' => hp q (List.mem_cons_of_mem _ hq')) x z
        · cases e
      · cases e
  obtain ⟨p, e, s, l, dp⟩ := v
  cases d with
  | non => exact .inl rfl
  | bl x => exact .inr (.inl ⟨x, rfl⟩)
  | int i => exact .inr (.inr (.inl ⟨i, rfl⟩))
  | str s => exact .inr (.inr (.inr (.inl ⟨s, rfl⟩)))
  | ty _ => cases e
  | glb _ => cases e
  | tup l =>
    refine .inr (.inr (.inr (.inr (.inl ⟨l, rfl, fun x hx => ?_⟩))))
    unfold rawP at e
    split at e
    · rename_i ps hp
      cases e
      simp only [PyData.showable] at s
      simp only [PyData.depth] at dp
      obtain ⟨p, q1, q2, q3⟩ := back hp (fun p h => ⟨(showableAll_iff ps).mp s p h, (depthAll_le ps f).mp (by omega) p h⟩) x hx
      exact ⟨_, p, q1, q2, Nat.le_refl _, q3⟩
    · cases e
  | ref n =>
    unfold rawP at e
    split at e
    · rename_i cn
      split at e
      · rename_i l' hl
        split at e
        · rename_i ps hp
          cases e
          simp only [PyData.showable] at s
          simp only [PyData.depth] at dp
          refine .inr (.inr (.inr (.inr (.inr (.inl ⟨n, l', rfl, hl, cn.1, cn.2, fun x hx => ?_⟩)))))
          obtain ⟨p, q1, q2, q3⟩ := back hp (fun p h => ⟨(showableAll_iff ps).mp s p h, (depthAll_le ps f).mp (by omega) p h⟩) x hx
          exact ⟨_, p, q1, q2, Nat.le_refl _, q3⟩
        · cases e
      · rename_i kvs hl
        exact .inr (.inr (.inr (.inr (.inr (.inr ⟨n, kvs, rfl, hl⟩)))))
      · cases e
    · cases e
theorem V.pos {d : D} (v : V k b h f c d) : ∃ j, f = j + 1 := by
  obtain ⟨p, e, _⟩ := v
  cases f with
  | zero => cases e
  | succ j => exact ⟨j, rfl⟩
theorem V.ty {d : D} (v : V k b h f c d) : ∃ T, tyD h d = some T := by
  obtain ⟨j, rfl⟩ := v.pos
  rcases v.cases with e | ⟨x, e⟩ | ⟨x, e⟩ | ⟨x, e⟩ | ⟨x, e, _⟩ | ⟨n, l, e, q, _⟩ | ⟨n, l, e, q⟩ <;> subst e
  · exact ⟨_, rfl⟩
  · exact ⟨_, rfl⟩
  · exact ⟨_, rfl⟩
  · exact ⟨_, rfl⟩
  · exact ⟨_, rfl⟩
  · exact ⟨"list", by unfold tyD; dsimp only; rw [q]⟩
  · exact ⟨"dict", by unfold tyD; dsimp only; rw [q]⟩
/-- repr of a tuple, or of a list that is not empty -/
theorem V.toP {d : D} (v : V k b h f c d) (hf : f ≤ 12) (hc : c ≤ 1000000) : ∃ p, toP h 12 d = some p ∧ rawP k h f b d = some p := by
  obtain ⟨p, e, s, l, dp⟩ := v
  exact ⟨p, raw_to 12 b d p (raw_mono f 12 b b d p hf (Nat.le_refl _) (fun _ _ _ _ e => e) e) ⟨s, by omega, by omega⟩, e⟩
theorem repr_tup {l : List D} (v : V k b h f c (.tup l)) (hf : f ≤ 12) (hc : c ≤ 1000000) : ∃ p, reprF2 (.tup l) h = .ok (.str p.shown) h ∧ rawP k h f b (.tup l) = some p := by
  obtain ⟨p, e, q⟩ := v.toP hf hc
  refine ⟨p, ?_, q⟩
  unfold reprF2
  dsimp only
  rw [e]
theorem repr_lst {n : Nat} {x : D} {l : List D} (v : V k b h f c (.ref n)) (he : h[n]? = some (.lst (x :: l))) (hf : f ≤ 12) (hc : c ≤ 1000000) : ∃ p, reprF2 (.ref n) h = .ok (.str p.shown) h ∧ rawP k h f b (.ref n) = some p := by
  obtain ⟨p, e, q⟩ := v.toP hf hc
  refine ⟨p, ?_, q⟩
  unfold reprF2 reprF
  dsimp only
  rw [he]
  dsimp only
  rw [e]
end
end ML

namespace ML
open PySem PySem.Spec PyProof.Rows L2
/-! K21sa: the shape of a pattern, by the program and by the law -/
theorem ev_notB {a : EM} {e : Env} {h h1 : MH} {x : Bool} (p : a e h = .ok (.bl x) h1) : notE a e h = .ok (.bl (!x)) h1 := by
  unfold notE
  rw [p]
  rfl
theorem ev_orE0 {a b : EM} {e : Env} {h h1 : MH} {z : R D} (p : a e h = .ok (.bl false) h1) (q : b e h1 = z) : orE a b e h = z := by unfold orE; rw [p]; exact q
theorem ev_orE1 {a b : EM} {e : Env} {h h1 : MH} (p : a e h = .ok (.bl true) h1) : orE a b e h = .ok (.bl true) h1 := by unfold orE; rw [p]; rfl
theorem ev_andF0 {a b : EM} {e : Env} {h h1 : MH} (p : a e h = .ok (.bl false) h1) : andE a b e h = .ok (.bl false) h1 := by unfold andE; rw [p]; rfl
theorem es_asg {g : GM} {a : EM} {e e1 : Env} {h h1 : MH} {d : D} (p : a e h = .ok d h1) (q : g d e h1 = some e1) : asgS g a e h = .nx e1 h1 := by
  unfold asgS ofE
  rw [p]
  dsimp only
  rw [q]
def TyK (h : MH) (d : D) : Prop := ∃ T, tyD h d = some T
theorem TyK.ga {h h' : MH} {d : D} (k : TyK h d) (g : GA h h') : TyK h' d := by
  obtain ⟨T, e⟩ := k
  cases d <;> first | exact ⟨_, rfl⟩ | (cases e; done) | skip
  rename_i n
  unfold tyD at e
  dsimp only at e
  split at e
  · rename_i l hl; exact ⟨"list", by unfold tyD; dsimp only; rw [g.2 _ _ hl]⟩
  · rename_i l hl; exact ⟨"list", by unfold tyD; dsimp only; rw [g.2 _ _ hl]⟩
  · rename_i l hl; exact ⟨"dict", by unfold tyD; dsimp only; rw [g.2 _ _ hl]⟩
  · cases e
theorem isi_of {h : MH} {d : D} {T c : String} (e : tyD h d = some T) : isiF c [d, .ty c] h = .ok (.bl (isB T c)) h := by
  unfold isiF
  dsimp only
  rw [if_pos rfl, e]
theorem ref_ty {h : MH} {n : Nat} {T : String} (e : tyD h (.ref n) = some T) : T = "list" ∨ T = "dict" := by
  unfold tyD at e
  dsimp only at e
  split at e <;> cases e <;> simp
def isStrD : D → Bool
  | .str _ => true
  | _ => false
def isBlD : D → Bool
  | .bl _ => true
  | _ => false
def isIntD : D → Bool
  | .int _ => true
  | .bl _ => true
  | _ => false
theorem isi_all {h : MH} {d : D} (k : TyK h d) : isiF "tuple" [d, .ty "tuple"] h = .ok (.bl (isTupD d)) h ∧ isiF "str" [d, .ty "str"] h = .ok (.bl (isStrD d)) h ∧ isiF "bool" [d, .ty "bool"] h = .ok (.bl (isBlD d)) h ∧ isiF "int" [d, .ty "int"] h = .ok (.bl (isIntD d)) h := by
  obtain ⟨T, e⟩ := k
  have a1 := isi_of (c := "tuple") e
  have a2 := isi_of (c := "str") e
  have a3 := isi_of (c := "bool") e
  have a4 := isi_of (c := "int") e
  rw [a1, a2, a3, a4]
  cases d with
  | ref n => rcases ref_ty e with z | z <;> subst z <;> exact ⟨rfl, rfl, rfl, rfl⟩
  | ty _ => cases e
  | glb _ => cases e
  | _ => cases e; exact ⟨rfl, rfl, rfl, rfl⟩
theorem le_ii {a b : Int} {h : MH} : leF (.int a) (.int b) h = .ok (.bl (decide (a ≤ b))) h := by unfold leF ordF; rfl
theorem lt_ii {a b : Int} {h : MH} : ltF (.int a) (.int b) h = .ok (.bl (decide (a < b))) h := by unfold ltF ordF; rfl
theorem chain2 {f g : D → D → MH → R D} {A B C : EM} {e : Env} {h : MH} {x y z : D} {p q : Bool} (pa : A e h = .ok x h) (pb : B e h = .ok y h) (pc : C e h = .ok z h) (k1 : f x y h = .ok (.bl p) h) (k2 : g y z h = .ok (.bl q) h) : chainE f g A B C e h = .ok (.bl (p && q)) h := by
  cases p with
  | true =>
    rw [Bool.true_and]
    exact ev_chain pa pb k1 pc k2
  | false =>
    unfold chainE
    rw [pa]
    show R.bind (B e h) _ = _
    rw [pb]
    show R.bind (f x y h) _ = _
    rw [k1]
    rfl
/-! numbers -/
def itB (n : Int) : D → Bool
  | .int i => decide (0 ≤ i) && decide (i < n)
  | _ => false
def topD (top : Int) : D → Int
  | .int i => if i > top then i else top
  | _ => top
def numB : Int → List D → Bool
  | _, [] => true
  | top, d :: l => itB (top + 2) d && numB (topD top d) l
theorem numB_int : ∀ {ns : List D} {top : Int}, numB top ns = true → ∀ d ∈ ns, ∃ i, d = .int i
  | [], _, _, _, h => nomatch h
  | x :: ns, top, e, d, h => by
    unfold numB at e
    rw [Bool.and_eq_true] at e
    rcases List.mem_cons.mp h with q | q
    · subst q
      cases d <;> first | exact ⟨_, rfl⟩ | (cases e.1)
    · exact numB_int e.2 d q
theorem whole_ok {h : MH} {d : D} {n : Int} (k : TyK h d) : m_is_whole_number [d, .int n] h = .ok (.bl (itB n d)) h := by
  obtain ⟨_, _, i3, i4⟩ := isi_all k
  refine ef_rt rfl ?_
  unfold b_is_whole_number
  refine es_ret ?_
  cases d with
  | int i => exact ev_andE (ev_on (ev_cons (ev_var rfl) (ev_cons ev_con ev_nil)) i4) (ev_andE (ev_notB (x := false) (ev_on (ev_cons (ev_var rfl) (ev_cons ev_con ev_nil)) i3)) (chain2 ev_con (ev_var rfl) (ev_var rfl) le_ii lt_ii))
  | bl b => exact ev_andE (ev_on (ev_cons (ev_var rfl) (ev_cons ev_con ev_nil)) i4) (ev_andF0 (ev_notB (x := true) (ev_on (ev_cons (ev_var rfl) (ev_cons ev_con ev_nil)) i3)))
  | _ => exact ev_andF0 (ev_on (ev_cons (ev_var rfl) (ev_cons ev_con ev_nil)) i4)
theorem loop_ret {srcs : List (Nat × List D)} {g : GM} {m : SM} {xs : List D} {d z : D} {e e1 : Env} {h h1 : MH} (ok : IT.ok h srcs = true) (p : g d e h = some e1) (q : m e1 h = .rt z h1) : loopS srcs g m (d :: xs) e h = .rt z h1 := by
  rw [loopS, if_pos ok, p]
  dsimp only
  rw [q]
def numS : SM := seqS (ifS (notT (valT (onA m_is_whole_number (consA (varE 2) (consA (bin addF (varE 1) (conE (.int 2))) (nilA)))))) (retS (conE (.bl false))) (passS)) (setS 1 (onA max2F (consA (varE 1) (consA (varE 2) (nilA)))))
def lnumS : SM := seqS (ifS (orT (valT (onA (isiF "bool") (consA (varE 3) (consA (conE (.ty "bool")) nilA)))) (orT (notT (valT (onA (isiF "int") (consA (varE 3) (consA (conE (.ty "int")) nilA))))) (notT (valT (chainE leF leF (conE (.int 0)) (varE 3) (bin addF (varE 2) (conE (.int 1)))))))) (retS (conE (.bl false))) (passS)) (setS 2 (onA max2F (consA (varE 2) (consA (varE 3) (nilA)))))
theorem nums_loop {h : MH} {t : Option D} : ∀ (ns : List D) (top : Int) (x : Option D), (∀ d ∈ ns, TyK h d) →
    (numB top ns = true ∧ ∃ e', loopS [] (gnm 2) numS ns [t, some (.int top), x] h = .nx e' h) ∨ (numB top ns = false ∧ loopS [] (gnm 2) numS ns [t, some (.int top), x] h = .rt (.bl false) h)
  | [], top, x, _ => .inl ⟨rfl, _, loop_nil it_nil⟩
  | d :: ns, top, x, hk => by
    have w := whole_ok (n := top + 2) (hk d List.mem_cons_self)
    have a1 : addF (.int top) (.int 2) h = .ok (.int (top + 2)) h := add_i
    have c := ev_not (ev_val (ev_on (f := m_is_whole_number) (ev_cons (ev_var (i := 2) (e := [t, some (.int top), some d]) rfl) (ev_cons (ev_bin (ev_var (i := 1) rfl) ev_con a1) (ev_nil (h := h)))) w))
    cases b : itB (top + 2) d with
    | false =>
      rw [b] at c
      refine .inr ⟨by unfold numB; rw [b]; rfl, loop_ret it_nil rfl ?_⟩
      unfold numS
      exact es_seqR (es_ifT c (es_ret ev_con))
    | true =>
      rw [b] at c
      have mx : max2F [.int top, d] h = .ok (.int (topD top d)) h := by
        cases d <;> first | rfl | cases b
      have st : numS [t, some (.int top), some d] h = .nx [t, some (.int (topD top d)), some d] h := by
        unfold numS
        exact es_seq (es_ifF c es_pass) (es_set' (ev_on (ev_cons (ev_var rfl) (ev_cons (ev_var rfl) ev_nil)) mx) rfl)
      rcases nums_loop ns (topD top d) (some d) (fun y hy => hk y (List.mem_cons_of_mem _ hy)) with ⟨q, e', p⟩ | ⟨q, p⟩
      · exact .inl ⟨by unfold numB; rw [b, q]; rfl, e', (loop_cons it_nil rfl st).trans p⟩
      · exact .inr ⟨by unfold numB; rw [b, q]; rfl, (loop_cons it_nil rfl st).trans p⟩
theorem nums_ok {h : MH} {ns : List D} (hk : ∀ d ∈ ns, TyK h d) : m_are_numbered [.tup ns] h = .ok (.bl (numB 0 ns)) h := by
  refine ef_rt rfl ?_
  unfold b_are_numbered
  refine es_seq (es_set' ev_con rfl) ?_
  rcases nums_loop (t := some (.tup ns)) ns 0 none hk with ⟨q, e', p⟩ | ⟨q, p⟩
  · rw [q]
    exact es_seq (es_for (i_tup (ev_var rfl)) p) (es_ret ev_con)
  · rw [q]
    exact es_seqR (es_for (i_tup (ev_var rfl)) p)
/-! shapes -/
def lastZ (ns : List D) : Bool := match ns.getLast? with
  | some (.int i) => decide (i = 0)
  | _ => false
def numsD (n : Nat) : D → Bool
  | .tup ns => decide (ns.length = n + 3) && numB 0 ns
  | _ => false
def lastA : D → Bool
  | .tup ns => lastZ ns
  | _ => false
def mkOk : D → Bool
  | .str z => decide (z ∈ ([("none" : Str), "own", "free"] : List Str))
  | _ => false
def isS (w : Str) : D → Bool
  | .str z => decide (z = w)
  | _ => false
def isT : D → Bool
  | .bl b => b
  | _ => false
def shape3 (n : Nat) (a m c : D) : Bool := numsD n a && ((mkOk m && isBlD c) && ((isS "own" m || lastA a) && (!isS "free" m || isT c)))
def shapeB (n : Nat) : D → Bool
  | .tup [a, m, c] => shape3 n a m c
  | _ => false
/-- a value, as far as the shape looks -/
structure VK (h : MH) (v : D) : Prop where
  ty : TyK h v
  parts : ∀ a b c, v = .tup [a, b, c] → TyK h a ∧ TyK h b ∧ TyK h c ∧ ∀ ns, a = .tup ns → ∀ d ∈ ns, TyK h d
theorem VK.ga {h h' : MH} {v : D} (k : VK h v) (g : GA h h') : VK h' v := ⟨k.ty.ga g, fun a b c e => by
  obtain ⟨x, y, z, w⟩ := k.parts a b c e
  exact ⟨x.ga g, y.ga g, z.ga g, fun ns q d hd => (w ns q d hd).ga g⟩⟩
theorem one_of3 {h : MH} {m : D} (k : TyK h m) : m_is_one_of [m, .tup [.str "none", .str "own", .str "free"]] h = .ok (.bl (mkOk m)) h := by
  obtain ⟨_, i2, _, _⟩ := isi_all k
  refine ef_rt rfl ?_
  unfold b_is_one_of
  refine es_ret ?_
  cases m with
  | str z =>
    have e := in_tup (h := h) (s := z) (L := ["none", "own", "free"])
    have : ((["none", "own", "free"] : List Str).any fun y => scalEq (.str y) (.str z)) = mkOk (.str z) := by
      unfold mkOk
      rw [Bool.eq_iff_iff, List.any_eq_true, decide_eq_true_iff]
      exact ⟨fun ⟨y, hy, q⟩ => by rw [scal_str] at q; rw [← of_decide_eq_true q]; exact hy, fun q => ⟨z, q, by rw [scal_str]; exact decide_eq_true rfl⟩⟩
    rw [this] at e
    exact ev_andE (ev_on (ev_cons (ev_var rfl) (ev_cons ev_con ev_nil)) i2) (ev_bin (ev_var rfl) (ev_var rfl) e)
  | _ => exact ev_andF0 (ev_on (ev_cons (ev_var rfl) (ev_cons ev_con ev_nil)) i2)
theorem eq_sS {z w : Str} {h : MH} : eqF (.str z) (.str w) h = .ok (.bl (decide (z = w))) h := by
  unfold eqF eqT eqTop isScal
  dsimp only
  rw [scal_str]
theorem last_ix {ns : List D} {i : Int} {h : MH} (e : ns.getLast? = some (.int i)) : ixF (.tup ns) (.int (-1)) h = .ok (.int i) h := by
  have h0 : 0 < ns.length := by
    cases ns with
    | nil => cases e
    | cons _ _ => simp
  have a : atI ns (-1) = some (.int i) := by
    have j : ixN ns.length (-1) = some (ns.length - 1) := by
      unfold ixN
      first
        | (rw [if_neg (by decide), if_pos (by omega)]; congr 1; omega)
        | (simp; omega)
    unfold atI
    rw [j]
    rw [List.getLast?_eq_getElem?] at e
    exact e
  simp [ixF, seqOf, a]
theorem len_ne3 {xs : List D} (n3 : ∀ a b c, D.tup xs ≠ .tup [a, b, c]) : xs.length ≠ 3 := fun e => by
  match xs, e with
  | [a, b, c], _ => exact n3 a b c rfl
theorem shape_not {n : Nat} {v : D} (n3 : ∀ a b c, v ≠ .tup [a, b, c]) : shapeB n v = false := by
  unfold shapeB
  split
  · exact absurd rfl (n3 _ _ _)
  · rfl
theorem pattern_ok {h : MH} {s : Nat} {l : List Str} {ls : List D} {v : D} (Q : RuleD h (.ref s) l ls) (K : VK h v) : m_is_pattern [.ref s, v] h = .ok (.bl (shapeB l.length v)) h := by
  obtain ⟨s', e, es⟩ := Q
  cases e
  obtain ⟨t1, _, _, _⟩ := isi_all K.ty
  refine ef_rt rfl ?_
  unfold b_is_pattern
  by_cases c3 : ∃ a m c, v = .tup [a, m, c]
  · obtain ⟨a, m, c, rfl⟩ := c3
    obtain ⟨ka, km, kc, kn⟩ := K.parts a m c rfl
    obtain ⟨a1, _, _, _⟩ := isi_all ka
    obtain ⟨_, _, c1, _⟩ := isi_all kc
    have m1 := one_of3 km
    have ow : fldF ["Rule"] [] "own_names" (.ref s) h = .ok (.tup (l.map .str)) h := by
      unfold fldF
      dsimp only
      rw [es]
      rfl
    show _ = S.rt (.bl (shape3 l.length a m c)) h
    unfold shape3
    refine es_seq (es_ifF (ev_orF (ev_not (v := true) (ev_val (ev_on (ev_cons (ev_var rfl) (ev_cons ev_con ev_nil)) t1))) (ev_val (ev_bin (ev_on (ev_cons (ev_var rfl) ev_nil) rfl) ev_con rfl))) es_pass) ?_
    refine es_seq (es_asg (ev_var rfl) rfl) ?_
    have it : ∀ {e : Env}, e[2]? = some (some a) → notT (valT (onA (isiF "tuple") (consA (varE 2) (consA (conE (.ty "tuple")) nilA)))) e h = .ok (!isTupD a) h := fun {e} he => ev_not (ev_val (ev_on (ev_cons (ev_var he) (ev_cons ev_con ev_nil)) a1))
    cases nb : numsD l.length a with
    | false =>
      refine es_seqR (es_ifT ?_ (es_ret ev_con))
      cases a with
      | tup ns =>
        have ln : lenF [.tup ns] h = .ok (.int (ns.length : Nat)) h := rfl
        have ll : lenF [.tup (l.map D.str)] h = .ok (.int (l.length : Nat)) h := by
          show R.ok (D.int ((l.map D.str).length : Nat)) h = _
          rw [List.length_map]
        refine ev_orF (it rfl) ?_
        have nn : neF (.int (ns.length : Nat)) (.int ((l.length : Int) + 3)) h = .ok (.bl (!scalEq (.int (ns.length : Nat)) (.int ((l.length : Int) + 3)))) h := rfl
        by_cases c : ns.length = l.length + 3
        · have z : scalEq (.int (ns.length : Nat)) (.int ((l.length : Int) + 3)) = true := by unfold scalEq; simp; omega
          rw [z] at nn
          refine ev_orF (ev_val (ev_bin (ev_on (ev_cons (ev_var rfl) ev_nil) ln) (ev_bin (ev_on (ev_cons (ev_un (ev_var rfl) ow) ev_nil) ll) ev_con add_i) nn)) ?_
          have nb' : numB 0 ns = false := by
            have nb2 : (decide (ns.length = l.length + 3) && numB 0 ns) = false := nb
            rw [decide_eq_true c, Bool.true_and] at nb2
            exact nb2
          have w := nums_ok (kn ns rfl)
          rw [nb'] at w
          exact ev_not (v := false) (ev_val (ev_on (ev_cons (ev_var rfl) ev_nil) w))
        · have z : scalEq (.int (ns.length : Nat)) (.int ((l.length : Int) + 3)) = false := by unfold scalEq; simp; omega
          rw [z] at nn
          exact ev_orT (ev_val (ev_bin (ev_on (ev_cons (ev_var rfl) ev_nil) ln) (ev_bin (ev_on (ev_cons (ev_un (ev_var rfl) ow) ev_nil) ll) ev_con add_i) nn))
      | _ => exact ev_orT (it rfl)
    | true =>
      cases a with
      | tup ns =>
        have ln : lenF [.tup ns] h = .ok (.int (ns.length : Nat)) h := rfl
        have ll : lenF [.tup (l.map D.str)] h = .ok (.int (l.length : Nat)) h := by
          show R.ok (D.int ((l.map D.str).length : Nat)) h = _
          rw [List.length_map]
        unfold numsD at nb
        rw [Bool.and_eq_true, decide_eq_true_iff] at nb
        have nn : neF (.int (ns.length : Nat)) (.int ((l.length : Int) + 3)) h = .ok (.bl (!scalEq (.int (ns.length : Nat)) (.int ((l.length : Int) + 3)))) h := rfl
        have z : scalEq (.int (ns.length : Nat)) (.int ((l.length : Int) + 3)) = true := by unfold scalEq; simp; omega
        rw [z] at nn
        have w := nums_ok (kn ns rfl)
        rw [nb.2] at w
        refine es_seq (es_ifF (ev_orF (it rfl) (ev_orF (ev_val (ev_bin (ev_on (ev_cons (ev_var rfl) ev_nil) ln) (ev_bin (ev_on (ev_cons (ev_un (ev_var rfl) ow) ev_nil) ll) ev_con add_i) nn)) (ev_not (v := true) (ev_val (ev_on (ev_cons (ev_var rfl) ev_nil) w))))) es_pass) ?_
        have mt : ∀ {e : Env}, e[3]? = some (some m) → notT (valT (onA m_is_one_of (consA (varE 3) (consA (onA tupF (consA (conE (.str "none")) (consA (conE (.str "own")) (consA (conE (.str "free")) (nilA))))) (nilA))))) e h = .ok (!mkOk m) h := fun {e} he => ev_not (ev_val (ev_on (ev_cons (ev_var he) (ev_cons (ev_on (ev_cons ev_con (ev_cons ev_con (ev_cons ev_con ev_nil))) (tup_new (by decide : 3 ≤ 1000000))) ev_nil)) m1))
        cases mb : mkOk m with
        | false =>
          have mt' := @mt
          rw [mb] at mt'
          exact es_seqR (es_ifT (ev_orT (mt' rfl)) (es_ret ev_con))
        | true =>
          have mt' := @mt
          rw [mb] at mt'
          cases cb : isBlD c with
          | false =>
            rw [cb] at c1
            exact es_seqR (es_ifT (ev_orF (mt' rfl) (ev_not (v := false) (ev_val (ev_on (ev_cons (ev_var rfl) (ev_cons ev_con ev_nil)) c1)))) (es_ret ev_con))
          | true =>
            rw [cb] at c1
            refine es_seq (es_ifF (ev_orF (mt' rfl) (ev_not (v := true) (ev_val (ev_on (ev_cons (ev_var rfl) (ev_cons ev_con ev_nil)) c1)))) es_pass) ?_
            cases m with
            | str z =>
              cases c with
              | bl b =>
                obtain ⟨i, hi⟩ : ∃ i, ns.getLast? = some (.int i) := by
                  obtain ⟨y, hy⟩ : ∃ y, ns.getLast? = some y := by
                    cases q : ns.getLast? with
                    | none =>
                      have : ns = [] := by simpa using q
                      rw [this] at nb
                      have := nb.1
                      simp at this
                    | some y => exact ⟨y, rfl⟩
                  obtain ⟨i, e⟩ := numB_int nb.2 y (List.mem_of_getLast? hy)
                  exact ⟨i, by rw [hy, e]⟩
                have lz : lastA (.tup ns) = decide (i = 0) := by
                  show lastZ ns = _
                  unfold lastZ
                  rw [hi]
                have ez : eqF (.int i) (.int 0) h = .ok (.bl (decide (i = 0))) h := by
                  rw [eq_i]
                  have : scalEq (.int i) (.int 0) = decide (i = 0) := by
                    unfold scalEq
                    rw [Bool.eq_iff_iff, beq_iff_eq, decide_eq_true_iff]
                  rw [this]
                refine es_ret ?_
                rw [lz]
                show andE _ _ _ h = R.ok (D.bl ((true && true) && ((decide (z = "own") || decide (i = 0)) && (!decide (z = "free") || b)))) h
                have second : ∀ {e : Env}, e[3]? = some (some (.str z)) → e[4]? = some (some (.bl b)) → orE (bin neF (varE 3) (conE (.str "free"))) (varE 4) e h = .ok (.bl (!decide (z = "free") || b)) h := fun {e} h3 h4 => by
                  have n := ev_bin (ev_var h3) (ev_con (d := .str "free")) (ne_str (a := z) (b := "free") (h := h))
                  cases q : decide (z = "free") with
                  | true =>
                    rw [q] at n
                    exact ev_orE0 n (ev_var h4)
                  | false =>
                    rw [q] at n
                    exact ev_orE1 n
                have first : ∀ {e : Env}, e[3]? = some (some (.str z)) → e[2]? = some (some (.tup ns)) → orE (bin eqF (varE 3) (conE (.str "own"))) (bin eqF (bin ixF (varE 2) (un negF (conE (.int 1)))) (conE (.int 0))) e h = .ok (.bl (decide (z = "own") || decide (i = 0))) h := fun {e} h3 h2 => by
                  have n := ev_bin (ev_var h3) (ev_con (d := .str "own")) (eq_sS (z := z) (w := "own") (h := h))
                  cases q : decide (z = "own") with
                  | true =>
                    rw [q] at n
                    exact ev_orE1 n
                  | false =>
                    rw [q] at n
                    exact ev_orE0 n (ev_bin (ev_bin (ev_var h2) (ev_un ev_con neg_i) (last_ix hi)) ev_con ez)
                have f := first (e := [some (.ref s), some (.tup [.tup ns, .str z, .bl b]), some (.tup ns), some (.str z), some (.bl b)]) rfl rfl
                have g := second (e := [some (.ref s), some (.tup [.tup ns, .str z, .bl b]), some (.tup ns), some (.str z), some (.bl b)]) rfl rfl
                cases q : (decide (z = "own") || decide (i = 0)) with
                | true =>
                  rw [q] at f
                  exact ev_andE f g
                | false =>
                  rw [q] at f
                  exact ev_andF0 f
              | _ => cases cb
            | _ => cases mb
      | _ => cases nb
  · have n3 : ∀ a b c, v ≠ .tup [a, b, c] := fun a b c e => c3 ⟨a, b, c, e⟩
    rw [shape_not n3]
    refine es_seqR (es_ifT ?_ (es_ret ev_con))
    cases v with
    | tup xs =>
      have ln : lenF [.tup xs] h = .ok (.int (xs.length : Nat)) h := rfl
      have nn : neF (.int (xs.length : Nat)) (.int 3) h = .ok (.bl (!scalEq (.int (xs.length : Nat)) (.int 3))) h := rfl
      have z : scalEq (.int (xs.length : Nat)) (.int 3) = false := by
        have := len_ne3 n3
        unfold scalEq
        simp
        omega
      rw [z] at nn
      exact ev_orF (ev_not (v := true) (ev_val (ev_on (ev_cons (ev_var rfl) (ev_cons ev_con ev_nil)) t1))) (ev_val (ev_bin (ev_on (ev_cons (ev_var rfl) ev_nil) ln) ev_con nn))
    | _ => exact ev_orT (ev_not (v := false) (ev_val (ev_on (ev_cons (ev_var rfl) (ev_cons ev_con ev_nil)) t1)))
end ML

namespace ML
open PySem PySem.Spec PyProof.Rows L2
/-! K21sb: the law's own reading of the shape -/
theorem lnums_loop {h : MH} {x0 x1 : Option D} : ∀ (ns : List D) (top : Int) (x : Option D), (∀ d ∈ ns, TyK h d) →
    (numB top ns = true ∧ ∃ t' x', loopS [] (gnm 3) lnumS ns [x0, x1, some (.int top), x] h = .nx [x0, x1, some (.int t'), x'] h) ∨ (numB top ns = false ∧ loopS [] (gnm 3) lnumS ns [x0, x1, some (.int top), x] h = .rt (.bl false) h)
  | [], top, x, _ => .inl ⟨rfl, top, x, loop_nil it_nil⟩
  | d :: ns, top, x, hk => by
    obtain ⟨_, _, i3, i4⟩ := isi_all (hk d List.mem_cons_self)
    have c : (orT (valT (onA (isiF "bool") (consA (varE 3) (consA (conE (.ty "bool")) nilA)))) (orT (notT (valT (onA (isiF "int") (consA (varE 3) (consA (conE (.ty "int")) nilA))))) (notT (valT (chainE leF leF (conE (.int 0)) (varE 3) (bin addF (varE 2) (conE (.int 1)))))))) [x0, x1, some (.int top), some d] h = .ok (!itB (top + 2) d) h := by
      cases d with
      | int i =>
        have ch := chain2 (A := conE (.int 0)) (B := varE 3) (C := bin addF (varE 2) (conE (.int 1))) (e := [x0, x1, some (.int top), some (.int i)]) (h := h) ev_con (ev_var rfl) (ev_bin (ev_var rfl) ev_con add_i) le_ii (le_ii (b := top + 1))
        have e : (decide (0 ≤ i) && decide (i ≤ top + 1)) = itB (top + 2) (.int i) := by
          unfold itB
          rw [Bool.eq_iff_iff, Bool.and_eq_true, Bool.and_eq_true, decide_eq_true_iff, decide_eq_true_iff, decide_eq_true_iff]
          omega
        rw [e] at ch
        exact ev_orF (ev_val (ev_on (ev_cons (ev_var rfl) (ev_cons ev_con ev_nil)) i3)) (ev_orF (ev_not (v := true) (ev_val (ev_on (ev_cons (ev_var rfl) (ev_cons ev_con ev_nil)) i4))) (ev_not (ev_val ch)))
      | bl b => exact ev_orT (ev_val (ev_on (ev_cons (ev_var rfl) (ev_cons ev_con ev_nil)) i3))
      | _ => exact ev_orF (ev_val (ev_on (ev_cons (ev_var rfl) (ev_cons ev_con ev_nil)) i3)) (ev_orT (ev_not (v := false) (ev_val (ev_on (ev_cons (ev_var rfl) (ev_cons ev_con ev_nil)) i4))))
    cases b : itB (top + 2) d with
    | false =>
      rw [b] at c
      refine .inr ⟨by unfold numB; rw [b]; rfl, loop_ret it_nil rfl ?_⟩
      unfold lnumS
      exact es_seqR (es_ifT c (es_ret ev_con))
    | true =>
      rw [b] at c
      have mx : max2F [.int top, d] h = .ok (.int (topD top d)) h := by
        cases d <;> first | rfl | cases b
      have st : lnumS [x0, x1, some (.int top), some d] h = .nx [x0, x1, some (.int (topD top d)), some d] h := by
        unfold lnumS
        exact es_seq (es_ifF c es_pass) (es_set' (ev_on (ev_cons (ev_var rfl) (ev_cons (ev_var rfl) ev_nil)) mx) rfl)
      rcases lnums_loop ns (topD top d) (some d) (fun y hy => hk y (List.mem_cons_of_mem _ hy)) with ⟨q, t', x', p⟩ | ⟨q, p⟩
      · exact .inl ⟨by unfold numB; rw [b, q]; rfl, t', x', (loop_cons it_nil rfl st).trans p⟩
      · exact .inr ⟨by unfold numB; rw [b, q]; rfl, (loop_cons it_nil rfl st).trans p⟩
theorem nin_lst {h : MH} {n : Nat} {s : Str} {L : List Str} (e : h[n]? = some (.lst (L.map .str))) : ninF (.str s) (.ref n) h = .ok (.bl (!decide (s ∈ L))) h := by
  have q := in_lst (s := s) e
  unfold inF at q
  unfold ninF
  split at q
  · rename_i b hb
    injection q with q1 q2
    injection q1 with q1
    rw [q1]
  · cases q
theorem law_shape_ok {h : MH} {n r q : Nat} {l : List Str} {v : D} (en : h[n]? = some (.lst [.ref r, .ref q])) (er : h[r]? = some (.lst (l.map .str))) (K : VK h v) : ∃ h', m_law_is_shape [.ref n, v] h = .ok (.bl (shapeB l.length v)) h' ∧ GA h h' := by
  obtain ⟨t1, _, _, _⟩ := isi_all K.ty
  by_cases c3 : ∃ a m c, v = .tup [a, m, c]
  · obtain ⟨a, m, c, rfl⟩ := c3
    obtain ⟨ka, km, kc, kn⟩ := K.parts a m c rfl
    obtain ⟨a1, _, _, _⟩ := isi_all ka
    have i0 : ∀ {i : Nat} {e : Env} {h0 : MH}, e[i]? = some (some (.tup [a, m, c])) → bin ixF (varE i) (conE (.int 0)) e h0 = .ok a h0 := fun {i e h0} he => ev_bin (ev_var he) ev_con (ix_tup (by decide) rfl)
    have i1 : ∀ {i : Nat} {e : Env} {h0 : MH}, e[i]? = some (some (.tup [a, m, c])) → bin ixF (varE i) (conE (.int 1)) e h0 = .ok m h0 := fun {i e h0} he => ev_bin (ev_var he) ev_con (ix_tup (by decide) rfl)
    have i2 : ∀ {i : Nat} {e : Env} {h0 : MH}, e[i]? = some (some (.tup [a, m, c])) → bin ixF (varE i) (conE (.int 2)) e h0 = .ok c h0 := fun {i e h0} he => ev_bin (ev_var he) ev_con (ix_tup (by decide) rfl)
    have s1 : ∀ {e : Env}, e[1]? = some (some (.tup [a, m, c])) → (orT (notT (valT (onA (isiF "tuple") (consA (varE 1) (consA (conE (.ty "tuple")) nilA))))) (orT (valT (bin neF (onA lenF (consA (varE 1) (nilA))) (conE (.int 3)))) (notT (valT (onA (isiF "tuple") (consA (bin ixF (varE 1) (conE (.int 0))) (consA (conE (.ty "tuple")) nilA))))))) e h = .ok (!isTupD a) h := fun {e} he =>
      ev_orF (ev_not (v := true) (ev_val (ev_on (ev_cons (ev_var he) (ev_cons ev_con ev_nil)) t1))) (ev_orF (ev_val (ev_bin (ev_on (ev_cons (ev_var he) ev_nil) rfl) ev_con rfl)) (ev_not (ev_val (ev_on (ev_cons (i0 he) (ev_cons ev_con ev_nil)) a1))))
    show ∃ h', _ = R.ok (D.bl (shape3 l.length a m c)) h' ∧ GA h h'
    unfold shape3
    cases at_ : isTupD a with
    | false =>
      have s1' := @s1
      rw [at_] at s1'
      have : numsD l.length a = false := by cases a <;> first | rfl | cases at_
      rw [this, Bool.false_and]
      refine ⟨h, ef_rt rfl ?_, GA.refl⟩
      unfold b_law_is_shape
      exact es_seqR (es_ifT (s1' rfl) (es_ret ev_con))
    | true =>
      have s1' := @s1
      rw [at_] at s1'
      cases a with
      | tup ns =>
        have start : ∀ {z : S}, (seqS (forS (seqI (bin ixF (varE 1) (conE (.int 0)))) (gnm 3) lnumS) (seqS (ifS (orT (notT (valT (onA (isiF "str") (consA (bin ixF (varE 1) (conE (.int 1))) (consA (conE (.ty "str")) nilA))))) (orT (valT (bin ninF (bin ixF (varE 1) (conE (.int 1))) (onA lstF (consA (conE (.str "none")) (consA (conE (.str "own")) (consA (conE (.str "free")) (nilA))))))) (notT (valT (onA (isiF "bool") (consA (bin ixF (varE 1) (conE (.int 2))) (consA (conE (.ty "bool")) nilA))))))) (retS (conE (.bl false))) (passS)) (seqS (ifS (orT (valT (bin neF (onA lenF (consA (bin ixF (varE 1) (conE (.int 0))) (nilA))) (bin addF (onA lenF (consA (bin ixF (varE 0) (conE (.int 0))) (nilA))) (conE (.int 3))))) (andT (valT (bin neF (bin ixF (varE 1) (conE (.int 1))) (conE (.str "own")))) (valT (bin neF (bin ixF (bin ixF (varE 1) (conE (.int 0))) (un negF (conE (.int 1)))) (conE (.int 0)))))) (retS (conE (.bl false))) (passS)) (retS (orE (bin neF (bin ixF (varE 1) (conE (.int 1))) (conE (.str "free"))) (bin ixF (varE 1) (conE (.int 2)))))))) [some (.ref n), some (.tup [.tup ns, m, c]), some (.int 0), none] h = z → b_law_is_shape [some (.ref n), some (.tup [.tup ns, m, c]), none, none] h = z := fun {z} p => by
          unfold b_law_is_shape
          exact es_seq (es_ifF (s1' rfl) es_pass) (es_seq (es_set' ev_con rfl) p)
        rcases lnums_loop (x0 := some (.ref n)) (x1 := some (.tup [.tup ns, m, c])) ns 0 none (kn ns rfl) with ⟨nb, t', x', lp⟩ | ⟨nb, lp⟩
        · -- numbers
          obtain ⟨_, ms, _, _⟩ := isi_all km
          have len : numsD l.length (.tup ns) = decide (ns.length = l.length + 3) := by
            show (decide (ns.length = l.length + 3) && numB 0 ns) = _
            rw [nb, Bool.and_true]
          rw [len]
          have two : ∀ {z : S} {h1 : MH}, (seqS (ifS (orT (notT (valT (onA (isiF "str") (consA (bin ixF (varE 1) (conE (.int 1))) (consA (conE (.ty "str")) nilA))))) (orT (valT (bin ninF (bin ixF (varE 1) (conE (.int 1))) (onA lstF (consA (conE (.str "none")) (consA (conE (.str "own")) (consA (conE (.str "free")) (nilA))))))) (notT (valT (onA (isiF "bool") (consA (bin ixF (varE 1) (conE (.int 2))) (consA (conE (.ty "bool")) nilA))))))) (retS (conE (.bl false))) (passS)) (seqS (ifS (orT (valT (bin neF (onA lenF (consA (bin ixF (varE 1) (conE (.int 0))) (nilA))) (bin addF (onA lenF (consA (bin ixF (varE 0) (conE (.int 0))) (nilA))) (conE (.int 3))))) (andT (valT (bin neF (bin ixF (varE 1) (conE (.int 1))) (conE (.str "own")))) (valT (bin neF (bin ixF (bin ixF (varE 1) (conE (.int 0))) (un negF (conE (.int 1)))) (conE (.int 0)))))) (retS (conE (.bl false))) (passS)) (retS (orE (bin neF (bin ixF (varE 1) (conE (.int 1))) (conE (.str "free"))) (bin ixF (varE 1) (conE (.int 2))))))) [some (.ref n), some (.tup [.tup ns, m, c]), some (.int t'), x'] h = z → b_law_is_shape [some (.ref n), some (.tup [.tup ns, m, c]), none, none] h = z := fun {z h1} p => start (es_seq (es_for (i_tup (i0 rfl)) lp) p)
          cases st : isStrD m with
          | false =>
            rw [st] at ms
            have mb : mkOk m = false := by cases m <;> first | rfl | cases st
            rw [mb]
            refine ⟨h, ef_rt rfl (two (h1 := h) ?_), GA.refl⟩
            rw [show (decide (ns.length = l.length + 3) && ((false && isBlD c) && ((isS "own" m || lastA (.tup ns)) && (!isS "free" m || isT c)))) = false by simp]
            exact es_seqR (es_ifT (ev_orT (ev_not (v := false) (ev_val (ev_on (ev_cons (i1 rfl) (ev_cons ev_con ev_nil)) ms)))) (es_ret ev_con))
          | true =>
            cases m with
            | str z =>
              obtain ⟨h1, d1⟩ : ∃ x, x = h ++ [O.lst ((["none", "own", "free"] : List Str).map D.str)] := ⟨_, rfl⟩
              have g1 : GA h h1 := by rw [d1]; exact GA.app
              have q1 : h1[h.length]? = some (.lst ((["none", "own", "free"] : List Str).map D.str)) := by rw [d1]; simp
              have ni := nin_lst (s := z) q1
              have eL : ∀ {e : Env}, (onA lstF (consA (conE (.str "none")) (consA (conE (.str "own")) (consA (conE (.str "free")) (nilA))))) e h = .ok (.ref h.length) h1 := fun {e} => ev_on (ev_cons ev_con (ev_cons ev_con (ev_cons ev_con ev_nil))) (by rw [d1]; exact lst_new (by decide : 3 ≤ 1000000))
              have ist : ∀ {e : Env}, e[1]? = some (some (.tup [.tup ns, .str z, c])) → notT (valT (onA (isiF "str") (consA (bin ixF (varE 1) (conE (.int 1))) (consA (conE (.ty "str")) nilA)))) e h = .ok false h := fun {e} he => ev_not (v := true) (ev_val (ev_on (ev_cons (i1 he) (ev_cons ev_con ev_nil)) ms))
              have mk : mkOk (.str z) = decide (z ∈ ([("none" : Str), "own", "free"] : List Str)) := rfl
              have c1 := (isi_all (kc.ga g1)).2.2.1
              refine ⟨h1, ef_rt rfl (two (h1 := h) ?_), g1⟩
              rw [mk]
              cases zm : decide (z ∈ ([("none" : Str), "own", "free"] : List Str)) with
              | false =>
                rw [zm] at ni
                rw [show (decide (ns.length = l.length + 3) && ((false && isBlD c) && ((isS "own" (.str z) || lastA (.tup ns)) && (!isS "free" (.str z) || isT c)))) = false by simp]
                exact es_seqR (es_ifT (ev_orF (ist rfl) (ev_orT (ev_val (ev_bin (i1 rfl) eL ni)))) (es_ret ev_con))
              | true =>
                rw [zm] at ni
                cases cb : isBlD c with
                | false =>
                  rw [cb] at c1
                  rw [show (decide (ns.length = l.length + 3) && ((true && false) && ((isS "own" (.str z) || lastA (.tup ns)) && (!isS "free" (.str z) || isT c)))) = false by simp]
                  exact es_seqR (es_ifT (ev_orF (ist rfl) (ev_orF (ev_val (ev_bin (i1 rfl) eL ni)) (ev_not (v := false) (ev_val (ev_on (ev_cons (i2 rfl) (ev_cons ev_con ev_nil)) c1))))) (es_ret ev_con))
                | true =>
                  rw [cb] at c1
                  cases c with
                  | bl b =>
                    refine es_seq (es_ifF (ev_orF (ist rfl) (ev_orF (ev_val (ev_bin (i1 rfl) eL ni)) (ev_not (v := true) (ev_val (ev_on (ev_cons (i2 rfl) (ev_cons ev_con ev_nil)) c1))))) es_pass) ?_
                    have n1 : bin ixF (varE 0) (conE (.int 0)) [some (.ref n), some (.tup [.tup ns, .str z, .bl b]), some (.int t'), x'] h1 = .ok (.ref r) h1 := ev_bin (ev_var rfl) ev_con (ix_lst (g1.2 _ _ en) (by decide) rfl)
                    have ll : lenF [.ref r] h1 = .ok (.int (l.length : Nat)) h1 := by
                      have := len_lst (g1.2 _ _ er)
                      rw [List.length_map] at this
                      exact this
                    have ln : lenF [.tup ns] h1 = .ok (.int (ns.length : Nat)) h1 := rfl
                    have nn : neF (.int (ns.length : Nat)) (.int ((l.length : Int) + 3)) h1 = .ok (.bl (!scalEq (.int (ns.length : Nat)) (.int ((l.length : Int) + 3)))) h1 := rfl
                    by_cases cl : ns.length = l.length + 3
                    · have zz : scalEq (.int (ns.length : Nat)) (.int ((l.length : Int) + 3)) = true := by unfold scalEq; simp; omega
                      rw [zz] at nn
                      rw [decide_eq_true cl]
                      obtain ⟨i, hi⟩ : ∃ i, ns.getLast? = some (.int i) := by
                        obtain ⟨y, hy⟩ : ∃ y, ns.getLast? = some y := by
                          cases q : ns.getLast? with
                          | none =>
                            have : ns = [] := by simpa using q
                            rw [this] at cl
                            simp at cl
                          | some y => exact ⟨y, rfl⟩
                        obtain ⟨i, e⟩ := numB_int nb y (List.mem_of_getLast? hy)
                        exact ⟨i, by rw [hy, e]⟩
                      have lz : lastA (.tup ns) = decide (i = 0) := by
                        show lastZ ns = _
                        unfold lastZ
                        rw [hi]
                      have ez : neF (.int i) (.int 0) h1 = .ok (.bl (!decide (i = 0))) h1 := by
                        show R.ok (D.bl (!scalEq (.int i) (.int 0))) h1 = _
                        have : scalEq (.int i) (.int 0) = decide (i = 0) := by
                          unfold scalEq
                          rw [Bool.eq_iff_iff, beq_iff_eq, decide_eq_true_iff]
                        rw [this]
                      rw [lz]
                      show _ = S.rt (D.bl (true && ((true && true) && ((decide (z = "own") || decide (i = 0)) && (!decide (z = "free") || b))))) h1
                      have ow := ev_val (ev_bin (i1 (i := 1) (e := [some (.ref n), some (.tup [.tup ns, .str z, .bl b]), some (.int t'), x']) (h0 := h1) rfl) (ev_con (d := .str "own")) (ne_str (a := z) (b := "own") (h := h1)))
                      have l0 := ev_val (ev_bin (ev_bin (i0 (i := 1) (e := [some (.ref n), some (.tup [.tup ns, .str z, .bl b]), some (.int t'), x']) (h0 := h1) rfl) (ev_un ev_con neg_i) (last_ix hi)) (ev_con (d := .int 0)) ez)
                      have lne := ev_val (ev_bin (ev_on (ev_cons (i0 (i := 1) (e := [some (.ref n), some (.tup [.tup ns, .str z, .bl b]), some (.int t'), x']) (h0 := h1) rfl) ev_nil) ln) (ev_bin (ev_on (ev_cons n1 ev_nil) ll) (ev_con (d := .int 3)) add_i) nn)
                      have fin : retS (orE (bin neF (bin ixF (varE 1) (conE (.int 1))) (conE (.str "free"))) (bin ixF (varE 1) (conE (.int 2)))) [some (.ref n), some (.tup [.tup ns, .str z, .bl b]), some (.int t'), x'] h1 = S.rt (D.bl (!decide (z = "free") || b)) h1 := by
                        have nf := ev_bin (i1 (i := 1) (e := [some (.ref n), some (.tup [.tup ns, .str z, .bl b]), some (.int t'), x']) (h0 := h1) rfl) (ev_con (d := .str "free")) (ne_str (a := z) (b := "free") (h := h1))
                        cases zf : decide (z = "free") with
                        | true =>
                          rw [zf] at nf
                          exact es_ret (ev_orE0 nf (i2 rfl))
                        | false =>
                          rw [zf] at nf
                          exact es_ret (ev_orE1 nf)
                      cases zo : decide (z = "own") with
                      | true =>
                        rw [zo] at ow
                        refine es_seq (es_ifF (ev_orF lne (ev_andF ow)) es_pass) ?_
                        rw [fin]
                        simp
                      | false =>
                        rw [zo] at ow
                        cases zi : decide (i = 0) with
                        | true =>
                          rw [zi] at l0
                          refine es_seq (es_ifF (ev_orF lne (ev_andT ow l0)) es_pass) ?_
                          rw [fin]
                          simp
                        | false =>
                          rw [zi] at l0
                          exact es_seqR (es_ifT (ev_orF lne (ev_andT ow l0)) (es_ret ev_con))
                    · have zz : scalEq (.int (ns.length : Nat)) (.int ((l.length : Int) + 3)) = false := by unfold scalEq; simp; omega
                      rw [zz] at nn
                      rw [decide_eq_false cl, Bool.false_and]
                      exact es_seqR (es_ifT (ev_orT (ev_val (ev_bin (ev_on (ev_cons (i0 rfl) ev_nil) ln) (ev_bin (ev_on (ev_cons n1 ev_nil) ll) ev_con add_i) nn))) (es_ret ev_con))
                  | _ => cases cb
            | _ => cases st
        · have : numsD l.length (.tup ns) = false := by
            show (decide (ns.length = l.length + 3) && numB 0 ns) = false
            rw [nb, Bool.and_false]
          rw [this, Bool.false_and]
          exact ⟨h, ef_rt rfl (start (es_seqR (es_for (i_tup (i0 rfl)) lp))), GA.refl⟩
      | _ => cases at_
  · have n3 : ∀ a b c, v ≠ .tup [a, b, c] := fun a b c e => c3 ⟨a, b, c, e⟩
    rw [shape_not n3]
    refine ⟨h, ef_rt rfl ?_, GA.refl⟩
    unfold b_law_is_shape
    refine es_seqR (es_ifT ?_ (es_ret ev_con))
    cases v with
    | tup xs =>
      have ln : lenF [.tup xs] h = .ok (.int (xs.length : Nat)) h := rfl
      have nn : neF (.int (xs.length : Nat)) (.int 3) h = .ok (.bl (!scalEq (.int (xs.length : Nat)) (.int 3))) h := rfl
      have z : scalEq (.int (xs.length : Nat)) (.int 3) = false := by
        have := len_ne3 n3
        unfold scalEq
        simp
        omega
      rw [z] at nn
      exact ev_orF (ev_not (v := true) (ev_val (ev_on (ev_cons (ev_var rfl) (ev_cons ev_con ev_nil)) t1))) (ev_orT (ev_val (ev_bin (ev_on (ev_cons (ev_var rfl) ev_nil) ln) ev_con nn)))
    | _ => exact ev_orT (ev_not (v := false) (ev_val (ev_on (ev_cons (ev_var rfl) (ev_cons ev_con ev_nil)) t1)))
end ML

namespace ML
open PySem PySem.Spec PyProof.Rows L2
/-! K21sc: values whose text is wanted, without dicts; all(..) of a comprehension -/
theorem lc_gen {srcs : List (Nat × List D)} {g : GM} {tst : TM} {elt : EM} {n : Nat} {e0 : Env} {h0 : MH} {E : D → Env} {p : D → Bool} {f : D → D} (hs : ∀ h, GA h0 h → IT.ok h srcs = true) (hn : h0.length ≤ n) : ∀ (ds acc : List D) (h : MH), GA h0 h → h[n]? = some (.lst acc) → acc.length + ds.length < 1000 →
    (∀ d ∈ ds, ∀ h, GA h0 h → g d e0 h = some (E d) ∧ ∃ h1, tst (E d) h = .ok (p d) h1 ∧ GA h h1 ∧ (p d = true → ∃ h2, elt (E d) h1 = .ok (f d) h2 ∧ GA h1 h2)) →
    ∃ h', lcLoop srcs g tst elt n e0 ds h = .ok (.ref n) h' ∧ h'[n]? = some (.lst (acc ++ (ds.filter p).map f)) ∧ GA h0 h'
  | [], acc, h, q, e, hl, hd => ⟨h, by unfold lcLoop; rw [if_pos (hs h q)], by simpa using e, q⟩
  | d :: ds, acc, h, q, e, hl, hd => by
    obtain ⟨tg, h1, e1, g1, k1⟩ := hd d List.mem_cons_self h q
    cases c : p d with
    | false =>
      obtain ⟨h', e2, e3, q'⟩ := lc_gen hs hn ds acc h1 (q.trans g1) (g1.2 _ _ e) (by simp only [List.length_cons] at hl; omega) (fun x hx => hd x (List.mem_cons_of_mem _ hx))
      refine ⟨h', ?_, by rw [e3, List.filter_cons_of_neg (by rw [c]; decide)], q'⟩
      rw [← e2]
      conv => lhs; unfold lcLoop
      rw [if_pos (hs h q), tg]
      dsimp only
      rw [e1, c]
    | true =>
      obtain ⟨h2, e2, g2⟩ := k1 c
      have q2 := g2.2 _ _ (g1.2 _ _ e)
      obtain ⟨h', e3, e4, q'⟩ := lc_gen hs hn ds (acc ++ [f d]) (h2.set n (.lst (acc ++ [f d]))) (((q.trans g1).trans g2).setB hn) (set_get q2) (by simp only [List.length_append, List.length_cons, List.length_nil] at hl ⊢; omega) (fun x hx => hd x (List.mem_cons_of_mem _ hx))
      refine ⟨h', ?_, by rw [e4, List.filter_cons_of_pos c]; simp, q'⟩
      rw [← e3]
      conv => lhs; unfold lcLoop
      rw [if_pos (hs h q), tg]
      dsimp only
      rw [e1, c]
      dsimp only
      rw [e2]
      dsimp only
      rw [q2]
      dsimp only
      rw [if_pos (by simp only [List.length_cons] at hl; omega)]
theorem ev_gen {g : GM} {tst : TM} {elt : EM} {e : Env} {own : List Nat} {it : IM} {ds : List D} {srcs : List (Nat × List D)} {h h1 : MH} {E : D → Env} {p : D → Bool} {f : D → D} (hi : it e h = .ok ⟨ds, srcs⟩ h1) (hs : ∀ h2, GA h1 h2 → IT.ok h2 srcs = true) (hl : ds.length < 900)
    (hd : ∀ d ∈ ds, ∀ h2, GA h1 h2 → g d (wipeM e own) h2 = some (E d) ∧ ∃ h3, tst (E d) h2 = .ok (p d) h3 ∧ GA h2 h3 ∧ (p d = true → ∃ h4, elt (E d) h3 = .ok (f d) h4 ∧ GA h3 h4)) :
    ∃ h', lcE own it g tst elt e h = .ok (.ref h1.length) h' ∧ h'[h1.length]? = some (.lst ((ds.filter p).map f)) ∧ GA h1 h' := by
  obtain ⟨h', e1, e2, q⟩ := lc_gen (n := h1.length) (e0 := wipeM e own) hs (Nat.le_refl _) ds [] (h1 ++ [O.lst []]) GA.app (by simp) (by simp; omega) hd
  refine ⟨h', ?_, by simpa using e2, q⟩
  unfold lcE
  rw [hi]
  exact e1
theorem filter_yes {l : List D} : l.filter (fun _ => true) = l := List.filter_eq_self.mpr fun _ _ => rfl
theorem all_bl {h : MH} {n : Nat} {ds : List D} {f : D → Bool} (e : h[n]? = some (.lst (ds.map fun d => .bl (f d)))) : allF [.ref n] h = .ok (.bl (ds.all f)) h := by
  have hb : ∀ ds : List D, bools (ds.map fun d => .bl (f d)) = some (ds.map f) := fun ds => by
    induction ds with
    | nil => rfl
    | cons d ds ih =>
      rw [List.map_cons, List.map_cons]
      unfold bools
      rw [ih]
  unfold allF lstOf
  dsimp only
  rw [e]
  dsimp only
  rw [hb]
  dsimp only
  rw [List.all_map]
  rfl
theorem ix_m1 {h : MH} {n : Nat} {xs : List D} {d : D} (e : h[n]? = some (.lst xs)) (hl : 0 < xs.length) (q : xs[xs.length - 1]? = some d) : ixF (.ref n) (.int (-1)) h = .ok d h := by
  have a : atI xs (-1) = some d := by
    have i : ixN xs.length (-1) = some (xs.length - 1) := by
      unfold ixN
      first
        | (rw [if_neg (by decide), if_pos (by omega)]; congr 1; omega)
        | (simp; omega)
    unfold atI
    rw [i]
    exact q
  simp [ixF, seqOf, e, a]
theorem loop_inv {srcs : List (Nat × List D)} {g : GM} {body : SM} {P : Nat → Env → MH → Prop} (hs : ∀ i e h, P i e h → IT.ok h srcs = true) : ∀ (ws : List D) (i0 : Nat) (e : Env) (h : MH), (∀ i w, ws[i]? = some w → ∀ e h, P (i0 + i) e h → ∃ e1 e2 h2, g w e h = some e1 ∧ body e1 h = .nx e2 h2 ∧ P (i0 + i + 1) e2 h2) → P i0 e h →
    ∃ e' h', loopS srcs g body ws e h = .nx e' h' ∧ P (i0 + ws.length) e' h'
  | [], i0, e, h, _, p => ⟨e, h, loop_nil (hs _ _ _ p), p⟩
  | w :: ws, i0, e, h, hb, p => by
    obtain ⟨e1, e2, h2, q1, q2, q3⟩ := hb 0 w rfl e h p
    obtain ⟨e', h', e3, p'⟩ := loop_inv hs ws (i0 + 1) e2 h2 (fun i v hv e h p => by
      have := hb (i + 1) v (by simpa using hv) e h (by rw [show i0 + (i + 1) = i0 + 1 + i by omega]; exact p)
      rw [show i0 + (i + 1) + 1 = i0 + 1 + i + 1 by omega] at this
      exact this) q3
    exact ⟨e', h', (loop_cons (hs _ _ _ p) q1 q2).trans e3, by rw [List.length_cons, show i0 + (ws.length + 1) = i0 + 1 + ws.length by omega]; exact p'⟩
/-- as V, and no dict lies within -/
def Vh (k b : Nat) (h : MH) (f c : Nat) (d : D) : Prop := ∃ p, rawP k h f b d = some p ∧ p.showable = true ∧ p.shown.length ≤ c ∧ p.depth ≤ f ∧ p.hasDict = false
section
variable {k b f c : Nat} {h h' : MH}
theorem Vh.v {d : D} (v : Vh k b h f c d) : V k b h f c d := by
  obtain ⟨p, a, b, c, d, _⟩ := v
  exact ⟨p, a, b, c, d⟩
theorem Vh.le {b' f' c' : Nat} {d : D} (v : Vh k b h f c d) (hf : f ≤ f') (hc : c ≤ c') (hb : b ≤ b') : Vh k b' h f' c' d := by
  obtain ⟨p, e, s, l, dp, hd⟩ := v
  exact ⟨p, raw_mono f f' b b' d p hf hb (fun _ _ _ _ e => e) e, s, by omega, by omega, hd⟩
theorem Vh.kg {d : D} (v : Vh k b h f c d) (g : KG k h h') : Vh k b h' f c d := by
  obtain ⟨p, e, q⟩ := v
  exact ⟨p, raw_mono f f b b d p (Nat.le_refl _) (Nat.le_refl _) (fun n o _ hn e => g.2 n o hn e) e, q⟩
theorem Vh.non (hf : 1 ≤ f) (hc : 100 ≤ c) : Vh k b h f c .non := by
  obtain ⟨f, rfl⟩ : ∃ j, f = j + 1 := ⟨f - 1, by omega⟩
  exact ⟨.none, rfl, by simp only [PyData.showable], Nat.le_trans (by decide +kernel : PyData.none.shown.length ≤ 100) hc, by simp only [PyData.depth]; omega, by simp only [PyData.hasDict]⟩
theorem Vh.bl {x : Bool} (hf : 1 ≤ f) (hc : 100 ≤ c) : Vh k b h f c (.bl x) := by
  obtain ⟨f, rfl⟩ : ∃ j, f = j + 1 := ⟨f - 1, by omega⟩
  exact ⟨.bool x, rfl, by simp only [PyData.showable], Nat.le_trans (by cases x <;> decide +kernel : (PyData.bool x).shown.length ≤ 100) hc, by simp only [PyData.depth]; omega, by simp only [PyData.hasDict]⟩
theorem Vh.int {i : Int} (hf : 1 ≤ f) (hc : 100 ≤ c) (s : (PyData.int i).showable = true) (l : (PyData.int i).shown.length ≤ 100) : Vh k b h f c (.int i) := by
  obtain ⟨f, rfl⟩ : ∃ j, f = j + 1 := ⟨f - 1, by omega⟩
  exact ⟨.int i, rfl, s, Nat.le_trans l hc, by simp only [PyData.depth]; omega, by simp only [PyData.hasDict]⟩
theorem Vh.nat {i : Nat} (hf : 1 ≤ f) (hc : 100 ≤ c) (hi : i < 64) : Vh k b h f c (.int (i : Nat)) := Vh.int hf hc (int_small i hi).1 (int_small i hi).2
theorem Vh.str {s : Str} (hf : 1 ≤ f) (hc : 100 ≤ c) (hs : s.length ≤ 9) (ha : ∀ x ∈ s.cps.toList, x < 128) : Vh k b h f c (.str s) := by
  obtain ⟨f, rfl⟩ : ∃ j, f = j + 1 := ⟨f - 1, by omega⟩
  refine ⟨.str s, rfl, by simp only [PyData.showable], ?_, by simp only [PyData.depth]; omega, by simp only [PyData.hasDict]⟩
  have := StrLaws.reprText_len s (fun x hx => Nat.lt_trans (ha x hx) (by decide))
  simp only [PyData.shown]
  omega
theorem Vh.lit {s : Str} (hf : 1 ≤ f) (hc : 100 ≤ c) (hs : (decide (s.length ≤ 9) && s.cps.toList.all fun x => decide (x < 128)) = true) : Vh k b h f c (.str s) := by
  simp only [Bool.and_eq_true, decide_eq_true_eq] at hs
  exact Vh.str hf hc hs.1 fun x hx => by simpa using List.all_eq_true.mp hs.2 x hx
theorem allO_exH {F : D → Option PyData} {c n : Nat} : ∀ {l : List D}, (∀ d ∈ l, ∃ p, F d = some p ∧ p.showable = true ∧ p.shown.length ≤ c ∧ p.depth ≤ n ∧ p.hasDict = false) → ∃ ps, allO F l = some ps ∧ ps.length = l.length ∧ ∀ p ∈ ps, p.showable = true ∧ p.shown.length ≤ c ∧ p.depth ≤ n ∧ p.hasDict = false
  | [], _ => ⟨[], rfl, rfl, fun _ h => (nomatch h)⟩
  | d :: l, h => by
    obtain ⟨p, e, q⟩ := h d List.mem_cons_self
    obtain ⟨ps, e2, n2, q2⟩ := allO_exH (fun x hx => h x (List.mem_cons_of_mem _ hx))
    refine ⟨p :: ps, ?_, by rw [List.length_cons, List.length_cons, n2], fun x hx => ?_⟩
    · unfold allO
      rw [e]
      dsimp only
      rw [e2]
    · rcases List.mem_cons.mp hx with z | z
      · rw [z]; exact q
      · exact q2 x z
theorem noDict_all : ∀ {ps : List PyData}, (∀ p ∈ ps, p.hasDict = false) → PyData.hasDictAll ps = false
  | [], _ => by simp only [PyData.hasDictAll]
  | p :: ps, h => by
    simp only [PyData.hasDictAll]
    rw [h p List.mem_cons_self, noDict_all fun x hx => h x (List.mem_cons_of_mem _ hx)]
    rfl
theorem Vh.tup {l : List D} {m c' : Nat} (hv : ∀ d ∈ l, Vh k b h f c d) (hl : l.length ≤ m) (hc : m * (c + 2) + 3 ≤ c') : Vh k b h (f + 1) c' (.tup l) := by
  obtain ⟨ps, e, hlen, hp⟩ := allO_exH hv
  refine ⟨.tuple ps, ?_, ?_, ?_, ?_, ?_⟩
  · unfold rawP
    rw [e]
  · simp only [PyData.showable]
    exact (showableAll_iff ps).mpr fun p h => (hp p h).1
  · simp only [PyData.shown]
    have := tupleText_le (PyData.shownAll ps)
    have := piled_ps (m := m) (c := c) (ps := ps) (by omega) fun p h => (hp p h).2.1
    omega
  · simp only [PyData.depth]
    have := (depthAll_le ps f).mpr fun p h => (hp p h).2.2.1
    omega
  · simp only [PyData.hasDict]
    exact noDict_all fun p h => (hp p h).2.2.2
theorem Vh.lst {n : Nat} {l : List D} {m c' : Nat} (hv : ∀ d ∈ l, Vh k n h f c d) (he : h[n]? = some (.lst l)) (hn : n < b) (hk : n ≠ k) (hl : l.length ≤ m) (hc : m * (c + 2) + 3 ≤ c') : Vh k b h (f + 1) c' (.ref n) := by
  obtain ⟨ps, e, hlen, hp⟩ := allO_exH hv
  refine ⟨.list ps, ?_, ?_, ?_, ?_, ?_⟩
  · unfold rawP
    rw [if_pos ⟨hn, hk⟩, he]
    dsimp only
    rw [e]
  · simp only [PyData.showable]
    exact (showableAll_iff ps).mpr fun p h => (hp p h).1
  · simp only [PyData.shown]
    have := listText_le (PyData.shownAll ps)
    have := piled_ps (m := m) (c := c) (ps := ps) (by omega) fun p h => (hp p h).2.1
    omega
  · simp only [PyData.depth]
    have := (depthAll_le ps f).mpr fun p h => (hp p h).2.2.1
    omega
  · simp only [PyData.hasDict]
    exact noDict_all fun p h => (hp p h).2.2.2
/-- its text is what it is, wherever nothing is lost -/
def Rp (k : Nat) (h : MH) (d : D) : Prop := ∃ z, ∀ h', KG k h h' → reprF4 d h' = .ok (.str z) h'
theorem Vh.rp {d : D} (v : Vh k b h f c d) (hf : f ≤ 12) (hc : c ≤ 1000000) : Rp k h d := by
  obtain ⟨p, e, s, l, dp, hd⟩ := v
  refine ⟨p.shown, fun h' g => ?_⟩
  have e' := raw_mono f 12 b b d p hf (Nat.le_refl _) (fun n o _ hn e => g.2 n o hn e) e
  have t := raw_to 12 b d p e' ⟨s, by omega, by omega⟩
  unfold reprF4
  rw [t]
  dsimp only
  rw [if_pos (.inl hd)]
theorem rp_dct0 {n : Nat} (hn : n ≠ k) (e : h[n]? = some (.dct [])) : Rp k h (.ref n) := by
  have sm : small (.dict []) = some (.dict []) := by
    unfold small
    exact if_pos ⟨by decide +kernel, by decide +kernel, by decide +kernel⟩
  refine ⟨(PyData.dict []).shown, fun h' g => ?_⟩
  have e' := g.2 _ _ hn e
  have t : toP h' 12 (.ref n) = some (.dict []) := by
    unfold toP
    rw [e']
    dsimp only [kvO]
    rw [if_pos (by rfl)]
    exact sm
  have d0 : isD0 h' (.ref n) = true := by unfold isD0; dsimp only; rw [e']
  unfold reprF4
  rw [t]
  dsimp only
  rw [if_pos (.inr d0)]
theorem V.tyk {d : D} (v : V k b h f c d) : TyK h d := v.ty
theorem V.vk {d : D} (v : V k b h f c d) : VK h d := by
  obtain ⟨j, rfl⟩ := v.pos
  refine ⟨v.ty, fun x y z e => ?_⟩
  subst e
  rcases v.cases with e | ⟨x, e⟩ | ⟨x, e⟩ | ⟨x, e⟩ | ⟨l, e, q⟩ | ⟨n, l, e, _⟩ | ⟨n, l, e, _⟩
  · cases e
  · cases e
  · cases e
  · cases e
  · cases e
    obtain ⟨_, vx⟩ := q x (by simp)
    obtain ⟨_, vy⟩ := q y (by simp)
    obtain ⟨_, vz⟩ := q z (by simp)
    refine ⟨vx.ty, vy.ty, vz.ty, fun ns e d hd => ?_⟩
    subst e
    obtain ⟨i, rfl⟩ := vx.pos
    rcases vx.cases with e | ⟨x, e⟩ | ⟨x, e⟩ | ⟨x, e⟩ | ⟨l, e, q2⟩ | ⟨n, l, e, _⟩ | ⟨n, l, e, _⟩
    · cases e
    · cases e
    · cases e
    · cases e
    · cases e
      obtain ⟨_, vd⟩ := q2 d hd
      exact vd.ty
    · cases e
    · cases e
  · cases e
  · cases e
theorem Rp.kg {d : D} (r : Rp k h d) (g : KG k h h') : Rp k h' d := by
  obtain ⟨z, e⟩ := r
  exact ⟨z, fun h2 g2 => e h2 (g.trans g2)⟩
theorem TyK.kg {d : D} (t : TyK h d) (S : Src h' k) (g : KG k h h') : TyK h' d := by
  obtain ⟨T, e⟩ := t
  cases d <;> first | exact ⟨_, rfl⟩ | (cases e; done) | skip
  rename_i n
  by_cases c : n = k
  · subst c
    obtain ⟨x, y, q, _⟩ := S
    exact ⟨"list", by unfold tyD; dsimp only; rw [q]⟩
  · unfold tyD at e
    dsimp only at e
    split at e
    · rename_i l hl; exact ⟨"list", by unfold tyD; dsimp only; rw [g.2 _ _ c hl]⟩
    · rename_i l hl; exact ⟨"list", by unfold tyD; dsimp only; rw [g.2 _ _ c hl]⟩
    · rename_i l hl; exact ⟨"dict", by unfold tyD; dsimp only; rw [g.2 _ _ c hl]⟩
    · cases e
theorem VK.kg {v : D} (K : VK h v) (S : Src h' k) (g : KG k h h') : VK h' v := ⟨K.ty.kg S g, fun a b c e => by
  obtain ⟨x, y, z, w⟩ := K.parts a b c e
  exact ⟨x.kg S g, y.kg S g, z.kg S g, fun ns q d hd => (w ns q d hd).kg S g⟩⟩
end
end ML

namespace ML
open PySem PySem.Spec PyProof.Rows L2
/-! K21sd: drawn shapes, and ones with one part changed -/
def shpS : SM := seqS (expS (bmE "list" appF (varE 3) (consA (onA m_law_draw (consA (varE 0) (consA (bin addF (varE 4) (conE (.int 2))) (nilA)))) (nilA)))) (setS 4 (onA max2F (consA (varE 4) (consA (bin ixF (varE 3) (un negF (conE (.int 1)))) (nilA)))))
def marks : List Str := ["none", "own", "own", "free"]
/-- a drawn shape -/
def ShD (n : Nat) (d : D) : Prop := ∃ ns z b, d = .tup [.tup ns, .str z, .bl b] ∧ ns.length = n + 3 ∧ (∀ x ∈ ns, ∃ i : Nat, x = .int (i : Nat) ∧ i < 40) ∧ z ∈ marks
section
variable {h h' : MH} {k n r q : Nat} {l : List Str}
theorem rule_len {e : Env} {i : Nat} (en : h[n]? = some (.lst [.ref r, .ref q])) (er : h[r]? = some (.lst (l.map .str))) (he : e[i]? = some (some (.ref n))) : bin addF (onA lenF (consA (bin ixF (varE i) (conE (.int 0))) (nilA))) (conE (.int 3)) e h = .ok (.int ((l.length + 3 : Nat) : Int)) h := by
  have ll := len_lst er
  rw [List.length_map] at ll
  exact ev_bin (ev_on (ev_cons (ev_bin (ev_var he) ev_con (ix_lst en (by decide) rfl)) ev_nil) ll) ev_con add_i
theorem law_shape (S : Src h k) (nk : n ≠ k) (rk : r ≠ k) (l3 : l.length ≤ 3) (en : h[n]? = some (.lst [.ref r, .ref q])) (er : h[r]? = some (.lst (l.map .str))) : ∃ d h', m_law_shape [.ref k, .ref n] h = .ok d h' ∧ ShD l.length d ∧ Src h' k ∧ KG k h h' := by
  have hk := S.lt
  obtain ⟨h1, d1⟩ : ∃ x, x = h ++ [O.lst []] := ⟨_, rfl⟩
  have g1 : GA h h1 := by rw [d1]; exact GA.app
  have q1 : h1[h.length]? = some (.lst []) := by rw [d1]; simp
  have S1 : Src h1 k := by rw [d1]; exact S.app
  have fk : h.length ≠ k := by omega
  obtain ⟨eE, h2, e2, ns, top, x2, ee, q2, ln, hn, t0, t1, S2, k2⟩ := loop_inv (srcs := []) (g := gnm 2) (body := shpS) (P := fun j e h' => ∃ (ns : List D) (top : Int) (x2 : Option D), e = [some (.ref k), some (.ref n), x2, some (.ref h.length), some (.int top), none, none] ∧ h'[h.length]? = some (.lst ns) ∧ ns.length = j ∧ (∀ x ∈ ns, ∃ i : Nat, x = .int (i : Nat) ∧ i ≤ j) ∧ 0 ≤ top ∧ top ≤ j ∧ Src h' k ∧ KX k h.length h1 h') (fun _ _ _ _ => it_nil) (rangeD 0 ((l.length + 3 : Nat) : Int).toNat) 0 [some (.ref k), some (.ref n), none, some (.ref h.length), some (.int 0), none, none] h1 (fun j x hx e h' ⟨ns, top, x2, ee, q, ln, hn, t0, t1, S', k'⟩ => by
    subst ee
    have hj : j < 6 := by
      have := (List.getElem?_eq_some_iff.mp hx).1
      unfold rangeD at this
      rw [List.length_map, List.length_range] at this
      omega
    obtain ⟨v, h3, e3, v0, v1, S3, g3, _⟩ := draw2 (span := top + 2) S' (by omega) (by omega)
    have q3 := g3.2 _ _ fk q
    have ap := append_i (y := .int v) q3 (by omega)
    obtain ⟨h4, d4⟩ : ∃ x, x = h3.set h.length (.lst (ns ++ [.int v])) := ⟨_, rfl⟩
    rw [← d4] at ap
    have q4 : h4[h.length]? = some (.lst (ns ++ [.int v])) := by rw [d4]; exact set_get q3
    have S4 : Src h4 k := by rw [d4]; exact S3.other fk
    have ix : ixF (.ref h.length) (.int (-1)) h4 = .ok (.int v) h4 := ix_m1 q4 (by simp) (by simp)
    have mx : max2F [.int top, .int v] h4 = .ok (.int (if v > top then v else top)) h4 := rfl
    have tn : 0 ≤ (if v > top then v else top) ∧ (if v > top then v else top) ≤ ((j + 1 : Nat) : Int) := by
      split <;> omega
    refine ⟨[some (.ref k), some (.ref n), some x, some (.ref h.length), some (.int top), none, none], _, h4, rfl, ?_, ns ++ [.int v], (if v > top then v else top), some x, rfl, q4, by rw [List.length_append, ln]; rfl, fun y hy => ?_, tn.1, by simpa using tn.2, S4, (k'.trans g3.kx).trans (by rw [d4]; exact KX.set)⟩
    · unfold shpS
      exact es_seq (es_exp (ev_bm (ev_var rfl) (ty_lst q) (ev_cons (ev_on (ev_cons (ev_var rfl) (ev_cons (ev_bin (ev_var rfl) ev_con add_i) ev_nil)) e3) ev_nil) ap)) (es_set' (ev_on (ev_cons (ev_var rfl) (ev_cons (ev_bin (ev_var rfl) (ev_un ev_con neg_i) ix) ev_nil)) mx) rfl)
    · rcases List.mem_append.mp hy with z | z
      · obtain ⟨i, e, hi⟩ := hn y z
        exact ⟨i, e, by omega⟩
      · simp only [List.mem_cons, List.not_mem_nil, or_false] at z
        refine ⟨v.toNat, by rw [z, Int.toNat_of_nonneg v0], by omega⟩) ⟨[], 0, none, rfl, q1, rfl, fun _ h => (nomatch h), by omega, by simp, S1, KX.refl⟩
  subst ee
  have lnn : ns.length = l.length + 3 := by
    unfold rangeD at ln
    rw [List.length_map, List.length_range] at ln
    omega
  have hn' : ∀ x ∈ ns, ∃ i : Nat, x = .int (i : Nat) ∧ i < 40 := fun x hx => by
    obtain ⟨i, e, hi⟩ := hn x hx
    unfold rangeD at hi
    rw [List.length_map, List.length_range] at hi
    exact ⟨i, e, by omega⟩
  have kx12 : KG k h h2 := KX.kg g1.kg (Nat.le_refl _) k2
  -- the mark, the bool
  obtain ⟨d3, h3, e3, L3, S3, k3⟩ := StrL.new (L := marks) (by decide) S2
  obtain ⟨z, h4, e4, zm, S4, k4⟩ := L3.pick (by decide) (by decide) S3
  obtain ⟨v, h5, e5, v0, v1, S5, k5, _⟩ := draw2 (span := 2) S4 (by decide) (by decide)
  have q5 := k5.2 _ _ fk (k4.2 _ _ fk (k3.2 _ _ fk q2))
  have k25 := (k3.trans k4).trans k5
  obtain ⟨bb, dbb⟩ : ∃ x, x = scalEq (.int v) (.int 0) := ⟨_, rfl⟩
  have eb : eqF (.int v) (.int 0) h5 = .ok (.bl bb) h5 := by rw [dbb]; exact eq_i
  -- the last one
  have st : ∃ ns' h6, (ifS (andT (valT (bin neF (varE 5) (conE (.str "own")))) (valT (bin gtF (onA m_law_draw (consA (varE 0) (consA (conE (.int 4)) (nilA)))) (conE (.int 0))))) (setX (varE 3) (un negF (conE (.int 1))) (conE (.int 0))) (passS)) [some (.ref k), some (.ref n), x2, some (.ref h.length), some (.int top), some (.str z), some (.bl bb)] h5 = .nx [some (.ref k), some (.ref n), x2, some (.ref h.length), some (.int top), some (.str z), some (.bl bb)] h6 ∧ h6[h.length]? = some (.lst ns') ∧ ns'.length = l.length + 3 ∧ (∀ x ∈ ns', ∃ i : Nat, x = .int (i : Nat) ∧ i < 40) ∧ Src h6 k ∧ KX k h.length h5 h6 := by
    have c1 := ev_val (ev_bin (ev_var (i := 5) (e := [some (.ref k), some (.ref n), x2, some (.ref h.length), some (.int top), some (.str z), some (.bl bb)]) rfl) (ev_con (d := .str "own")) (ne_str (a := z) (b := "own") (h := h5)))
    cases zo : decide (z = "own") with
    | true =>
      rw [zo] at c1
      exact ⟨ns, h5, es_ifF (ev_andF c1) es_pass, q5, lnn, hn', S5, KX.refl⟩
    | false =>
      rw [zo] at c1
      obtain ⟨w, h6, e6, w0, w1, S6, k6, _⟩ := draw2 (span := 4) S5 (by decide) (by decide)
      have c2 := ev_val (ev_bin (ev_on (ev_cons (ev_var (i := 0) (e := [some (.ref k), some (.ref n), x2, some (.ref h.length), some (.int top), some (.str z), some (.bl bb)]) rfl) (ev_cons ev_con ev_nil)) e6) (ev_con (d := .int 0)) gt_i)
      have q6 := k6.2 _ _ fk q5
      cases wc : decide ((0 : Int) < w) with
      | false =>
        rw [wc] at c2
        exact ⟨ns, h6, es_ifF (ev_andT c1 c2) es_pass, q6, lnn, hn', S6, k6.kx⟩
      | true =>
        rw [wc] at c2
        have sx : stF (.ref h.length) (.int (-1)) (.int 0) h6 = some (h6.set h.length (.lst (ns.set (ns.length - 1) (.int 0)))) := by
          have j : ixN ns.length (-1) = some (ns.length - 1) := by
            unfold ixN
            first
              | (rw [if_neg (by decide), if_pos (by omega)]; congr 1; omega)
              | (simp; omega)
          unfold stF
          dsimp only
          rw [q6]
          dsimp only
          rw [j]
        refine ⟨ns.set (ns.length - 1) (.int 0), _, es_ifT (ev_andT c1 c2) (es_setX ev_con (ev_var rfl) (ev_un ev_con neg_i) sx), set_get q6, by rw [List.length_set]; exact lnn, fun x hx => ?_, S6.other fk, k6.kx.trans KX.set⟩
        rcases List.mem_or_eq_of_mem_set hx with z | z
        · exact hn' x z
        · exact ⟨0, by rw [z]; rfl, by decide⟩
  obtain ⟨ns', h6, e6, q6, ln6, hn6, S6, k6⟩ := st
  have tf : tupleF [.ref h.length] h6 = .ok (.tup ns') h6 := by unfold tupleF seqOf; dsimp only; rw [q6]
  have fin : ∃ b h7, orE (varE 6) (andE (bin eqF (varE 5) (conE (.str "free"))) (bin gtF (onA m_law_draw (consA (varE 0) (consA (conE (.int 4)) (nilA)))) (conE (.int 0)))) [some (.ref k), some (.ref n), x2, some (.ref h.length), some (.int top), some (.str z), some (.bl bb)] h6 = .ok (.bl b) h7 ∧ Src h7 k ∧ KG k h6 h7 := by
    cases bb with
    | true => exact ⟨true, h6, ev_orE1 (ev_var rfl), S6, KG.refl⟩
    | false =>
      have c1 := ev_bin (ev_var (i := 5) (e := [some (.ref k), some (.ref n), x2, some (.ref h.length), some (.int top), some (.str z), some (.bl false)]) rfl) (ev_con (d := .str "free")) (eq_sS (z := z) (w := "free") (h := h6))
      cases zo : decide (z = "free") with
      | false =>
        rw [zo] at c1
        exact ⟨false, h6, ev_orE0 (ev_var rfl) (ev_andF0 c1), S6, KG.refl⟩
      | true =>
        rw [zo] at c1
        obtain ⟨w, h7, e7, w0, w1, S7, k7, _⟩ := draw2 (span := 4) S6 (by decide) (by decide)
        exact ⟨_, h7, ev_orE0 (ev_var rfl) (ev_andE c1 (ev_bin (ev_on (ev_cons (ev_var rfl) (ev_cons ev_con ev_nil)) e7) ev_con gt_i)), S7, k7⟩
  obtain ⟨b, h7, e7, S7, k7⟩ := fin
  refine ⟨.tup [.tup ns', .str z, .bl b], h7, ef_rt rfl ?_, ⟨ns', z, b, rfl, ln6, hn6, zm⟩, S7, (KX.kg (kx12.trans k25) (Nat.le_refl _) k6).trans k7⟩
  unfold b_law_shape
  refine es_seq (es_par2 (ev_cons (ev_on ev_nil (by rw [d1]; exact lst_new (by decide : 0 ≤ 1000000))) (ev_cons ev_con (ev_nil (h := h1))))) ?_
  refine es_seq (es_for (ei_rng (ev_cons (rule_len (g1.2 _ _ en) (g1.2 _ _ er) rfl) ev_nil) ⟨by omega, by omega⟩) e2) ?_
  refine es_seq (es_par2 (ev_cons (ev_on (ev_cons (ev_var rfl) (ev_cons (ev_on (ev_cons ev_con (ev_cons ev_con (ev_cons ev_con (ev_cons ev_con ev_nil)))) e3) ev_nil)) e4) (ev_cons (ev_bin (ev_on (ev_cons (ev_var rfl) (ev_cons ev_con ev_nil)) e5) ev_con eb) ev_nil))) ?_
  refine es_seq e6 ?_
  exact es_ret (ev_on (ev_cons (ev_on (ev_cons (ev_var rfl) ev_nil) tf) (ev_cons (ev_var rfl) (ev_cons e7 ev_nil))) (tup_new (by decide : 3 ≤ 1000000)))
end
end ML

namespace ML
open PySem PySem.Spec PyProof.Rows L2
/-! K21se: drawn values with one part changed -/
theorem ints_nat : ∀ {ns : List D}, (∀ x ∈ ns, ∃ i : Nat, x = .int (i : Nat) ∧ i < 40) → ∃ is : List Int, intsD ns = some is ∧ is.length = ns.length ∧ ∀ i ∈ is, 0 ≤ i ∧ i < 40
  | [], _ => ⟨[], rfl, rfl, fun _ h => (nomatch h)⟩
  | x :: ns, h => by
    obtain ⟨i, e, hi⟩ := h x List.mem_cons_self
    obtain ⟨is, e1, e2, e3⟩ := ints_nat (ns := ns) fun y hy => h y (List.mem_cons_of_mem _ hy)
    refine ⟨(i : Int) :: is, ?_, by rw [List.length_cons, List.length_cons, e2], fun y hy => ?_⟩
    · rw [e]
      unfold intsD
      rw [e1]
      rfl
    · rcases List.mem_cons.mp hy with z | z
      · rw [z]; omega
      · exact e3 y z
theorem max_ok {h : MH} {n : Nat} {ns : List D} (e : h[n]? = some (.lst ns)) (hn : ∀ x ∈ ns, ∃ i : Nat, x = .int (i : Nat) ∧ i < 40) (h0 : 0 < ns.length) : ∃ t : Nat, maxLF [.ref n] h = .ok (.int (t : Nat)) h ∧ t < 40 := by
  obtain ⟨is, e1, e2, e3⟩ := ints_nat hn
  cases is with
  | nil => rw [← e2] at h0; simp at h0
  | cons i is =>
    obtain ⟨m1, _⟩ := maxI_ok (l := i :: is) (by simp)
    obtain ⟨a, b⟩ := e3 _ m1
    refine ⟨(maxI (i :: is)).toNat, ?_, by omega⟩
    unfold maxLF
    dsimp only
    rw [e]
    dsimp only
    rw [e1]
    dsimp only
    rw [Int.toNat_of_nonneg a]
section
variable {h h' : MH} {k n r q f b c : Nat} {l : List Str} {ns : List D} {z : Str} {bb : Bool}
theorem pickD {xs : List D} (S : Src h k) (h0 : 0 < xs.length) (h1 : xs.length < 1000) : ∃ d h2, m_law_pick [.ref k, .ref h.length] (h ++ [O.lst xs]) = .ok d h2 ∧ d ∈ xs ∧ Src h2 k ∧ KG k (h ++ [O.lst xs]) h2 := by
  have hk := S.lt
  obtain ⟨d, h2, e, m, S2, g, _⟩ := pick2 (k := k) (n := h.length) (l := xs) (h := h ++ [O.lst xs]) S.app (by omega) (by simp) h0 h1
  exact ⟨d, h2, e, m, S2, g⟩
/-- the value's parts are data -/
theorem res_ok {m c' : D} {ns' : List D} (hn : ∀ x ∈ ns', Vh k b h 2 400 x) (hl : ns'.length ≤ 7) (hm : Vh k b h 2 400 m) (hc : Vh k b h 2 400 c') : VK h (.tup [.tup ns', m, c']) ∧ Rp k h (.tup [.tup ns', m, c']) := by
  have v1 : Vh k b h 3 3000 (.tup ns') := Vh.tup (m := 7) hn hl (by decide)
  have v : Vh k b h 4 10000 (.tup [.tup ns', m, c']) := Vh.tup (m := 3) (c := 3000) (fun d hd => by
    simp only [List.mem_cons, List.not_mem_nil, or_false] at hd
    rcases hd with e | e | e
    · rw [e]; exact v1
    · rw [e]; exact hm.le (by decide) (by decide) (Nat.le_refl _)
    · rw [e]; exact hc.le (by decide) (by decide) (Nat.le_refl _)) (by simp) (by decide)
  exact ⟨v.v.vk, v.rp (by decide) (by decide)⟩
theorem nats_vh (hn : ∀ x ∈ ns, ∃ i : Nat, x = .int (i : Nat) ∧ i < 40) : ∀ x ∈ ns, Vh k b h 2 400 x := fun x hx => by
  obtain ⟨i, e, hi⟩ := hn x hx
  rw [e]
  exact Vh.nat (by decide) (by decide) (by omega)
theorem mark_vh (hz : z ∈ marks) : Vh k b h 2 400 (.str z) := by
  unfold marks at hz
  simp only [List.mem_cons, List.not_mem_nil, or_false] at hz
  rcases hz with e | e | e | e <;> rw [e] <;> exact Vh.lit (by decide) (by decide) (by decide)
theorem law_odd {d : D} (S : Src h k) (Q : ShD l.length d) (l3 : l.length ≤ 3) : ∃ v h', m_law_odd [.ref k, d] h = .ok v h' ∧ VK h' v ∧ Rp k h' v ∧ Src h' k ∧ KG k h h' := by
  obtain ⟨ns, z, bb, rfl, ln, hn, hz⟩ := Q
  have hk := S.lt
  obtain ⟨T, dT⟩ : ∃ T, T = D.tup [.tup ns, .str z, .bl bb] := ⟨_, rfl⟩
  -- found
  obtain ⟨h1, d1⟩ : ∃ x, x = h ++ [O.lst ns] := ⟨_, rfl⟩
  have g1 : GA h h1 := by rw [d1]; exact GA.app
  have q1 : h1[h.length]? = some (.lst ns) := by rw [d1]; simp
  have fk : h.length ≠ k := by omega
  have S1 : Src h1 k := by rw [d1]; exact S.app
  have lf : listF [.tup ns] h = .ok (.ref h.length) h1 := by unfold listF seqOf; dsimp only; rw [d1]
  obtain ⟨kd, h2, e2, kd0, kd1, S2, k2, n2⟩ := draw2 (span := 8) S1 (by decide) (by decide)
  have q2 := k2.2 _ _ fk q1
  obtain ⟨tt, e3, tt1⟩ := max_ok q2 hn (by omega)
  have ll : lenF [.ref h.length] h2 = .ok (.int (ns.length : Nat)) h2 := len_lst q2
  obtain ⟨at_, h4, e4, at0, at1, S4, k4, n4⟩ := draw2 (span := (ns.length : Nat)) S2 (by omega) (by omega)
  have q4 := k4.2 _ _ fk q2
  have K4 : KG k h h4 := (g1.kg.trans k2).trans k4
  have len1 : h1.length = h.length + 1 := by rw [d1]; simp
  have fl : h.length < h4.length := by rw [n4, n2]; omega
  have kl : k < h4.length := by omega
  have i0 : ∀ {e : Env} {h0 : MH}, e[1]? = some (some T) → bin ixF (varE 1) (conE (.int 0)) e h0 = .ok (.tup ns) h0 := fun {e h0} he => ev_bin (ev_var he) ev_con (by rw [dT]; exact ix_tup (by decide) rfl)
  have i1 : ∀ {e : Env} {h0 : MH}, e[1]? = some (some T) → bin ixF (varE 1) (conE (.int 1)) e h0 = .ok (.str z) h0 := fun {e h0} he => ev_bin (ev_var he) ev_con (by rw [dT]; exact ix_tup (by decide) rfl)
  have i2 : ∀ {e : Env} {h0 : MH}, e[1]? = some (some T) → bin ixF (varE 1) (conE (.int 2)) e h0 = .ok (.bl bb) h0 := fun {e h0} he => ev_bin (ev_var he) ev_con (by rw [dT]; exact ix_tup (by decide) rfl)
  obtain ⟨E, dE⟩ : ∃ E : Env, E = [some (.ref k), some T, some (.ref h.length), some (.int kd), some (.int (tt : Nat)), some (.int at_)] := ⟨_, rfl⟩
  have v0 : E[0]? = some (some (.ref k)) := by rw [dE]; rfl
  have v1 : E[1]? = some (some T) := by rw [dE]; rfl
  have v2 : E[2]? = some (some (.ref h.length)) := by rw [dE]; rfl
  have v3 : E[3]? = some (some (.int kd)) := by rw [dE]; rfl
  have v4 : E[4]? = some (some (.int (tt : Nat))) := by rw [dE]; rfl
  have v5 : E[5]? = some (some (.int at_)) := by rw [dE]; rfl
  -- what is the same for all kinds
  have hnT : ∀ {b : Nat} {h : MH}, Vh k b h 3 3000 (.tup ns) := fun {b h} => Vh.tup (m := 7) (nats_vh hn) (by omega) (by decide)
  have vT : ∀ {b : Nat} {h : MH}, Vh k b h 4 10000 T := fun {b h} => by
    rw [dT]
    exact Vh.tup (m := 3) (c := 3000) (fun d hd => by
      simp only [List.mem_cons, List.not_mem_nil, or_false] at hd
      rcases hd with e | e | e
      · rw [e]; exact hnT
      · rw [e]; exact (mark_vh hz).le (by decide) (by decide) (Nat.le_refl _)
      · rw [e]; exact Vh.bl (by decide) (by decide)) (by simp) (by decide)
  have eqc : ∀ (w : Int), valT (bin eqF (varE 3) (conE (.int w))) E h4 = .ok (decide (kd = w)) h4 := fun w => ev_val (ev_bin (ev_var v3) ev_con (by
    rw [eq_i]
    have : scalEq (.int kd) (.int w) = decide (kd = w) := by
      unfold scalEq
      rw [Bool.eq_iff_iff, beq_iff_eq, decide_eq_true_iff]
    rw [this]))
  have ltc : valT (bin ltF (varE 3) (conE (.int 3))) E h4 = .ok (decide (kd < 3)) h4 := ev_val (ev_bin (ev_var v3) ev_con lt_ii)
  suffices hh : ∃ v h', (∀ {rest : SM}, rest = ((seqS (ifS (valT (bin ltF (varE 3) (conE (.int 3)))) (seqS (setX (varE 2) (varE 5) (onA m_law_pick (consA (varE 0) (consA (onA lstF (consA (conE (.bl true)) (consA (conE (.bl false)) (consA (bin subF (conE (.int 0)) (conE (.int 1))) (consA (conE .non) (consA (conE (.str "0")) (consA (varE 4) (consA (bin addF (varE 4) (conE (.int 1))) (consA (bin addF (varE 4) (conE (.int 2))) (consA (conE (.int 0)) (consA (conE (.int 1)) (consA (bin powF (conE (.int 10)) (conE (.int 20))) (consA (onA tupF (consA (conE (.int 0)) (nilA))) (consA (onA lstF (consA (conE (.int 1)) (nilA))) (nilA))))))))))))))) (nilA))))) (retS (onA tupF (consA (onA tupleF (consA (varE 2) (nilA))) (consA (bin ixF (varE 1) (conE (.int 1))) (consA (bin ixF (varE 1) (conE (.int 2))) (nilA))))))) (passS)) (seqS (ifS (valT (bin eqF (varE 3) (conE (.int 3)))) (retS (onA tupF (consA (bin ixF (varE 1) (conE (.int 0))) (consA (onA m_law_pick (consA (varE 0) (consA (onA lstF (consA (conE (.str "none")) (consA (conE (.str "own")) (consA (conE (.str "free")) (consA (conE (.str "")) (consA (conE .non) (consA (conE (.str "None")) (consA (onA tupF (consA (conE (.str "own")) (nilA))) (consA (conE (.int 0)) (consA (conE (.str "owned")) (nilA))))))))))) (nilA)))) (consA (bin ixF (varE 1) (conE (.int 2))) (nilA)))))) (passS)) (seqS (ifS (valT (bin eqF (varE 3) (conE (.int 4)))) (retS (onA tupF (consA (bin ixF (varE 1) (conE (.int 0))) (consA (bin ixF (varE 1) (conE (.int 1))) (consA (onA m_law_pick (consA (varE 0) (consA (onA lstF (consA (conE (.bl true)) (consA (conE (.bl false)) (consA (conE (.int 0)) (consA (conE (.int 1)) (consA (conE .non) (consA (conE (.str "False")) (consA (onA tupF (consA (conE (.bl true)) (nilA))) (nilA))))))))) (nilA)))) (nilA)))))) (passS)) (seqS (ifS (valT (bin eqF (varE 3) (conE (.int 5)))) (retS (onA tupF (consA (ifE (valT (bin eqF (varE 5) (conE (.int 0)))) (onA tupleF (consA (slE (varE 2) (noO) (someO (un negF (conE (.int 1))))) (nilA))) (onA tupleF (consA (bin addF (varE 2) (onA lstF (consA (conE (.int 0)) (nilA)))) (nilA)))) (consA (bin ixF (varE 1) (conE (.int 1))) (consA (bin ixF (varE 1) (conE (.int 2))) (nilA)))))) (passS)) (seqS (ifS (valT (bin eqF (varE 3) (conE (.int 6)))) (retS (onA m_law_pick (consA (varE 0) (consA (onA lstF (consA (onA tupF (consA (varE 2) (consA (bin ixF (varE 1) (conE (.int 1))) (consA (bin ixF (varE 1) (conE (.int 2))) (nilA))))) (consA (onA listF (consA (varE 1) (nilA))) (consA (bin addF (varE 1) (onA tupF (consA (conE (.bl false)) (nilA)))) (consA (slE (varE 1) (noO) (someO (conE (.int 2)))) (consA (onA tupF (consA (bin ixF (varE 1) (conE (.int 0))) (nilA))) (nilA))))))) (nilA))))) (passS)) (retS (onA m_law_pick (consA (varE 0) (consA (onA lstF (consA (conE .non) (consA (conE (.int 0)) (consA (conE (.bl true)) (consA (conE (.str "")) (consA (conE (.str "own")) (consA (onA tupF (nilA)) (consA (onA lstF (nilA)) (consA (dct0E) (consA (onA tupF (consA (conE (.int 0)) (consA (conE (.int 0)) (consA (conE (.int 0)) (nilA))))) (consA (onA tupF (consA (onA tupF (nilA)) (consA (conE (.str "none")) (consA (conE (.bl false)) (nilA))))) (consA (onA lstF (consA (varE 1) (nilA))) (consA (onA tupF (consA (varE 1) (nilA))) (nilA)))))))))))))) (nilA))))))))))) → rest E h4 = .rt v h') ∧ VK h' v ∧ Rp k h' v ∧ Src h' k ∧ KG k h h' by
    obtain ⟨v, h', p, a, b, c, g⟩ := hh
    refine ⟨v, h', ef_rt rfl ?_, a, b, c, g⟩
    unfold b_law_odd
    subst dT
    refine es_seq (es_par2 (ev_cons (ev_on (ev_cons (ev_bin (ev_var rfl) ev_con (ix_tup (d := .tup ns) (by decide) rfl)) ev_nil) lf) (ev_cons (ev_on (ev_cons (ev_var rfl) (ev_cons ev_con ev_nil)) e2) ev_nil))) ?_
    refine es_seq (es_par2 (ev_cons (ev_on (ev_cons (ev_var rfl) ev_nil) e3) (ev_cons (ev_on (ev_cons (ev_var rfl) (ev_cons (ev_on (ev_cons (ev_var rfl) ev_nil) ll) ev_nil)) e4) ev_nil))) ?_
    have := p rfl
    rw [dE] at this
    exact this
  by_cases c3 : kd < 3
  · -- a number
    rw [decide_eq_true c3] at ltc
    obtain ⟨ha, da⟩ : ∃ x, x = h4 ++ [O.lst [.int 1]] := ⟨_, rfl⟩
    have ga : GA h4 ha := by rw [da]; exact GA.app
    have qa : ha[h4.length]? = some (.lst [.int 1]) := by rw [da]; simp
    have Sa : Src ha k := by rw [da]; exact S4.app
    have la : ha.length = h4.length + 1 := by rw [da]; simp
    obtain ⟨big, hbig⟩ : ∃ t, t = (10 : Int) ^ (20 : Int).toNat := ⟨_, rfl⟩
    have pw : powF (.int 10) (.int 20) h4 = .ok (.int big) h4 := by rw [hbig]; exact pow_i (by decide) (by have := log_lt (z := 10) (k := 4) (by decide) (by decide); omega)
    have bs : (PyData.int big).showable = true ∧ (PyData.int big).shown.length ≤ 100 := by
      rw [hbig]
      exact ⟨by decide +kernel, by decide +kernel⟩
    obtain ⟨xs, dxs⟩ : ∃ x, x = [D.bl true, .bl false, .int (-1), .non, .str "0", .int (tt : Nat), .int ((tt + 1 : Nat) : Int), .int ((tt + 2 : Nat) : Int), .int 0, .int 1, .int big, .tup [.int 0], .ref h4.length] := ⟨_, rfl⟩
    obtain ⟨d, hb, eb, dm, Sb, kb⟩ := pickD (xs := xs) Sa (by rw [dxs]; simp) (by rw [dxs]; show (13 : Nat) < 1000; decide)
    have qb := kb.2 _ _ (by omega) (GA.app.2 _ _ qa)
    have fb := kb.2 _ _ fk (GA.app.2 _ _ (ga.2 _ _ q4))
    have lb : h4.length < hb.length := by have := kb.1; rw [List.length_append, la] at this; simp at this; omega
    have vd : ∀ {H : MH} {b : Nat}, H[h4.length]? = some (.lst [.int 1]) → h4.length < b → Vh k b H 2 400 d := fun {H b} eH hb => by
      rw [dxs] at dm
      simp only [List.mem_cons, List.not_mem_nil, or_false] at dm
      rcases dm with e | e | e | e | e | e | e | e | e | e | e | e | e <;> rw [e]
      · exact Vh.bl (by decide) (by decide)
      · exact Vh.bl (by decide) (by decide)
      · exact Vh.int (by decide) (by decide) (by decide +kernel) (by decide +kernel)
      · exact Vh.non (by decide) (by decide)
      · exact Vh.lit (by decide) (by decide) (by decide)
      · exact Vh.nat (by decide) (by decide) (by omega)
      · exact Vh.nat (by decide) (by decide) (by omega)
      · exact Vh.nat (by decide) (by decide) (by omega)
      · exact Vh.nat (i := 0) (by decide) (by decide) (by decide)
      · exact Vh.nat (i := 1) (by decide) (by decide) (by decide)
      · exact Vh.int (by decide) (by decide) bs.1 bs.2
      · exact Vh.tup (m := 1) (c := 100) (f := 1) (fun x hx => by
          simp only [List.mem_cons, List.not_mem_nil, or_false] at hx
          rw [hx]; exact Vh.nat (i := 0) (by decide) (by decide) (by decide)) (by simp) (by decide)
      · exact Vh.lst (m := 1) (c := 100) (f := 1) (fun x hx => by
          simp only [List.mem_cons, List.not_mem_nil, or_false] at hx
          rw [hx]; exact Vh.nat (i := 1) (by decide) (by decide) (by decide)) eH hb (by omega) (by simp) (by decide)
    have sx : stF (.ref h.length) (.int at_) d hb = some (hb.set h.length (.lst (ns.set at_.toNat d))) := by
      unfold stF
      dsimp only
      rw [fb]
      dsimp only
      rw [ixN_ok at0 (by omega)]
    obtain ⟨hc, dc⟩ : ∃ x, x = hb.set h.length (.lst (ns.set at_.toNat d)) := ⟨_, rfl⟩
    rw [← dc] at sx
    have fc : hc[h.length]? = some (.lst (ns.set at_.toNat d)) := by rw [dc]; exact set_get fb
    have qc : hc[h4.length]? = some (.lst [.int 1]) := by rw [dc, List.getElem?_set_ne (by omega)]; exact qb
    have lc : hc.length = hb.length := by rw [dc]; simp
    have tf : tupleF [.ref h.length] hc = .ok (.tup (ns.set at_.toNat d)) hc := by unfold tupleF seqOf; dsimp only; rw [fc]
    have R := res_ok (k := k) (b := hc.length) (h := hc) (m := .str z) (c' := .bl bb) (ns' := ns.set at_.toNat d) (fun x hx => by
      rcases List.mem_or_eq_of_mem_set hx with w | w
      · exact nats_vh hn x w
      · rw [w]; exact vd qc (by omega)) (by rw [List.length_set]; omega) (mark_vh hz) (Vh.bl (by decide) (by decide))
    refine ⟨.tup [.tup (ns.set at_.toNat d), .str z, .bl bb], hc, fun {rest} er => ?_, R.1, R.2, by rw [dc]; exact Sb.other fk, ?_⟩
    · subst er
      refine es_seqR (es_ifT ltc (es_seq (es_setX (ev_on (ev_cons (ev_var v0) (ev_cons (ev_on (xs := xs) ?_ (lst_new (by rw [dxs]; show (13 : Nat) ≤ 1000000; decide))) ev_nil)) eb) (ev_var v2) (ev_var v5) sx) (es_ret (ev_on (ev_cons (ev_on (ev_cons (ev_var v2) ev_nil) tf) (ev_cons (i1 v1) (ev_cons (i2 v1) ev_nil))) (tup_new (by decide : 3 ≤ 1000000))))))
      rw [dxs]
      exact ev_cons ev_con (ev_cons ev_con (ev_cons (ev_bin ev_con ev_con rfl) (ev_cons ev_con (ev_cons ev_con (ev_cons (ev_var v4) (ev_cons (ev_bin (ev_var v4) ev_con add_i) (ev_cons (ev_bin (ev_var v4) ev_con add_i) (ev_cons ev_con (ev_cons ev_con (ev_cons (ev_bin ev_con ev_con pw) (ev_cons (ev_on (ev_cons ev_con ev_nil) (tup_new (by decide : 1 ≤ 1000000))) (ev_cons (ev_on (ev_cons ev_con ev_nil) (by rw [da]; exact lst_new (by decide : 1 ≤ 1000000))) ev_nil))))))))))))
    · exact KX.kg (K4.trans ((ga.kg.trans GA.app.kg).trans kb)) (Nat.le_refl _) (by rw [dc]; exact KX.set)
  rw [decide_eq_false c3] at ltc
  -- a list to pick from: h4, more objects, the list
  have pickR : ∀ {xs : List D} {ha : MH} {as : AM}, GA h4 ha → Src ha k → 0 < xs.length → xs.length < 1000 → as E h4 = .ok xs ha → ∃ d hb, onA m_law_pick (consA (varE 0) (consA (onA lstF as) (nilA))) E h4 = .ok d hb ∧ d ∈ xs ∧ Src hb k ∧ KG k ha hb ∧ ha.length < hb.length := fun {xs ha as} ga Sa h0 h1 p => by
    obtain ⟨d, hb, eb, dm, Sb, kb⟩ := pickD (xs := xs) Sa h0 h1
    refine ⟨d, hb, ev_on (ev_cons (ev_var v0) (ev_cons (ev_on p (lst_new (by omega))) ev_nil)) eb, dm, Sb, GA.app.kg.trans kb, ?_⟩
    have := kb.1
    rw [List.length_append] at this
    simp at this
    omega
  by_cases k3 : kd = 3
  · have e3 := eqc 3
    rw [decide_eq_true k3] at e3
    obtain ⟨d, hb, eb, dm, Sb, kb, _⟩ := pickR (xs := [.str "none", .str "own", .str "free", .str "", .non, .str "None", .tup [.str "own"], .int 0, .str "owned"]) (ha := h4) (as := consA (conE (.str "none")) (consA (conE (.str "own")) (consA (conE (.str "free")) (consA (conE (.str "")) (consA (conE .non) (consA (conE (.str "None")) (consA (onA tupF (consA (conE (.str "own")) (nilA))) (consA (conE (.int 0)) (consA (conE (.str "owned")) (nilA)))))))))) GA.refl S4 (by decide) (by decide) (ev_cons ev_con (ev_cons ev_con (ev_cons ev_con (ev_cons ev_con (ev_cons ev_con (ev_cons ev_con (ev_cons (ev_on (ev_cons ev_con ev_nil) (tup_new (by decide : 1 ≤ 1000000))) (ev_cons ev_con (ev_cons ev_con ev_nil)))))))))
    have vd : Vh k hb.length hb 2 400 d := by
      simp only [List.mem_cons, List.not_mem_nil, or_false] at dm
      rcases dm with e | e | e | e | e | e | e | e | e <;> rw [e]
      · exact Vh.lit (by decide) (by decide) (by decide)
      · exact Vh.lit (by decide) (by decide) (by decide)
      · exact Vh.lit (by decide) (by decide) (by decide)
      · exact Vh.lit (by decide) (by decide) (by decide)
      · exact Vh.non (by decide) (by decide)
      · exact Vh.lit (by decide) (by decide) (by decide)
      · exact Vh.tup (m := 1) (c := 100) (f := 1) (fun x hx => by
          simp only [List.mem_cons, List.not_mem_nil, or_false] at hx
          rw [hx]; exact Vh.lit (by decide) (by decide) (by decide)) (by simp) (by decide)
      · exact Vh.nat (i := 0) (by decide) (by decide) (by decide)
      · exact Vh.lit (by decide) (by decide) (by decide)
    have R := res_ok (k := k) (b := hb.length) (h := hb) (m := d) (c' := .bl bb) (nats_vh hn) (by omega) vd (Vh.bl (by decide) (by decide))
    refine ⟨_, hb, fun {rest} er => ?_, R.1, R.2, Sb, K4.trans kb⟩
    subst er
    exact es_seq (es_ifF ltc es_pass) (es_seqR (es_ifT e3 (es_ret (ev_on (ev_cons (i0 v1) (ev_cons eb (ev_cons (i2 v1) ev_nil))) (tup_new (by decide : 3 ≤ 1000000))))))
  have e3 := eqc 3
  rw [decide_eq_false k3] at e3
  by_cases k5 : kd = 4
  · have e4 := eqc 4
    rw [decide_eq_true k5] at e4
    obtain ⟨d, hb, eb, dm, Sb, kb, _⟩ := pickR (xs := [.bl true, .bl false, .int 0, .int 1, .non, .str "False", .tup [.bl true]]) (ha := h4) (as := consA (conE (.bl true)) (consA (conE (.bl false)) (consA (conE (.int 0)) (consA (conE (.int 1)) (consA (conE .non) (consA (conE (.str "False")) (consA (onA tupF (consA (conE (.bl true)) (nilA))) (nilA)))))))) GA.refl S4 (by decide) (by decide) (ev_cons ev_con (ev_cons ev_con (ev_cons ev_con (ev_cons ev_con (ev_cons ev_con (ev_cons ev_con (ev_cons (ev_on (ev_cons ev_con ev_nil) (tup_new (by decide : 1 ≤ 1000000))) ev_nil)))))))
    have vd : Vh k hb.length hb 2 400 d := by
      simp only [List.mem_cons, List.not_mem_nil, or_false] at dm
      rcases dm with e | e | e | e | e | e | e <;> rw [e]
      · exact Vh.bl (by decide) (by decide)
      · exact Vh.bl (by decide) (by decide)
      · exact Vh.nat (i := 0) (by decide) (by decide) (by decide)
      · exact Vh.nat (i := 1) (by decide) (by decide) (by decide)
      · exact Vh.non (by decide) (by decide)
      · exact Vh.lit (by decide) (by decide) (by decide)
      · exact Vh.tup (m := 1) (c := 100) (f := 1) (fun x hx => by
          simp only [List.mem_cons, List.not_mem_nil, or_false] at hx
          rw [hx]; exact Vh.bl (by decide) (by decide)) (by simp) (by decide)
    have R := res_ok (k := k) (b := hb.length) (h := hb) (m := .str z) (c' := d) (nats_vh hn) (by omega) (mark_vh hz) vd
    refine ⟨_, hb, fun {rest} er => ?_, R.1, R.2, Sb, K4.trans kb⟩
    subst er
    exact es_seq (es_ifF ltc es_pass) (es_seq (es_ifF e3 es_pass) (es_seqR (es_ifT e4 (es_ret (ev_on (ev_cons (i0 v1) (ev_cons (i1 v1) (ev_cons eb ev_nil))) (tup_new (by decide : 3 ≤ 1000000)))))))
  have e4 := eqc 4
  rw [decide_eq_false k5] at e4
  by_cases k6 : kd = 5
  · have e5 := eqc 5
    rw [decide_eq_true k6] at e5
    have az : valT (bin eqF (varE 5) (conE (.int 0))) E h4 = .ok (scalEq (.int at_) (.int 0)) h4 := ev_val (ev_bin (ev_var v5) ev_con eq_i)
    have tt' : ∃ ns' hb, (ifE (valT (bin eqF (varE 5) (conE (.int 0)))) (onA tupleF (consA (slE (varE 2) (noO) (someO (un negF (conE (.int 1))))) (nilA))) (onA tupleF (consA (bin addF (varE 2) (onA lstF (consA (conE (.int 0)) (nilA)))) (nilA)))) E h4 = .ok (.tup ns') hb ∧ ns'.length ≤ 7 ∧ (∀ x ∈ ns', ∃ i : Nat, x = .int (i : Nat) ∧ i < 40) ∧ GA h4 hb ∧ Src hb k := by
      cases zz : scalEq (.int at_) (.int 0) with
      | true =>
        rw [zz] at az
        have sl := slL (lo := none) (hi := some (-1)) q4
        rw [cut_last (by omega)] at sl
        refine ⟨ns.take (ns.length - 1), h4 ++ [O.lst (ns.take (ns.length - 1))], ev_ifT az (ev_on (ev_cons (ev_sl (ev_var v2) ev_noO (ev_someO (ev_un ev_con neg_i)) sl) ev_nil) (by unfold tupleF seqOf; dsimp only; rw [List.getElem?_append_right (Nat.le_refl _)]; simp)), by rw [List.length_take]; omega, fun x hx => hn x (List.mem_of_mem_take hx), GA.app, S4.app⟩
      | false =>
        rw [zz] at az
        obtain ⟨ha, da⟩ : ∃ x, x = h4 ++ [O.lst [.int 0]] := ⟨_, rfl⟩
        have ga : GA h4 ha := by rw [da]; exact GA.app
        have qa : ha[h4.length]? = some (.lst [.int 0]) := by rw [da]; simp
        have ad := addL (ga.2 _ _ q4) qa (by simp only [List.length_cons, List.length_nil]; omega)
        refine ⟨ns ++ [.int 0], ha ++ [O.lst (ns ++ [.int 0])], ev_ifF az (ev_on (ev_cons (ev_bin (ev_var v2) (ev_on (ev_cons ev_con ev_nil) (by rw [da]; exact lst_new (by decide : 1 ≤ 1000000))) ad) ev_nil) (by unfold tupleF seqOf; dsimp only; rw [List.getElem?_append_right (Nat.le_refl _)]; simp)), by rw [List.length_append]; simp only [List.length_cons, List.length_nil]; omega, fun x hx => ?_, ga.trans GA.app, by rw [da]; exact S4.app.app⟩
        rcases List.mem_append.mp hx with w | w
        · exact hn x w
        · simp only [List.mem_cons, List.not_mem_nil, or_false] at w
          exact ⟨0, by rw [w]; rfl, by decide⟩
    obtain ⟨ns', hb, eb, l7, hn', gb, Sb⟩ := tt'
    have R := res_ok (k := k) (b := hb.length) (h := hb) (m := .str z) (c' := .bl bb) (nats_vh hn') l7 (mark_vh hz) (Vh.bl (by decide) (by decide))
    refine ⟨_, hb, fun {rest} er => ?_, R.1, R.2, Sb, K4.trans gb.kg⟩
    subst er
    exact es_seq (es_ifF ltc es_pass) (es_seq (es_ifF e3 es_pass) (es_seq (es_ifF e4 es_pass) (es_seqR (es_ifT e5 (es_ret (ev_on (ev_cons eb (ev_cons (i1 v1) (ev_cons (i2 v1) ev_nil))) (tup_new (by decide : 3 ≤ 1000000))))))))
  have e5 := eqc 5
  rw [decide_eq_false k6] at e5
  by_cases k7 : kd = 6
  · have e6 := eqc 6
    rw [decide_eq_true k7] at e6
    obtain ⟨ha, da⟩ : ∃ x, x = h4 ++ [O.lst [.tup ns, .str z, .bl bb]] := ⟨_, rfl⟩
    have ga : GA h4 ha := by rw [da]; exact GA.app
    have qa : ha[h4.length]? = some (.lst [.tup ns, .str z, .bl bb]) := by rw [da]; simp
    have Sa : Src ha k := by rw [da]; exact S4.app
    have la : ha.length = h4.length + 1 := by rw [da]; simp
    have lT : listF [T] h4 = .ok (.ref h4.length) ha := by rw [dT, da]; rfl
    have aT : addF T (.tup [.bl false]) ha = .ok (.tup [.tup ns, .str z, .bl bb, .bl false]) ha := by rw [dT]; rfl
    have sT : slF T none (some 2) ha = .ok (.tup [.tup ns, .str z]) ha := by rw [dT]; rfl
    obtain ⟨d, hb, eb, dm, Sb, kb, lb⟩ := pickR (xs := [.tup [.ref h.length, .str z, .bl bb], .ref h4.length, .tup [.tup ns, .str z, .bl bb, .bl false], .tup [.tup ns, .str z], .tup [.tup ns]]) (ha := ha) (as := consA (onA tupF (consA (varE 2) (consA (bin ixF (varE 1) (conE (.int 1))) (consA (bin ixF (varE 1) (conE (.int 2))) (nilA))))) (consA (onA listF (consA (varE 1) (nilA))) (consA (bin addF (varE 1) (onA tupF (consA (conE (.bl false)) (nilA)))) (consA (slE (varE 1) (noO) (someO (conE (.int 2)))) (consA (onA tupF (consA (bin ixF (varE 1) (conE (.int 0))) (nilA))) (nilA)))))) ga Sa (by show (0 : Nat) < 5; decide) (by show (5 : Nat) < 1000; decide)
      (ev_cons (ev_on (ev_cons (ev_var v2) (ev_cons (i1 v1) (ev_cons (i2 v1) ev_nil))) (tup_new (by decide : 3 ≤ 1000000))) (ev_cons (ev_on (ev_cons (ev_var v1) ev_nil) lT) (ev_cons (ev_bin (ev_var v1) (ev_on (ev_cons ev_con ev_nil) (tup_new (by decide : 1 ≤ 1000000))) aT) (ev_cons (ev_sl (ev_var v1) ev_noO (ev_someO ev_con) sT) (ev_cons (ev_on (ev_cons (i0 v1) ev_nil) (tup_new (by decide : 1 ≤ 1000000))) ev_nil)))))
    have qb := kb.2 _ _ (by omega) qa
    have fb := kb.2 _ _ fk (ga.2 _ _ q4)
    have vd : Vh k hb.length hb 5 20000 d := by
      have two : ∀ {b : Nat}, Vh k b hb 2 400 (.str z) ∧ Vh k b hb 2 400 (.bl bb) := fun {b} => ⟨mark_vh hz, Vh.bl (by decide) (by decide)⟩
      simp only [List.mem_cons, List.not_mem_nil, or_false] at dm
      rcases dm with e | e | e | e | e <;> rw [e]
      · exact Vh.le (f := 4) (c := 10000) (Vh.tup (m := 3) (c := 3000) (fun x hx => by
          simp only [List.mem_cons, List.not_mem_nil, or_false] at hx
          rcases hx with e | e | e <;> rw [e]
          · exact Vh.lst (m := 7) (c := 400) (f := 2) (nats_vh hn) fb (by omega) fk (by omega) (by decide)
          · exact two.1.le (by decide) (by decide) (Nat.le_refl _)
          · exact two.2.le (by decide) (by decide) (Nat.le_refl _)) (by simp) (by decide)) (by decide) (by decide) (Nat.le_refl _)
      · exact Vh.le (f := 4) (c := 10000) (Vh.lst (m := 3) (c := 3000) (fun x hx => by
          simp only [List.mem_cons, List.not_mem_nil, or_false] at hx
          rcases hx with e | e | e <;> rw [e]
          · exact hnT
          · exact two.1.le (by decide) (by decide) (Nat.le_refl _)
          · exact two.2.le (by decide) (by decide) (Nat.le_refl _)) qb (by omega) (by omega) (by simp) (by decide)) (by decide) (by decide) (Nat.le_refl _)
      · exact Vh.tup (m := 4) (c := 3000) (fun x hx => by
          simp only [List.mem_cons, List.not_mem_nil, or_false] at hx
          rcases hx with e | e | e | e <;> rw [e]
          · exact hnT.le (by decide) (by decide) (Nat.le_refl _)
          · exact two.1.le (by decide) (by decide) (Nat.le_refl _)
          · exact two.2.le (by decide) (by decide) (Nat.le_refl _)
          · exact Vh.bl (by decide) (by decide)) (by simp) (by decide)
      · exact Vh.tup (m := 4) (c := 3000) (fun x hx => by
          simp only [List.mem_cons, List.not_mem_nil, or_false] at hx
          rcases hx with e | e <;> rw [e]
          · exact hnT.le (by decide) (by decide) (Nat.le_refl _)
          · exact two.1.le (by decide) (by decide) (Nat.le_refl _)) (by simp) (by decide)
      · exact Vh.tup (m := 4) (c := 3000) (fun x hx => by
          simp only [List.mem_cons, List.not_mem_nil, or_false] at hx
          rw [hx]; exact hnT.le (by decide) (by decide) (Nat.le_refl _)) (by simp) (by decide)
    refine ⟨d, hb, fun {rest} er => ?_, vd.v.vk, vd.rp (by decide) (by decide), Sb, K4.trans (ga.kg.trans kb)⟩
    subst er
    exact es_seq (es_ifF ltc es_pass) (es_seq (es_ifF e3 es_pass) (es_seq (es_ifF e4 es_pass) (es_seq (es_ifF e5 es_pass) (es_seqR (es_ifT e6 (es_ret eb))))))
  have e6 := eqc 6
  rw [decide_eq_false k7] at e6
  obtain ⟨ha, da⟩ : ∃ x, x = h4 ++ [O.lst []] := ⟨_, rfl⟩
  obtain ⟨hb, db⟩ : ∃ x, x = ha ++ [O.dct []] := ⟨_, rfl⟩
  obtain ⟨hc, dc⟩ : ∃ x, x = hb ++ [O.lst [T]] := ⟨_, rfl⟩
  have ga : GA h4 ha := by rw [da]; exact GA.app
  have gb : GA ha hb := by rw [db]; exact GA.app
  have gc : GA hb hc := by rw [dc]; exact GA.app
  have qa : ha[h4.length]? = some (.lst []) := by rw [da]; simp
  have qb : hb[ha.length]? = some (.dct []) := by rw [db]; simp
  have qc : hc[hb.length]? = some (.lst [T]) := by rw [dc]; simp
  have la : ha.length = h4.length + 1 := by rw [da]; simp
  have lb : hb.length = ha.length + 1 := by rw [db]; simp
  have lc : hc.length = hb.length + 1 := by rw [dc]; simp
  have Sc : Src hc k := by rw [dc, db, da]; exact S4.app.app.app
  obtain ⟨d, hd, ed, dm, Sd, kd', ld⟩ := pickR (xs := [.non, .int 0, .bl true, .str "", .str "own", .tup [], .ref h4.length, .ref ha.length, .tup [.int 0, .int 0, .int 0], .tup [.tup [], .str "none", .bl false], .ref hb.length, .tup [T]]) (ha := hc) (as := consA (conE .non) (consA (conE (.int 0)) (consA (conE (.bl true)) (consA (conE (.str "")) (consA (conE (.str "own")) (consA (onA tupF (nilA)) (consA (onA lstF (nilA)) (consA (dct0E) (consA (onA tupF (consA (conE (.int 0)) (consA (conE (.int 0)) (consA (conE (.int 0)) (nilA))))) (consA (onA tupF (consA (onA tupF (nilA)) (consA (conE (.str "none")) (consA (conE (.bl false)) (nilA))))) (consA (onA lstF (consA (varE 1) (nilA))) (consA (onA tupF (consA (varE 1) (nilA))) (nilA))))))))))))) ((ga.trans gb).trans gc) Sc (by simp) (by show (12 : Nat) < 1000; decide)
    (ev_cons ev_con (ev_cons ev_con (ev_cons ev_con (ev_cons ev_con (ev_cons ev_con (ev_cons tup0 (ev_cons (ev_on ev_nil (by rw [da]; exact lst_new (by decide : 0 ≤ 1000000))) (ev_cons (show dct0E E ha = .ok (.ref ha.length) hb by rw [db]; rfl) (ev_cons (ev_on (ev_cons ev_con (ev_cons ev_con (ev_cons ev_con ev_nil))) (tup_new (by decide : 3 ≤ 1000000))) (ev_cons (ev_on (ev_cons tup0 (ev_cons ev_con (ev_cons ev_con ev_nil))) (tup_new (by decide : 3 ≤ 1000000))) (ev_cons (ev_on (ev_cons (ev_var v1) ev_nil) (by rw [dc]; exact lst_new (by decide : 1 ≤ 1000000))) (ev_cons (ev_on (ev_cons (ev_var v1) ev_nil) (tup_new (by decide : 1 ≤ 1000000))) ev_nil))))))))))))
  have fin : VK hd d ∧ Rp k hd d := by
    have zs : ∀ x ∈ ([.int 0, .int 0, .int 0] : List D), Vh k hd.length hd 1 100 x := fun x hx => by
      simp only [List.mem_cons, List.not_mem_nil, or_false] at hx
      rcases hx with e | e | e <;> rw [e] <;> exact Vh.nat (i := 0) (by decide) (by decide) (by decide)
    have out : ∀ {f c : Nat}, Vh k hd.length hd f c d → f ≤ 12 → c ≤ 1000000 → VK hd d ∧ Rp k hd d := fun {f c} v a b => ⟨v.v.vk, v.rp a b⟩
    have gk : KG k h4 hd := (((ga.trans gb).trans gc).kg).trans kd'
    simp only [List.mem_cons, List.not_mem_nil, or_false] at dm
    rcases dm with e | e | e | e | e | e | e | e | e | e | e | e <;> subst e
    · exact out (f := 1) (c := 100) (Vh.non (by decide) (by decide)) (by decide) (by decide)
    · exact out (f := 1) (c := 100) (Vh.nat (i := 0) (by decide) (by decide) (by decide)) (by decide) (by decide)
    · exact out (f := 1) (c := 100) (Vh.bl (by decide) (by decide)) (by decide) (by decide)
    · exact out (f := 1) (c := 100) (Vh.lit (by decide) (by decide) (by decide)) (by decide) (by decide)
    · exact out (f := 1) (c := 100) (Vh.lit (by decide) (by decide) (by decide)) (by decide) (by decide)
    · exact out (f := 2) (c := 100) (Vh.tup (m := 0) (c := 100) (f := 1) (fun _ h => (nomatch h)) (by simp) (by decide)) (by decide) (by decide)
    · exact out (f := 2) (c := 100) (Vh.lst (l := []) (m := 0) (c := 100) (f := 1) (fun _ h => (nomatch h)) (kd'.2 _ _ (by omega) (gc.2 _ _ (gb.2 _ _ qa))) (by omega) (by omega) (by simp) (by decide)) (by decide) (by decide)
    · have qd := kd'.2 _ _ (by omega) (gc.2 _ _ qb)
      exact ⟨⟨⟨"dict", by unfold tyD; dsimp only; rw [qd]⟩, fun _ _ _ e => D.noConfusion e⟩, rp_dct0 (by omega) qd⟩
    · exact out (f := 2) (c := 400) (Vh.tup (m := 3) (c := 100) (f := 1) zs (by simp) (by decide)) (by decide) (by decide)
    · exact out (f := 3) (c := 1000) (Vh.tup (m := 3) (c := 200) (f := 2) (fun x hx => by
        simp only [List.mem_cons, List.not_mem_nil, or_false] at hx
        rcases hx with e | e | e <;> rw [e]
        · exact Vh.tup (m := 0) (c := 100) (f := 1) (fun _ h => (nomatch h)) (by simp) (by decide)
        · exact Vh.lit (by decide) (by decide) (by decide)
        · exact Vh.bl (by decide) (by decide)) (by simp) (by decide)) (by decide) (by decide)
    · exact out (f := 5) (c := 20000) (Vh.lst (m := 1) (c := 10000) (f := 4) (fun x hx => by
        simp only [List.mem_cons, List.not_mem_nil, or_false] at hx
        rw [hx]; exact vT) (kd'.2 _ _ (by omega) qc) (by omega) (by omega) (by simp) (by decide)) (by decide) (by decide)
    · exact out (f := 5) (c := 20000) (Vh.tup (m := 1) (c := 10000) (f := 4) (fun x hx => by
        simp only [List.mem_cons, List.not_mem_nil, or_false] at hx
        rw [hx]; exact vT) (by simp) (by decide)) (by decide) (by decide)
  refine ⟨d, hd, fun {rest} er => ?_, fin.1, fin.2, Sd, K4.trans ((((ga.trans gb).trans gc).kg).trans kd')⟩
  subst er
  exact es_seq (es_ifF ltc es_pass) (es_seq (es_ifF e3 es_pass) (es_seq (es_ifF e4 es_pass) (es_seq (es_ifF e5 es_pass) (es_seq (es_ifF e6 es_pass) (es_ret ed)))))
end
end ML

namespace ML
open PySem PySem.Spec PyProof.Rows L2
/-! K21l: the law of shapes of patterns, as plain Lean -/
theorem ev_onD {vd xs : List D} {m : FM} {as : AM} {e : Env} {h h1 : MH} {z : R D} (p : as e h = .ok xs h1) (k : m (xs ++ vd) h1 = z) : onD vd m as e h = z := by unfold onD; rw [p]; exact k
def LOOKB : SM := seqS (parS [9, 10] (consA (onA m_law_is_shape (consA (varE 3) (consA (varE 8) (nilA)))) (consA (un reprF4 (varE 8)) (nilA)))) (seqS (ifS (orT (valT (bin neF (un reprF4 (onA m_is_pattern (consA (varE 5) (consA (varE 8) (nilA))))) (un reprF4 (varE 9)))) (valT (bin neF (un reprF4 (varE 8)) (varE 10)))) (retS (conE (.bl false))) (passS)) (ifS (andT (notT (valT (varE 9))) (valT (onD [(.bl false)] m_is_closed (consA (varE 5) (consA (onA lstF (consA (varE 6) (consA (varE 8) (nilA)))) (nilA)))))) (retS (conE (.bl false))) (passS)))
def TURNB : SM := seqS (setS 7 (onA m_law_shape (consA (varE 2) (consA (varE 3) (nilA))))) (forS (seqI (onA lstF (consA (varE 7) (consA (onA m_law_odd (consA (varE 2) (consA (varE 7) (nilA)))) (consA (onA m_law_odd (consA (varE 2) (consA (varE 7) (nilA)))) (nilA)))))) (gnm 8) (LOOKB))
def STARTB : SM := seqS (setS 2 (onA m_law_source (consA (varE 0) (consA (varE 1) (nilA))))) (seqS (setS 3 (onA m_law_rule (consA (varE 2) (consA (conE (.int 3)) (nilA))))) (seqS (parS [5, 6] (consA (onA m_law_made (consA (varE 3) (nilA))) (consA (onA m_law_begun (consA (varE 3) (nilA))) (nilA)))) (seqS (forS (rng1I (consA (conE (.int 10)) (nilA))) (gnm 4) (TURNB)) (ifS (notT (valT (onA m_is_pattern (consA (varE 5) (consA (varE 6) (nilA)))))) (retS (conE (.bl false))) (passS)))))
theorem numB_zero : ∀ m : Nat, numB 0 (List.replicate m (.int 0)) = true
  | 0 => rfl
  | m + 1 => by
    rw [List.replicate_succ]
    unfold numB
    have : topD 0 (.int 0) = 0 := rfl
    rw [this, numB_zero m]
    rfl
def begD (n : Nat) : D := .tup [.tup (List.replicate (n + 3) (.int 0)), .str "none", .bl false]
theorem beg_shape {n : Nat} : shapeB n (begD n) = true := by
  have l : lastA (.tup (List.replicate (n + 3) (.int 0))) = true := by
    show lastZ _ = true
    unfold lastZ
    rw [List.getLast?_replicate]
    rfl
  show shape3 n _ _ _ = true
  unfold shape3
  rw [l]
  have : numsD n (.tup (List.replicate (n + 3) (.int 0))) = true := by
    show (decide ((List.replicate (n + 3) (D.int 0)).length = n + 3) && numB 0 _) = true
    rw [numB_zero, List.length_replicate]
    simp
  rw [this]
  have m : mkOk (.str "none") = true := by decide
  rw [m]
  rfl
theorem beg_vk {h : MH} {n : Nat} : VK h (begD n) := ⟨⟨_, rfl⟩, fun a b c e => by
  unfold begD at e
  injection e with e
  injection e with e1 e
  injection e with e2 e
  injection e with e3 _
  subst e1 e2 e3
  refine ⟨⟨_, rfl⟩, ⟨_, rfl⟩, ⟨_, rfl⟩, fun ns q d hd => ?_⟩
  injection q with q
  rw [← q] at hd
  rw [(List.mem_replicate.mp hd).2]
  exact ⟨_, rfl⟩⟩
theorem rep_flat : ∀ m : Nat, (List.replicate m [D.int 0]).flatten = List.replicate m (D.int 0)
  | 0 => rfl
  | m + 1 => by
    rw [List.replicate_succ, List.replicate_succ, List.flatten_cons, rep_flat m]
    rfl
theorem begun_ok {h : MH} {n r q : Nat} {l : List Str} (en : h[n]? = some (.lst [.ref r, .ref q])) (er : h[r]? = some (.lst (l.map .str))) (l3 : l.length ≤ 3) : m_law_begun [.ref n] h = .ok (begD l.length) h := by
  refine ef_rt rfl ?_
  unfold b_law_begun
  have mt : mulF2 (.tup [.int 0]) (.int ((l.length + 3 : Nat) : Int)) h = .ok (.tup (List.replicate (l.length + 3) (.int 0))) h := by
    unfold mulF2 repTF
    dsimp only
    rw [if_pos ⟨by simp, by omega, by omega, by simp⟩, Int.toNat_natCast, rep_flat]
  exact es_ret (ev_on (ev_cons (ev_bin (ev_on (ev_cons ev_con ev_nil) (tup_new (by decide : 1 ≤ 1000000))) (rule_len en er rfl) mt) (ev_cons ev_con (ev_cons ev_con ev_nil))) (tup_new (by decide : 3 ≤ 1000000)))
theorem rep_bl {b : Bool} {h : MH} : ∃ z, ∀ h', reprF4 (.bl b) h' = .ok (.str z) h' := by
  refine ⟨(PyData.bool b).shown, fun h' => ?_⟩
  have t : toP h' 12 (.bl b) = some (.bool b) := rfl
  unfold reprF4
  rw [t]
  dsimp only
  rw [if_pos (.inl (by simp only [PyData.hasDict]))]
theorem closed_no {h : MH} {s : Nat} {l : List Str} {ls : List D} {v : D} {n : Nat} (Q : RuleD h (.ref s) l ls) (K : VK h v) (e : h[n]? = some (.lst [begD l.length, v])) (no : shapeB l.length v = false) : ∃ h', m_is_closed [.ref s, .ref n, .bl false] h = .ok (.bl false) h' ∧ GA h h' := by
  have il : isiF "list" [.ref n, .ty "list"] h = .ok (.bl true) h := by
    have t : tyD h (.ref n) = some "list" := ty_lst e
    rw [isi_of t]
    rfl
  obtain ⟨h1, e1, q1, g1⟩ := ev_gen (g := gnm 5) (tst := yesT) (elt := onA m_is_pattern (consA (varE 0) (consA (varE 5) (nilA)))) (own := [5]) (it := seqI (varE 1)) (e := [some (.ref s), some (.ref n), some (.bl false), none, none, none, none, none, none]) (h := h) (h1 := h) (ds := [begD l.length, v]) (srcs := [(n, [begD l.length, v])]) (E := fun x => [some (.ref s), some (.ref n), some (.bl false), none, none, some x, none, none, none]) (p := fun _ => true) (f := fun d => .bl (shapeB l.length d))
    (ei_lst (ev_var rfl) e) (fun h2 g => stands1 (g.2 _ _ e)) (by show (2 : Nat) < 900; decide) (fun x hx h2 gg => by
      refine ⟨rfl, h2, rfl, GA.refl, fun _ => ⟨h2, ?_, GA.refl⟩⟩
      have Q2 : RuleD h2 (.ref s) l ls := by
        obtain ⟨s', e, q⟩ := Q
        exact ⟨s', e, gg.2 _ _ q⟩
      have Kx : VK h2 x := by
        simp only [List.mem_cons, List.not_mem_nil, or_false] at hx
        rcases hx with e | e
        · rw [e]; exact beg_vk
        · rw [e]; exact K.ga gg
      exact ev_on (ev_cons (ev_var rfl) (ev_cons (ev_var rfl) ev_nil)) (pattern_ok Q2 Kx))
  rw [filter_yes] at q1
  have al := all_bl (f := shapeB l.length) q1
  have : ([begD l.length, v]).all (shapeB l.length) = false := by
    simp only [List.all_cons, List.all_nil, no, Bool.and_false, Bool.false_and]
  rw [this] at al
  refine ⟨h1, ef_rt rfl ?_, g1⟩
  unfold b_is_closed
  exact es_seqR (es_ifT (ev_orF (ev_not (v := true) (ev_val (ev_on (ev_cons (ev_var rfl) (ev_cons ev_con ev_nil)) il))) (ev_not (v := false) (ev_val (ev_on (ev_cons e1 ev_nil) al)))) (es_ret ev_con))
section
variable {h h' : MH} {k n r q s : Nat} {l : List Str} {ls : List D} {sc : List D}
theorem Src.ga {k : Nat} {h h' : MH} (Q : Src h k) (g : GA h h') : Src h' k := by
  obtain ⟨x, y, e, q⟩ := Q
  exact ⟨x, y, g.2 _ _ e, q⟩
theorem look_ok {a0 a1 a2 x4 x7 x9 x10 : Option D} {v : D} (en : h[n]? = some (.lst [.ref r, .ref q])) (er : h[r]? = some (.lst (l.map .str))) (Q : RuleD h (.ref s) l ls) (K : VK h v) (Rv : Rp k h v) :
    ∃ y9 y10 h', LOOKB [a0, a1, a2, some (.ref n), x4, some (.ref s), some (begD l.length), x7, some v, x9, x10] h = .nx [a0, a1, a2, some (.ref n), x4, some (.ref s), some (begD l.length), x7, some v, y9, y10] h' ∧ GA h h' := by
  obtain ⟨h1, e1, g1⟩ := law_shape_ok en er K
  obtain ⟨z, ez⟩ := Rv
  have r1 := ez h1 g1.kg
  have Q1 : RuleD h1 (.ref s) l ls := by
    obtain ⟨s', e, w⟩ := Q
    exact ⟨s', e, g1.2 _ _ w⟩
  have p1 := pattern_ok Q1 (K.ga g1)
  obtain ⟨zb, eb⟩ := rep_bl (b := shapeB l.length v) (h := h)
  have nz : ∀ {w : Str}, neF (.str w) (.str w) h1 = .ok (.bl false) h1 := fun {w} => by rw [ne_str]; simp
  have c1 : (orT (valT (bin neF (un reprF4 (onA m_is_pattern (consA (varE 5) (consA (varE 8) (nilA))))) (un reprF4 (varE 9)))) (valT (bin neF (un reprF4 (varE 8)) (varE 10)))) [a0, a1, a2, some (.ref n), x4, some (.ref s), some (begD l.length), x7, some v, some (.bl (shapeB l.length v)), some (.str z)] h1 = .ok false h1 :=
    ev_orF (ev_val (ev_bin (ev_un (ev_on (ev_cons (ev_var rfl) (ev_cons (ev_var rfl) ev_nil)) p1) (eb h1)) (ev_un (ev_var rfl) (eb h1)) nz)) (ev_val (ev_bin (ev_un (ev_var rfl) r1) (ev_var rfl) nz))
  have st : ∃ h2, (ifS (andT (notT (valT (varE 9))) (valT (onD [(.bl false)] m_is_closed (consA (varE 5) (consA (onA lstF (consA (varE 6) (consA (varE 8) (nilA)))) (nilA)))))) (retS (conE (.bl false))) (passS)) [a0, a1, a2, some (.ref n), x4, some (.ref s), some (begD l.length), x7, some v, some (.bl (shapeB l.length v)), some (.str z)] h1 = .nx [a0, a1, a2, some (.ref n), x4, some (.ref s), some (begD l.length), x7, some v, some (.bl (shapeB l.length v)), some (.str z)] h2 ∧ GA h1 h2 := by
    have t9 := ev_not (ev_val (ev_var (i := 9) (e := [a0, a1, a2, some (.ref n), x4, some (.ref s), some (begD l.length), x7, some v, some (.bl (shapeB l.length v)), some (.str z)]) (h := h1) rfl))
    cases sh : shapeB l.length v with
    | true =>
      rw [sh] at t9
      exact ⟨h1, es_ifF (ev_andF t9) es_pass, GA.refl⟩
    | false =>
      rw [sh] at t9
      obtain ⟨h2, d2⟩ : ∃ x, x = h1 ++ [O.lst [begD l.length, v]] := ⟨_, rfl⟩
      have g2 : GA h1 h2 := by rw [d2]; exact GA.app
      have q2 : h2[h1.length]? = some (.lst [begD l.length, v]) := by rw [d2]; simp
      have Q2 : RuleD h2 (.ref s) l ls := by
        obtain ⟨s', e, w⟩ := Q1
        exact ⟨s', e, g2.2 _ _ w⟩
      obtain ⟨h3, e3, g3⟩ := closed_no Q2 ((K.ga g1).ga g2) q2 sh
      refine ⟨h3, es_ifF (ev_andT t9 (ev_val ?_)) es_pass, g2.trans g3⟩
      exact ev_onD (ev_cons (ev_var rfl) (ev_cons (ev_on (ev_cons (ev_var rfl) (ev_cons (ev_var rfl) ev_nil)) (by rw [d2]; exact lst_new (by decide : 2 ≤ 1000000))) ev_nil)) e3
  obtain ⟨h2, e2, g2⟩ := st
  refine ⟨some (.bl (shapeB l.length v)), some (.str z), h2, ?_, g1.trans g2⟩
  unfold LOOKB
  exact es_seq (es_par2 (ev_cons (ev_on (ev_cons (ev_var rfl) (ev_cons (ev_var rfl) ev_nil)) e1) (ev_cons (ev_un (ev_var rfl) r1) ev_nil))) (es_seq (es_ifF c1 es_pass) e2)
theorem looks {a0 a1 a2 x4 x7 : Option D} {ln : Nat} {all : List D} : ∀ (vs : List D) (x8 x9 x10 : Option D) (h : MH), h[n]? = some (.lst [.ref r, .ref q]) → h[r]? = some (.lst (l.map .str)) → RuleD h (.ref s) l ls → h[ln]? = some (.lst all) → (∀ v ∈ vs, VK h v ∧ Rp k h v) →
    ∃ y8 y9 y10 h', loopS [(ln, all)] (gnm 8) LOOKB vs [a0, a1, a2, some (.ref n), x4, some (.ref s), some (begD l.length), x7, x8, x9, x10] h = .nx [a0, a1, a2, some (.ref n), x4, some (.ref s), some (begD l.length), x7, y8, y9, y10] h' ∧ GA h h'
  | [], x8, x9, x10, h, _, _, _, e, _ => ⟨_, _, _, h, loop_nil (stands1 e), GA.refl⟩
  | v :: vs, x8, x9, x10, h, en, er, Q, e, hv => by
    obtain ⟨K, Rv⟩ := hv v List.mem_cons_self
    obtain ⟨y9, y10, h1, e1, g1⟩ := look_ok (a0 := a0) (a1 := a1) (a2 := a2) (x4 := x4) (x7 := x7) (x9 := x9) (x10 := x10) en er Q K Rv
    obtain ⟨z8, z9, z10, h2, e2, g2⟩ := looks (a0 := a0) (a1 := a1) (a2 := a2) (x4 := x4) (x7 := x7) vs (some v) y9 y10 h1 (g1.2 _ _ en) (g1.2 _ _ er) (by
      obtain ⟨s', e, w⟩ := Q
      exact ⟨s', e, g1.2 _ _ w⟩) (g1.2 _ _ e) (fun x hx => ⟨(hv x (List.mem_cons_of_mem _ hx)).1.ga g1, (hv x (List.mem_cons_of_mem _ hx)).2.kg g1.kg⟩)
    exact ⟨z8, z9, z10, h2, (loop_cons (stands1 e) rfl e1).trans e2, g1.trans g2⟩
theorem turn_ok {a0 a1 x4 x7 x8 x9 x10 : Option D} (S : Src h k) (nk : n ≠ k) (rk : r ≠ k) (sk : s ≠ k) (l3 : l.length ≤ 3) (en : h[n]? = some (.lst [.ref r, .ref q])) (er : h[r]? = some (.lst (l.map .str))) (Q : RuleD h (.ref s) l ls) :
    ∃ y7 y8 y9 y10 h', TURNB [a0, a1, some (.ref k), some (.ref n), x4, some (.ref s), some (begD l.length), x7, x8, x9, x10] h = .nx [a0, a1, some (.ref k), some (.ref n), x4, some (.ref s), some (begD l.length), y7, y8, y9, y10] h' ∧ Src h' k ∧ KG k h h' := by
  obtain ⟨d, h1, e1, D1, S1, k1⟩ := law_shape S nk rk l3 en er
  obtain ⟨v2, h2, e2, K2, R2, S2, k2⟩ := law_odd S1 D1 l3
  obtain ⟨v3, h3, e3, K3, R3, S3, k3⟩ := law_odd S2 D1 l3
  have hk := S3.lt
  obtain ⟨h4, d4⟩ : ∃ x, x = h3 ++ [O.lst [d, v2, v3]] := ⟨_, rfl⟩
  have g4 : GA h3 h4 := by rw [d4]; exact GA.app
  have q4 : h4[h3.length]? = some (.lst [d, v2, v3]) := by rw [d4]; simp
  have kk := (k1.trans k2).trans k3
  have Q4 : RuleD h4 (.ref s) l ls := by
    obtain ⟨s', e, w⟩ := Q
    cases e
    exact ⟨s, rfl, g4.2 _ _ (kk.2 _ _ sk w)⟩
  have vd : VK h4 d ∧ Rp k h4 d := by
    obtain ⟨ns, z, b, rfl, ln, hn, hz⟩ := D1
    exact res_ok (k := k) (b := h4.length) (nats_vh hn) (by omega) (mark_vh hz) (Vh.bl (by decide) (by decide))
  obtain ⟨y8, y9, y10, h5, e5, g5⟩ := looks (k := k) (a0 := a0) (a1 := a1) (a2 := some (.ref k)) (x4 := x4) (x7 := some d) (ln := h3.length) (all := [d, v2, v3]) [d, v2, v3] x8 x9 x10 h4 (g4.2 _ _ (kk.2 _ _ nk en)) (g4.2 _ _ (kk.2 _ _ rk er)) Q4 q4 (fun x hx => by
    simp only [List.mem_cons, List.not_mem_nil, or_false] at hx
    rcases hx with e | e | e
    · rw [e]; exact vd
    · rw [e]; exact ⟨(K2.kg S3 k3).ga g4, (R2.kg k3).kg g4.kg⟩
    · rw [e]; exact ⟨K3.ga g4, R3.kg g4.kg⟩)
  refine ⟨some d, y8, y9, y10, h5, ?_, (S3.ga g4).ga g5, (kk.trans g4.kg).trans g5.kg⟩
  unfold TURNB
  refine es_seq (es_set' (ev_on (ev_cons (ev_var rfl) (ev_cons (ev_var rfl) ev_nil)) e1) rfl) ?_
  exact es_for (ei_lst (ev_on (ev_cons (ev_var rfl) (ev_cons (ev_on (ev_cons (ev_var rfl) (ev_cons (ev_var rfl) ev_nil)) e2) (ev_cons (ev_on (ev_cons (ev_var rfl) (ev_cons (ev_var rfl) ev_nil)) e3) ev_nil))) (by rw [d4]; exact lst_new (by decide : 3 ≤ 1000000))) q4) e5
theorem turns {a0 a1 : Option D} (nk : n ≠ k) (rk : r ≠ k) (sk : s ≠ k) (l3 : l.length ≤ 3) : ∀ (ds : List D) (x4 x7 x8 x9 x10 : Option D) (h : MH), Src h k → h[n]? = some (.lst [.ref r, .ref q]) → h[r]? = some (.lst (l.map .str)) → RuleD h (.ref s) l ls →
    ∃ y4 y7 y8 y9 y10 h', loopS [] (gnm 4) TURNB ds [a0, a1, some (.ref k), some (.ref n), x4, some (.ref s), some (begD l.length), x7, x8, x9, x10] h = .nx [a0, a1, some (.ref k), some (.ref n), y4, some (.ref s), some (begD l.length), y7, y8, y9, y10] h' ∧ KG k h h'
  | [], x4, x7, x8, x9, x10, h, _, _, _, _ => ⟨_, _, _, _, _, h, loop_nil rfl, KG.refl⟩
  | d :: ds, x4, x7, x8, x9, x10, h, S, en, er, Q => by
    obtain ⟨y7, y8, y9, y10, h1, e1, S1, k1⟩ := turn_ok (a0 := a0) (a1 := a1) (x4 := some d) (x7 := x7) (x8 := x8) (x9 := x9) (x10 := x10) S nk rk sk l3 en er Q
    obtain ⟨z4, z7, z8, z9, z10, h2, e2, k2⟩ := turns (a0 := a0) (a1 := a1) nk rk sk l3 ds (some d) y7 y8 y9 y10 h1 S1 (k1.2 _ _ nk en) (k1.2 _ _ rk er) (by
      obtain ⟨s', e, w⟩ := Q
      cases e
      exact ⟨s, rfl, k1.2 _ _ sk w⟩)
    exact ⟨z4, z7, z8, z9, z10, h2, (loop_cons rfl rfl e1).trans e2, k1.trans k2⟩
end
theorem starts {ns : List Int} (hb : ∀ z ∈ ns, Builtin.Int.intBits z ≤ 1048576) : ∀ (ds : List D) (x1 x2 x3 x4 x5 x6 x7 x8 x9 x10 : Option D) (h : MH), (∀ d ∈ ds, ∃ i : Int, d = .int i ∧ 0 ≤ i ∧ i < 100) → h[0]? = some (.rdl (ns.map .int)) → ∃ e' h', loopS [] (gnm 1) STARTB ds [some (.ref 0), x1, x2, x3, x4, x5, x6, x7, x8, x9, x10] h = .nx e' h'
  | [], _, _, _, _, _, _, _, _, _, _, h, _, _ => ⟨_, h, loop_nil rfl⟩
  | d :: ds, x1, x2, x3, x4, x5, x6, x7, x8, x9, x10, h, hd, e0 => by
    obtain ⟨i, rfl, i0, i1⟩ := hd d List.mem_cons_self
    obtain ⟨r0, m, e1, b0, m0, m1⟩ := source (start := i) e0 hb i0 i1
    have h0 := (List.getElem?_eq_some_iff.mp e0).1
    have S1 : Src (h ++ [O.lst [.int r0, .int m]]) h.length := ⟨r0, m, by simp, b0, m0, m1⟩
    obtain ⟨n, r, q, l, ls, h2, e2, en, er, eq, RO, L, ⟨hr, hq, hn⟩, S2, k2⟩ := rule (most := 3) S1 (by decide) (by decide)
    have len1 : (h ++ [O.lst [D.int r0, D.int m]]).length = h.length + 1 := by simp
    obtain ⟨s, h3, e3, sl, Q3, g3⟩ := made en er eq RO L
    have en3 := g3.2 _ _ en
    have er3 := g3.2 _ _ er
    have e4 := begun_ok en3 er3 RO.1
    have sk : s ≠ h.length := by
      have := k2.1
      omega
    obtain ⟨z4, z7, z8, z9, z10, h5, e5, k5⟩ := turns (a0 := some (.ref 0)) (a1 := some (.int i)) (k := h.length) (n := n) (r := r) (q := q) (s := s) (l := l) (ls := ls) (by omega) (by omega) sk RO.1 (rangeD 0 (10 : Int).toNat) x4 x7 x8 x9 x10 h3 (S2.ga g3) en3 er3 Q3
    have Q5 : RuleD h5 (.ref s) l ls := by
      obtain ⟨s', e, w⟩ := Q3
      cases e
      exact ⟨s, rfl, k5.2 _ _ sk w⟩
    have p5 := pattern_ok Q5 (beg_vk (n := l.length))
    rw [beg_shape] at p5
    have z5 : h5[0]? = some (.rdl (ns.map .int)) := k5.2 _ _ (by omega) (g3.2 _ _ (k2.2 _ _ (by omega) (GA.app.2 _ _ e0)))
    have e6 : STARTB [some (.ref 0), some (.int i), x2, x3, x4, x5, x6, x7, x8, x9, x10] h = .nx [some (.ref 0), some (.int i), some (.ref h.length), some (.ref n), z4, some (.ref s), some (begD l.length), z7, z8, z9, z10] h5 := by
      unfold STARTB
      refine es_seq (es_set' (ev_on (ev_cons (ev_var rfl) (ev_cons (ev_var rfl) ev_nil)) e1) rfl) ?_
      refine es_seq (es_set' (ev_on (ev_cons (ev_var rfl) (ev_cons ev_con ev_nil)) e2) rfl) ?_
      refine es_seq (es_par2 (ev_cons (ev_on (ev_cons (ev_var rfl) ev_nil) e3) (ev_cons (ev_on (ev_cons (ev_var rfl) ev_nil) e4) ev_nil))) ?_
      refine es_seq (es_for (ei_rng (ev_cons ev_con ev_nil) (by decide)) e5) ?_
      exact es_ifF (ev_not (v := true) (ev_val (ev_on (ev_cons (ev_var rfl) (ev_cons (ev_var rfl) ev_nil)) p5))) es_pass
    obtain ⟨e', h', e7⟩ := starts hb ds (some (.int i)) (some (.ref h.length)) (some (.ref n)) z4 (some (.ref s)) (some (begD l.length)) z7 z8 z9 z10 h5 (fun x hx => hd x (List.mem_cons_of_mem _ hx)) z5
    exact ⟨e', h', (loop_cons rfl rfl e6).trans e7⟩
theorem law_true : ∀ ns : List Int, ns.length ≤ 63 → (∀ z ∈ ns, Builtin.Int.intBits z ≤ 1048576) → ∃ h', b_law ([some (.ref 0)] ++ List.replicate (N_law.length - 1) none) (scriptM ns) = .rt (.bl true) h' := by
  intro ns hl hb
  have h0 : (scriptM ns)[0]? = some (.rdl (ns.map .int)) := rfl
  have a1 := len_rdl h0
  rw [List.length_map] at a1
  obtain ⟨y, a2, y1⟩ : ∃ y : Int, min2F [.int 2, .int (ns.length : Nat)] (scriptM ns) = .ok (.int y) (scriptM ns) ∧ y ≤ 4 := ⟨_, rfl, by split <;> omega⟩
  obtain ⟨z, a3, z0, z1⟩ : ∃ z : Int, max2F [.int 1, .int y] (scriptM ns) = .ok (.int z) (scriptM ns) ∧ 0 ≤ z ∧ z ≤ 4 := ⟨_, rfl, by split <;> omega, by split <;> omega⟩
  obtain ⟨e', h', p⟩ := starts hb (rangeD 0 z.toNat) none none none none none none none none none none (scriptM ns) (fun d hd => by
    unfold rangeD at hd
    obtain ⟨i, hi, ei⟩ := List.mem_map.mp hd
    have := List.mem_range.mp hi
    exact ⟨_, ei.symm, by omega, by omega⟩) h0
  refine ⟨h', ?_⟩
  have w : b_law = seqS (forS (rng1I (consA (onA max2F (consA (conE (.int 1)) (consA (onA min2F (consA (conE (.int 2)) (consA (onA lenF (consA (varE 0) (nilA))) (nilA)))) (nilA)))) (nilA))) (gnm 1) (STARTB)) (retS (conE (.bl true))) := rfl
  rw [w]
  refine es_seq (es_for (ei_rng (ev_cons (ev_on (ev_cons ev_con (ev_cons (ev_on (ev_cons ev_con (ev_cons (ev_on (ev_cons (ev_var rfl) ev_nil) a1) ev_nil)) a2) ev_nil)) a3) ev_nil) ⟨by omega, by omega⟩) p) (es_ret ev_con)
end ML

namespace ML
open PySem PySem.Spec PyProof.Rows L2
abbrev hR : PySem.W.OpenRow := PySem.W.OpenLaw.row PySem.Challenge.rw_stillmine_k21_shapes_of_patterns
abbrev hV : Program := PySem.W.view hR.prog [69]
def hn0 : List Str := [Str.ofString "_wall", Str.ofString "UpgradeError", Str.ofString "BadRegisters", Str.ofString "BadLines", Str.ofString "BadLine", Str.ofString "BadContent", Str.ofString "StillAmid", Str.ofString "Unanswered", Str.ofString "BadAnswer", Str.ofString "BadStop", Str.ofString "NoPlace", Str.ofString "LETTERS", Str.ofString "BARRED", Str.ofString "PLACES", Str.ofString "MOST_REGISTERS", Str.ofString "MOST_LINES", Str.ofString "MOST_TESTS", Str.ofString "MOST_STEPS", Str.ofString "is_name", Str.ofString "need_registers", Str.ofString "is_one_of", Str.ofString "is_test", Str.ofString "is_step", Str.ofString "are_steps", Str.ofString "is_line", Str.ofString "Rule", Str.ofString "ANSWERS", Str.ofString "NONE", Str.ofString "OWN", Str.ofString "FREE"]
def hn1 : List Str := [Str.ofString "is_content", Str.ofString "is_whole_number", Str.ofString "taken_line", Str.ofString "done_steps", Str.ofString "File", Str.ofString "numbered", Str.ofString "all_contents", Str.ofString "pattern_of", Str.ofString "are_numbered", Str.ofString "is_pattern", Str.ofString "openings", Str.ofString "deeds_of", Str.ofString "done", Str.ofString "text_of", Str.ofString "file_of", Str.ofString "steps_from", Str.ofString "is_closed", Str.ofString "_law_source", Str.ofString "_law_draw", Str.ofString "_law_pick", Str.ofString "_law_note", Str.ofString "_law_registers", Str.ofString "_law_test", Str.ofString "_law_steps", Str.ofString "_law_row", Str.ofString "_law_good", Str.ofString "_law_bent", Str.ofString "_law_rule", Str.ofString "_law_made", Str.ofString "_law_begun"]
def hn2 : List Str := [Str.ofString "_law_shape", Str.ofString "_law_is_shape", Str.ofString "_law_odd"]
def hnames : List Str := hn0 ++ (hn1 ++ (hn2))
def hx0 : List Str := [Str.ofString "BadRegisters", Str.ofString "BadLines", Str.ofString "BadLine", Str.ofString "UpgradeError", Str.ofString "Rule", Str.ofString "is_name", Str.ofString "need_registers", Str.ofString "is_one_of", Str.ofString "is_test", Str.ofString "is_step", Str.ofString "are_steps", Str.ofString "is_line", Str.ofString "is_whole_number", Str.ofString "are_numbered", Str.ofString "is_pattern", Str.ofString "is_closed", Str.ofString "_law_source", Str.ofString "_law_draw", Str.ofString "_law_pick", Str.ofString "_law_note", Str.ofString "_law_registers", Str.ofString "_law_test", Str.ofString "_law_steps", Str.ofString "_law_row", Str.ofString "_law_good", Str.ofString "_law_bent", Str.ofString "_law_rule", Str.ofString "_law_made", Str.ofString "_law_begun", Str.ofString "_law_shape"]
def hx1 : List Str := [Str.ofString "_law_is_shape", Str.ofString "_law_odd", Str.ofString "law", Str.ofString "BARRED"]
def hxs : List Str := hx0 ++ (hx1)
abbrev hd_BadRegisters : FnM := ⟨fun K => (He.ma K (He.ga K "BadRegisters") "__init__"), "__init__", "BadRegisters.__init__", (inClass (top 3) 0)⟩
abbrev hd_BadLines : FnM := ⟨fun K => (He.ma K (He.ga K "BadLines") "__init__"), "__init__", "BadLines.__init__", (inClass (top 4) 0)⟩
abbrev hd_BadLine : FnM := ⟨fun K => (He.ma K (He.ga K "BadLine") "__init__"), "__init__", "BadLine.__init__", (inClass (top 5) 0)⟩
abbrev hd_is_name : FnM := ⟨fun K => (He.ga K "is_name"), "is_name", "is_name", s_is_name⟩
abbrev hd_need_registers : FnM := ⟨fun K => (He.ga K "need_registers"), "need_registers", "need_registers", s_need_registers⟩
abbrev hd_is_one_of : FnM := ⟨fun K => (He.ga K "is_one_of"), "is_one_of", "is_one_of", s_is_one_of⟩
abbrev hd_is_test : FnM := ⟨fun K => (He.ga K "is_test"), "is_test", "is_test", s_is_test⟩
abbrev hd_is_step : FnM := ⟨fun K => (He.ga K "is_step"), "is_step", "is_step", s_is_step⟩
abbrev hd_are_steps : FnM := ⟨fun K => (He.ga K "are_steps"), "are_steps", "are_steps", s_are_steps⟩
abbrev hd_is_line : FnM := ⟨fun K => (He.ga K "is_line"), "is_line", "is_line", s_is_line⟩
abbrev hd_Rule_init : FnM := ⟨fun K => (He.ma K (He.ga K "Rule") "__init__"), "__init__", "Rule.__init__", s_Rule_init⟩
abbrev hd_is_whole_number : FnM := ⟨fun K => (He.ga K "is_whole_number"), "is_whole_number", "is_whole_number", s_is_whole_number⟩
abbrev hd_are_numbered : FnM := ⟨fun K => (He.ga K "are_numbered"), "are_numbered", "are_numbered", s_are_numbered⟩
abbrev hd_is_pattern : FnM := ⟨fun K => (He.ga K "is_pattern"), "is_pattern", "is_pattern", s_is_pattern⟩
abbrev hd_is_closed : FnM := ⟨fun K => (He.ga K "is_closed"), "is_closed", "is_closed", s_is_closed⟩
abbrev hd_law_source : FnM := ⟨fun K => (He.ga K "_law_source"), "_law_source", "_law_source", s_law_source⟩
abbrev hd_law_draw : FnM := ⟨fun K => (He.ga K "_law_draw"), "_law_draw", "_law_draw", s_law_draw⟩
abbrev hd_law_pick : FnM := ⟨fun K => (He.ga K "_law_pick"), "_law_pick", "_law_pick", s_law_pick⟩
abbrev hd_law_note : FnM := ⟨fun K => (He.ga K "_law_note"), "_law_note", "_law_note", s_law_note⟩
abbrev hd_law_registers : FnM := ⟨fun K => (He.ga K "_law_registers"), "_law_registers", "_law_registers", s_law_registers⟩
abbrev hd_law_test : FnM := ⟨fun K => (He.ga K "_law_test"), "_law_test", "_law_test", s_law_test⟩
abbrev hd_law_steps : FnM := ⟨fun K => (He.ga K "_law_steps"), "_law_steps", "_law_steps", s_law_steps⟩
abbrev hd_law_row : FnM := ⟨fun K => (He.ga K "_law_row"), "_law_row", "_law_row", s_law_row⟩
abbrev hd_law_good : FnM := ⟨fun K => (He.ga K "_law_good"), "_law_good", "_law_good", s_law_good⟩
abbrev hd_law_bent : FnM := ⟨fun K => (He.ga K "_law_bent"), "_law_bent", "_law_bent", s_law_bent⟩
abbrev hd_law_rule : FnM := ⟨fun K => (He.ga K "_law_rule"), "_law_rule", "_law_rule", s_law_rule⟩
abbrev hd_law_made : FnM := ⟨fun K => (He.ga K "_law_made"), "_law_made", "_law_made", s_law_made⟩
abbrev hd_law_begun : FnM := ⟨fun K => (He.ga K "_law_begun"), "_law_begun", "_law_begun", s_law_begun⟩
abbrev hd_law_shape : FnM := ⟨fun K => (He.ga K "_law_shape"), "_law_shape", "_law_shape", s_law_shape⟩
abbrev hd_law_is_shape : FnM := ⟨fun K => (He.ga K "_law_is_shape"), "_law_is_shape", "_law_is_shape", s_law_is_shape⟩
abbrev hd_law_odd : FnM := ⟨fun K => (He.ga K "_law_odd"), "_law_odd", "_law_odd", s_law_odd⟩
abbrev hd_law : FnM := ⟨fun K => (He.ga K "law"), "law", "law", s_law⟩
def hfn : List FnM := [hd_BadRegisters, hd_BadLines, hd_BadLine, hd_is_name, hd_need_registers, hd_is_one_of, hd_is_test, hd_is_step, hd_are_steps, hd_is_line, hd_Rule_init, hd_is_whole_number, hd_are_numbered, hd_is_pattern, hd_is_closed, hd_law_source, hd_law_draw, hd_law_pick, hd_law_note, hd_law_registers, hd_law_test, hd_law_steps, hd_law_row, hd_law_good, hd_law_bent, hd_law_rule, hd_law_made, hd_law_begun, hd_law_shape, hd_law_is_shape, hd_law_odd, hd_law]
def hchk (K : PySem.W.Frag) : List Bool := [
  He.eqO (PySem.W.nsIn K mainGlobals "BadRegisters") (some (some (.ref (He.ga K "BadRegisters")))),
  He.eqO (PySem.W.findIn K (.ref (He.ga K "BadRegisters")) "__init__") (some (some (.ref (He.ma K (He.ga K "BadRegisters") "__init__")))),
  xcoB K (He.ga K "BadRegisters"),
  xcB K (He.ga K "BadRegisters") (He.ma K (He.ga K "BadRegisters") "__init__") "value",
  He.eqO (PySem.W.nsIn K mainGlobals "BadLines") (some (some (.ref (He.ga K "BadLines")))),
  He.eqO (PySem.W.findIn K (.ref (He.ga K "BadLines")) "__init__") (some (some (.ref (He.ma K (He.ga K "BadLines") "__init__")))),
  xcoB K (He.ga K "BadLines"),
  xcB K (He.ga K "BadLines") (He.ma K (He.ga K "BadLines") "__init__") "value",
  He.eqO (PySem.W.nsIn K mainGlobals "BadLine") (some (some (.ref (He.ga K "BadLine")))),
  He.eqO (PySem.W.findIn K (.ref (He.ga K "BadLine")) "__init__") (some (some (.ref (He.ma K (He.ga K "BadLine") "__init__")))),
  xcoB K (He.ga K "BadLine"),
  xcB K (He.ga K "BadLine") (He.ma K (He.ga K "BadLine") "__init__") "position",
  He.eqO (PySem.W.nsIn K mainGlobals "UpgradeError") (some (some (.ref (He.ga K "UpgradeError")))),
  kindB K [("BadRegisters", (He.ga K "BadRegisters")), ("BadLines", (He.ga K "BadLines")), ("BadLine", (He.ga K "BadLine"))] (He.ga K "UpgradeError"),
  He.eqO (PySem.W.nsIn K mainGlobals "all") (some none),
  He.eqO (PySem.W.nsIn K mainGlobals "bool") (some none),
  He.eqO (PySem.W.nsIn K mainGlobals "enumerate") (some none),
  He.eqO (PySem.W.nsIn K mainGlobals "int") (some none),
  He.eqO (PySem.W.nsIn K mainGlobals "isinstance") (some none),
  He.eqO (PySem.W.nsIn K mainGlobals "len") (some none),
  He.eqO (PySem.W.nsIn K mainGlobals "list") (some none),
  He.eqO (PySem.W.nsIn K mainGlobals "max") (some none),
  He.eqO (PySem.W.nsIn K mainGlobals "min") (some none),
  He.eqO (PySem.W.nsIn K mainGlobals "range") (some none),
  He.eqO (PySem.W.nsIn K mainGlobals "repr") (some none),
  He.eqO (PySem.W.nsIn K mainGlobals "set") (some none),
  He.eqO (PySem.W.nsIn K mainGlobals "str") (some none),
  He.eqO (PySem.W.nsIn K mainGlobals "tuple") (some none),
  He.eqO (PySem.W.nsIn K mainGlobals "BARRED") (some (some (.ref (He.ga K "BARRED")))),
  tupB K (He.ga K "BARRED") ["here", "new", "nothing", "is", "not", "from", "or", "ask", "do", "otherwise"],
  strB K "FREE" "free",
  strB K "LETTERS" "abcdefghijklmnopqrstuvwxyz",
  intB K "MOST_LINES" 8,
  intB K "MOST_REGISTERS" 3,
  intB K "MOST_STEPS" 4,
  intB K "MOST_TESTS" 4,
  strB K "NONE" "none",
  strB K "OWN" "own",
  He.eqO (PySem.W.nsIn K mainGlobals "Rule") (some (some (.ref (He.ga K "Rule")))),
  He.eqO (PySem.W.findIn K (.ref (He.ga K "Rule")) "__init__") (some (some (.ref (He.ma K (He.ga K "Rule") "__init__")))),
  clsB K (He.ga K "Rule") (He.ma K (He.ga K "Rule") "__init__") ["own_names", "rows"],
  kwdB K (He.ga K "is_closed") [("stops", (.bl false))],
  He.eqO (PySem.W.nsIn K mainGlobals "is_name") (some (some (.ref (He.ga K "is_name")))),
  He.eqO (PySem.W.nsIn K mainGlobals "need_registers") (some (some (.ref (He.ga K "need_registers")))),
  He.eqO (PySem.W.nsIn K mainGlobals "is_one_of") (some (some (.ref (He.ga K "is_one_of")))),
  He.eqO (PySem.W.nsIn K mainGlobals "is_test") (some (some (.ref (He.ga K "is_test")))),
  He.eqO (PySem.W.nsIn K mainGlobals "is_step") (some (some (.ref (He.ga K "is_step")))),
  He.eqO (PySem.W.nsIn K mainGlobals "are_steps") (some (some (.ref (He.ga K "are_steps")))),
  He.eqO (PySem.W.nsIn K mainGlobals "is_line") (some (some (.ref (He.ga K "is_line")))),
  He.eqO (PySem.W.nsIn K mainGlobals "is_whole_number") (some (some (.ref (He.ga K "is_whole_number")))),
  He.eqO (PySem.W.nsIn K mainGlobals "are_numbered") (some (some (.ref (He.ga K "are_numbered")))),
  He.eqO (PySem.W.nsIn K mainGlobals "is_pattern") (some (some (.ref (He.ga K "is_pattern")))),
  He.eqO (PySem.W.nsIn K mainGlobals "is_closed") (some (some (.ref (He.ga K "is_closed")))),
  He.eqO (PySem.W.nsIn K mainGlobals "_law_source") (some (some (.ref (He.ga K "_law_source")))),
  He.eqO (PySem.W.nsIn K mainGlobals "_law_draw") (some (some (.ref (He.ga K "_law_draw")))),
  He.eqO (PySem.W.nsIn K mainGlobals "_law_pick") (some (some (.ref (He.ga K "_law_pick")))),
  He.eqO (PySem.W.nsIn K mainGlobals "_law_note") (some (some (.ref (He.ga K "_law_note")))),
  He.eqO (PySem.W.nsIn K mainGlobals "_law_registers") (some (some (.ref (He.ga K "_law_registers")))),
  He.eqO (PySem.W.nsIn K mainGlobals "_law_test") (some (some (.ref (He.ga K "_law_test")))),
  He.eqO (PySem.W.nsIn K mainGlobals "_law_steps") (some (some (.ref (He.ga K "_law_steps")))),
  He.eqO (PySem.W.nsIn K mainGlobals "_law_row") (some (some (.ref (He.ga K "_law_row")))),
  He.eqO (PySem.W.nsIn K mainGlobals "_law_good") (some (some (.ref (He.ga K "_law_good")))),
  He.eqO (PySem.W.nsIn K mainGlobals "_law_bent") (some (some (.ref (He.ga K "_law_bent")))),
  He.eqO (PySem.W.nsIn K mainGlobals "_law_rule") (some (some (.ref (He.ga K "_law_rule")))),
  He.eqO (PySem.W.nsIn K mainGlobals "_law_made") (some (some (.ref (He.ga K "_law_made")))),
  He.eqO (PySem.W.nsIn K mainGlobals "_law_begun") (some (some (.ref (He.ga K "_law_begun")))),
  He.eqO (PySem.W.nsIn K mainGlobals "_law_shape") (some (some (.ref (He.ga K "_law_shape")))),
  He.eqO (PySem.W.nsIn K mainGlobals "_law_is_shape") (some (some (.ref (He.ga K "_law_is_shape")))),
  He.eqO (PySem.W.nsIn K mainGlobals "_law_odd") (some (some (.ref (He.ga K "_law_odd")))),
  He.eqO (PySem.W.nsIn K mainGlobals "law") (some (some (.ref (He.ga K "law"))))]
set_option maxHeartbeats 0 in
theorem h_run (w : World) : HandSHeadRun.RunEq hR hV (hookM hxs hchk hfn) (obM hxs hchk hfn) 9000 hnames w := by
  intro os
  kernel_rfl
theorem h_all {P : Program} {w : World} {K : PySem.W.Frag} {h : Heap} {mg : Str → Option Value} {fa : Addr} (KX : K.In h) (c : SaysM hchk hfn K) (G : h.Ns mainGlobals mg) (hfa : mg "law" = some (.ref fa)) :
    ∀ (base : Heap) (s : Shared) (H : Hp) (a : Addr) (ns : List Int), ns.length ≤ 63 → (∀ z ∈ ns, Builtin.Int.intBits z ≤ 1048576) → Env0 P w K mg base callerA [] s H → RdL K H a (ns.map V.int) →
        codeAny (model P w) callerA (.call (.ref fa) ⟨[.ref a], []⟩) (CR (L2.CX P w) [] P w H s (fun v _ => v = .bl true) fun _ _ _ => False) s :=
  all_mk KX G hfa (C_BadRegisters := (He.ga K "BadRegisters")) (C_BadLines := (He.ga K "BadLines")) (C_BadLine := (He.ga K "BadLine")) (f_BadRegisters := (He.ma K (He.ga K "BadRegisters") "__init__")) (f_BadLines := (He.ma K (He.ga K "BadLines") "__init__")) (f_BadLine := (He.ma K (He.ga K "BadLine") "__init__")) (C_UpgradeError := (He.ga K "UpgradeError")) (C_Rule := (He.ga K "Rule")) (f_is_name := (He.ga K "is_name")) (f_need_registers := (He.ga K "need_registers")) (f_is_one_of := (He.ga K "is_one_of")) (f_is_test := (He.ga K "is_test")) (f_is_step := (He.ga K "is_step")) (f_are_steps := (He.ga K "are_steps")) (f_is_line := (He.ga K "is_line")) (f_Rule_init := (He.ma K (He.ga K "Rule") "__init__")) (f_is_whole_number := (He.ga K "is_whole_number")) (f_are_numbered := (He.ga K "are_numbered")) (f_is_pattern := (He.ga K "is_pattern")) (f_is_closed := (He.ga K "is_closed")) (f_law_source := (He.ga K "_law_source")) (f_law_draw := (He.ga K "_law_draw")) (f_law_pick := (He.ga K "_law_pick")) (f_law_note := (He.ga K "_law_note")) (f_law_registers := (He.ga K "_law_registers")) (f_law_test := (He.ga K "_law_test")) (f_law_steps := (He.ga K "_law_steps")) (f_law_row := (He.ga K "_law_row")) (f_law_good := (He.ga K "_law_good")) (f_law_bent := (He.ga K "_law_bent")) (f_law_rule := (He.ga K "_law_rule")) (f_law_made := (He.ga K "_law_made")) (f_law_begun := (He.ga K "_law_begun")) (f_law_shape := (He.ga K "_law_shape")) (f_law_is_shape := (He.ga K "_law_is_shape")) (f_law_odd := (He.ga K "_law_odd")) (f_law := (He.ga K "law")) (v_BARRED := (He.ga K "BARRED")) (v_FREE := (tokS K "FREE")) (v_LETTERS := (tokS K "LETTERS")) (v_MOST_LINES := (tokI K "MOST_LINES")) (v_MOST_REGISTERS := (tokI K "MOST_REGISTERS")) (v_MOST_STEPS := (tokI K "MOST_STEPS")) (v_MOST_TESTS := (tokI K "MOST_TESTS")) (v_NONE := (tokS K "NONE")) (v_OWN := (tokS K "OWN"))
    (eq_of (c.fact 0 rfl))
    (eq_of (c.fact 1 rfl))
    (xco_of (c.fact 2 rfl))
    (c.def_ 0 (d := hd_BadRegisters) rfl)
    (c.fact 3 rfl)
    (eq_of (c.fact 4 rfl))
    (eq_of (c.fact 5 rfl))
    (xco_of (c.fact 6 rfl))
    (c.def_ 1 (d := hd_BadLines) rfl)
    (c.fact 7 rfl)
    (eq_of (c.fact 8 rfl))
    (eq_of (c.fact 9 rfl))
    (xco_of (c.fact 10 rfl))
    (c.def_ 2 (d := hd_BadLine) rfl)
    (c.fact 11 rfl)
    (eq_of (c.fact 12 rfl))
    (c.fact 13 rfl)
    (eq_of (c.fact 14 rfl))
    (eq_of (c.fact 15 rfl))
    (eq_of (c.fact 16 rfl))
    (eq_of (c.fact 17 rfl))
    (eq_of (c.fact 18 rfl))
    (eq_of (c.fact 19 rfl))
    (eq_of (c.fact 20 rfl))
    (eq_of (c.fact 21 rfl))
    (eq_of (c.fact 22 rfl))
    (eq_of (c.fact 23 rfl))
    (eq_of (c.fact 24 rfl))
    (eq_of (c.fact 25 rfl))
    (eq_of (c.fact 26 rfl))
    (eq_of (c.fact 27 rfl))
    (eq_of (c.fact 28 rfl))
    (c.fact 29 rfl)
    (str_of (c.fact 30 rfl))
    (str_of (c.fact 31 rfl))
    (int_of (c.fact 32 rfl))
    (int_of (c.fact 33 rfl))
    (int_of (c.fact 34 rfl))
    (int_of (c.fact 35 rfl))
    (str_of (c.fact 36 rfl))
    (str_of (c.fact 37 rfl))
    (eq_of (c.fact 38 rfl))
    (eq_of (c.fact 39 rfl))
    (c.fact 40 rfl)
    (c.fact 41 rfl)
    (eq_of (c.fact 42 rfl))
    (c.def_ 3 (d := hd_is_name) rfl)
    (eq_of (c.fact 43 rfl))
    (c.def_ 4 (d := hd_need_registers) rfl)
    (eq_of (c.fact 44 rfl))
    (c.def_ 5 (d := hd_is_one_of) rfl)
    (eq_of (c.fact 45 rfl))
    (c.def_ 6 (d := hd_is_test) rfl)
    (eq_of (c.fact 46 rfl))
    (c.def_ 7 (d := hd_is_step) rfl)
    (eq_of (c.fact 47 rfl))
    (c.def_ 8 (d := hd_are_steps) rfl)
    (eq_of (c.fact 48 rfl))
    (c.def_ 9 (d := hd_is_line) rfl)
    (c.def_ 10 (d := hd_Rule_init) rfl)
    (eq_of (c.fact 49 rfl))
    (c.def_ 11 (d := hd_is_whole_number) rfl)
    (eq_of (c.fact 50 rfl))
    (c.def_ 12 (d := hd_are_numbered) rfl)
    (eq_of (c.fact 51 rfl))
    (c.def_ 13 (d := hd_is_pattern) rfl)
    (eq_of (c.fact 52 rfl))
    (c.def_ 14 (d := hd_is_closed) rfl)
    (eq_of (c.fact 53 rfl))
    (c.def_ 15 (d := hd_law_source) rfl)
    (eq_of (c.fact 54 rfl))
    (c.def_ 16 (d := hd_law_draw) rfl)
    (eq_of (c.fact 55 rfl))
    (c.def_ 17 (d := hd_law_pick) rfl)
    (eq_of (c.fact 56 rfl))
    (c.def_ 18 (d := hd_law_note) rfl)
    (eq_of (c.fact 57 rfl))
    (c.def_ 19 (d := hd_law_registers) rfl)
    (eq_of (c.fact 58 rfl))
    (c.def_ 20 (d := hd_law_test) rfl)
    (eq_of (c.fact 59 rfl))
    (c.def_ 21 (d := hd_law_steps) rfl)
    (eq_of (c.fact 60 rfl))
    (c.def_ 22 (d := hd_law_row) rfl)
    (eq_of (c.fact 61 rfl))
    (c.def_ 23 (d := hd_law_good) rfl)
    (eq_of (c.fact 62 rfl))
    (c.def_ 24 (d := hd_law_bent) rfl)
    (eq_of (c.fact 63 rfl))
    (c.def_ 25 (d := hd_law_rule) rfl)
    (eq_of (c.fact 64 rfl))
    (c.def_ 26 (d := hd_law_made) rfl)
    (eq_of (c.fact 65 rfl))
    (c.def_ 27 (d := hd_law_begun) rfl)
    (eq_of (c.fact 66 rfl))
    (c.def_ 28 (d := hd_law_shape) rfl)
    (eq_of (c.fact 67 rfl))
    (c.def_ 29 (d := hd_law_is_shape) rfl)
    (eq_of (c.fact 68 rfl))
    (c.def_ 30 (d := hd_law_odd) rfl)
    (eq_of (c.fact 69 rfl))
    (c.def_ 31 (d := hd_law) rfl)
    law_true
end ML
open PySem PySem.W PyProof.Rows in
set_option maxRecDepth 100000 in
set_option maxHeartbeats 0 in
theorem PySem.Challenge.cw_stillmine_k21_shapes_of_patterns_holds : PySem.Challenge.rw_stillmine_k21_shapes_of_patterns.Holds := by
  w_on; o_law
  refine HandSHeadRun.head_any (r := OpenLaw.row PySem.Challenge.rw_stillmine_k21_shapes_of_patterns) (q := view (OpenLaw.row PySem.Challenge.rw_stillmine_k21_shapes_of_patterns).prog [69]) (H := ML.hookM ML.hxs ML.hchk ML.hfn) (ob := ML.obM ML.hxs ML.hchk ML.hfn) (M := 9000) (loose := ML.hnames) (d := HandSHeadRun.topDef (OpenLaw.row PySem.Challenge.rw_stillmine_k21_shapes_of_patterns).prog 69) (kwd := []) ML.obM_eq
    (by kernel_rfl) (fun s => by kernel_rfl) ML.h_run (by kernel_rfl) (by kernel_rfl) (by kernel_rfl) (by rfl) (by first | assumption | decide +kernel) (by decide +kernel) ⟨rfl, rfl, rfl, rfl, rfl, by decide +kernel⟩ ?hw ?hc
  case hw => w_witness2
  case hc =>
    refine ML.walkE (l := PySem.Challenge.rw_stillmine_k21_shapes_of_patterns) (Z := ML.SaysM ML.hchk ML.hfn) rfl (by kernel_rfl) (fun w h Y => Y) ?F
    intro w K mg fa h KX c G hmg0
    have hmg : mg ("law" : PySem.Str) = some (.ref fa) := by
      have e : (HandSHeadRun.topDef (OpenLaw.row PySem.Challenge.rw_stillmine_k21_shapes_of_patterns).prog 69).name = ("law" : PySem.Str) := by kernel_rfl
      rw [← e]
      exact hmg0
    exact ML.h_all KX c G hmg
#print axioms PySem.Challenge.cw_stillmine_k21_shapes_of_patterns_holds
