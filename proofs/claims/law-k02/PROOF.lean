import PyProof.Rows.All
import Wide.All
import OpenK.AllK
import Wide.FinOn
import HandS.ForMost
import HandS.ForExc
import HandS.IsInst
import HandS.Wide
import HandS.SetKeys
import HandS.ExcInit
import HandS.Defaults
import HandS.Property
import HandS.Deep
import HandS.FStr
import HandS.TryMany
import HandS.Zip
import HandS.CallSlots
import HandS.Walk
import HandS.Style
import HandS.TupAny
import HandS.RevTup
import HandS.Small
import HandS.More
import KE.KExcIs
import HandS.ExcField
import HandS.EndBits
import PyProof.ReprRoads
import HandS.Star
import HandS.DictComp
import HandS.Strs
import PyProof.Rows.StrRev
import KE.GoesEnum
import HandS.OwnEq
import HandS.SlotsOwn
import PyProof.InstNe
import PyProof.EqKinds
import PyProof.FactsAll.dict
import KE.KStateDown
import HandS.Head0
import HandS.Head1
import HandS.Head2
import HandS.HeadHook1
import PySem.Challenge.RW_stillmine_k02_rules_compared
set_option Elab.async false
set_option linter.all false
set_option maxRecDepth 100000
set_option maxHeartbeats 4000000
/-! ML 1: mirror values, the mirror heap, their relation to the tracked heap, readings of mirrors -/
namespace ML
open PySem PySem.Spec PyProof.Rows L2

/-- a mirror value: tuples stand as they are; ref n: the n-th object of the mirror heap; glb x: what the module's name x holds (a class, a def) -/
inductive D where
  | non | bl (b : Bool) | int (i : Int) | str (s : Str) | ty (n : String)
  | tup (l : List D) | ref (n : Nat) | glb (x : Str)
/-- a mirror object -/
inductive O where
  | lst (l : List D) | rdl (l : List D) | dct (kvs : List (Key × D)) | ins (c : Str) (fs : List (Str × D)) | xc (c : Str) (fs : List (Str × D)) | gone
abbrev MH := List O
abbrev Env := List (Option D)
inductive R (α : Type) where
  | ok (a : α) (h : MH) | exc (c : Str) (fs : List (Str × D)) (h : MH) | bad
inductive S where
  | nx (e : Env) (h : MH) | rt (d : D) (h : MH) | bk (e : Env) (h : MH) | ct (e : Env) (h : MH) | exc (c : Str) (fs : List (Str × D)) (e : Env) (h : MH) | bad
abbrev EM := Env → MH → R D
abbrev TM := Env → MH → R Bool
abbrev AM := Env → MH → R (List D)
abbrev SM := Env → MH → S
abbrev FM := List D → MH → R D
def R.bind {α β : Type} (r : R α) (f : α → MH → R β) : R β := match r with
  | .ok a h => f a h
  | .exc c fs h => .exc c fs h
  | .bad => .bad

structure Gd where
  K : PySem.W.Frag
  mg : Str → Option Value
abbrev gd (X : Cx) : Gd := ⟨X.K, X.mg⟩

section
variable (g : Gd) (ρ : List Addr) (H : Hp)
mutual
def RD : D → V → Prop
  | .non, v => v = .non
  | .bl b, v => v = .bl b
  | .int i, v => v = .int i
  | .str s, v => v = .str s
  | .ty n, v => v = .ty n
  | .tup l, v => ∃ a vs, v = .ref a ∧ SqT g.K H a vs ∧ RDs l vs
  | .ref n, v => ∃ a, ρ[n]? = some a ∧ v = .ref a
  | .glb x, v => ∃ a, g.mg x = some (.ref a) ∧ v = .ref a
def RDs : List D → List V → Prop
  | [], vs => vs = []
  | d :: l, vs => ∃ v r, vs = v :: r ∧ RD d v ∧ RDs l r
end
def RP {α : Type} : List (α × D) → List (α × V) → Prop
  | [], l => l = []
  | (f, d) :: r, l => ∃ v s, l = (f, v) :: s ∧ RD g ρ H d v ∧ RP r s
/-- a list that is read alone: the script, a list of the written part -/
def RdL (K : PySem.W.Frag) (H : Hp) (a : Addr) (vs : List V) : Prop := (∃ o, H a = some (.frz o (.lst vs))) ∨
  ∃ (o : Obj) (its : Array Value) (n : Nat), K.lookup a = some o ∧ o.cls = .type "list" ∧ o.dict = none ∧ o.data = .seq its n ∧ its.size ≤ sizeLine ∧ Vals vs its.toList
def RO : O → Addr → Prop
  | .lst l, a => ∃ vs, H a = some (.lst vs) ∧ RDs g ρ H l vs
  | .rdl l, a => ∃ vs, RdL g.K H a vs ∧ RDs g ρ H l vs
  | .dct kvs, a => ∃ ws, H a = some (.dK ws) ∧ RP g ρ H kvs ws
  | .ins c fs, a => ∃ C dx gs, g.mg c = some (.ref C) ∧ H a = some (.ins C dx gs) ∧ RP g ρ H fs gs
  | .xc c fs, a => ∃ C dx gs, g.mg c = some (.ref C) ∧ H a = some (exo a C (some dx)) ∧ H dx = some (exd dx gs) ∧ RP g ρ H fs gs
  | .gone, _ => True
def O.mut : O → Bool
  | .lst _ => true
  | .dct _ => true
  | .ins _ _ => true
  | _ => false
structure RH (h : MH) : Prop where
  len : ρ.length = h.length
  obj : ∀ (n : Nat) o a, h[n]? = some o → ρ[n]? = some a → RO g ρ H o a
  inj : ∀ (n m : Nat) o o' a, h[n]? = some o → h[m]? = some o' → o.mut = true → o'.mut = true → ρ[n]? = some a → ρ[m]? = some a → n = m
/-- the slots -/
structure RS (e : Env) (σ : L2.St) : Prop where
  len : e.length = σ.length
  get : ∀ (i : Nat) d, e[i]? = some (some d) → ∃ v, σ[i]? = some (some v) ∧ RD g ρ H d v
end
/-- what stays: addresses, tuples, errors' dicts, frozen things -/
structure Lat (g : Gd) (ρ : List Addr) (H : Hp) (ρ' : List Addr) (H' : Hp) : Prop where
  pre : ∃ t, ρ' = ρ ++ t
  tup : ∀ a xs, H a = some (.tup xs) → H' a = some (.tup xs)
  frz : ∀ a o u, H a = some (.frz o u) → H' a = some (.frz o u)
  xd : ∀ a fs, H a = some (.xd fs) → H' a = some (.xd fs)
  ext : ∀ a φ, H a = some (.ext φ) → H' a = some (.ext φ)

section
variable {g : Gd} {ρ ρ' ρ'' : List Addr} {H H' H'' : Hp} {h h' : MH}
theorem Lat.refl : Lat g ρ H ρ H := ⟨⟨[], by simp⟩, fun _ _ e => e, fun _ _ _ e => e, fun _ _ e => e, fun _ _ e => e⟩
theorem Lat.trans (a : Lat g ρ H ρ' H') (b : Lat g ρ' H' ρ'' H'') : Lat g ρ H ρ'' H'' := by
  obtain ⟨t, e⟩ := a.pre
  obtain ⟨u, e'⟩ := b.pre
  exact ⟨⟨t ++ u, by rw [e', e, List.append_assoc]⟩, fun x xs q => b.tup x xs (a.tup x xs q), fun x o u q => b.frz x o u (a.frz x o u q), fun x fs q => b.xd x fs (a.xd x fs q), fun x φ q => b.ext x φ (a.ext x φ q)⟩
theorem Lat.sqT (a : Lat g ρ H ρ' H') {x : Addr} {xs : List V} (q : SqT g.K H x xs) : SqT g.K H' x xs := by
  rcases q with (q | ⟨o, q⟩) | q
  · exact .inl (.inl (a.tup _ _ q))
  · exact .inl (.inr ⟨o, a.frz _ _ _ q⟩)
  · exact .inr q
theorem Lat.at (a : Lat g ρ H ρ' H') {n : Nat} {x : Addr} (q : ρ[n]? = some x) : ρ'[n]? = some x := by
  obtain ⟨t, e⟩ := a.pre
  rw [e]
  rw [List.getElem?_append_left (List.getElem?_eq_some_iff.mp q).1]
  exact q
mutual
theorem Lat.rd (a : Lat g ρ H ρ' H') : ∀ (d : D) {v : V}, RD g ρ H d v → RD g ρ' H' d v
  | .non, _, q => q
  | .bl _, _, q => q
  | .int _, _, q => q
  | .str _, _, q => q
  | .ty _, _, q => q
  | .tup l, _, q => by
    unfold RD at q ⊢
    obtain ⟨x, vs, e, s, r⟩ := q
    exact ⟨x, vs, e, a.sqT s, Lat.rds a l r⟩
  | .ref n, _, q => by
    unfold RD at q ⊢
    obtain ⟨x, e, r⟩ := q
    exact ⟨x, a.at e, r⟩
  | .glb _, _, q => by
    unfold RD at q ⊢
    exact q
theorem Lat.rds (a : Lat g ρ H ρ' H') : ∀ (l : List D) {vs : List V}, RDs g ρ H l vs → RDs g ρ' H' l vs
  | [], _, q => by
    unfold RDs at q ⊢
    exact q
  | d :: l, _, q => by
    unfold RDs at q ⊢
    obtain ⟨v, r, e, q1, q2⟩ := q
    exact ⟨v, r, e, Lat.rd a d q1, Lat.rds a l q2⟩
end
theorem Lat.rp {α : Type} (a : Lat g ρ H ρ' H') : ∀ (l : List (α × D)) {vs : List (α × V)}, RP g ρ H l vs → RP g ρ' H' l vs
  | [], _, q => q
  | (f, d) :: l, _, q => by
    obtain ⟨v, r, e, q1, q2⟩ := q
    exact ⟨v, r, e, a.rd d q1, Lat.rp a l q2⟩
theorem Lat.rs (a : Lat g ρ H ρ' H') {e : Env} {σ : L2.St} (q : RS g ρ H e σ) : RS g ρ' H' e σ := ⟨q.len, fun i d z => by
  obtain ⟨v, z1, z2⟩ := q.get i d z
  exact ⟨v, z1, a.rd d z2⟩⟩
theorem RDs.length : ∀ {l : List D} {vs : List V}, RDs g ρ H l vs → l.length = vs.length
  | [], _, q => by unfold RDs at q; subst q; rfl
  | d :: l, _, q => by
    unfold RDs at q
    obtain ⟨v, r, e, _, q2⟩ := q
    subst e
    simp [RDs.length q2]
theorem RDs.get : ∀ {l : List D} {vs : List V} {i : Nat} {d : D}, RDs g ρ H l vs → l[i]? = some d → ∃ v, vs[i]? = some v ∧ RD g ρ H d v
  | [], _, i, d, q, e => by simp at e
  | x :: l, _, 0, d, q, e => by
    unfold RDs at q
    obtain ⟨v, r, e', q1, q2⟩ := q
    subst e'
    simp at e
    subst e
    exact ⟨v, rfl, q1⟩
  | x :: l, _, i + 1, d, q, e => by
    unfold RDs at q
    obtain ⟨v, r, e', q1, q2⟩ := q
    subst e'
    obtain ⟨w, a, b⟩ := RDs.get (i := i) (d := d) q2 (by simpa using e)
    exact ⟨w, by simpa using a, b⟩
theorem RDs.get' : ∀ {l : List D} {vs : List V} {i : Nat} {v : V}, RDs g ρ H l vs → vs[i]? = some v → ∃ d, l[i]? = some d ∧ RD g ρ H d v := fun {l vs i v} q e => by
  have hi : i < l.length := by rw [q.length]; exact (List.getElem?_eq_some_iff.mp e).1
  obtain ⟨w, e1, r⟩ := RDs.get (d := l[i]) q (List.getElem?_eq_getElem hi)
  rw [e] at e1
  cases e1
  exact ⟨l[i], List.getElem?_eq_getElem hi, r⟩
theorem RDs.append : ∀ {l m : List D} {vs ws : List V}, RDs g ρ H l vs → RDs g ρ H m ws → RDs g ρ H (l ++ m) (vs ++ ws)
  | [], _, _, _, q, r => by unfold RDs at q; subst q; exact r
  | d :: l, m, _, ws, q, r => by
    unfold RDs at q
    obtain ⟨v, s, e, q1, q2⟩ := q
    subst e
    rw [List.cons_append]
    unfold RDs
    exact ⟨v, s ++ ws, rfl, q1, RDs.append q2 r⟩
theorem RDs.nil : RDs g ρ H [] [] := by unfold RDs; rfl
theorem RDs.cons {d : D} {v : V} {l : List D} {vs : List V} (a : RD g ρ H d v) (b : RDs g ρ H l vs) : RDs g ρ H (d :: l) (v :: vs) := by unfold RDs; exact ⟨v, vs, rfl, a, b⟩
theorem RDs.one {d : D} {v : V} (a : RD g ρ H d v) : RDs g ρ H [d] [v] := .cons a .nil
theorem RDs.inv {d : D} {l : List D} {vs : List V} (q : RDs g ρ H (d :: l) vs) : ∃ v r, vs = v :: r ∧ RD g ρ H d v ∧ RDs g ρ H l r := by unfold RDs at q; exact q
theorem RDs.invNil {vs : List V} (q : RDs g ρ H [] vs) : vs = [] := by unfold RDs at q; exact q
theorem RDs.take : ∀ {l : List D} {vs : List V} (n : Nat), RDs g ρ H l vs → RDs g ρ H (l.take n) (vs.take n)
  | _, _, 0, _ => by simp only [List.take_zero]; exact .nil
  | [], _, n + 1, q => by rw [q.invNil]; simp only [List.take_nil]; exact .nil
  | d :: l, _, n + 1, q => by
    obtain ⟨v, r, e, q1, q2⟩ := q.inv
    subst e
    simp only [List.take_succ_cons]
    exact .cons q1 (RDs.take n q2)
theorem RDs.drop : ∀ {l : List D} {vs : List V} (n : Nat), RDs g ρ H l vs → RDs g ρ H (l.drop n) (vs.drop n)
  | _, _, 0, q => q
  | [], _, n + 1, q => by rw [q.invNil]; simp only [List.drop_nil]; exact .nil
  | d :: l, _, n + 1, q => by
    obtain ⟨v, r, e, q1, q2⟩ := q.inv
    subst e
    exact RDs.drop n q2
theorem RDs.set : ∀ {l : List D} {vs : List V} {d : D} {v : V} (n : Nat), RDs g ρ H l vs → RD g ρ H d v → RDs g ρ H (l.set n d) (vs.set n v)
  | [], _, _, _, n, q, _ => by rw [q.invNil]; exact .nil
  | x :: l, _, d, w, 0, q, r => by
    obtain ⟨v, s, e, q1, q2⟩ := q.inv
    subst e
    exact .cons r q2
  | x :: l, _, d, w, n + 1, q, r => by
    obtain ⟨v, s, e, q1, q2⟩ := q.inv
    subst e
    exact .cons q1 (RDs.set n q2 r)
theorem RDs.reverse {l : List D} {vs : List V} (q : RDs g ρ H l vs) : RDs g ρ H l.reverse vs.reverse := by
  induction l generalizing vs with
  | nil => rw [q.invNil]; exact .nil
  | cons d l ih =>
    obtain ⟨v, r, e, q1, q2⟩ := q.inv
    subst e
    rw [List.reverse_cons, List.reverse_cons]
    exact (ih q2).append (.one q1)
theorem RDs.eraseIdx : ∀ {l : List D} {vs : List V} (n : Nat), RDs g ρ H l vs → RDs g ρ H (l.eraseIdx n) (vs.eraseIdx n)
  | [], _, n, q => by rw [q.invNil]; exact .nil
  | d :: l, _, 0, q => by
    obtain ⟨v, s, e, q1, q2⟩ := q.inv
    subst e
    exact q2
  | d :: l, _, n + 1, q => by
    obtain ⟨v, s, e, q1, q2⟩ := q.inv
    subst e
    exact .cons q1 (RDs.eraseIdx n q2)

/-! ### the heap grows, an object changes -/
/-- what may be written over without loss -/
def Soft (H : Hp) (p : Addr) : Prop := ∀ u, H p = some u → (∀ xs, u ≠ .tup xs) ∧ (∀ o w, u ≠ .frz o w) ∧ (∀ fs, u ≠ .xd fs) ∧ (∀ φ, u ≠ .ext φ)
theorem Soft.none {p : Addr} (e : H p = none) : Soft H p := fun u q => by rw [e] at q; cases q
theorem Soft.lst {p : Addr} {xs : List V} (e : H p = some (.lst xs)) : Soft H p := fun u q => by
  rw [e] at q; cases q
  exact ⟨fun _ z => (nomatch z), fun _ _ z => (nomatch z), fun _ z => (nomatch z), fun _ z => (nomatch z)⟩
theorem Soft.dK {p : Addr} {xs : List (Key × V)} (e : H p = some (.dK xs)) : Soft H p := fun u q => by
  rw [e] at q; cases q
  exact ⟨fun _ z => (nomatch z), fun _ _ z => (nomatch z), fun _ z => (nomatch z), fun _ z => (nomatch z)⟩
theorem Soft.ins {p C dx : Addr} {xs : List (Str × V)} (e : H p = some (.ins C dx xs)) : Soft H p := fun u q => by
  rw [e] at q; cases q
  exact ⟨fun _ z => (nomatch z), fun _ _ z => (nomatch z), fun _ z => (nomatch z), fun _ z => (nomatch z)⟩
theorem Lat.upd {p : Addr} {u : HO} (s : Soft H p) : Lat g ρ H ρ (L2.upd H p u) :=
  ⟨⟨[], by simp⟩, fun a xs e => by
      rw [upd_ne]; exact e
      intro z; subst z; exact (s _ e).1 _ rfl,
    fun a o w e => by
      rw [upd_ne]; exact e
      intro z; subst z; exact (s _ e).2.1 _ _ rfl,
    fun a fs e => by
      rw [upd_ne]; exact e
      intro z; subst z; exact (s _ e).2.2.1 _ rfl,
    fun a fs e => by
      rw [upd_ne]; exact e
      intro z; subst z; exact (s _ e).2.2.2 _ rfl⟩
theorem Lat.more {p : Addr} : Lat g ρ H (ρ ++ [p]) H := ⟨⟨[p], rfl⟩, fun _ _ e => e, fun _ _ _ e => e, fun _ _ e => e, fun _ _ e => e⟩
theorem Lat.new {p : Addr} {u : HO} (s : Soft H p) : Lat g ρ H (ρ ++ [p]) (L2.upd H p u) := (Lat.upd s).trans Lat.more
theorem Lat.rdl (a : Lat g ρ H ρ' H') {x : Addr} {vs : List V} (q : RdL g.K H x vs) : RdL g.K H' x vs := by
  rcases q with ⟨o, q⟩ | q
  · exact .inl ⟨o, a.frz _ _ _ q⟩
  · exact .inr q
/-- an object's relation where its own place is kept -/
theorem Lat.ro (a : Lat g ρ H ρ' H') {x : Addr} (hx : ∀ u, H x = some u → H' x = some u) : ∀ (o : O), RO g ρ H o x → RO g ρ' H' o x
  | .lst l, q => by
    obtain ⟨vs, e, r⟩ := q
    exact ⟨vs, hx _ e, a.rds l r⟩
  | .rdl l, q => by
    obtain ⟨vs, e, r⟩ := q
    exact ⟨vs, a.rdl e, a.rds l r⟩
  | .dct l, q => by
    obtain ⟨vs, e, r⟩ := q
    exact ⟨vs, hx _ e, a.rp l r⟩
  | .ins c fs, q => by
    obtain ⟨C, dx, gs, e1, e2, r⟩ := q
    exact ⟨C, dx, gs, e1, hx _ e2, a.rp fs r⟩
  | .xc c fs, q => by
    obtain ⟨C, dx, gs, e1, e2, e3, r⟩ := q
    exact ⟨C, dx, gs, e1, a.ext _ _ e2, a.ext _ _ e3, a.rp fs r⟩
  | .gone, _ => True.intro
theorem Lat.ro' (a : Lat g ρ H ρ' H') {x : Addr} {c : Str} {fs : List (Str × D)} (q : RO g ρ H (.xc c fs) x) : RO g ρ' H' (.xc c fs) x := by
  obtain ⟨C, dx, gs, e1, e2, e3, r⟩ := q
  exact ⟨C, dx, gs, e1, a.ext _ _ e2, a.ext _ _ e3, a.rp fs r⟩
theorem RO.there {o : O} {x : Addr} (q : RO g ρ H o x) (m : o.mut = true) : H x ≠ none := by
  cases o with
  | lst l => obtain ⟨vs, e, _⟩ := q; rw [e]; exact fun z => nomatch z
  | rdl l => cases m
  | dct l => obtain ⟨vs, e, _⟩ := q; rw [e]; exact fun z => nomatch z
  | ins c fs => obtain ⟨C, dx, gs, _, e, _⟩ := q; rw [e]; exact fun z => nomatch z
  | xc c fs => cases m
  | gone => cases m
/-- a heap in which nothing of the mirror's has changed -/
theorem RH.lat (q : RH g ρ H h) (a : Lat g ρ H ρ H') (hx : ∀ (n : Nat) o x u, h[n]? = some o → o.mut = true → ρ[n]? = some x → H x = some u → H' x = some u) : RH g ρ H' h := by
  refine ⟨q.len, fun n o x e1 e2 => ?_, q.inj⟩
  have r := q.obj n o x e1 e2
  by_cases m : o.mut = true
  · exact a.ro (fun u z => hx n o x u e1 m e2 z) o r
  · cases o with
    | lst l => exact absurd rfl m
    | rdl l => obtain ⟨vs, e, r⟩ := r; exact ⟨vs, a.rdl e, a.rds l r⟩
    | dct l => exact absurd rfl m
    | ins c fs => exact absurd rfl m
    | xc c fs => exact a.ro' (by assumption)
    | gone => exact True.intro
/-- a new thing that the mirror does not name (a tuple) -/
theorem RH.upd {p : Addr} {u : HO} (q : RH g ρ H h) (e : H p = none) : RH g ρ (L2.upd H p u) h :=
  q.lat (Lat.upd (Soft.none e)) fun n o x v e1 m e2 z => by rw [upd_ne (ne_of_none z e)]; exact z
/-- a new object -/
theorem RH.new {p : Addr} {u : HO} {o : O} (q : RH g ρ H h) (e : H p = none) (r : RO g (ρ ++ [p]) (L2.upd H p u) o p) : RH g (ρ ++ [p]) (L2.upd H p u) (h ++ [o]) := by
  have q' := q.upd (u := u) e
  have lt : ∀ {n : Nat} {x : Addr}, (ρ ++ [p])[n]? = some x → n < ρ.length ∧ ρ[n]? = some x ∨ n = ρ.length ∧ x = p := fun {n x} z => by
    by_cases hn : n < ρ.length
    · rw [List.getElem?_append_left hn] at z
      exact .inl ⟨hn, z⟩
    · have hn' : n < (ρ ++ [p]).length := (List.getElem?_eq_some_iff.mp z).1
      have : n = ρ.length := by simp at hn'; omega
      subst this
      simp at z
      exact .inr ⟨rfl, z.symm⟩
  have lo : ∀ {n : Nat} {y : O}, n < ρ.length → (h ++ [o])[n]? = some y → h[n]? = some y := fun {n y} hn z => by
    rw [List.getElem?_append_left (by rw [← q.len]; exact hn)] at z
    exact z
  have lo' : ∀ {y : O}, (h ++ [o])[ρ.length]? = some y → y = o := fun {y} z => by
    rw [q.len] at z
    simp at z
    exact z.symm
  refine ⟨by simp [q.len], fun n y x e1 e2 => ?_, fun n m y y' x e1 e2 m1 m2 e3 e4 => ?_⟩
  · rcases lt e2 with ⟨hn, z⟩ | ⟨hn, z⟩
    · exact (Lat.more (g := g) (ρ := ρ) (H := L2.upd H p u) (p := p)).ro (fun _ z => z) y (q'.obj n y x (lo hn e1) z)
    · subst hn z
      rw [lo' e1]
      exact r
  · have old : ∀ {n : Nat} {y : O}, n < ρ.length → (h ++ [o])[n]? = some y → y.mut = true → ρ[n]? = some p → False := fun {n y} hn z m z2 => (q.obj n y p (lo hn z) z2).there m e
    rcases lt e3 with ⟨hn, z⟩ | ⟨hn, z⟩
    · rcases lt e4 with ⟨hm, z'⟩ | ⟨hm, z'⟩
      · exact q.inj n m y y' x (lo hn e1) (lo hm e2) m1 m2 z z'
      · subst z'
        exact (old hn e1 m1 z).elim
    · rcases lt e4 with ⟨hm, z'⟩ | ⟨hm, z'⟩
      · subst z
        exact (old hm e2 m2 z').elim
      · rw [hn, hm]
/-- an object is changed -/
theorem RH.set {n : Nat} {p : Addr} {u : HO} {o o' : O} (q : RH g ρ H h) (e1 : h[n]? = some o) (e2 : ρ[n]? = some p) (m : o.mut = true) (m' : o'.mut = true) (s : Soft H p) (r : RO g ρ (L2.upd H p u) o' p) :
    RH g ρ (L2.upd H p u) (h.set n o') := by
  have hn : n < h.length := (List.getElem?_eq_some_iff.mp e1).1
  have back : ∀ {k : Nat} {y : O}, (h.set n o')[k]? = some y → (k = n ∧ y = o') ∨ (k ≠ n ∧ h[k]? = some y) := fun {k y} z => by
    by_cases hk : k = n
    · subst hk
      rw [List.getElem?_set_self hn] at z
      cases z
      exact .inl ⟨rfl, rfl⟩
    · rw [List.getElem?_set_ne (Ne.symm hk)] at z
      exact .inr ⟨hk, z⟩
  refine ⟨by rw [q.len, List.length_set], fun k y x z1 z2 => ?_, fun k j y y' x z1 z2 w1 w2 z3 z4 => ?_⟩
  · rcases back z1 with ⟨hk, hy⟩ | ⟨hk, z⟩
    · subst hk hy
      rw [e2] at z2
      cases z2
      exact r
    · have ro := q.obj k y x z z2
      have lat : Lat g ρ H ρ (L2.upd H p u) := Lat.upd s
      by_cases my : y.mut = true
      · have hx : x ≠ p := fun w => by
          subst w
          exact hk (q.inj k n y o x z e1 my m z2 e2)
        exact lat.ro (fun v w => by rw [upd_ne hx]; exact w) y ro
      · cases y with
        | lst l => exact absurd rfl my
        | rdl l => obtain ⟨vs, e, r⟩ := ro; exact ⟨vs, lat.rdl e, lat.rds l r⟩
        | dct l => exact absurd rfl my
        | ins c fs => exact absurd rfl my
        | xc c fs => exact lat.ro' ro
        | gone => exact True.intro
  · have key : ∀ {k : Nat} {y : O}, (h.set n o')[k]? = some y → y.mut = true → ∃ w, h[k]? = some w ∧ w.mut = true := fun {k y} z w => by
      rcases back z with ⟨hk, hy⟩ | ⟨hk, z⟩
      · subst hk
        exact ⟨o, e1, m⟩
      · exact ⟨y, z, w⟩
    obtain ⟨a, a1, a2⟩ := key z1 w1
    obtain ⟨b, b1, b2⟩ := key z2 w2
    exact q.inj k j a b x a1 b1 a2 b2 z3 z4
theorem RH.addr (q : RH g ρ H h) {n : Nat} {o : O} (e : h[n]? = some o) : ∃ a, ρ[n]? = some a ∧ RO g ρ H o a := by
  have hn : n < ρ.length := by rw [q.len]; exact (List.getElem?_eq_some_iff.mp e).1
  exact ⟨ρ[n], by simp [hn], q.obj n o _ e (by simp [hn])⟩
theorem RS.set {e : Env} {σ : L2.St} {d : D} {v : V} (q : RS g ρ H e σ) (r : RD g ρ H d v) (i : Nat) : RS g ρ H (e.set i (some d)) (σ.set i (some v)) := by
  refine ⟨by simp [q.len], fun j d' z => ?_⟩
  by_cases hj : j = i
  · subst hj
    have hl : j < e.length := by
      have := (List.getElem?_eq_some_iff.mp z).1
      simpa using this
    rw [List.getElem?_set_self hl] at z
    cases z
    exact ⟨v, by rw [List.getElem?_set_self (by rw [← q.len]; exact hl)], r⟩
  · rw [List.getElem?_set_ne (Ne.symm hj)] at z
    obtain ⟨w, z1, z2⟩ := q.get j d' z
    exact ⟨w, by rw [List.getElem?_set_ne (Ne.symm hj)]; exact z1, z2⟩
theorem RS.start {N : List Str} {ds : List D} {vs : List V} (q : RDs g ρ H ds vs) : RS g ρ H (ds.map some ++ List.replicate (N.length - ds.length) none) (L2.start N vs) := by
  unfold L2.start
  have hl := q.length
  refine ⟨by simp [hl], fun i d z => ?_⟩
  by_cases hi : i < ds.length
  · rw [List.getElem?_append_left (by simpa using hi)] at z
    rw [List.getElem?_map] at z
    cases e : ds[i]? with
    | none => rw [e] at z; cases z
    | some d' =>
      rw [e] at z
      have z' : d' = d := by simpa using z
      subst z'
      obtain ⟨v, e1, r⟩ := q.get e
      refine ⟨v, ?_, r⟩
      rw [List.getElem?_append_left (by simp; omega), List.getElem?_map, e1]
      rfl
  · rw [List.getElem?_append_right (by simpa using Nat.le_of_not_lt hi)] at z
    rw [List.getElem?_replicate] at z
    split at z
    · cases z
    · cases z
end
end ML

/-! ML 2: readings of mirrors; names, operators, tests, arguments, calls of own defs, statements -/
namespace ML
open PySem PySem.Spec PyProof.Rows L2

def Post {α β : Type} (g : Gd) (Rel : List Addr → Hp → α → β → Prop) (Wf : XK) (ρ : List Addr) (H : Hp) (r : R α) (Q : β → Hp → Prop) : Prop := match r with
  | .ok d h' => ∀ ρ' v H', Lat g ρ H ρ' H' → RH g ρ' H' h' → Rel ρ' H' d v → Q v H'
  | .exc c fs h' => ∀ ρ' H' C dd gs, Lat g ρ H ρ' H' → RH g ρ' H' h' → g.mg c = some (.ref C) → H' dd = some (.xd gs) → RP g ρ' H' fs gs → Wf (.ref C) (some dd) H'
  | .bad => False
/-- what is wished of an exception, and what stays true while an expression is evaluated (in an except suite: where the error is) -/
structure Wx where
  W : WX
  J : List Addr → Hp → L2.St → Prop
  per : ∀ (g : Gd) ρ H ρ' H' σ, Lat g ρ H ρ' H' → J ρ H σ → J ρ' H' σ
abbrev pl (W : WX) : Wx := ⟨W, fun _ _ _ => True, fun _ _ _ _ _ _ _ _ => True.intro⟩
abbrev noW : WX := fun _ _ _ _ => False
structure RX (g : Gd) (W : Wx) (ρ : List Addr) (H : Hp) (e : Env) (σ : L2.St) : Prop where
  s : RS g ρ H e σ
  j : W.J ρ H σ
theorem RX.lat {g : Gd} {W : Wx} {ρ ρ' : List Addr} {H H' : Hp} {e : Env} {σ : L2.St} (s : RX g W ρ H e σ) (l : Lat g ρ H ρ' H') : RX g W ρ' H' e σ := ⟨l.rs s.s, W.per g _ _ _ _ _ l s.j⟩
theorem RS.x {g : Gd} {W : WX} {ρ : List Addr} {H : Hp} {e : Env} {σ : L2.St} (s : RS g ρ H e σ) : RX g (pl W) ρ H e σ := ⟨s, True.intro⟩
def tG {α β : Type} (g : Gd) (Rel : List Addr → Hp → α → β → Prop) (W : Wx) (m : Env → MH → R α) : L2.St → Hp → (β → Hp → Prop) → Prop := fun σ H Q =>
  ∃ ρ e h, RX g W ρ H e σ ∧ RH g ρ H h ∧ Post g Rel (fun c d H' => W.W c d σ H') ρ H (m e h) Q
def RB : List Addr → Hp → Bool → Bool → Prop := fun _ _ a b => b = a
abbrev tE (g : Gd) (W : Wx) (m : EM) : TE := tG g (RD g) W m
abbrev tT (g : Gd) (W : Wx) (m : TM) : TT := tG g RB W m
abbrev tA (g : Gd) (W : Wx) (m : AM) : TA := tG g (RDs g) W m
def PostS (g : Gd) (W : WX) (ρ : List Addr) (H : Hp) (s : S) (N : Ends) : Prop := match s with
  | .nx e h' => ∀ ρ' σ' H', Lat g ρ H ρ' H' → RH g ρ' H' h' → RS g ρ' H' e σ' → N.nx σ' H'
  | .bk e h' => ∀ ρ' σ' H', Lat g ρ H ρ' H' → RH g ρ' H' h' → RS g ρ' H' e σ' → N.bk σ' H'
  | .ct e h' => ∀ ρ' σ' H', Lat g ρ H ρ' H' → RH g ρ' H' h' → RS g ρ' H' e σ' → N.ct σ' H'
  | .rt d h' => ∀ ρ' v H', Lat g ρ H ρ' H' → RH g ρ' H' h' → RD g ρ' H' d v → N.rt v H'
  | .exc c fs e h' => ∀ ρ' σ' H' C dd gs, Lat g ρ H ρ' H' → RH g ρ' H' h' → RS g ρ' H' e σ' → g.mg c = some (.ref C) → H' dd = some (.xd gs) → RP g ρ' H' fs gs → W (.ref C) (some dd) σ' H'
  | .bad => False
def tS (g : Gd) (W : WX) (m : SM) : TS := fun N σ H => ∃ ρ e h, RS g ρ H e σ ∧ RH g ρ H h ∧ PostS g W ρ H (m e h) N

section
variable {α β γ δ : Type} {g : Gd} {Rel : List Addr → Hp → α → β → Prop} {Rel2 : List Addr → Hp → γ → δ → Prop} {Wf : XK} {W : Wx} {W0 : WX} {ρ ρ' : List Addr} {H H' : Hp} {Q Q' : β → Hp → Prop} {r : R α} {h : MH} {σ : L2.St} {e : Env}
theorem Post.later (a : Lat g ρ H ρ' H') (p : Post g Rel Wf ρ H r Q) : Post g Rel Wf ρ' H' r Q := by
  cases r with
  | ok d h => exact fun ρ2 v H2 b => p ρ2 v H2 (a.trans b)
  | exc c fs h => exact fun ρ2 H2 C dd gs b => p ρ2 H2 C dd gs (a.trans b)
  | bad => exact p
theorem Post.mono (p : Post g Rel Wf ρ H r Q) (k : ∀ v H, Q v H → Q' v H) : Post g Rel Wf ρ H r Q' := by
  cases r with
  | ok d h => exact fun ρ2 v H2 b c d => k _ _ (p ρ2 v H2 b c d)
  | exc c fs h => exact p
  | bad => exact p
/-- one part ahead of the rest -/
theorem Post.bind {f : α → MH → R γ} {Q : δ → Hp → Prop} (p : Post g Rel2 Wf ρ H (r.bind f) Q) :
    Post g Rel Wf ρ H r (fun v H1 => ∃ ρ1 d h1, Lat g ρ H ρ1 H1 ∧ RH g ρ1 H1 h1 ∧ Rel ρ1 H1 d v ∧ Post g Rel2 Wf ρ1 H1 (f d h1) Q) := by
  cases r with
  | ok d h => exact fun ρ2 v H2 a b c => ⟨ρ2, d, h, a, b, c, Post.later a p⟩
  | exc c fs h => exact p
  | bad => exact p
theorem Post.okk {d : α} {v : β} (p : Post g Rel Wf ρ H (.ok d h) Q) (b : RH g ρ H h) (c : Rel ρ H d v) : Q v H := p ρ v H Lat.refl b c
theorem tG.mono {m : Env → MH → R α} (p : tG g Rel W m σ H Q) (k : ∀ v H, Q v H → Q' v H) : tG g Rel W m σ H Q' := by
  obtain ⟨ρ, e, h, a, b, c⟩ := p
  exact ⟨ρ, e, h, a, b, c.mono k⟩
theorem PostS.later {N : Ends} {s : S} (a : Lat g ρ H ρ' H') (p : PostS g W0 ρ H s N) : PostS g W0 ρ' H' s N := by
  cases s with
  | nx e h => exact fun ρ2 σ2 H2 b => p ρ2 σ2 H2 (a.trans b)
  | bk e h => exact fun ρ2 σ2 H2 b => p ρ2 σ2 H2 (a.trans b)
  | ct e h => exact fun ρ2 σ2 H2 b => p ρ2 σ2 H2 (a.trans b)
  | rt d h => exact fun ρ2 v H2 b => p ρ2 v H2 (a.trans b)
  | exc c fs e h => exact fun ρ2 σ2 H2 C dd gs b => p ρ2 σ2 H2 C dd gs (a.trans b)
  | bad => exact p
end
theorem PE_of {X : Cx} {e : Expr} {t t' : TE} (h : PE X e t) (i : ∀ σ H Q, t' σ H Q → t σ H Q) : PE X e t' := ⟨fun pins s σ H Q I q => h.run pins s σ H Q I (i _ _ _ q)⟩
theorem PT_of {X : Cx} {e : Expr} {t t' : TT} (h : PT X e t) (i : ∀ σ H Q, t' σ H Q → t σ H Q) : PT X e t' := ⟨fun pins s σ H Q I q => h.run pins s σ H Q I (i _ _ _ q)⟩
theorem PA_of {X : Cx} {e : List Expr} {t t' : TA} (h : PA X e t) (i : ∀ σ H Q, t' σ H Q → t σ H Q) : PA X e t' := ⟨fun pos pins s σ H Q I q => h.run pos pins s σ H Q I (i _ _ _ q)⟩
theorem PS_of {X : Cx} {e : Stmt} {t t' : TS} (h : PS X e t) (i : ∀ N σ H, t' N σ H → t N σ H) : PS X e t' := ⟨fun pins s σ H D I q => h.run pins s σ H D I (i _ _ _ q)⟩
theorem PSs_of {X : Cx} {e : List Stmt} {t t' : TS} (h : PSs X e t) (i : ∀ N σ H, t' N σ H → t N σ H) : PSs X e t' := ⟨fun pins s σ H D I q => h.run pins s σ H D I (i _ _ _ q)⟩

/-! ### mirrors of expressions -/
def varE (i : Nat) : EM := fun e h => match e[i]? with
  | some (some d) => .ok d h
  | _ => .bad
def conE (d : D) : EM := fun _ h => .ok d h
def bin (f : D → D → MH → R D) (a b : EM) : EM := fun e h => (a e h).bind fun x h1 => (b e h1).bind fun y h2 => f x y h2
def un (f : D → MH → R D) (a : EM) : EM := fun e h => (a e h).bind fun x h1 => f x h1
def toB : D → MH → R Bool := fun d h => match d with
  | .bl b => .ok b h
  | _ => .bad
def valT (a : EM) : TM := fun e h => (a e h).bind toB
def andT (a b : TM) : TM := fun e h => (a e h).bind fun x h1 => if x then b e h1 else .ok false h1
def orT (a b : TM) : TM := fun e h => (a e h).bind fun x h1 => if x then .ok true h1 else b e h1
def notT (a : TM) : TM := fun e h => (a e h).bind fun x h1 => .ok (!x) h1
/-- and, or, not as values: all but the last a bool -/
def andE (a b : EM) : EM := fun e h => (a e h).bind fun x h1 => (toB x h1).bind fun c h2 => if c then b e h2 else .ok (.bl false) h2
def orE (a b : EM) : EM := fun e h => (a e h).bind fun x h1 => (toB x h1).bind fun c h2 => if c then .ok (.bl true) h2 else b e h2
def notE (a : EM) : EM := fun e h => (a e h).bind fun x h1 => (toB x h1).bind fun c h2 => .ok (.bl (!c)) h2
def ifE (t : TM) (a b : EM) : EM := fun e h => (t e h).bind fun c h1 => if c then a e h1 else b e h1
def nilA : AM := fun _ h => .ok [] h
def consA (a : EM) (r : AM) : AM := fun e h => (a e h).bind fun x h1 => (r e h1).bind fun xs h2 => .ok (x :: xs) h2
def onA (f : List D → MH → R D) (a : AM) : EM := fun e h => (a e h).bind fun xs h1 => f xs h1
def tupF : List D → MH → R D := fun xs h => if xs.length ≤ 1000000 then .ok (.tup xs) h else .bad
def lstF : List D → MH → R D := fun xs h => if xs.length ≤ 1000000 then .ok (.ref h.length) (h ++ [.lst xs]) else .bad
theorem big_le {n : Nat} (h : n ≤ 1000000) : n ≤ sizeLine := by rw [sizeLine_eq]; omega

section
variable {X : Cx} {W : Wx} {a b c : Expr} {ma mb mc : EM} {ta tb : TM} {pos : Pos} {es : List Expr} {mas : AM}
theorem e_var (i : Nat) {x : Str} (h : PE X (.Name x pos) (tVar i)) : PE X (.Name x pos) (tE (gd X) W (varE i)) := PE_of h fun σ H Q q => by
  obtain ⟨ρ, e, m, s, hh, p⟩ := q
  unfold varE at p
  split at p
  · rename_i d hd
    obtain ⟨v, e1, r⟩ := s.s.get i d hd
    exact ⟨v, e1, p.okk hh r⟩
  · exact p.elim
theorem e_con {v : V} {d : D} {e : Expr} (h : PE X e (tC v)) (r : ∀ ρ H, RD (gd X) ρ H d v) : PE X e (tE (gd X) W (conE d)) := PE_of h fun σ H Q q => by
  obtain ⟨ρ, e, m, s, hh, p⟩ := q
  exact p.okk hh (r ρ H)
theorem e_int {i j} : PE X (.Constant (.int i) j pos) (tE (gd X) W (conE (.int i))) := e_con pe_int fun _ _ => by unfold RD; rfl
theorem e_bl {i j} : PE X (.Constant (.bool i) j pos) (tE (gd X) W (conE (.bl i))) := e_con pe_bl fun _ _ => by unfold RD; rfl
theorem e_non {j} : PE X (.Constant .none j pos) (tE (gd X) W (conE .non)) := e_con pe_non fun _ _ => by unfold RD; rfl
theorem e_str {i j} : PE X (.Constant (.str i) j pos) (tE (gd X) W (conE (.str i))) := e_con pe_str fun _ _ => by unfold RD; rfl

/-- two parts, then the rest -/
theorem two {α : Type} {g : Gd} {σ : L2.St} {H : Hp} {Q : α → Hp → Prop} {γ : Type} {Rel : List Addr → Hp → γ → α → Prop} {f : D → D → MH → R γ} {k : V → V → Hp → Prop}
    (p : tG g Rel W (fun e h => (ma e h).bind fun x h1 => (mb e h1).bind fun y h2 => f x y h2) σ H Q)
    (hk : ∀ ρ H h x y vx vy, RH g ρ H h → RD g ρ H x vx → RD g ρ H y vy → Post g Rel (fun c d H' => W.W c d σ H') ρ H (f x y h) Q → k vx vy H) :
    tE g W ma σ H fun vx H1 => tE g W mb σ H1 fun vy H2 => k vx vy H2 := by
  obtain ⟨ρ, e, m, s, hh, p⟩ := p
  refine ⟨ρ, e, m, s, hh, p.bind.mono fun vx H1 q => ?_⟩
  obtain ⟨ρ1, x, h1, l1, hh1, rx, p1⟩ := q
  refine ⟨ρ1, e, h1, s.lat l1, hh1, p1.bind.mono fun vy H2 q => ?_⟩
  obtain ⟨ρ2, y, h2, l2, hh2, ry, p2⟩ := q
  exact hk ρ2 H2 h2 x y vx vy hh2 (l2.rd x rx) ry p2
theorem one {α : Type} {g : Gd} {σ : L2.St} {H : Hp} {Q : α → Hp → Prop} {γ : Type} {Rel : List Addr → Hp → γ → α → Prop} {δ ε : Type} {Rel1 : List Addr → Hp → δ → ε → Prop} {m1 : Env → MH → R δ} {f : Env → δ → MH → R γ} {k : ε → Hp → Prop}
    (p : tG g Rel W (fun e h => (m1 e h).bind fun x h1 => f e x h1) σ H Q)
    (hk : ∀ ρ e H h x vx, RX g W ρ H e σ → RH g ρ H h → Rel1 ρ H x vx → Post g Rel (fun c d H' => W.W c d σ H') ρ H (f e x h) Q → k vx H) :
    tG g Rel1 W m1 σ H k := by
  obtain ⟨ρ, e, m, s, hh, p⟩ := p
  refine ⟨ρ, e, m, s, hh, p.bind.mono fun vx H1 q => ?_⟩
  obtain ⟨ρ1, x, h1, l1, hh1, rx, p1⟩ := q
  exact hk ρ1 e H1 h1 x vx (s.lat l1) hh1 rx p1
/-- an operator's reading against its mirror -/
def RF2 (g : Gd) (f : D → D → MH → R D) (r : R2) : Prop := ∀ (Wf : XK) (Q : VK) ρ H h x y vx vy, RH g ρ H h → RD g ρ H x vx → RD g ρ H y vy → Post g (RD g) Wf ρ H (f x y h) Q → r vx vy H Q
def RF1 (g : Gd) (f : D → MH → R D) (r : V → Hp → VK → Prop) : Prop := ∀ (Wf : XK) (Q : VK) ρ H h x vx, RH g ρ H h → RD g ρ H x vx → Post g (RD g) Wf ρ H (f x h) Q → r vx H Q
def RFs (g : Gd) (f : List D → MH → R D) (r : List V → Hp → VK → Prop) : Prop := ∀ (Wf : XK) (Q : VK) ρ H h xs vs, RH g ρ H h → RDs g ρ H xs vs → Post g (RD g) Wf ρ H (f xs h) Q → r vs H Q
theorem e_bin {op : Operator} {r : R2} {f : D → D → MH → R D} (ho : OpR X (binaryOp op) r) (hf : RF2 (gd X) f r) (ha : PE X a (tE (gd X) W ma)) (hb : PE X b (tE (gd X) W mb)) : PE X (.BinOp a op b pos) (tE (gd X) W (bin f ma mb)) :=
  PE_of (pe_op ho ha hb) fun σ H Q q => two q fun ρ H h x y vx vy hh rx ry p => hf _ _ ρ H h x y vx vy hh rx ry p
theorem e_cmp {op : CmpOp} {r : R2} {f : D → D → MH → R D} (ho : OpR X (compareOp op) r) (hf : RF2 (gd X) f r) (ha : PE X a (tE (gd X) W ma)) (hb : PE X b (tE (gd X) W mb)) (hm : behindInMarks op b = false) : PE X (.Compare a [op] [b] pos) (tE (gd X) W (bin f ma mb)) :=
  PE_of (pe_cmpR ho ha hb hm) fun σ H Q q => two q fun ρ H h x y vx vy hh rx ry p => hf _ _ ρ H h x y vx vy hh rx ry p
theorem e_un {op : UnaryOp} {r : V → Hp → VK → Prop} {f : D → MH → R D} (ho : UnR X (unaryOp op) r) (hf : RF1 (gd X) f r) (ha : PE X a (tE (gd X) W ma)) : PE X (.UnaryOp op a pos) (tE (gd X) W (un f ma)) :=
  PE_of (pe_un ho ha) fun σ H Q q => one q fun ρ e H h x vx s hh rx p => hf _ _ ρ H h x vx hh rx p
theorem RD_bl {g : Gd} {ρ : List Addr} {H : Hp} {d : D} {v : V} {k : Bool} (r : RD g ρ H d v) (e : d = .bl k) : v = .bl k := by subst e; unfold RD at r; exact r
/-- a value that is a bool, as a test -/
theorem testOf {σ : L2.St} {H : Hp} {Q : Bool → Hp → Prop} {g : Gd} (q : tT g W (valT ma) σ H Q) : tE g W ma σ H fun x H' => ∃ k, x = .bl k ∧ Q k H' := by
  refine one q fun ρ e H h x vx s hh rx p => ?_
  cases x <;> first | exact p.elim | skip
  rename_i k
  exact ⟨k, RD_bl rx rfl, p.okk hh rfl⟩
theorem t_val {e : Expr} {m : EM} (h : PE X e (tE (gd X) W m)) (he : ∀ whole, isTrue e X.env whole = (do let v ← whole; standAt e.pos; holding [v] (truthy v)) := by intro _; rfl) : PT X e (tT (gd X) W (valT m)) :=
  PT_of (pt_val h he) fun σ H Q q => testOf q
theorem t_cmp {op : CmpOp} {r : R2} {f : D → D → MH → R D} (ho : OpR X (compareOp op) r) (hf : RF2 (gd X) f r) (ha : PE X a (tE (gd X) W ma)) (hb : PE X b (tE (gd X) W mb)) (hm : behindInMarks op b = false) : PT X (.Compare a [op] [b] pos) (tT (gd X) W (valT (bin f ma mb))) :=
  PT_of (pt_cmpR ho ha hb hm) fun σ H Q q => by
    have q' := testOf q
    exact two q' fun ρ H h x y vx vy hh rx ry p => hf _ _ ρ H h x y vx vy hh rx ry p
theorem t_not (h : PT X a (tT (gd X) W ta)) : PT X (.UnaryOp .Not a pos) (tT (gd X) W (notT ta)) :=
  PT_of (pt_not h) fun σ H Q q => by
    refine one q fun ρ e H h x vx s hh rx p => ?_
    cases rx
    exact p.okk hh rfl
theorem w_and1 (ha : PT X a (tT (gd X) W ta)) : PW X (.BoolOp .And [a] pos) (tT (gd X) W ta) := pw_and1 ha
theorem w_or1 (ha : PT X a (tT (gd X) W ta)) : PW X (.BoolOp .Or [a] pos) (tT (gd X) W ta) := pw_or1 ha
theorem PW_of {e : Expr} {t t' : TT} (h : PW X e t) (i : ∀ σ H Q, t' σ H Q → t σ H Q) : PW X e t' := ⟨fun wh pins s σ H Q I q => h.run wh pins s σ H Q I (i _ _ _ q)⟩
theorem w_and {rest : List Expr} (ha : PT X a (tT (gd X) W ta)) (hb : PW X (.BoolOp .And (b :: rest) pos) (tT (gd X) W tb)) : PW X (.BoolOp .And (a :: b :: rest) pos) (tT (gd X) W (andT ta tb)) :=
  PW_of (pw_and ha hb) fun σ H Q q => by
    refine one q fun ρ e H h x vx s hh rx p => ?_
    cases rx
    cases x with
    | true => exact ⟨ρ, e, h, s, hh, p⟩
    | false => exact p.okk hh rfl
theorem w_or {rest : List Expr} (ha : PT X a (tT (gd X) W ta)) (hb : PW X (.BoolOp .Or (b :: rest) pos) (tT (gd X) W tb)) : PW X (.BoolOp .Or (a :: b :: rest) pos) (tT (gd X) W (orT ta tb)) :=
  PW_of (pw_or ha hb) fun σ H Q q => by
    refine one q fun ρ e H h x vx s hh rx p => ?_
    cases rx
    cases x with
    | false => exact ⟨ρ, e, h, s, hh, p⟩
    | true => exact p.okk hh rfl
theorem toB_ok {g : Gd} {γ δ : Type} {Rel : List Addr → Hp → γ → δ → Prop} {Wf : XK} {ρ : List Addr} {H : Hp} {h : MH} {x : D} {vx : V} {f : Bool → MH → R γ} {Q : δ → Hp → Prop} (rx : RD g ρ H x vx) (p : Post g Rel Wf ρ H ((toB x h).bind f) Q) :
    ∃ k, vx = .bl k ∧ Post g Rel Wf ρ H (f k h) Q := by
  cases x <;> first | exact p.elim | skip
  rename_i k
  exact ⟨k, RD_bl rx rfl, p⟩
theorem e_one {op} (h : PE X a (tE (gd X) W ma)) : PE X (.BoolOp op [a] pos) (tE (gd X) W ma) := pe_one h
theorem e_and {rest : List Expr} (ha : PE X a (tE (gd X) W ma)) (hb : PE X (.BoolOp .And (b :: rest) pos) (tE (gd X) W mb)) : PE X (.BoolOp .And (a :: b :: rest) pos) (tE (gd X) W (andE ma mb)) :=
  PE_of (pe_and ha hb) fun σ H Q q => by
    refine one q fun ρ e H h x vx s hh rx p => ?_
    obtain ⟨k, e1, p⟩ := toB_ok rx p
    refine ⟨k, e1, ?_⟩
    cases k with
    | true => exact ⟨ρ, e, h, s, hh, p⟩
    | false => exact p.okk hh (by unfold RD; rfl)
theorem e_or {rest : List Expr} (ha : PE X a (tE (gd X) W ma)) (hb : PE X (.BoolOp .Or (b :: rest) pos) (tE (gd X) W mb)) : PE X (.BoolOp .Or (a :: b :: rest) pos) (tE (gd X) W (orE ma mb)) :=
  PE_of (pe_or ha hb) fun σ H Q q => by
    refine one q fun ρ e H h x vx s hh rx p => ?_
    obtain ⟨k, e1, p⟩ := toB_ok rx p
    refine ⟨k, e1, ?_⟩
    cases k with
    | false => exact ⟨ρ, e, h, s, hh, p⟩
    | true => exact p.okk hh (by unfold RD; rfl)
theorem e_not (ha : PE X a (tE (gd X) W ma)) : PE X (.UnaryOp .Not a pos) (tE (gd X) W (notE ma)) :=
  PE_of (pe_not ha) fun σ H Q q => by
    refine one q fun ρ e H h x vx s hh rx p => ?_
    obtain ⟨k, e1, p⟩ := toB_ok rx p
    exact ⟨k, e1, p.okk hh (by unfold RD; rfl)⟩
theorem e_if (hc : PT X c (tT (gd X) W ta)) (ha : PE X a (tE (gd X) W ma)) (hb : PE X b (tE (gd X) W mb)) : PE X (.IfExp c a b pos) (tE (gd X) W (ifE ta ma mb)) :=
  PE_of (pe_ifExp hc ha hb) fun σ H Q q => by
    refine one q fun ρ e H h x vx s hh rx p => ?_
    cases rx
    cases x with
    | true => exact ⟨ρ, e, h, s, hh, p⟩
    | false => exact ⟨ρ, e, h, s, hh, p⟩
/-! arguments -/
theorem a_nil : PA X [] (tA (gd X) W nilA) := PA_of pa_nil fun σ H Q q => by
  obtain ⟨ρ, e, m, s, hh, p⟩ := q
  exact p.okk hh .nil
theorem a_cons (ha : PE X a (tE (gd X) W ma)) (hr : PA X es (tA (gd X) W mas)) (hs : starEach (a :: es) X.env = (false, eval a X.env) :: starEach es X.env := by rfl) : PA X (a :: es) (tA (gd X) W (consA ma mas)) :=
  PA_of (pa_cons ha hr hs) fun σ H Q q => by
    refine one q fun ρ e H h x vx s hh rx p => ?_
    refine ⟨ρ, e, h, s, hh, p.bind.mono fun vs H1 q => ?_⟩
    obtain ⟨ρ1, xs, h1, l1, hh1, rxs, p1⟩ := q
    exact p1.okk hh1 (.cons (l1.rd x rx) rxs)
theorem e_tup {k} (h : PA X es (tA (gd X) W mas)) : PE X (.Tuple es k pos) (tE (gd X) W (onA tupF mas)) :=
  PE_of (pe_tup h) fun σ H Q q => by
    refine one q fun ρ e H h x vx s hh rx p => ?_
    unfold tupF at p
    split at p
    · rename_i hl
      refine ⟨big_le (by rw [← rx.length]; exact hl), fun q hq => ?_⟩
      have l := Lat.upd (g := gd X) (ρ := ρ) (u := .tup vx) (Soft.none hq)
      refine p ρ _ _ l (hh.upd hq) ?_
      unfold RD
      exact ⟨q, vx, rfl, .of upd_same, l.rds x rx⟩
    · exact p.elim
theorem RH.newLst {g : Gd} {ρ : List Addr} {H : Hp} {h : MH} {l : List D} {vs : List V} {q : Addr} (hh : RH g ρ H h) (hq : H q = none) (r : RDs g ρ H l vs) :
    Lat g ρ H (ρ ++ [q]) (L2.upd H q (.lst vs)) ∧ RH g (ρ ++ [q]) (L2.upd H q (.lst vs)) (h ++ [.lst l]) ∧ RD g (ρ ++ [q]) (L2.upd H q (.lst vs)) (.ref h.length) (.ref q) := by
  have l1 := Lat.new (g := g) (ρ := ρ) (u := .lst vs) (Soft.none hq)
  refine ⟨l1, hh.new hq ⟨vs, upd_same, l1.rds l r⟩, ?_⟩
  unfold RD
  exact ⟨q, by rw [← hh.len]; simp, rfl⟩
theorem e_lst (h : PA X es (tA (gd X) W mas)) : PE X (.List es pos) (tE (gd X) W (onA lstF mas)) :=
  PE_of (pe_lst h) fun σ H Q q => by
    refine one q fun ρ e H h x vx s hh rx p => ?_
    unfold lstF at p
    split at p
    · rename_i hl
      refine ⟨big_le (by rw [← rx.length]; exact hl), fun q hq => ?_⟩
      obtain ⟨l1, l2, l3⟩ := hh.newLst hq rx
      exact p _ _ _ l1 l2 l3
    · exact p.elim
end

/-! ### own defs -/
def fnM (np n : Nat) (b : SM) : FM := fun ds h => if ds.length = np then (match b (ds.map some ++ List.replicate (n - ds.length) none) h with
    | .nx _ h' => .ok .non h'
    | .rt d h' => .ok d h'
    | .exc c fs _ h' => .exc c fs h'
    | _ => .bad) else .bad
def spM (g : Gd) (np : Nat) (m : FM) : Sp := fun vs H Q E => vs.length = np ∧ ∃ ρ ds h, RDs g ρ H ds vs ∧ RH g ρ H h ∧ Post g (RD g) E ρ H (m ds h) Q
/-- what a caller knows of the def that the module's name x holds -/
structure Cal (P : Program) (w : World) (K : PySem.W.Frag) (mg : Str → Option Value) (base : Heap) (x : Str) (k : Nat) (m : FM) : Prop where
  ex : ∃ f fd ps, mg x = some (.ref f) ∧ PySem.W.keepIn K (.ref f) = true ∧ Binds K fd ps [] ∧ FnOk P w K mg base (L2.CX P w) k f fd ps (spM ⟨K, mg⟩ ps.length m) ∧ ∀ ds h, ds.length ≠ ps.length → m ds h = .bad
section
variable {X : Cx} {W : Wx} {e : Expr} {es : List Expr} {mas : AM} {pos p : Pos} {x : Str} {k : Nat} {m : FM}
theorem e_call (F : Cal X.prog X.w X.K X.mg X.base x k m) (hr : Room k X.A) (tk : Takes X W.W) (hg : Gl X x) (ha : PA X (e :: es) (tA (gd X) W mas)) (hdb : (x == ("__debug__" : Str)) = false := by decide)
    (he : starEach (e :: es) X.env = (false, eval e X.env) :: starEach es X.env := by rfl) (hpl : (backTo pos (starEach es X.env)).any (·.1) = false := by rfl) : PE X (.Call (.Name x p) (e :: es) [] pos) (tE (gd X) W (onA m mas)) := by
  obtain ⟨f, fd, ps, mgf, kp, b, G, hn⟩ := F.ex
  refine PE_of (pe_callS G hr hg mgf kp b (fun σ => passAt tk σ) ha hdb he hpl) fun σ H Q q => ?_
  refine one q fun ρ e H h xs vs s hh rx p => ?_
  refine ⟨?_, ρ, xs, h, rx, hh, p⟩
  by_cases hl : xs.length = ps.length
  · rw [← rx.length]; exact hl
  · rw [hn xs h hl] at p
    exact p.elim
theorem fn_ok {P : Program} {w : World} {K : PySem.W.Frag} {mg : Str → Option Value} {base : Heap} {x qual : Str} {st : Stmt} {f : Addr} {fd : FuncData} {N ps : List Str} {k : Nat} {b : SM} (F : Fun K x qual st f fd) (Sc : FnScope N ps (defScope st))
    (hbody : ∀ (cdv : Value) (A : Around) (outer : List PySem.Env) (s : Shared) (H : Hp) (E : XK), Room k (A.deeper (envOfC qual (defScope st) s.heap.objs.size f cdv)) →
      Takes (cxOf (L2.CX P w) P w K mg base N qual (defScope st) f cdv A outer s H E) (fun cls d _ H => E cls d H) →
      PSs (cxOf (L2.CX P w) P w K mg base N qual (defScope st) f cdv A outer s H E) (defBody st) (tS ⟨K, mg⟩ (fun cls d _ H => E cls d H) b)) :
    FnOk P w K mg base (L2.CX P w) (k + 1) f fd ps (spM ⟨K, mg⟩ ps.length (fnM ps.length N.length b)) := by
  refine F.okX Sc (fun vs H Q E h => h.1) (fun cdv A outer s H vs Q E hr h => ⟨_, hbody cdv A outer s H E hr (takes_of rfl rfl rfl rfl), ?_⟩)
  obtain ⟨hl, ρ, ds, h, rd, hh, p⟩ := h
  have hl' : ds.length = ps.length := by rw [rd.length]; exact hl
  unfold fnM at p
  rw [if_pos hl'] at p
  refine ⟨ρ, _, h, RS.start rd, hh, ?_⟩
  revert p
  generalize b (List.map some ds ++ List.replicate (N.length - ds.length) none) h = r
  intro p
  cases r with
  | nx e h' => exact fun ρ' σ' H' l a _ => p ρ' .non H' l a (by unfold RD; rfl)
  | rt d h' => exact p
  | exc c fs e h' => exact fun ρ' σ' H' C dd gs l a _ => p ρ' H' C dd gs l a
  | bk e h' => exact p.elim
  | ct e h' => exact p.elim
  | bad => exact p.elim
theorem cal_mk {P : Program} {w : World} {K : PySem.W.Frag} {mg : Str → Option Value} {base : Heap} {x qual : Str} {st : Stmt} {f : Addr} {fd : FuncData} {ps : List Str} {k np n : Nat} {b : SM} (F : Fun K x qual st f fd) (hm : mg x = some (.ref f)) (hb : Binds K fd ps [])
    (G : FnOk P w K mg base (L2.CX P w) k f fd ps (spM ⟨K, mg⟩ ps.length (fnM np n b))) (hnp : np = ps.length) : Cal P w K mg base x k (fnM np n b) :=
  ⟨f, fd, ps, hm, F.kp, hb, G, fun ds h hl => by unfold fnM; rw [hnp, if_neg hl]⟩
end

/-! ### statements -/
def ofE (e : Env) (r : R D) (k : D → MH → S) : S := match r with
  | .ok d h => k d h
  | .exc c fs h => .exc c fs e h
  | .bad => .bad
def ofT (e : Env) (r : R Bool) (k : Bool → MH → S) : S := match r with
  | .ok d h => k d h
  | .exc c fs h => .exc c fs e h
  | .bad => .bad
def setS (i : Nat) (a : EM) : SM := fun e h => ofE e (a e h) fun d h1 => .nx (e.set i (some d)) h1
def expS (a : EM) : SM := fun e h => ofE e (a e h) fun _ h1 => .nx e h1
def retS (a : EM) : SM := fun e h => ofE e (a e h) fun d h1 => .rt d h1
def retN : SM := fun e h => .rt .non h
def passS : SM := fun e h => .nx e h
def brkS : SM := fun e h => .bk e h
def ctS : SM := fun e h => .ct e h
def ifS (t : TM) (a b : SM) : SM := fun e h => ofT e (t e h) fun c h1 => if c then a e h1 else b e h1
def seqS (a b : SM) : SM := fun e h => match a e h with
  | .nx e1 h1 => b e1 h1
  | r => r
section
variable {X : Cx} {W : WX} {a : Expr} {ma : EM} {pos : Pos} {st : Stmt} {sts : List Stmt} {m1 m2 : SM}
/-- an expression ahead of a statement's rest -/
theorem stE {g : Gd} {σ : L2.St} {H : Hp} {N : Ends} {f : Env → D → MH → S} {k : V → Hp → Prop} (q : tS g W (fun e h => ofE e (ma e h) (f e)) N σ H)
    (hk : ∀ ρ e H h x vx, RS g ρ H e σ → RH g ρ H h → RD g ρ H x vx → PostS g W ρ H (f e x h) N → k vx H) : tE g (pl W) ma σ H k := by
  obtain ⟨ρ, e, h, s, hh, p⟩ := q
  refine ⟨ρ, e, h, s.x, hh, ?_⟩
  have p : PostS g W ρ H (ofE e (ma e h) (f e)) N := p
  revert p
  generalize ma e h = r
  intro p
  cases r with
  | ok d h1 => exact fun ρ1 v H1 l a b => hk ρ1 e H1 h1 d v (l.rs s) a b (PostS.later l p)
  | exc c fs h1 => exact fun ρ1 H1 C dd gs l a => p ρ1 σ H1 C dd gs l a (l.rs s)
  | bad => exact p.elim
theorem stT {g : Gd} {ta : TM} {σ : L2.St} {H : Hp} {N : Ends} {f : Env → Bool → MH → S} {k : Bool → Hp → Prop} (q : tS g W (fun e h => ofT e (ta e h) (f e)) N σ H)
    (hk : ∀ ρ e H h x, RS g ρ H e σ → RH g ρ H h → PostS g W ρ H (f e x h) N → k x H) : tT g (pl W) ta σ H k := by
  obtain ⟨ρ, e, h, s, hh, p⟩ := q
  refine ⟨ρ, e, h, s.x, hh, ?_⟩
  have p : PostS g W ρ H (ofT e (ta e h) (f e)) N := p
  revert p
  generalize ta e h = r
  intro p
  cases r with
  | ok d h1 =>
    intro ρ1 v H1 l a b
    cases b
    exact hk ρ1 e H1 h1 d (l.rs s) a (PostS.later l p)
  | exc c fs h1 => exact fun ρ1 H1 C dd gs l a => p ρ1 σ H1 C dd gs l a (l.rs s)
  | bad => exact p.elim
theorem s_set (i : Nat) {x : Str} {pos' : Pos} (hN : X.N.Nodup) (hi : X.N[i]? = some x) (hx : Loc X.env.scope x) (ha : PE X a (tE (gd X) (pl W) ma)) (hs : swapsWith a (some (.Name x pos')) pos.line X.env = pure false := by rfl)
    (hf : X.fn x = true ∨ X.env.scope.names.lookup x = some .local := by first | exact .inl rfl | exact .inr rfl | assumption) : PS X (.Assign [.Name x pos'] a pos) (tS (gd X) W (setS i ma)) :=
  PS_of (ps_set hN hi hx ha hs hf) fun N σ H q => stE q fun ρ e H h d v s hh r p => p ρ _ H Lat.refl hh (s.set r i)
theorem s_expr (ha : PE X a (tE (gd X) (pl W) ma)) (hs : swapsWith a none pos.line X.env = pure false := by rfl) : PS X (.Expr a pos) (tS (gd X) W (expS ma)) :=
  PS_of (ps_expr ha hs) fun N σ H q => stE q fun ρ e H h d v s hh r p => p ρ _ H Lat.refl hh s
theorem s_doc {x j pos pos'} : PS X (.Expr (.Constant (.str x) j pos) pos') (tS (gd X) W passS) := PS_of ps_doc fun N σ H q => by
  obtain ⟨ρ, e, h, s, hh, p⟩ := q
  exact p ρ σ H Lat.refl hh s
theorem s_pass : PS X (.Pass pos) (tS (gd X) W passS) := PS_of ps_pass fun N σ H q => by
  obtain ⟨ρ, e, h, s, hh, p⟩ := q
  exact p ρ σ H Lat.refl hh s
theorem s_break : PS X (.Break pos) (tS (gd X) W brkS) := PS_of ps_break fun N σ H q => by
  obtain ⟨ρ, e, h, s, hh, p⟩ := q
  exact p ρ σ H Lat.refl hh s
theorem s_cont : PS X (.Continue pos) (tS (gd X) W ctS) := PS_of ps_continue fun N σ H q => by
  obtain ⟨ρ, e, h, s, hh, p⟩ := q
  exact p ρ σ H Lat.refl hh s
theorem s_ret (ha : PE X a (tE (gd X) (pl W) ma)) : PS X (.Return (some a) pos) (tS (gd X) W (retS ma)) :=
  PS_of (ps_ret ha) fun N σ H q => stE q fun ρ e H h d v s hh r p => p ρ _ H Lat.refl hh r
theorem s_retN : PS X (.Return none pos) (tS (gd X) W retN) := PS_of ps_retN fun N σ H q => by
  obtain ⟨ρ, e, h, s, hh, p⟩ := q
  exact p ρ .non H Lat.refl hh (by unfold RD; rfl)
theorem s_if {c : Expr} {x y : List Stmt} {t : TM} (hc : PT X c (tT (gd X) (pl W) t)) (ha : PSs X x (tS (gd X) W m1)) (hb : PSs X y (tS (gd X) W m2)) : PS X (.If c x y pos) (tS (gd X) W (ifS t m1 m2)) :=
  PS_of (ps_if hc ha hb) fun N σ H q => by
    refine stT q fun ρ e H h x s hh p => ?_
    cases x with
    | true => exact ⟨ρ, e, h, s, hh, p⟩
    | false => exact ⟨ρ, e, h, s, hh, p⟩
theorem ss_nil : PSs X [] (tS (gd X) W passS) := PSs_of pss_nil fun N σ H q => by
  obtain ⟨ρ, e, h, s, hh, p⟩ := q
  exact p ρ σ H Lat.refl hh s
theorem ss_one (h : PS X st (tS (gd X) W m1)) : PSs X [st] (tS (gd X) W m1) := pss_one h
theorem ss_cons (h1 : PS X st (tS (gd X) W m1)) (h2 : PSs X sts (tS (gd X) W m2)) : PSs X (st :: sts) (tS (gd X) W (seqS m1 m2)) :=
  PSs_of (pss_cons h1 h2) fun N σ H q => by
    obtain ⟨ρ, e, h, s, hh, p⟩ := q
    refine ⟨ρ, e, h, s, hh, ?_⟩
    unfold seqS at p
    revert p
    generalize m1 e h = r
    intro p
    cases r with
    | nx e1 h1 => exact fun ρ1 σ1 H1 l a b => ⟨ρ1, e1, h1, b, a, PostS.later l p⟩
    | rt d h1 => exact p
    | bk e1 h1 => exact p
    | ct e1 h1 => exact p
    | exc c fs e1 h1 => exact p
    | bad => exact p
end
end ML

/-! ML 3: equality of mirror values, what is walked, targets, for, while, comprehensions -/
namespace ML
open PySem PySem.Spec PyProof.Rows L2

/-! ### equality of values as terms (a check that something has stayed) -/
mutual
def D.same : D → D → Bool
  | .non, .non => true
  | .bl a, .bl b => a == b
  | .int a, .int b => decide (a = b)
  | .str a, .str b => decide (a = b)
  | .ty a, .ty b => decide (a = b)
  | .tup l, .tup m => D.sames l m
  | .ref a, .ref b => decide (a = b)
  | .glb a, .glb b => decide (a = b)
  | _, _ => false
def D.sames : List D → List D → Bool
  | [], [] => true
  | a :: l, b :: m => D.same a b && D.sames l m
  | _, _ => false
end
mutual
theorem same_eq : ∀ {a b : D}, D.same a b = true → a = b
  | .non, .non, _ => rfl
  | .bl a, .bl b, h => by unfold D.same at h; rw [beq_iff_eq.mp h]
  | .int a, .int b, h => by unfold D.same at h; rw [of_decide_eq_true h]
  | .str a, .str b, h => by unfold D.same at h; rw [of_decide_eq_true h]
  | .ty a, .ty b, h => by unfold D.same at h; rw [of_decide_eq_true h]
  | .tup l, .tup m, h => by unfold D.same at h; rw [sames_eq h]
  | .ref a, .ref b, h => by unfold D.same at h; rw [of_decide_eq_true h]
  | .glb a, .glb b, h => by unfold D.same at h; rw [of_decide_eq_true h]
  | .non, .bl _, h => by unfold D.same at h; cases h
  | .non, .int _, h => by unfold D.same at h; cases h
  | .non, .str _, h => by unfold D.same at h; cases h
  | .non, .ty _, h => by unfold D.same at h; cases h
  | .non, .tup _, h => by unfold D.same at h; cases h
  | .non, .ref _, h => by unfold D.same at h; cases h
  | .non, .glb _, h => by unfold D.same at h; cases h
  | .bl _, .non, h => by unfold D.same at h; cases h
  | .bl _, .int _, h => by unfold D.same at h; cases h
  | .bl _, .str _, h => by unfold D.same at h; cases h
  | .bl _, .ty _, h => by unfold D.same at h; cases h
  | .bl _, .tup _, h => by unfold D.same at h; cases h
  | .bl _, .ref _, h => by unfold D.same at h; cases h
  | .bl _, .glb _, h => by unfold D.same at h; cases h
  | .int _, .non, h => by unfold D.same at h; cases h
  | .int _, .bl _, h => by unfold D.same at h; cases h
  | .int _, .str _, h => by unfold D.same at h; cases h
  | .int _, .ty _, h => by unfold D.same at h; cases h
  | .int _, .tup _, h => by unfold D.same at h; cases h
  | .int _, .ref _, h => by unfold D.same at h; cases h
  | .int _, .glb _, h => by unfold D.same at h; cases h
  | .str _, .non, h => by unfold D.same at h; cases h
  | .str _, .bl _, h => by unfold D.same at h; cases h
  | .str _, .int _, h => by unfold D.same at h; cases h
  | .str _, .ty _, h => by unfold D.same at h; cases h
  | .str _, .tup _, h => by unfold D.same at h; cases h
  | .str _, .ref _, h => by unfold D.same at h; cases h
  | .str _, .glb _, h => by unfold D.same at h; cases h
  | .ty _, .non, h => by unfold D.same at h; cases h
  | .ty _, .bl _, h => by unfold D.same at h; cases h
  | .ty _, .int _, h => by unfold D.same at h; cases h
  | .ty _, .str _, h => by unfold D.same at h; cases h
  | .ty _, .tup _, h => by unfold D.same at h; cases h
  | .ty _, .ref _, h => by unfold D.same at h; cases h
  | .ty _, .glb _, h => by unfold D.same at h; cases h
  | .tup _, .non, h => by unfold D.same at h; cases h
  | .tup _, .bl _, h => by unfold D.same at h; cases h
  | .tup _, .int _, h => by unfold D.same at h; cases h
  | .tup _, .str _, h => by unfold D.same at h; cases h
  | .tup _, .ty _, h => by unfold D.same at h; cases h
  | .tup _, .ref _, h => by unfold D.same at h; cases h
  | .tup _, .glb _, h => by unfold D.same at h; cases h
  | .ref _, .non, h => by unfold D.same at h; cases h
  | .ref _, .bl _, h => by unfold D.same at h; cases h
  | .ref _, .int _, h => by unfold D.same at h; cases h
  | .ref _, .str _, h => by unfold D.same at h; cases h
  | .ref _, .ty _, h => by unfold D.same at h; cases h
  | .ref _, .tup _, h => by unfold D.same at h; cases h
  | .ref _, .glb _, h => by unfold D.same at h; cases h
  | .glb _, .non, h => by unfold D.same at h; cases h
  | .glb _, .bl _, h => by unfold D.same at h; cases h
  | .glb _, .int _, h => by unfold D.same at h; cases h
  | .glb _, .str _, h => by unfold D.same at h; cases h
  | .glb _, .ty _, h => by unfold D.same at h; cases h
  | .glb _, .tup _, h => by unfold D.same at h; cases h
  | .glb _, .ref _, h => by unfold D.same at h; cases h
theorem sames_eq : ∀ {l m : List D}, D.sames l m = true → l = m
  | [], [], _ => rfl
  | a :: l, b :: m, h => by
    unfold D.sames at h
    have h' := Bool.and_eq_true_iff.mp h
    rw [same_eq h'.1, sames_eq h'.2]
  | [], _ :: _, h => by unfold D.sames at h; cases h
  | _ :: _, [], h => by unfold D.sames at h; cases h
end
mutual
theorem same_refl : ∀ (a : D), D.same a a = true
  | .non => by unfold D.same; rfl
  | .bl a => by unfold D.same; simp
  | .int a => by unfold D.same; simp
  | .str a => by unfold D.same; simp
  | .ty a => by unfold D.same; simp
  | .tup l => by unfold D.same; exact sames_refl l
  | .ref a => by unfold D.same; simp
  | .glb a => by unfold D.same; simp
theorem sames_refl : ∀ (l : List D), D.sames l l = true
  | [] => by unfold D.sames; rfl
  | a :: l => by unfold D.sames; rw [same_refl a, sames_refl l]; rfl
end

/-! ### what is walked -/
/-- the items; the lists (by their places) that must stand as they were at each turn -/
structure IT where
  items : List D
  srcs : List (Nat × List D) := []
def stands (h : MH) (p : Nat × List D) : Bool := match h[p.1]? with
  | some (.lst l) => D.sames l p.2
  | _ => false
def IT.ok (h : MH) (srcs : List (Nat × List D)) : Bool := srcs.all (stands h)
theorem stands_eq {h : MH} {p : Nat × List D} (e : stands h p = true) : h[p.1]? = some (.lst p.2) := by
  unfold stands at e
  split at e
  · rename_i l hl
    rw [hl, sames_eq e]
  · cases e
abbrev IM := Env → MH → R IT
/-- J walks these items -/
def WkD (g : Gd) (ρ1 : List Addr) (H1 : Hp) (it : IT) (J : It) : Prop := ∃ (G : Hp → Prop) (Y : Nat → Hp → V → Hp → Prop), Walk J it.items.length G Y ∧
  (∀ ρ2 H2 h2, Lat g ρ1 H1 ρ2 H2 → RH g ρ2 H2 h2 → IT.ok h2 it.srcs = true → G H2) ∧
  ∀ i H2 x H3 ρ2 h2 d, Lat g ρ1 H1 ρ2 H2 → RH g ρ2 H2 h2 → IT.ok h2 it.srcs = true → Y i H2 x H3 → it.items[i]? = some d → Lat g ρ2 H2 ρ2 H3 ∧ RH g ρ2 H3 h2 ∧ RD g ρ2 H3 d x
abbrev iM (g : Gd) (W : Wx) (m : IM) : TI := tG g (WkD g) W m
theorem PI_of {X : Cx} {tg e : Expr} {t t' : TI} (h : PI X tg e t) (i : ∀ σ H Q, t' σ H Q → t σ H Q) : PI X tg e t' := ⟨fun pins s σ H Q I q => h.run pins s σ H Q I (i _ _ _ q)⟩
/-- a list, a tuple, a text -/
def iAny (K : PySem.W.Frag) (tl : TE) : TI := fun σ H R => tl σ H fun x H1 =>
  (∃ a, x = .ref a ∧ (∃ xs, SqL K H1 a xs) ∧ R (Itl K a) H1) ∨ (∃ a, x = .ref a ∧ (∃ xs, SqT K H1 a xs) ∧ R (Itt K a) H1) ∨ ∃ z, x = .str z ∧ R (Its z) H1
theorem pi_any {X : Cx} {tg l : Expr} {tl : TE} (hl : PE X l tl) : PI X tg l (iAny X.K tl) := by
  refine ⟨fun pins s σ H R I h => ?_⟩
  refine thn (hl.run pins s σ H _ I h) fun v s1 ⟨x, H1, I1, r1, q1⟩ => ?_
  rcases q1 with ⟨a, e, ⟨xs, hq⟩, q⟩ | ⟨a, e, ⟨xs, hq⟩, q⟩ | ⟨z, e, q⟩ <;> subst e
  · cases r1
    exact wpAny_pyIter_list (Inv.list I1 hq).choose_spec.2.1.isList (pi_one I1 (tk := s1.toks) _ (turn_list a _) ⟨_, Heap.get?_push_size _ rfl, rfl, rfl⟩ q)
  · cases r1
    exact wpAny_pyIter_tuple (Inv.tuple I1 hq).choose_spec.2.1 (pi_one I1 (tk := s1.toks) _ (turn_tuple a _) ⟨_, Heap.get?_push_size _ rfl, rfl, rfl⟩ q)
  · obtain ⟨t, rfl⟩ := r1
    cases low : z.cps.all (· < 128) with
    | false => exact wpAny_pyIter_wide low (pi_one I1 (tk := s1.toks) _ (turn_str _ z t _ (.inr rfl)) ⟨_, Heap.get?_push_size _ rfl, rfl, rfl⟩ q)
    | true => exact wpAny_pyIter_ascii low (pi_one I1 (tk := s1.toks) _ (turn_str _ z t _ (.inl rfl)) ⟨_, Heap.get?_push_size _ rfl, rfl, rfl⟩ q)

section
variable {g : Gd} {ρ : List Addr} {H : Hp} {a : Addr} {vs : List V} {l : List D} {h : MH}
theorem wk_tup (sq : SqT g.K H a vs) (r : RDs g ρ H l vs) : WkD g ρ H ⟨l, []⟩ (Itt g.K a) := by
  have hl := r.length
  refine ⟨fun H => SqT g.K H a vs, YAt vs, by show Walk _ l.length _ _; rw [hl]; exact walk_tup, fun ρ2 H2 h2 l2 _ _ => l2.sqT sq, fun i H2 x H3 ρ2 h2 d l2 hh _ y e => ?_⟩
  obtain ⟨e1, e2⟩ := y
  subst e1
  obtain ⟨v, e3, r3⟩ := r.get e
  rw [e2] at e3
  cases e3
  exact ⟨Lat.refl, hh, l2.rd d r3⟩
theorem RdL.sq {K : PySem.W.Frag} (h : RdL K H a vs) : SqL K H a vs := by
  rcases h with ⟨o, h⟩ | h
  · exact .inl (.inr ⟨o, h⟩)
  · exact .inr h
theorem wk_rdl (sq : RdL g.K H a vs) (r : RDs g ρ H l vs) : WkD g ρ H ⟨l, []⟩ (Itl g.K a) := by
  have hl := r.length
  refine ⟨fun H => RdL g.K H a vs, YAt vs, by show Walk _ l.length _ _; rw [hl]; exact walk_list.mono (fun _ q => q.sq) (fun _ _ _ _ _ _ y => y), fun ρ2 H2 h2 l2 _ _ => l2.rdl sq, fun i H2 x H3 ρ2 h2 d l2 hh _ y e => ?_⟩
  obtain ⟨e1, e2⟩ := y
  subst e1
  obtain ⟨v, e3, r3⟩ := r.get e
  rw [e2] at e3
  cases e3
  exact ⟨Lat.refl, hh, l2.rd d r3⟩
theorem wk_lst {n : Nat} (en : ρ[n]? = some a) : WkD g ρ H ⟨l, [(n, l)]⟩ (Itl g.K a) := by
  have key : ∀ {ρ2 H2 h2}, Lat g ρ H ρ2 H2 → RH g ρ2 H2 h2 → IT.ok h2 [(n, l)] = true → ∃ vs, H2 a = some (.lst vs) ∧ RDs g ρ2 H2 l vs := fun {ρ2 H2 h2} l2 hh ok => by
    have e := stands_eq (p := (n, l)) (by unfold IT.ok at ok; simpa using ok)
    exact hh.obj n _ a e (l2.at en)
  refine ⟨fun H => ∃ vs, SqL g.K H a vs ∧ vs.length = l.length, (Itl g.K a).yld, ⟨fun i H hi ⟨vs, q, e⟩ => ⟨vs, vs[i]'(by rw [e]; exact hi), q, List.getElem?_eq_getElem _⟩, fun H ⟨vs, q, e⟩ => ⟨vs, q, Nat.le_of_eq e⟩, fun _ _ _ _ _ _ y => y⟩,
    fun ρ2 H2 h2 l2 hh ok => ?_, fun i H2 x H3 ρ2 h2 d l2 hh ok y e => ?_⟩
  · obtain ⟨vs, e, r⟩ := key l2 hh ok
    exact ⟨vs, .of e, r.length.symm⟩
  · obtain ⟨vs, e1, r⟩ := key l2 hh ok
    obtain ⟨e2, y⟩ := y
    subst e2
    have e3 := y vs (.of e1)
    obtain ⟨v, e4, r4⟩ := r.get e
    rw [e3] at e4
    cases e4
    exact ⟨Lat.refl, hh, r4⟩
def chars (z : Str) : List D := z.cps.toList.map fun c => .str ⟨#[c]⟩
theorem wk_str {z : Str} : WkD g ρ H ⟨chars z, []⟩ (Its z) := by
  refine ⟨fun _ => True, fun i H v H' => H' = H ∧ ∃ c, z.cps[i]? = some c ∧ v = .str ⟨#[c]⟩, by show Walk _ (chars z).length _ _; unfold chars; rw [List.length_map, Array.length_toList]; exact walk_str, fun _ _ _ _ _ _ => True.intro, fun i H2 x H3 ρ2 h2 d l2 hh _ y e => ?_⟩
  obtain ⟨e1, c, e2, e3⟩ := y
  subst e1 e3
  unfold chars at e
  rw [List.getElem?_map, Array.getElem?_toList, e2] at e
  cases e
  exact ⟨Lat.refl, hh, by unfold RD; rfl⟩
def rangeD (lo : Int) (n : Nat) : List D := (List.range n).map fun (i : Nat) => .int (lo + i)
theorem wk_range {lo : Int} {n : Nat} : WkD g ρ H ⟨rangeD lo n, []⟩ (Itr lo n) := by
  refine ⟨fun _ => True, YFn fun i => .int (lo + i), by show Walk _ (rangeD lo n).length _ _; unfold rangeD; rw [List.length_map, List.length_range]; exact walk_range, fun _ _ _ _ _ _ => True.intro, fun i H2 x H3 ρ2 h2 d l2 hh _ y e => ?_⟩
  obtain ⟨e1, e2⟩ := y
  subst e1 e2
  unfold rangeD at e
  rw [List.getElem?_map] at e
  cases q : (List.range n)[i]? with
  | none => rw [q] at e; cases e
  | some j =>
    rw [q] at e
    obtain ⟨hj, ej⟩ := List.getElem?_eq_some_iff.mp q
    rw [List.getElem_range] at ej
    subst ej
    cases e
    exact ⟨Lat.refl, hh, by unfold RD; rfl⟩
end
def seqF : D → MH → R IT := fun d h => match d with
  | .tup l => .ok ⟨l, []⟩ h
  | .str z => .ok ⟨chars z, []⟩ h
  | .ref n => (match h[n]? with
    | some (.lst l) => .ok ⟨l, [(n, l)]⟩ h
    | some (.rdl l) => .ok ⟨l, []⟩ h
    | _ => .bad)
  | _ => .bad
def seqI (m : EM) : IM := fun e h => (m e h).bind seqF
def rng1I (m : AM) : IM := fun e h => (m e h).bind fun ds h1 => match ds with
  | [.int j] => if -(2 ^ 62) ≤ j ∧ j < 2 ^ 62 then .ok ⟨rangeD 0 j.toNat, []⟩ h1 else .bad
  | _ => .bad
def rng2I (m : AM) : IM := fun e h => (m e h).bind fun ds h1 => match ds with
  | [.int i, .int j] => if -(2 ^ 62) ≤ i ∧ i < 2 ^ 62 ∧ -(2 ^ 62) ≤ j ∧ j < 2 ^ 62 then .ok ⟨rangeD i (j - i).toNat, []⟩ h1 else .bad
  | _ => .bad
section
variable {X : Cx} {W : Wx} {tg l a b : Expr} {ml : EM} {ma : AM} {p pos : Pos}
theorem RD_int {g : Gd} {ρ : List Addr} {H : Hp} {i : Int} {v : V} (r : RD g ρ H (.int i) v) : v = .int i := by unfold RD at r; exact r
theorem RD_str {g : Gd} {ρ : List Addr} {H : Hp} {i : Str} {v : V} (r : RD g ρ H (.str i) v) : v = .str i := by unfold RD at r; exact r
theorem RD_tup {g : Gd} {ρ : List Addr} {H : Hp} {l : List D} {v : V} (r : RD g ρ H (.tup l) v) : ∃ a vs, v = .ref a ∧ SqT g.K H a vs ∧ RDs g ρ H l vs := by unfold RD at r; exact r
theorem RD_ref {g : Gd} {ρ : List Addr} {H : Hp} {n : Nat} {v : V} (r : RD g ρ H (.ref n) v) : ∃ a, ρ[n]? = some a ∧ v = .ref a := by unfold RD at r; exact r
theorem i_any (h : PE X l (tE (gd X) W ml)) : PI X tg l (iM (gd X) W (seqI ml)) := PI_of (pi_any h) fun σ H Q q => by
  refine one q fun ρ e H h x vx s hh rx p => ?_
  cases x <;> first | exact p.elim | skip
  · rename_i z
    exact .inr (.inr ⟨z, RD_str rx, p.okk hh wk_str⟩)
  · rename_i ds
    obtain ⟨a, vs, e1, sq, r⟩ := RD_tup rx
    exact .inr (.inl ⟨a, e1, ⟨vs, sq⟩, p.okk hh (wk_tup sq r)⟩)
  · rename_i n
    obtain ⟨a, e1, e2⟩ := RD_ref rx
    unfold seqF at p
    dsimp only at p
    split at p
    · rename_i l hl
      obtain ⟨vs, e3, r⟩ := hh.obj n _ a hl e1
      exact .inl ⟨a, e2, ⟨vs, .of e3⟩, p.okk hh (wk_lst e1)⟩
    · rename_i l hl
      obtain ⟨vs, e3, r⟩ := hh.obj n _ a hl e1
      exact .inl ⟨a, e2, ⟨vs, e3.sq⟩, p.okk hh (wk_rdl e3 r)⟩
    · exact p.elim
theorem i_range1 (hg : Gl X "range") (hm : X.mg "range" = none) (ha : PA X [a] (tA (gd X) W ma)) (hs : starEach [a] X.env = [(false, eval a X.env)] := by rfl) : PI X tg (.Call (.Name "range" p) [a] [] pos) (iM (gd X) W (rng1I ma)) :=
  PI_of (pi_range1 hg hm ha hs) fun σ H Q q => by
    refine one q fun ρ e H h x vx s hh rx p => ?_
    try dsimp only at p
    split at p
    · rename_i j
      split at p
      · rename_i hj
        obtain ⟨v, r, e1, r1, r2⟩ := rx.inv
        rw [r2.invNil] at e1
        exact ⟨j, by rw [e1, RD_int r1], hj.1, hj.2, p.okk hh wk_range⟩
      · exact p.elim
    · exact p.elim
theorem i_range2 (hg : Gl X "range") (hm : X.mg "range" = none) (ha : PA X [a, b] (tA (gd X) W ma)) (hs : starEach [a, b] X.env = [(false, eval a X.env), (false, eval b X.env)] := by rfl) (hs2 : starEach [b] X.env = [(false, eval b X.env)] := by rfl) :
    PI X tg (.Call (.Name "range" p) [a, b] [] pos) (iM (gd X) W (rng2I ma)) :=
  PI_of (pi_range2 hg hm ha hs hs2) fun σ H Q q => by
    refine one q fun ρ e H h x vx s hh rx p => ?_
    try dsimp only at p
    split at p
    · rename_i i j
      split at p
      · rename_i hj
        obtain ⟨v, r, e1, r1, r2⟩ := rx.inv
        obtain ⟨v', r', e2, r3, r4⟩ := r2.inv
        rw [r4.invNil] at e2
        rw [e2] at e1
        exact ⟨i, j, by rw [e1, RD_int r1, RD_int r3], hj, p.okk hh wk_range⟩
      · exact p.elim
    · exact p.elim
end

/-! ### targets -/
abbrev GM := D → Env → MH → Option Env
def gnm (i : Nat) : GM := fun d e _ => some (e.set i (some d))
def asgAll : List GM → List D → Env → MH → Option Env
  | [], [], e, _ => some e
  | m :: ms, d :: ds, e, h => (m d e h).bind fun e1 => asgAll ms ds e1 h
  | _, _, _, _ => none
def gtp (ms : List GM) : GM := fun d e h => match d with
  | .tup ds => if ds.length = ms.length then asgAll ms ds e h else none
  | _ => none
/-- only the slots own have changed -/
def But (own : List Nat) (σ σ' : L2.St) : Prop := σ'.length = σ.length ∧ ∀ j, j ∉ own → σ'[j]? = σ[j]?
theorem But.trans {own : List Nat} {a b c : L2.St} (h : But own a b) (k : But own b c) : But own a c := ⟨k.1.trans h.1, fun j hj => (k.2 j hj).trans (h.2 j hj)⟩
theorem But.mono {own own' : List Nat} {a b : L2.St} (h : But own a b) (m : ∀ j ∈ own, j ∈ own') : But own' a b := ⟨h.1, fun j hj => h.2 j fun z => hj (m j z)⟩
def tGm (g : Gd) (own : List Nat) (m : GM) : TG := fun v σ H Q => ∃ ρ e h d e', RS g ρ H e σ ∧ RH g ρ H h ∧ RD g ρ H d v ∧ m d e h = some e' ∧ ∀ σ', RS g ρ H e' σ' → But own σ σ' → Q σ' H
def tGms (g : Gd) (own : List Nat) (ms : List GM) : TGs := fun vs σ H Q => ∃ ρ e h ds e', RS g ρ H e σ ∧ RH g ρ H h ∧ RDs g ρ H ds vs ∧ asgAll ms ds e h = some e' ∧ ∀ σ', RS g ρ H e' σ' → But own σ σ' → Q σ' H
section
variable {X : Cx} {pos : Pos} {own own2 : List Nat} {ms : List GM} {m : GM}
theorem PG_of {X : Cx} {e : Expr} {t t' : TG} (h : PG X e t) (i : ∀ v σ H Q, t' v σ H Q → t v σ H Q) : PG X e t' := ⟨fun pins s σ H v u Q I r q => h.run pins s σ H v u Q I r (i _ _ _ _ q)⟩
theorem PGs_of {X : Cx} {e : List Expr} {t t' : TGs} (h : PGs X e t) (i : ∀ v σ H Q, t' v σ H Q → t v σ H Q) : PGs X e t' := ⟨fun pins s σ H v u Q I r q => h.run pins s σ H v u Q I r (i _ _ _ _ q)⟩
theorem g_name (i : Nat) {x : Str} (hN : X.N.Nodup) (hi : X.N[i]? = some x) (hx : Loc X.env.scope x) (hf : X.fn x = true ∨ X.env.scope.names.lookup x = some .local := by first | exact .inl rfl | exact .inr rfl | assumption) : PG X (.Name x pos) (tGm (gd X) [i] (gnm i)) :=
  PG_of (pg_name hN hi hx hf) fun v σ H Q q => by
    obtain ⟨ρ, e, h, d, e', s, hh, r, em, k⟩ := q
    cases em
    exact k _ (s.set r i) ⟨by simp, fun j hj => by rw [List.getElem?_set_ne]; intro z; exact hj (by simp [z])⟩
theorem gs_nil : PGs X [] (tGms (gd X) [] []) := PGs_of pgs_nil fun vs σ H Q q => by
  obtain ⟨ρ, e, h, d, e', s, hh, r, em, k⟩ := q
  cases d with
  | nil =>
    cases em
    exact ⟨r.invNil, k σ s ⟨rfl, fun _ _ => rfl⟩⟩
  | cons d ds => cases em
theorem gs_cons {e : Expr} {es : List Expr} (h1 : PG X e (tGm (gd X) own m)) (h2 : PGs X es (tGms (gd X) own2 ms)) (hs : (assignEach (e :: es) X.env).map (·.2) = assign e X.env :: (assignEach es X.env).map (·.2) := by rfl) :
    PGs X (e :: es) (tGms (gd X) (own ++ own2) (m :: ms)) := PGs_of (pgs_cons h1 h2 hs) fun vs σ H Q q => by
  obtain ⟨ρ, e, h, ds, e', s, hh, r, em, k⟩ := q
  cases ds with
  | nil => cases em
  | cons d ds =>
    obtain ⟨v, vr, e1, r1, r2⟩ := r.inv
    unfold asgAll at em
    cases q1 : m d e h with
    | none => rw [q1] at em; cases em
    | some e2 =>
      rw [q1] at em
      exact ⟨v, vr, e1, ρ, e, h, d, e2, s, hh, r1, q1, fun σ2 s2 b2 => ⟨ρ, e2, h, ds, e', s2, hh, r2, em, fun σ3 s3 b3 => k σ3 s3 ((b2.mono fun j hj => List.mem_append_left _ hj).trans (b3.mono fun j hj => List.mem_append_right _ hj))⟩⟩
theorem g_tup {es : List Expr} {k n : Nat} (hc : X.calm = true) (h : PGs X es (tGms (gd X) own ms)) (hn : (assignEach es X.env).length = n := by rfl) (hst : (assignEach es X.env).findIdx? (·.1) = none := by rfl) (hl : ms.length = n := by rfl) :
    PG X (.Tuple es k pos) (tGm (gd X) own (gtp ms)) := PG_of (pg_tup hc h hn hst) fun v σ H Q q => by
  obtain ⟨ρ, e, h, d, e', s, hh, r, em, kk⟩ := q
  cases d <;> first | cases em | skip
  rename_i ds
  obtain ⟨a, vs, e1, sq, rs⟩ := RD_tup r
  unfold gtp at em
  dsimp only at em
  split at em
  · rename_i hds
    exact ⟨a, vs, e1, sq, by rw [← rs.length, hds, hl], ρ, e, h, ds, e', s, hh, rs, em, kk⟩
  · cases em
end

/-! ### for -/
def loopS (srcs : List (Nat × List D)) (tg : GM) (body : SM) : List D → Env → MH → S
  | [], e, h => if IT.ok h srcs = true then .nx e h else .bad
  | d :: r, e, h => if IT.ok h srcs = true then (match tg d e h with
    | some e1 => (match body e1 h with
      | .nx e2 h2 => loopS srcs tg body r e2 h2
      | .ct e2 h2 => loopS srcs tg body r e2 h2
      | .bk e2 h2 => .nx e2 h2
      | .rt x h2 => .rt x h2
      | .exc c fs e2 h2 => .exc c fs e2 h2
      | .bad => .bad)
    | none => .bad) else .bad
def forS (it : IM) (tg : GM) (body : SM) : SM := fun e h => match it e h with
  | .ok it h1 => loopS it.srcs tg body it.items e h1
  | .exc c fs h1 => .exc c fs e h1
  | .bad => .bad
def whileS (t : TM) (b : SM) : Nat → SM
  | 0 => fun _ _ => .bad
  | n + 1 => fun e h => ofT e (t e h) fun c h1 => if c then (match b e h1 with
    | .nx e2 h2 => whileS t b n e2 h2
    | .ct e2 h2 => whileS t b n e2 h2
    | .bk e2 h2 => .nx e2 h2
    | .rt x h2 => .rt x h2
    | .exc c fs e2 h2 => .exc c fs e2 h2
    | .bad => .bad) else .nx e h1
section
variable {X : Cx} {W : WX} {tg iter c : Expr} {body : List Stmt} {mi : IM} {mg : GM} {mb : SM} {own : List Nat} {pos : Pos} {mt : TM}
theorem loopS_ok {g : Gd} {ρ : List Addr} {H : Hp} {N : Ends} {srcs : List (Nat × List D)} {l : List D} {e : Env} {h : MH} (p : PostS g W ρ H (loopS srcs mg mb l e h) N) : IT.ok h srcs = true := by
  cases l with
  | nil =>
    unfold loopS at p
    split at p
    · assumption
    · exact p.elim
  | cons d r =>
    unfold loopS at p
    split at p
    · assumption
    · exact p.elim
theorem s_for (hp : PassesOwn (model X.prog X.w) X.A X.env X.xe) (hc : X.calm = true) (hi : PI X tg iter (iM (gd X) (pl W) mi)) (hg : PG X tg (tGm (gd X) own mg)) (hb : PSs X body (tS (gd X) W mb))
    (hs : ∀ x, foldedSetIterable iter X.env x = pure x := by intro _; rfl) : PS X (.For tg iter body [] pos) (tS (gd X) W (forS mi mg mb)) := PS_of (ps_for hp hc hi hg hb hs) fun N σ H q => by
  obtain ⟨ρ, e, h, s, hh, p⟩ := q
  refine ⟨ρ, e, h, s.x, hh, ?_⟩
  unfold forS at p
  revert p
  generalize mi e h = r
  intro p
  cases r with
  | bad => exact p.elim
  | exc c fs h1 => exact fun ρ1 H1 C dd gs l a => p ρ1 σ H1 C dd gs l a (l.rs s)
  | ok it h1 =>
    intro ρ1 J H1 l1 hh1 wk
    obtain ⟨G, Y, wlk, hG, hY⟩ := wk
    refine for_it wlk (fun i σ' H' => ∃ ρ2 e2 h2, Lat (gd X) ρ1 H1 ρ2 H' ∧ RS (gd X) ρ2 H' e2 σ' ∧ RH (gd X) ρ2 H' h2 ∧ PostS (gd X) W ρ2 H' (loopS it.srcs mg mb (it.items.drop i) e2 h2) N)
      ⟨ρ1, e, h1, Lat.refl, l1.rs s, hh1, PostS.later l1 p⟩ (fun i σ' H' _ ⟨ρ2, e2, h2, l2, s2, hh2, p2⟩ => hG ρ2 H' h2 l2 hh2 (loopS_ok p2)) ?_ ?_
    · rintro i x σ' H' H'' hi ⟨ρ2, e2, h2, l2, s2, hh2, p2⟩ y
      have ok := loopS_ok p2
      have ed : it.items.drop i = it.items[i] :: it.items.drop (i + 1) := List.drop_eq_getElem_cons hi
      obtain ⟨l3, hh3, rd⟩ := hY i H' x H'' ρ2 h2 _ l2 hh2 ok y (List.getElem?_eq_getElem hi)
      rw [ed] at p2
      unfold loopS at p2
      rw [if_pos ok] at p2
      cases q1 : mg it.items[i] e2 h2 with
      | none => rw [q1] at p2; exact p2.elim
      | some e3 =>
        rw [q1] at p2
        refine ⟨ρ2, e2, h2, _, e3, l3.rs s2, hh3, rd, q1, fun σ3 s3 _ => ⟨ρ2, e3, h2, s3, hh3, ?_⟩⟩
        have p3 := PostS.later l3 p2
        dsimp only at p3
        revert p3
        generalize mb e3 h2 = r
        intro p3
        cases r with
        | nx e4 h4 => exact fun ρ4 σ4 H4 l4 a b => ⟨ρ4, e4, h4, (l2.trans l3).trans l4, b, a, PostS.later l4 p3⟩
        | ct e4 h4 => exact fun ρ4 σ4 H4 l4 a b => ⟨ρ4, e4, h4, (l2.trans l3).trans l4, b, a, PostS.later l4 p3⟩
        | bk e4 h4 => exact p3
        | rt x h4 => exact p3
        | exc c fs e4 h4 => exact p3
        | bad => exact p3
    · rintro σ' H' ⟨ρ2, e2, h2, l2, s2, hh2, p2⟩
      have ok := loopS_ok p2
      rw [List.drop_length] at p2
      unfold loopS at p2
      rw [if_pos ok] at p2
      exact p2 ρ2 σ' H' Lat.refl hh2 s2
theorem s_while (n : Nat) (hp : PassesOwn (model X.prog X.w) X.A X.env X.xe) (hc : PT X c (tT (gd X) (pl W) mt)) (hb : PSs X body (tS (gd X) W mb)) : PS X (.While c body [] pos) (tS (gd X) W (whileS mt mb n)) := PS_of (ps_while hp hc hb) fun N σ H q => by
  refine ⟨fun m σ' H' => ∃ ρ e h, RS (gd X) ρ H' e σ' ∧ RH (gd X) ρ H' h ∧ PostS (gd X) W ρ H' (whileS mt mb m e h) N, ⟨n, q⟩, ?_⟩
  rintro m σ' H' ⟨ρ, e, h, s, hh, p⟩
  cases m with
  | zero => exact p.elim
  | succ m =>
    unfold whileS at p
    refine stT (f := fun e c h1 => if c then (match mb e h1 with
      | .nx e2 h2 => whileS mt mb m e2 h2
      | .ct e2 h2 => whileS mt mb m e2 h2
      | .bk e2 h2 => .nx e2 h2
      | .rt x h2 => .rt x h2
      | .exc c fs e2 h2 => .exc c fs e2 h2
      | .bad => .bad) else .nx e h1) ⟨ρ, e, h, s, hh, p⟩ fun ρ e H h x s hh p => ?_
    cases x with
    | false => exact p ρ σ' H Lat.refl hh s
    | true =>
      refine ⟨fun σ3 H3 => ∃ ρ e h, RS (gd X) ρ H3 e σ3 ∧ RH (gd X) ρ H3 h ∧ PostS (gd X) W ρ H3 (whileS mt mb m e h) N, fun σ3 H3 z => ⟨m, Nat.lt_succ_self m, z⟩, ρ, e, h, s, hh, ?_⟩
      try dsimp only at p
      rw [if_pos rfl] at p
      revert p
      generalize mb e h = r
      intro p
      cases r with
      | nx e4 h4 => exact fun ρ4 σ4 H4 l4 a b => ⟨ρ4, e4, h4, b, a, PostS.later l4 p⟩
      | ct e4 h4 => exact fun ρ4 σ4 H4 l4 a b => ⟨ρ4, e4, h4, b, a, PostS.later l4 p⟩
      | bk e4 h4 => exact p
      | rt x h4 => exact p
      | exc c fs e4 h4 => exact p
      | bad => exact p
end
end ML

/-! ML 4: comprehensions, several targets at once, items stored, raise and try -/
namespace ML
open PySem PySem.Spec PyProof.Rows L2

/-! ### comprehensions -/
def wipeM (e : Env) : List Nat → Env
  | [] => e
  | v :: vs => (wipeM e vs).set v none
theorem wipeM_length (e : Env) : ∀ vs, (wipeM e vs).length = e.length
  | [] => rfl
  | v :: vs => by unfold wipeM; rw [List.length_set, wipeM_length e vs]
theorem wipeM_get {e : Env} : ∀ {vs : List Nat} {i : Nat} {d : D}, (wipeM e vs)[i]? = some (some d) → i ∉ vs ∧ e[i]? = some (some d)
  | [], i, d, h => ⟨by simp, h⟩
  | v :: vs, i, d, h => by
    unfold wipeM at h
    by_cases hi : v = i
    · subst hi
      by_cases hv : v < (wipeM e vs).length
      · rw [List.getElem?_set_self hv] at h; cases h
      · rw [List.getElem?_eq_none (by simpa using hv)] at h; cases h
    · rw [List.getElem?_set_ne hi] at h
      obtain ⟨h1, h2⟩ := wipeM_get h
      exact ⟨by simp only [List.mem_cons, not_or]; exact ⟨fun e => hi e.symm, h1⟩, h2⟩
theorem wipe_in {σ : L2.St} {i : Nat} : ∀ {vs : List Nat}, i ∈ vs → i < σ.length → (wipe σ vs)[i]? = some none
  | v :: vs, h, hl => by
    unfold wipe
    by_cases hi : v = i
    · subst hi
      exact List.getElem?_set_self (by rw [wipe_length]; exact hl)
    · rw [List.getElem?_set_ne hi]
      rcases List.mem_cons.mp h with e | e
      · exact absurd e.symm hi
      · exact wipe_in e hl
theorem wipe_but {σ σ2 : L2.St} {vs : List Nat} (b : But vs (wipe σ vs) σ2) : wipe σ2 vs = wipe σ vs := by
  obtain ⟨hl, hb⟩ := b
  rw [wipe_length] at hl
  apply List.ext_getElem?
  intro i
  by_cases hi : i ∈ vs
  · by_cases hs : i < σ.length
    · rw [wipe_in hi hs, wipe_in hi (by rw [hl]; exact hs)]
    · rw [List.getElem?_eq_none (by rw [wipe_length, hl]; omega), List.getElem?_eq_none (by rw [wipe_length]; omega)]
  · rw [wipe_out hi, hb i hi]
theorem RS.wipe {g : Gd} {ρ : List Addr} {H : Hp} {e : Env} {σ : L2.St} (s : RS g ρ H e σ) (vs : List Nat) : RS g ρ H (wipeM e vs) (L2.wipe σ vs) :=
  ⟨by rw [wipeM_length, wipe_length, s.len], fun i d h => by
    obtain ⟨h1, h2⟩ := wipeM_get h
    obtain ⟨v, e1, r⟩ := s.get i d h2
    exact ⟨v, by rw [wipe_out h1]; exact e1, r⟩⟩
def lcLoop (srcs : List (Nat × List D)) (tg : GM) (tst : TM) (elt : EM) (n : Nat) (e0 : Env) : List D → MH → R D
  | [], h => if IT.ok h srcs = true then .ok (.ref n) h else .bad
  | d :: r, h => if IT.ok h srcs = true then (match tg d e0 h with
    | some e1 => (match tst e1 h with
      | .ok true h2 => (match elt e1 h2 with
        | .ok y h3 => (match h3[n]? with
          | some (.lst acc) => if acc.length < 1000000 then lcLoop srcs tg tst elt n e0 r (h3.set n (.lst (acc ++ [y]))) else .bad
          | _ => .bad)
        | _ => .bad)
      | .ok false h2 => lcLoop srcs tg tst elt n e0 r h2
      | _ => .bad)
    | none => .bad) else .bad
def lcE (own : List Nat) (it : IM) (tg : GM) (tst : TM) (elt : EM) : EM := fun e h => (it e h).bind fun it h1 => lcLoop it.srcs tg tst elt h1.length (wipeM e own) it.items (h1 ++ [.lst []])
def yesT : TM := fun _ h => .ok true h
section
variable {X : Cx} {W : Wx} {tg iter elt : Expr} {ifs : List Expr} {scope : Scope} {own : List (Str × Nat)} {pos : Pos} {mi : IM} {mg : GM} {mt : TM} {me : EM}
theorem PTs_of {X : Cx} {e : List Expr} {t t' : TT} (h : PTs X e t) (i : ∀ σ H Q, t' σ H Q → t σ H Q) : PTs X e t' := ⟨fun pins s σ H Q I q => h.run pins s σ H Q I (i _ _ _ q)⟩
theorem ts_nil : PTs X [] (tT (gd X) W yesT) := PTs_of pts_nil fun σ H Q q => by
  obtain ⟨ρ, e, h, s, hh, p⟩ := q
  exact p.okk hh rfl
theorem ts_one {c : Expr} (h : PT X c (tT (gd X) W mt)) : PTs X [c] (tT (gd X) W mt) := pts_one h
theorem lc_ok {g : Gd} {ρ : List Addr} {H : Hp} {Wf : XK} {Q : VK} {srcs : List (Nat × List D)} {l : List D} {n : Nat} {e : Env} {h : MH} (p : Post g (RD g) Wf ρ H (lcLoop srcs mg mt me n e l h) Q) : IT.ok h srcs = true := by
  cases l with
  | nil =>
    unfold lcLoop at p
    split at p
    · assumption
    · exact p.elim
  | cons d r =>
    unfold lcLoop at p
    split at p
    · assumption
    · exact p.elim
theorem lc_read (hg : ∀ (s : Shared) (H : Hp) (C : Addr) (cl : List (Str × Addr)) (fp : List Addr), True) {σ : L2.St} {H : Hp} {Q : VK} (q : tE (gd X) W (lcE (own.map (·.2)) mi mg mt me) σ H Q) :
    tLc (iM (gd X) W mi) (tGm (gd X) (own.map (·.2)) mg) (tT (gd X) (pl noW) mt) (tE (gd X) (pl noW) me) (own.map (·.2)) σ H Q := by
  refine one q fun ρ e H h it J s hh wk p => ?_
  intro Dd hD
  generalize hvs : own.map (·.2) = vs at p ⊢
  obtain ⟨G, Y, wlk, hG, hY⟩ := wk
  obtain ⟨l1, hh1, rD⟩ := hh.newLst hD (l := []) (vs := []) .nil
  have s1 : RS (gd X) (ρ ++ [Dd]) (L2.upd H Dd (.lst [])) (wipeM e vs) (L2.wipe σ vs) := (l1.rs s.s).wipe vs
  have rD' : (ρ ++ [Dd])[h.length]? = some Dd := by
    obtain ⟨a, e1, e2⟩ := RD_ref rD
    cases e2
    exact e1
  refine lc_it wlk (fun i H' => ∃ ρ2 h2, Lat (gd X) (ρ ++ [Dd]) (L2.upd H Dd (.lst [])) ρ2 H' ∧ RH (gd X) ρ2 H' h2 ∧ Post (gd X) (RD (gd X)) (fun c d H' => W.W c d σ H') ρ2 H' (lcLoop it.srcs mg mt me h.length (wipeM e vs) (it.items.drop i) h2) Q)
    ⟨_, _, Lat.refl, hh1, Post.later l1 p⟩ (fun i H' _ ⟨ρ2, h2, l2, hh2, p2⟩ => hG ρ2 H' h2 (l1.trans l2) hh2 (lc_ok p2)) ?_ ?_
  · rintro i x H' H'' hi ⟨ρ2, h2, l2, hh2, p2⟩ y
    have ok := lc_ok p2
    have ed : it.items.drop i = it.items[i] :: it.items.drop (i + 1) := List.drop_eq_getElem_cons hi
    obtain ⟨l3, hh3, rd⟩ := hY i H' x H'' ρ2 h2 _ (l1.trans l2) hh2 ok y (List.getElem?_eq_getElem hi)
    rw [ed] at p2
    unfold lcLoop at p2
    rw [if_pos ok] at p2
    cases q1 : mg it.items[i] (wipeM e vs) h2 with
    | none => rw [q1] at p2; exact p2.elim
    | some e3 =>
      rw [q1] at p2
      refine ⟨ρ2, _, h2, _, e3, (l2.trans l3).rs s1, hh3, rd, q1, fun σ3 s3 b3 => ⟨wipe_but b3, ?_⟩⟩
      have p3 := Post.later l3 p2
      dsimp only at p3
      refine ⟨ρ2, e3, h2, s3.x, hh3, ?_⟩
      revert p3
      generalize mt e3 h2 = r
      intro p3
      cases r with
      | bad => exact p3.elim
      | exc c fs h4 => exact p3.elim
      | ok b h4 =>
        intro ρ4 b' H4 l4 hh4 eb
        cases eb
        cases b with
        | false =>
          rw [if_neg (by decide)]
          exact ⟨ρ4, h4, (l2.trans l3).trans l4, hh4, Post.later l4 p3⟩
        | true =>
          rw [if_pos rfl]
          have p4 := Post.later l4 p3
          dsimp only at p4
          refine ⟨ρ4, e3, h4, (l4.rs s3).x, hh4, ?_⟩
          revert p4
          generalize me e3 h4 = r
          intro p4
          cases r with
          | bad => exact p4.elim
          | exc c fs h5 => exact p4.elim
          | ok y h5 =>
            intro ρ5 vy H5 l5 hh5 ry
            have p5 := Post.later l5 p4
            dsimp only at p5
            have lf := ((l2.trans l3).trans l4).trans l5
            split at p5
            · rename_i acc hacc
              split at p5
              · rename_i hlen
                have ea := lf.at rD'
                obtain ⟨ws, e6, r6⟩ := hh5.obj _ _ Dd hacc ea
                refine ⟨ws, e6, Nat.lt_of_lt_of_le (by rw [← r6.length]; exact hlen) (big_le (Nat.le_refl _)), ?_⟩
                have l6 := Lat.upd (g := gd X) (ρ := ρ5) (u := .lst (ws ++ [vy])) (Soft.lst e6)
                have hh6 := hh5.set (u := .lst (ws ++ [vy])) (o' := .lst (acc ++ [y])) hacc ea rfl rfl (Soft.lst e6) ⟨_, upd_same, l6.rds _ (r6.append (.one ry))⟩
                exact ⟨ρ5, _, lf.trans l6, hh6, Post.later l6 p5⟩
              · exact p5.elim
            · exact p5.elim
  · rintro H' ⟨ρ2, h2, l2, hh2, p2⟩
    have ok := lc_ok p2
    rw [List.drop_length] at p2
    unfold lcLoop at p2
    rw [if_pos ok] at p2
    exact p2.okk hh2 (l2.rd (.ref h.length) rD)
theorem e_lc (hc : X.calm = true) (hN : X.N.Nodup) (hi : PI X tg iter (iM (gd X) W mi)) (ok : BlkOk X.N X.env.scope scope own)
    (hg : ∀ (s : Shared) (H : Hp) (C : Addr) (cl : List (Str × Addr)) (fp : List Addr), PG (X.blk s H scope (compEnvC scope cl C X.env) fp) tg (tGm (gd X) (own.map (·.2)) mg))
    (ht : ∀ (s : Shared) (H : Hp) (C : Addr) (cl : List (Str × Addr)) (fp : List Addr), PTs (X.blk s H scope (compEnvC scope cl C X.env) fp) ifs (tT (gd X) (pl noW) mt))
    (he : ∀ (s : Shared) (H : Hp) (C : Addr) (cl : List (Str × Addr)) (fp : List Addr), PE (X.blk s H scope (compEnvC scope cl C X.env) fp) elt (tE (gd X) (pl noW) me)) (hs : ∀ x, foldedSetIterable iter X.env x = pure x := by intro _; rfl) :
    PE X (.ListComp elt [⟨tg, iter, ifs, 0⟩] scope pos) (tE (gd X) W (lcE (own.map (·.2)) mi mg mt me)) :=
  PE_of (pe_lc hc hN hi ok hg ht he hs) fun σ H Q q => lc_read (fun _ _ _ _ _ => True.intro) q
end
section
variable {X : Cx} {W : WX} {tg iter elt : Expr} {ifs : List Expr} {scope : Scope} {own : List (Str × Nat)} {pos : Pos} {mi : IM} {mg : GM} {mt : TM} {me : EM}
theorem s_setLc (i : Nat) {y : Str} {py spos : Pos} (hc : X.calm = true) (hN : X.N.Nodup) (hy : X.N[i]? = some y) (hyl : X.env.scope.names.lookup y = some .local)
    (hsw : swapsWith (.ListComp elt [⟨tg, iter, ifs, 0⟩] scope pos) (some (.Name y py)) spos.line X.env = pure true) (hi : PI X tg iter (iM (gd X) (pl W) mi)) (ok : BlkOk X.N X.env.scope scope own)
    (hg : ∀ (s : Shared) (H : Hp) (C : Addr) (cl : List (Str × Addr)) (fp : List Addr), PG (X.blk s H scope (compEnvC scope cl C X.env) fp) tg (tGm (gd X) (own.map (·.2)) mg))
    (ht : ∀ (s : Shared) (H : Hp) (C : Addr) (cl : List (Str × Addr)) (fp : List Addr), PTs (X.blk s H scope (compEnvC scope cl C X.env) fp) ifs (tT (gd X) (pl noW) mt))
    (he : ∀ (s : Shared) (H : Hp) (C : Addr) (cl : List (Str × Addr)) (fp : List Addr), PE (X.blk s H scope (compEnvC scope cl C X.env) fp) elt (tE (gd X) (pl noW) me)) (hs : ∀ x, foldedSetIterable iter X.env x = pure x := by intro _; rfl) :
    PS X (.Assign [.Name y py] (.ListComp elt [⟨tg, iter, ifs, 0⟩] scope pos) spos) (tS (gd X) W (setS i (lcE (own.map (·.2)) mi mg mt me))) :=
  PS_of (ps_setLc hc hN hy hyl hsw hi ok hg ht he hs) fun N σ H q =>
    lc_read (Q := fun x H1 => gName i x σ H1 N.nx) (fun _ _ _ _ _ => True.intro) (stE q fun ρ e H h d v s hh r p => p ρ _ H Lat.refl hh (s.set r i))
end

/-! ### several names at once: a, b = x, y -/
def ofA (e : Env) (r : R (List D)) (k : List D → MH → S) : S := match r with
  | .ok d h => k d h
  | .exc c fs h => .exc c fs e h
  | .bad => .bad
def setAll : List Nat → List D → Env → Env
  | i :: is, d :: ds, e => setAll is ds (e.set i (some d))
  | _, _, e => e
def parS (is : List Nat) (a : AM) : SM := fun e h => ofA e (a e h) fun ds h1 => if ds.length = is.length then .nx (setAll is ds e) h1 else .bad
theorem stA {g : Gd} {W : WX} {ma : AM} {σ : L2.St} {H : Hp} {N : Ends} {f : Env → List D → MH → S} {k : List V → Hp → Prop} (q : tS g W (fun e h => ofA e (ma e h) (f e)) N σ H)
    (hk : ∀ ρ e H h x vx, RS g ρ H e σ → RH g ρ H h → RDs g ρ H x vx → PostS g W ρ H (f e x h) N → k vx H) : tA g (pl W) ma σ H k := by
  obtain ⟨ρ, e, h, s, hh, p⟩ := q
  refine ⟨ρ, e, h, s.x, hh, ?_⟩
  have p : PostS g W ρ H (ofA e (ma e h) (f e)) N := p
  revert p
  generalize ma e h = r
  intro p
  cases r with
  | ok d h1 => exact fun ρ1 v H1 l a b => hk ρ1 e H1 h1 d v (l.rs s) a b (PostS.later l p)
  | exc c fs h1 => exact fun ρ1 H1 C dd gs l a => p ρ1 σ H1 C dd gs l a (l.rs s)
  | bad => exact p.elim
section
variable {X : Cx} {W : WX} {ma : AM} {pos : Pos}
theorem s_par2 (i j : Nat) {x y : Str} {a b : Expr} {px py pt : Pos} {kt k2 pt2} (hc : X.calm = true) (hN : X.N.Nodup) (hi : X.N[i]? = some x) (hj : X.N[j]? = some y) (hij : i ≠ j)
    (hx : X.env.scope.names.lookup x = some .local) (hy : X.env.scope.names.lookup y = some .local) (ha : PA X [a, b] (tA (gd X) (pl W) ma))
    (hw : swappedStores [.Tuple [.Name x px, .Name y py] kt pt] (.Tuple [a, b] k2 pt2) X.env = pure (some [x, y]))
    (hs : swapsWithSole [.Tuple [.Name x px, .Name y py] kt pt] (.Tuple [a, b] k2 pt2) pos.line X.env = pure false := by rfl) :
    PS X (.Assign [.Tuple [.Name x px, .Name y py] kt pt] (.Tuple [a, b] k2 pt2) pos) (tS (gd X) W (parS [i, j] ma)) :=
  PS_of (ps_par hc hN hi hj hij hx hy ha hw hs) fun N σ H q => stA q fun ρ e H h ds vs s hh r p => by
    match ds, r, p with
    | [d1, d2], r, p =>
      obtain ⟨v, r1, e1, q1, q2⟩ := r.inv
      obtain ⟨w, r2, e2, q3, q4⟩ := q2.inv
      rw [q4.invNil] at e2
      rw [e2] at e1
      exact ⟨v, w, e1, p ρ _ H Lat.refl hh ((s.set q1 i).set q3 j)⟩
    | [], r, p => exact p.elim
    | [_], r, p => exact p.elim
    | _ :: _ :: _ :: _, r, p =>
      rw [if_neg (by simp)] at p
      exact p.elim
end
end ML

/-! ML 5: ==, !=, in, not in -/
namespace ML
open PySem PySem.Spec PyProof.Rows L2

def isScal : D → Bool
  | .non => true
  | .bl _ => true
  | .int _ => true
  | .str _ => true
  | _ => false
def scalEq : D → D → Bool
  | .non, .non => true
  | .bl a, .bl b => a == b
  | .int a, .int b => a == b
  | .str a, .str b => a == b
  | .bl a, .int b => (if a then 1 else 0) == b
  | .int a, .bl b => a == (if b then 1 else 0)
  | _, _ => false
/-- (is it a tuple, its items) -/
def seqOf (h : MH) : D → Option (Bool × List D)
  | .tup l => some (true, l)
  | .ref n => (match h[n]? with
    | some (.lst l) => some (false, l)
    | some (.rdl l) => some (false, l)
    | _ => none)
  | _ => none
def eqZ (f : D → D → Option Bool) : List D → List D → Option Bool
  | x :: l, y :: m => (match f x y with
    | some a => (match eqZ f l m with
      | some b => some (a && b)
      | none => none)
    | none => none)
  | _, _ => some true
/-- two lists, or two tuples -/
def eqSeq (f : D → D → Option Bool) (k : Bool) (l m : List D) : Option Bool :=
  if k = false ∧ l.length ≠ m.length then some false else (match eqZ f l m with
    | some b => some (b && (l.length == m.length))
    | none => none)
def eqTop (h : MH) (f : D → D → Option Bool) (x y : D) : Option Bool :=
  match isScal x, isScal y with
  | true, true => some (scalEq x y)
  | true, false => (match seqOf h y with | some _ => some false | none => none)
  | false, true => (match seqOf h x with | some _ => some false | none => none)
  | false, false => (match seqOf h x, seqOf h y with
    | some (k, l), some (k', m) => if k = k' then eqSeq f k l m else some false
    | _, _ => none)
def idRef : D → D → Bool
  | .ref a, .ref b => decide (a = b)
  | _, _ => false
def eqv (h : MH) : Nat → D → D → Option Bool
  | 0, _, _ => none
  | n + 1, x, y => if idRef x y = true then some true else eqTop h (eqv h n) x y

theorem eqZ_map {f : D → D → Option Bool} : ∀ {l m : List D} {b : Bool}, eqZ f l m = some b → ∃ e : Nat → Bool, (∀ (j : Nat) x y, l[j]? = some x → m[j]? = some y → f x y = some (e j)) ∧ b = (List.range (min l.length m.length)).all e
  | [], m, b, h => ⟨fun _ => true, fun j x y h1 => by simp at h1, by unfold eqZ at h; cases h; simp⟩
  | x :: l, [], b, h => ⟨fun _ => true, fun j x y _ h1 => by simp at h1, by unfold eqZ at h; cases h; simp⟩
  | x :: l, y :: m, b, h => by
    unfold eqZ at h
    cases q : f x y with
    | none => rw [q] at h; cases h
    | some a =>
      rw [q] at h
      dsimp only at h
      cases q2 : eqZ f l m with
      | none => rw [q2] at h; cases h
      | some c =>
        rw [q2] at h
        cases h
        obtain ⟨e, h1, h2⟩ := eqZ_map q2
        refine ⟨fun j => match j with | 0 => a | j + 1 => e j, fun j x' y' e1 e2 => ?_, ?_⟩
        · cases j with
          | zero =>
            simp at e1 e2
            subst e1 e2
            exact q
          | succ j => exact h1 j x' y' (by simpa using e1) (by simpa using e2)
        · rw [List.length_cons, List.length_cons, show min (l.length + 1) (m.length + 1) = min l.length m.length + 1 by omega, List.range_succ_eq_map, List.all_cons, List.all_map, h2]
          rfl

section
variable {X : Cx} {pins : List (Addr × Obj)} {σ : L2.St} {H : Hp} {s : Shared} {ρ : List Addr} {h : MH}
theorem scal_v {g : Gd} {x : D} {v : V} (r : RD g ρ H x v) (hx : isScal x = true) : (x = .non ∧ v = .non) ∨ (∃ b, x = .bl b ∧ v = .bl b) ∨ (∃ b, x = .int b ∧ v = .int b) ∨ ∃ b, x = .str b ∧ v = .str b := by
  cases x <;> first | (cases hx; done) | skip
  · unfold RD at r; exact .inl ⟨rfl, r⟩
  · unfold RD at r; exact .inr (.inl ⟨_, rfl, r⟩)
  · unfold RD at r; exact .inr (.inr (.inl ⟨_, rfl, r⟩))
  · unfold RD at r; exact .inr (.inr (.inr ⟨_, rfl, r⟩))
/-- a list or a tuple of the mirror, in the heap -/
theorem seq_v (hh : RH (gd X) ρ H h) {x : D} {v : V} {k : Bool} {l : List D} (r : RD (gd X) ρ H x v) (e : seqOf h x = some (k, l)) : ∃ a vs, v = .ref a ∧ RDs (gd X) ρ H l vs ∧ ((k = true ∧ SqT X.K H a vs) ∨ (k = false ∧ SqL X.K H a vs)) := by
  cases x <;> first | (cases e; done) | skip
  · cases e
    obtain ⟨a, vs, e1, sq, rs⟩ := RD_tup r
    exact ⟨a, vs, e1, rs, .inl ⟨rfl, sq⟩⟩
  · rename_i n
    obtain ⟨a, e1, e2⟩ := RD_ref r
    unfold seqOf at e
    dsimp only at e
    split at e
    · rename_i l hl
      cases e
      obtain ⟨vs, e3, rs⟩ := hh.obj n _ a hl e1
      exact ⟨a, vs, e2, rs, .inr ⟨rfl, .of e3⟩⟩
    · rename_i l hl
      cases e
      obtain ⟨vs, e3, rs⟩ := hh.obj n _ a hl e1
      exact ⟨a, vs, e2, rs, .inr ⟨rfl, e3.sq⟩⟩
    · cases e
theorem not_both (I : Inv X pins σ H s) {a : Addr} {vs ws : List V} (h1 : SqT X.K H a vs) (h2 : SqL X.K H a ws) : False := by
  obtain ⟨its, _, p, _⟩ := I.tuple h1
  obtain ⟨its', _, q, _⟩ := I.list h2
  obtain ⟨o, e, c, _⟩ := p
  obtain ⟨o', n, e', c', _⟩ := q
  rw [e] at e'
  cases e'
  rw [c] at c'
  injection c' with z
  exact absurd z (by decide)
theorem seq_inj (I : Inv X pins σ H s) {a : Addr} {k k' : Bool} {vs ws : List V} (h1 : (k = true ∧ SqT X.K H a vs) ∨ (k = false ∧ SqL X.K H a vs)) (h2 : (k' = true ∧ SqT X.K H a ws) ∨ (k' = false ∧ SqL X.K H a ws)) : k = k' ∧ vs = ws := by
  rcases h1 with ⟨e1, h1⟩ | ⟨e1, h1⟩ <;> rcases h2 with ⟨e2, h2⟩ | ⟨e2, h2⟩
  · exact ⟨by rw [e1, e2], I.tuple_inj h1 h2⟩
  · exact (not_both I h1 h2).elim
  · exact (not_both I h2 h1).elim
  · exact ⟨by rw [e1, e2], I.list_inj h1 h2⟩
theorem eqZ_all {f : D → D → Option Bool} (hf : ∀ x y v b, RD (gd X) ρ H x v → RD (gd X) ρ H y v → f x y = some b → b = true) : ∀ {l m : List D} {vs : List V} {b : Bool}, RDs (gd X) ρ H l vs → RDs (gd X) ρ H m vs → eqZ f l m = some b → b = true
  | [], m, vs, b, h1, h2, e => by unfold eqZ at e; cases e; rfl
  | x :: l, [], vs, b, h1, h2, e => by unfold eqZ at e; cases e; rfl
  | x :: l, y :: m, vs, b, h1, h2, e => by
    obtain ⟨v, r, e1, q1, q2⟩ := h1.inv
    obtain ⟨w, r', e2, q3, q4⟩ := h2.inv
    subst e1
    cases e2
    unfold eqZ at e
    cases z : f x y with
    | none => rw [z] at e; cases e
    | some a =>
      rw [z] at e
      dsimp only at e
      cases z2 : eqZ f l m with
      | none => rw [z2] at e; cases e
      | some c =>
        rw [z2] at e
        cases e
        rw [hf x y v a q1 q3 z, eqZ_all hf q2 q4 z2]
        rfl
theorem eqTop_same (I : Inv X pins σ H s) (hh : RH (gd X) ρ H h) {f : D → D → Option Bool} (hf : ∀ x y v b, RD (gd X) ρ H x v → RD (gd X) ρ H y v → f x y = some b → b = true) {x y : D} {v : V} {b : Bool}
    (rx : RD (gd X) ρ H x v) (ry : RD (gd X) ρ H y v) (e : eqTop h f x y = some b) : b = true := by
  unfold eqTop at e
  cases sx : isScal x <;> cases sy : isScal y <;> rw [sx, sy] at e <;> dsimp only at e
  · cases qx : seqOf h x with
    | none => rw [qx] at e; cases e
    | some p =>
      cases qy : seqOf h y with
      | none => rw [qx, qy] at e; cases e
      | some p' =>
        obtain ⟨k, l⟩ := p
        obtain ⟨k', m⟩ := p'
        rw [qx, qy] at e
        dsimp only at e
        obtain ⟨a, vs, e1, r1, c1⟩ := seq_v hh rx qx
        obtain ⟨a', vs', e2, r2, c2⟩ := seq_v hh ry qy
        rw [e1] at e2
        cases e2
        obtain ⟨ek, ev⟩ := seq_inj I c1 c2
        subst ek ev
        rw [if_pos rfl] at e
        unfold eqSeq at e
        have hl : l.length = m.length := by rw [r1.length, r2.length]
        rw [if_neg (fun z => z.2 hl)] at e
        cases z : eqZ f l m with
        | none => rw [z] at e; cases e
        | some c =>
          rw [z] at e
          cases e
          rw [eqZ_all hf r1 r2 z, hl]
          simp
  · rcases scal_v ry sy with ⟨_, e2⟩ | ⟨_, _, e2⟩ | ⟨_, _, e2⟩ | ⟨_, _, e2⟩ <;> (subst e2; cases qx : seqOf h x with
      | none => rw [qx] at e; cases e
      | some p => obtain ⟨a, vs, e1, _⟩ := seq_v hh rx qx; cases e1)
  · rcases scal_v rx sx with ⟨_, e2⟩ | ⟨_, _, e2⟩ | ⟨_, _, e2⟩ | ⟨_, _, e2⟩ <;> (subst e2; cases qx : seqOf h y with
      | none => rw [qx] at e; cases e
      | some p => obtain ⟨a, vs, e1, _⟩ := seq_v hh ry qx; cases e1)
  · rcases scal_v rx sx with ⟨e1, e2⟩ | ⟨_, e1, e2⟩ | ⟨_, e1, e2⟩ | ⟨_, e1, e2⟩ <;> rcases scal_v ry sy with ⟨e3, e4⟩ | ⟨_, e3, e4⟩ | ⟨_, e3, e4⟩ | ⟨_, e3, e4⟩ <;> subst e1 e2 e3 <;> cases e4 <;> cases e <;> simp [scalEq]
theorem eqv_same (I : Inv X pins σ H s) (hh : RH (gd X) ρ H h) : ∀ (n : Nat) (x y : D) (v : V) (b : Bool), RD (gd X) ρ H x v → RD (gd X) ρ H y v → eqv h n x y = some b → b = true
  | 0, _, _, _, _, _, _, e => by cases e
  | n + 1, x, y, v, b, rx, ry, e => by
    unfold eqv at e
    split at e
    · cases e; rfl
    · exact eqTop_same I hh (eqv_same I hh n) rx ry e
theorem idRef_eq {x y : D} (e : idRef x y = true) : x = y := by
  cases x <;> cases y <;> first | (cases e; done) | skip
  unfold idRef at e
  rw [of_decide_eq_true e]
theorem vals_at {its : List Value} {vs : List V} (r : Vals vs its) {l : List D} {g : Gd} (q : RDs g ρ H l vs) {j : Nat} (hj : j < its.length) : ∃ x v, l[j]? = some x ∧ RD g ρ H x v ∧ RelV v its[j] := by
  have hj' : j < vs.length := by rw [r.length]; exact hj
  obtain ⟨x, e1, r1⟩ := RDs.get' q (List.getElem?_eq_getElem hj')
  obtain ⟨u, e2, r2⟩ := r.get (List.getElem?_eq_getElem hj')
  rw [List.getElem?_eq_getElem hj] at e2
  cases e2
  exact ⟨x, _, e1, r1, r2⟩
theorem all_congr {n m : Nat} {e : Nat → Bool} (h : n = m) : (List.range n).all e = (List.range m).all e := by rw [h]
/-- what the items answer gives what the sequences answer -/
theorem eqv_at (I : Inv X pins σ H s) (hh : RH (gd X) ρ H h) : ∀ (n : Nat) (A : Around) (x y : D) (v w : V) (u t : Value) (b : Bool), A.units + n < cLine → RD (gd X) ρ H x v → RD (gd X) ρ H y w → RelV v u → RelV w t → eqv h n x y = some b → SeqAt.EqAt A s u t b
  | 0, _, _, _, _, _, _, _, _, _, _, _, _, _, e => by cases e
  | n + 1, A, x, y, v, w, u, t, b, hu, rx, ry, ru, rt, e => by
    have hu0 : A.units < cLine := by omega
    have hu1 : A.in1.units + n < cLine := by show A.units + 1 + n < cLine; omega
    have e0 := e
    unfold eqv at e
    split at e
    · rename_i hi
      cases e
      have := idRef_eq hi
      subst this
      cases x <;> first | (cases hi; done) | skip
      obtain ⟨a, e1, e2⟩ := RD_ref rx
      obtain ⟨a', e3, e4⟩ := RD_ref ry
      rw [e1] at e3
      cases e3
      subst e2 e4
      cases ru
      cases rt
      exact SeqAt.EqAt.same _
    · unfold eqTop at e
      cases sx : isScal x <;> cases sy : isScal y <;> rw [sx, sy] at e <;> dsimp only at e
      · cases qx : seqOf h x with
        | none => rw [qx] at e; cases e
        | some p =>
          cases qy : seqOf h y with
          | none => rw [qx, qy] at e; cases e
          | some p' =>
            obtain ⟨k, l⟩ := p
            obtain ⟨k', m⟩ := p'
            rw [qx, qy] at e
            dsimp only at e
            obtain ⟨a, vs, e1, r1, c1⟩ := seq_v hh rx qx
            obtain ⟨a', vs', e2, r2, c2⟩ := seq_v hh ry qy
            subst e1 e2
            cases ru
            cases rt
            by_cases haa : a = a'
            · subst haa
              rw [eqv_same I hh (n + 1) x y (.ref a) b rx ry e0]
              exact SeqAt.EqAt.same _
            · rcases c1 with ⟨k1, c1⟩ | ⟨k1, c1⟩ <;> rcases c2 with ⟨k2, c2⟩ | ⟨k2, c2⟩ <;> subst k1 k2
              · rw [if_pos rfl] at e
                unfold eqSeq at e
                rw [if_neg (fun z => by cases z.1)] at e
                obtain ⟨its, rv, p, _⟩ := I.tuple c1
                obtain ⟨its', rv', p', _⟩ := I.tuple c2
                cases z : eqZ (eqv h n) l m with
                | none => rw [z] at e; cases e
                | some c =>
                  rw [z] at e
                  cases e
                  obtain ⟨ee, z1, z2⟩ := eqZ_map z
                  have q := SeqAt.RcAt.tuples (e := ee) p p' hu0 fun j h1 h2 => by
                    have h1' : j < its.length := by simpa using h1
                    have h2' : j < its'.length := by simpa using h2
                    obtain ⟨x1, v1, f1, f2, f3⟩ := vals_at rv r1 h1'
                    obtain ⟨y1, w1, g1, g2, g3⟩ := vals_at rv' r2 h2'
                    have := eqv_at I hh n A.in1 x1 y1 v1 w1 _ _ _ hu1 f2 g2 f3 g3 (z1 j x1 y1 f1 g1)
                    simpa using this
                  refine SeqAt.EqAt.of_refs haa ?_
                  have n1 : its.toArray.size = l.length := by rw [List.size_toArray, ← rv.length, r1.length]
                  have n2 : its'.toArray.size = m.length := by rw [List.size_toArray, ← rv'.length, r2.length]
                  rw [n1, n2] at q
                  rw [z2]
                  exact q
              · rw [if_neg (by decide)] at e
                cases e
                obtain ⟨its, rv, p, _⟩ := I.tuple c1
                obtain ⟨its', rv', p', _⟩ := I.list c2
                exact SeqAt.EqAt.tuple_list p p'.isList hu0
              · rw [if_neg (by decide)] at e
                cases e
                obtain ⟨its, rv, p, _⟩ := I.list c1
                obtain ⟨its', rv', p', _⟩ := I.tuple c2
                exact SeqAt.EqAt.list_tuple p.isList p' hu0
              · rw [if_pos rfl] at e
                unfold eqSeq at e
                obtain ⟨its, rv, p, _⟩ := I.list c1
                obtain ⟨its', rv', p', _⟩ := I.list c2
                have n1 : its.toArray.size = l.length := by rw [List.size_toArray, ← rv.length, r1.length]
                have n2 : its'.toArray.size = m.length := by rw [List.size_toArray, ← rv'.length, r2.length]
                by_cases hl : l.length = m.length
                · rw [if_neg (fun z => z.2 hl)] at e
                  cases z : eqZ (eqv h n) l m with
                  | none => rw [z] at e; cases e
                  | some c =>
                    rw [z] at e
                    cases e
                    obtain ⟨ee, z1, z2⟩ := eqZ_map z
                    have q := SeqAt.RcAt.lists (e := ee) p.isList p'.isList (by rw [n1, n2, hl]) hu0 fun j h1 h2 => by
                      have h1' : j < its.length := by simpa using h1
                      have h2' : j < its'.length := by simpa using h2
                      obtain ⟨x1, v1, f1, f2, f3⟩ := vals_at rv r1 h1'
                      obtain ⟨y1, w1, g1, g2, g3⟩ := vals_at rv' r2 h2'
                      have := eqv_at I hh n A.in1 x1 y1 v1 w1 _ _ _ hu1 f2 g2 f3 g3 (z1 j x1 y1 f1 g1)
                      simpa using this
                    refine SeqAt.EqAt.of_refs haa ?_
                    rw [n1] at q
                    rw [z2, ← hl, Nat.min_self]
                    simpa using q
                · rw [if_pos ⟨rfl, hl⟩] at e
                  cases e
                  refine SeqAt.EqAt.of_refs haa (SeqAt.RcAt.lists_lengths p.isList p'.isList ?_ hu0)
                  rw [n1, n2]
                  simpa using hl
      · cases qx : seqOf h x with
        | none => rw [qx] at e; cases e
        | some p =>
          obtain ⟨k, l⟩ := p
          rw [qx] at e
          cases e
          obtain ⟨a, vs, e1, r1, c1⟩ := seq_v hh rx qx
          subst e1
          cases ru
          rcases c1 with ⟨_, c1⟩ | ⟨_, c1⟩
          · obtain ⟨its, rv, p, _⟩ := I.tuple c1
            rcases scal_v ry sy with ⟨_, e2⟩ | ⟨_, _, e2⟩ | ⟨_, _, e2⟩ | ⟨_, _, e2⟩ <;> subst e2
            · cases rt; exact SeqAt.EqAt.tuple_none p hu0
            · cases rt; exact SeqAt.EqAt.tuple_bool _ p hu0
            · obtain ⟨tk, rfl⟩ := rt; exact SeqAt.EqAt.tuple_int _ tk p hu0
            · obtain ⟨tk, rfl⟩ := rt; exact SeqAt.EqAt.tuple_str _ tk p hu0
          · obtain ⟨its, rv, p, _⟩ := I.list c1
            rcases scal_v ry sy with ⟨_, e2⟩ | ⟨_, _, e2⟩ | ⟨_, _, e2⟩ | ⟨_, _, e2⟩ <;> subst e2
            · cases rt; exact SeqAt.EqAt.list_none p.isList hu0
            · cases rt; exact SeqAt.EqAt.list_bool _ p.isList hu0
            · obtain ⟨tk, rfl⟩ := rt; exact SeqAt.EqAt.list_int _ tk p.isList hu0
            · obtain ⟨tk, rfl⟩ := rt; exact SeqAt.EqAt.list_str _ tk p.isList hu0
      · cases qx : seqOf h y with
        | none => rw [qx] at e; cases e
        | some p =>
          obtain ⟨k, l⟩ := p
          rw [qx] at e
          cases e
          obtain ⟨a, vs, e1, r1, c1⟩ := seq_v hh ry qx
          subst e1
          cases rt
          rcases c1 with ⟨_, c1⟩ | ⟨_, c1⟩
          · obtain ⟨its, rv, p, _⟩ := I.tuple c1
            rcases scal_v rx sx with ⟨_, e2⟩ | ⟨_, _, e2⟩ | ⟨_, _, e2⟩ | ⟨_, _, e2⟩ <;> subst e2
            · cases ru; exact SeqAt.EqAt.none_tuple p hu0
            · cases ru; exact SeqAt.EqAt.bool_tuple _ p hu0
            · obtain ⟨tk, rfl⟩ := ru; exact SeqAt.EqAt.int_tuple _ tk p hu0
            · obtain ⟨tk, rfl⟩ := ru; exact SeqAt.EqAt.str_tuple _ tk p hu0
          · obtain ⟨its, rv, p, _⟩ := I.list c1
            rcases scal_v rx sx with ⟨_, e2⟩ | ⟨_, _, e2⟩ | ⟨_, _, e2⟩ | ⟨_, _, e2⟩ <;> subst e2
            · cases ru; exact SeqAt.EqAt.none_list p.isList hu0
            · cases ru; exact SeqAt.EqAt.bool_list _ p.isList hu0
            · obtain ⟨tk, rfl⟩ := ru; exact SeqAt.EqAt.int_list _ tk p.isList hu0
            · obtain ⟨tk, rfl⟩ := ru; exact SeqAt.EqAt.str_list _ tk p.isList hu0
      · rcases scal_v rx sx with ⟨e1, e2⟩ | ⟨i, e1, e2⟩ | ⟨i, e1, e2⟩ | ⟨i, e1, e2⟩ <;> rcases scal_v ry sy with ⟨e3, e4⟩ | ⟨j, e3, e4⟩ | ⟨j, e3, e4⟩ | ⟨j, e3, e4⟩ <;> subst e1 e2 e3 e4 <;> cases e
        · cases ru; cases rt; exact SeqAt.EqAt.same _
        · cases ru; cases rt; exact SeqAt.EqAt.none_bool _
        · obtain ⟨tk, rfl⟩ := rt; cases ru; exact SeqAt.EqAt.none_int _ _
        · obtain ⟨tk, rfl⟩ := rt; cases ru; exact SeqAt.EqAt.none_str _ _
        · cases ru; cases rt; exact SeqAt.EqAt.bool_none _
        · cases ru; cases rt; exact SeqAt.EqAt.bool_bool _ _
        · obtain ⟨tk, rfl⟩ := rt; cases ru; exact SeqAt.EqAt.bool_int _ _ _
        · obtain ⟨tk, rfl⟩ := rt; cases ru; exact SeqAt.EqAt.bool_str _ _ _
        · obtain ⟨tk, rfl⟩ := ru; cases rt; exact SeqAt.EqAt.int_none _ _
        · obtain ⟨tk, rfl⟩ := ru; cases rt; exact SeqAt.EqAt.int_bool _ _ _
        · obtain ⟨tk, rfl⟩ := ru; obtain ⟨tk', rfl⟩ := rt; exact SeqAt.EqAt.int_int _ _ _ _
        · obtain ⟨tk, rfl⟩ := ru; obtain ⟨tk', rfl⟩ := rt; exact SeqAt.EqAt.int_str _ _ _ _
        · obtain ⟨tk, rfl⟩ := ru; cases rt; exact SeqAt.EqAt.str_none _ _
        · obtain ⟨tk, rfl⟩ := ru; cases rt; exact SeqAt.EqAt.str_bool _ _ _
        · obtain ⟨tk, rfl⟩ := ru; obtain ⟨tk', rfl⟩ := rt; exact SeqAt.EqAt.str_int _ _ _ _
        · obtain ⟨tk, rfl⟩ := ru; obtain ⟨tk', rfl⟩ := rt; exact SeqAt.EqAt.str_str _ _ _ _

/-! ### the same values give the same answer -/
theorem eqZ_det {f f' : D → D → Option Bool} (hf : ∀ x x' y y' v w b b', RD (gd X) ρ H x v → RD (gd X) ρ H x' v → RD (gd X) ρ H y w → RD (gd X) ρ H y' w → f x y = some b → f' x' y' = some b' → b = b') :
    ∀ {l l' m m' : List D} {vs ws : List V} {b b' : Bool}, RDs (gd X) ρ H l vs → RDs (gd X) ρ H l' vs → RDs (gd X) ρ H m ws → RDs (gd X) ρ H m' ws → eqZ f l m = some b → eqZ f' l' m' = some b' → b = b'
  | [], l', m, m', vs, ws, b, b', h1, h2, h3, h4, e, e' => by
    rw [h1.invNil] at h2
    have : l' = [] := List.eq_nil_of_length_eq_zero h2.length
    subst this
    unfold eqZ at e e'
    cases e
    cases e'
    rfl
  | x :: l, l', [], m', vs, ws, b, b', h1, h2, h3, h4, e, e' => by
    rw [h3.invNil] at h4
    have : m' = [] := List.eq_nil_of_length_eq_zero h4.length
    subst this
    unfold eqZ at e
    cases e
    cases l' <;> (unfold eqZ at e'; cases e'; rfl)
  | x :: l, l', y :: m, m', vs, ws, b, b', h1, h2, h3, h4, e, e' => by
    obtain ⟨v, r, e1, q1, q2⟩ := h1.inv
    obtain ⟨w, r', e2, q3, q4⟩ := h3.inv
    subst e1 e2
    cases l' with
    | nil => exact absurd h2.length (by simp)
    | cons x' l' =>
      cases m' with
      | nil => exact absurd h4.length (by simp)
      | cons y' m' =>
        obtain ⟨v', s', e3, q5, q6⟩ := h2.inv
        obtain ⟨w', t', e4, q7, q8⟩ := h4.inv
        cases e3
        cases e4
        unfold eqZ at e e'
        cases z : f x y with
        | none => rw [z] at e; cases e
        | some a =>
          cases z' : f' x' y' with
          | none => rw [z'] at e'; cases e'
          | some a' =>
            rw [z] at e
            rw [z'] at e'
            dsimp only at e e'
            cases z2 : eqZ f l m with
            | none => rw [z2] at e; cases e
            | some c =>
              cases z3 : eqZ f' l' m' with
              | none => rw [z3] at e'; cases e'
              | some c' =>
                rw [z2] at e
                rw [z3] at e'
                cases e
                cases e'
                rw [hf x x' y y' v w a a' q1 q5 q3 q7 z z', eqZ_det hf q2 q6 q4 q8 z2 z3]
theorem scal_ref {g : Gd} {x : D} {a : Addr} (r : RD g ρ H x (.ref a)) : isScal x = false := by
  cases e : isScal x with
  | false => rfl
  | true => rcases scal_v r e with ⟨_, e2⟩ | ⟨_, _, e2⟩ | ⟨_, _, e2⟩ | ⟨_, _, e2⟩ <;> cases e2
theorem scal_inj {g : Gd} {x x' : D} {v : V} (r : RD g ρ H x v) (r' : RD g ρ H x' v) (e : isScal x = true) (e' : isScal x' = true) : x = x' := by
  rcases scal_v r e with ⟨e1, e2⟩ | ⟨_, e1, e2⟩ | ⟨_, e1, e2⟩ | ⟨_, e1, e2⟩ <;> rcases scal_v r' e' with ⟨e3, e4⟩ | ⟨_, e3, e4⟩ | ⟨_, e3, e4⟩ | ⟨_, e3, e4⟩ <;> subst e1 e2 e3 <;> cases e4 <;> rfl
theorem eqTop_det (I : Inv X pins σ H s) (hh : RH (gd X) ρ H h) {f f' : D → D → Option Bool} (hf : ∀ x x' y y' v w b b', RD (gd X) ρ H x v → RD (gd X) ρ H x' v → RD (gd X) ρ H y w → RD (gd X) ρ H y' w → f x y = some b → f' x' y' = some b' → b = b')
    {x x' y y' : D} {v w : V} {b b' : Bool} (r1 : RD (gd X) ρ H x v) (r2 : RD (gd X) ρ H x' v) (r3 : RD (gd X) ρ H y w) (r4 : RD (gd X) ρ H y' w) (e : eqTop h f x y = some b) (e' : eqTop h f' x' y' = some b') : b = b' := by
  -- a scalar or a sequence, by the value alone
  have kind : ∀ {x : D} {v : V}, RD (gd X) ρ H x v → (isScal x = true) ∨ (isScal x = false ∧ ∀ p, seqOf h x = some p → ∃ a, v = .ref a) := fun {x v} r => by
    cases z : isScal x with
    | true => exact .inl rfl
    | false =>
      refine .inr ⟨rfl, fun p q => ?_⟩
      obtain ⟨k, l⟩ := p
      obtain ⟨a, vs, e1, _⟩ := seq_v hh r q
      exact ⟨a, e1⟩
  unfold eqTop at e e'
  cases sx : isScal x <;> cases sy : isScal y <;> rw [sx, sy] at e <;> dsimp only at e
  · cases qx : seqOf h x with
    | none => rw [qx] at e; cases e
    | some p =>
      cases qy : seqOf h y with
      | none => rw [qx, qy] at e; cases e
      | some p' =>
        obtain ⟨k, l⟩ := p
        obtain ⟨k', m⟩ := p'
        rw [qx, qy] at e
        dsimp only at e
        obtain ⟨a, vs, e1, q1, c1⟩ := seq_v hh r1 qx
        obtain ⟨a', ws, e2, q2, c2⟩ := seq_v hh r3 qy
        subst e1 e2
        rw [scal_ref r2, scal_ref r4] at e'
        dsimp only at e'
        cases qx' : seqOf h x' with
        | none => rw [qx'] at e'; cases e'
        | some p2 =>
          cases qy' : seqOf h y' with
          | none => rw [qx', qy'] at e'; cases e'
          | some p3 =>
            obtain ⟨k2, l2⟩ := p2
            obtain ⟨k3, m2⟩ := p3
            rw [qx', qy'] at e'
            dsimp only at e'
            obtain ⟨a2, vs2, f1, q3, c3⟩ := seq_v hh r2 qx'
            obtain ⟨a3, ws2, f2, q4, c4⟩ := seq_v hh r4 qy'
            cases f1
            cases f2
            obtain ⟨g1, g2⟩ := seq_inj I c1 c3
            obtain ⟨g3, g4⟩ := seq_inj I c2 c4
            subst g1 g2 g3 g4
            by_cases hk : k = k'
            · rw [if_pos hk] at e e'
              unfold eqSeq at e e'
              have n1 : l.length = l2.length := by rw [q1.length, q3.length]
              have n2 : m.length = m2.length := by rw [q2.length, q4.length]
              rw [← n1, ← n2] at e'
              split at e
              · rename_i hc
                rw [if_pos hc] at e'
                cases e
                cases e'
                rfl
              · rename_i hc
                rw [if_neg hc] at e'
                cases z : eqZ f l m with
                | none => rw [z] at e; cases e
                | some c =>
                  cases z' : eqZ f' l2 m2 with
                  | none => rw [z'] at e'; cases e'
                  | some c' =>
                    rw [z] at e
                    rw [z'] at e'
                    cases e
                    cases e'
                    rw [eqZ_det hf q1 q3 q2 q4 z z']
            · rw [if_neg hk] at e e'
              cases e
              cases e'
              rfl
  · cases qx : seqOf h x with
    | none => rw [qx] at e; cases e
    | some p =>
      rw [qx] at e
      cases e
      obtain ⟨a, vs, e1, _⟩ := seq_v hh r1 (show seqOf h x = some (p.1, p.2) from qx)
      subst e1
      rw [scal_ref r2] at e'
      cases sy' : isScal y' with
      | true =>
        rw [sy'] at e'
        dsimp only at e'
        cases qx' : seqOf h x' with
        | none => rw [qx'] at e'; cases e'
        | some p' => rw [qx'] at e'; cases e'; rfl
      | false =>
        rw [sy'] at e'
        dsimp only at e'
        cases qx' : seqOf h x' with
        | none => rw [qx'] at e'; cases e'
        | some p' =>
          cases qy' : seqOf h y' with
          | none => rw [qx', qy'] at e'; cases e'
          | some p2 =>
            obtain ⟨a', vs', e2, _⟩ := seq_v hh r4 (show seqOf h y' = some (p2.1, p2.2) from qy')
            subst e2
            rw [scal_ref r3] at sy
            cases sy
  · cases qy : seqOf h y with
    | none => rw [qy] at e; cases e
    | some p =>
      rw [qy] at e
      cases e
      obtain ⟨a, vs, e1, _⟩ := seq_v hh r3 (show seqOf h y = some (p.1, p.2) from qy)
      subst e1
      rw [scal_ref r4] at e'
      cases sx' : isScal x' with
      | true =>
        rw [sx'] at e'
        dsimp only at e'
        cases qy' : seqOf h y' with
        | none => rw [qy'] at e'; cases e'
        | some p' => rw [qy'] at e'; cases e'; rfl
      | false =>
        rw [sx'] at e'
        dsimp only at e'
        cases qx' : seqOf h x' with
        | none => rw [qx'] at e'; cases e'
        | some p' =>
          obtain ⟨a', vs', e2, _⟩ := seq_v hh r2 (show seqOf h x' = some (p'.1, p'.2) from qx')
          subst e2
          rw [scal_ref r1] at sx
          cases sx
  · cases e
    cases sx' : isScal x' with
    | false =>
      rw [sx'] at e'
      rcases kind r2 with k | ⟨_, k⟩
      · rw [sx'] at k; cases k
      · have nx : ∀ p, seqOf h x' = some p → False := fun p q => by
          obtain ⟨a, e1⟩ := k p q
          subst e1
          rw [scal_ref r1] at sx
          cases sx
        cases qx' : seqOf h x' with
        | some p => exact (nx p qx').elim
        | none => rw [qx'] at e'; cases z : isScal y' <;> (rw [z] at e'; cases e')
    | true =>
      cases sy' : isScal y' with
      | false =>
        rw [sx', sy'] at e'
        rcases kind r4 with k | ⟨_, k⟩
        · rw [sy'] at k; cases k
        · cases qy' : seqOf h y' with
          | none => rw [qy'] at e'; cases e'
          | some p =>
            obtain ⟨a, e1⟩ := k p qy'
            subst e1
            rw [scal_ref r3] at sy
            cases sy
      | true =>
        rw [sx', sy'] at e'
        cases e'
        rw [scal_inj r1 r2 sx sx', scal_inj r3 r4 sy sy']
theorem eqv_det (I : Inv X pins σ H s) (hh : RH (gd X) ρ H h) : ∀ (n n' : Nat) (x x' y y' : D) (v w : V) (b b' : Bool), RD (gd X) ρ H x v → RD (gd X) ρ H x' v → RD (gd X) ρ H y w → RD (gd X) ρ H y' w → eqv h n x y = some b → eqv h n' x' y' = some b' → b = b'
  | 0, _, _, _, _, _, _, _, _, _, _, _, _, _, e, _ => by cases e
  | _, 0, _, _, _, _, _, _, _, _, _, _, _, _, _, e => by cases e
  | n + 1, n' + 1, x, x', y, y', v, w, b, b', r1, r2, r3, r4, e, e' => by
    have s0 := e
    have s1 := e'
    unfold eqv at e e'
    split at e
    · rename_i hi
      cases e
      have := idRef_eq hi
      subst this
      have hv : v = w := by
        cases x <;> first | (cases hi; done) | skip
        obtain ⟨a, e1, e2⟩ := RD_ref r1
        obtain ⟨a', e3, e4⟩ := RD_ref r3
        rw [e1] at e3
        cases e3
        rw [e2, e4]
      subst hv
      exact (eqv_same I hh (n' + 1) x' y' v b' r2 r4 s1).symm
    · split at e'
      · rename_i hi
        cases e'
        have := idRef_eq hi
        subst this
        have hv : v = w := by
          cases x' <;> first | (cases hi; done) | skip
          obtain ⟨a, e1, e2⟩ := RD_ref r2
          obtain ⟨a', e3, e4⟩ := RD_ref r4
          rw [e1] at e3
          cases e3
          rw [e2, e4]
        subst hv
        exact eqv_same I hh (n + 1) x y v b r1 r3 s0
      · exact eqTop_det I hh (fun x x' y y' v w b b' => eqv_det I hh n n' x x' y y' v w b b') r1 r2 r3 r4 e e'
end

/-! ### == and != of two values (data at any depth), in, not in -/
def deep : Nat := 12
def eqT (h : MH) (x y : D) : Option Bool := eqTop h (eqv h deep) x y
def eqF : D → D → MH → R D := fun x y h => match eqT h x y with
  | some b => .ok (.bl b) h
  | none => .bad
def neF : D → D → MH → R D := fun x y h => match eqT h x y with
  | some b => .ok (.bl (!b)) h
  | none => .bad
/-- x in a list or a tuple -/
def anyF (f : D → Option Bool) : List D → Option Bool
  | [] => some false
  | y :: l => (match f y with
    | some a => (match anyF f l with
      | some b => some (a || b)
      | none => none)
    | none => none)
def memT (h : MH) (x y : D) : Option Bool := match seqOf h y with
  | some (_, l) => anyF (fun z => eqv h deep z x) l
  | none => none
/-- a mirror's answer, as an operator's reading -/
def rM (g : Gd) (f : MH → D → D → Option Bool) (neg : Bool) : R2 := fun vx vy H Q => ∃ ρ h x y b, RH g ρ H h ∧ RD g ρ H x vx ∧ RD g ρ H y vy ∧ f h x y = some b ∧ Q (.bl (if neg then !b else b)) H
theorem rf_eq {g : Gd} : RF2 g eqF (rM g eqT false) := fun Wf Q ρ H h x y vx vy hh rx ry p => by
  unfold eqF at p
  split at p
  · rename_i b hb
    exact ⟨ρ, h, x, y, b, hh, rx, ry, hb, p.okk hh (by unfold RD; rfl)⟩
  · exact p.elim
theorem rf_ne {g : Gd} : RF2 g neF (rM g eqT true) := fun Wf Q ρ H h x y vx vy hh rx ry p => by
  unfold neF at p
  split at p
  · rename_i b hb
    exact ⟨ρ, h, x, y, b, hh, rx, ry, hb, p.okk hh (by unfold RD; rfl)⟩
  · exact p.elim
section
variable {X : Cx}
theorem op_eqM (hu : X.A.units + 64 < cLine) : OpR X (compareOp .Eq) (rM (gd X) eqT false) := by
  intro pins s σ H vx vy u t Q I ru rt hq
  obtain ⟨ρ, h, x, y, b, hh, rx, ry, e, q⟩ := hq
  have hu0 : X.A.units < cLine := by omega
  have hu1 : X.A.in1.units + deep < cLine := by show X.A.units + 1 + 12 < cLine; omega
  have fin : EP X pins σ Q (.bool b) s := ⟨.bl b, H, I, rfl, q⟩
  suffices hs : SeqAt.RcAt X.A s u t b from hs X.prog X.w X.xe _ fin
  unfold eqT eqTop at e
  cases sx : isScal x <;> cases sy : isScal y <;> rw [sx, sy] at e <;> dsimp only at e
  · cases qx : seqOf h x with
    | none => rw [qx] at e; cases e
    | some p =>
      cases qy : seqOf h y with
      | none => rw [qx, qy] at e; cases e
      | some p' =>
        obtain ⟨k, l⟩ := p
        obtain ⟨k', m⟩ := p'
        rw [qx, qy] at e
        dsimp only at e
        obtain ⟨a, vs, e1, r1, c1⟩ := seq_v hh rx qx
        obtain ⟨a', vs', e2, r2, c2⟩ := seq_v hh ry qy
        subst e1 e2
        cases ru
        cases rt
        rcases c1 with ⟨k1, c1⟩ | ⟨k1, c1⟩ <;> rcases c2 with ⟨k2, c2⟩ | ⟨k2, c2⟩ <;> subst k1 k2
        · rw [if_pos rfl] at e
          unfold eqSeq at e
          rw [if_neg (fun z => by cases z.1)] at e
          obtain ⟨its, rv, p, _⟩ := I.tuple c1
          obtain ⟨its', rv', p', _⟩ := I.tuple c2
          cases z : eqZ (eqv h deep) l m with
          | none => rw [z] at e; cases e
          | some c =>
            rw [z] at e
            cases e
            obtain ⟨ee, z1, z2⟩ := eqZ_map z
            have q := SeqAt.RcAt.tuples (e := ee) p p' hu0 fun j h1 h2 => by
              have h1' : j < its.length := by simpa using h1
              have h2' : j < its'.length := by simpa using h2
              obtain ⟨x1, v1, f1, f2, f3⟩ := vals_at rv r1 h1'
              obtain ⟨y1, w1, g1, g2, g3⟩ := vals_at rv' r2 h2'
              have := eqv_at I hh deep X.A.in1 x1 y1 v1 w1 _ _ _ hu1 f2 g2 f3 g3 (z1 j x1 y1 f1 g1)
              simpa using this
            have n1 : its.toArray.size = l.length := by rw [List.size_toArray, ← rv.length, r1.length]
            have n2 : its'.toArray.size = m.length := by rw [List.size_toArray, ← rv'.length, r2.length]
            rw [n1, n2] at q
            rw [z2]
            exact q
        · rw [if_neg (by decide)] at e
          cases e
          obtain ⟨its, rv, p, _⟩ := I.tuple c1
          obtain ⟨its', rv', p', _⟩ := I.list c2
          exact SeqAt.RcAt.tuple_list p p'.isList hu0
        · rw [if_neg (by decide)] at e
          cases e
          obtain ⟨its, rv, p, _⟩ := I.list c1
          obtain ⟨its', rv', p', _⟩ := I.tuple c2
          exact SeqAt.RcAt.list_tuple p.isList p' hu0
        · rw [if_pos rfl] at e
          unfold eqSeq at e
          obtain ⟨its, rv, p, _⟩ := I.list c1
          obtain ⟨its', rv', p', _⟩ := I.list c2
          have n1 : its.toArray.size = l.length := by rw [List.size_toArray, ← rv.length, r1.length]
          have n2 : its'.toArray.size = m.length := by rw [List.size_toArray, ← rv'.length, r2.length]
          by_cases hl : l.length = m.length
          · rw [if_neg (fun z => z.2 hl)] at e
            cases z : eqZ (eqv h deep) l m with
            | none => rw [z] at e; cases e
            | some c =>
              rw [z] at e
              cases e
              obtain ⟨ee, z1, z2⟩ := eqZ_map z
              have q := SeqAt.RcAt.lists (e := ee) p.isList p'.isList (by rw [n1, n2, hl]) hu0 fun j h1 h2 => by
                have h1' : j < its.length := by simpa using h1
                have h2' : j < its'.length := by simpa using h2
                obtain ⟨x1, v1, f1, f2, f3⟩ := vals_at rv r1 h1'
                obtain ⟨y1, w1, g1, g2, g3⟩ := vals_at rv' r2 h2'
                have := eqv_at I hh deep X.A.in1 x1 y1 v1 w1 _ _ _ hu1 f2 g2 f3 g3 (z1 j x1 y1 f1 g1)
                simpa using this
              rw [n1] at q
              rw [z2, ← hl, Nat.min_self]
              simpa using q
          · rw [if_pos ⟨rfl, hl⟩] at e
            cases e
            refine SeqAt.RcAt.lists_lengths p.isList p'.isList ?_ hu0
            rw [n1, n2]
            simpa using hl
  · cases qx : seqOf h x with
    | none => rw [qx] at e; cases e
    | some p =>
      obtain ⟨k, l⟩ := p
      rw [qx] at e
      cases e
      obtain ⟨a, vs, e1, r1, c1⟩ := seq_v hh rx qx
      subst e1
      cases ru
      rcases c1 with ⟨_, c1⟩ | ⟨_, c1⟩
      · obtain ⟨its, rv, p, _⟩ := I.tuple c1
        rcases scal_v ry sy with ⟨_, e2⟩ | ⟨_, _, e2⟩ | ⟨_, _, e2⟩ | ⟨_, _, e2⟩ <;> subst e2
        · cases rt; exact SeqAt.RcAt.tuple_none p hu0
        · cases rt; exact SeqAt.RcAt.tuple_bool _ p hu0
        · obtain ⟨tk, rfl⟩ := rt; exact SeqAt.RcAt.tuple_int _ tk p hu0
        · obtain ⟨tk, rfl⟩ := rt; exact SeqAt.RcAt.tuple_str _ tk p hu0
      · obtain ⟨its, rv, p, _⟩ := I.list c1
        rcases scal_v ry sy with ⟨_, e2⟩ | ⟨_, _, e2⟩ | ⟨_, _, e2⟩ | ⟨_, _, e2⟩ <;> subst e2
        · cases rt; exact SeqAt.RcAt.list_none p.isList hu0
        · cases rt; exact SeqAt.RcAt.list_bool _ p.isList hu0
        · obtain ⟨tk, rfl⟩ := rt; exact SeqAt.RcAt.list_int _ tk p.isList hu0
        · obtain ⟨tk, rfl⟩ := rt; exact SeqAt.RcAt.list_str _ tk p.isList hu0
  · cases qx : seqOf h y with
    | none => rw [qx] at e; cases e
    | some p =>
      obtain ⟨k, l⟩ := p
      rw [qx] at e
      cases e
      obtain ⟨a, vs, e1, r1, c1⟩ := seq_v hh ry qx
      subst e1
      cases rt
      rcases c1 with ⟨_, c1⟩ | ⟨_, c1⟩
      · obtain ⟨its, rv, p, _⟩ := I.tuple c1
        rcases scal_v rx sx with ⟨_, e2⟩ | ⟨_, _, e2⟩ | ⟨_, _, e2⟩ | ⟨_, _, e2⟩ <;> subst e2
        · cases ru; exact SeqAt.RcAt.none_tuple p hu0
        · cases ru; exact SeqAt.RcAt.bool_tuple _ p hu0
        · obtain ⟨tk, rfl⟩ := ru; exact SeqAt.RcAt.int_tuple _ tk p hu0
        · obtain ⟨tk, rfl⟩ := ru; exact SeqAt.RcAt.str_tuple _ tk p hu0
      · obtain ⟨its, rv, p, _⟩ := I.list c1
        rcases scal_v rx sx with ⟨_, e2⟩ | ⟨_, _, e2⟩ | ⟨_, _, e2⟩ | ⟨_, _, e2⟩ <;> subst e2
        · cases ru; exact SeqAt.RcAt.none_list p.isList hu0
        · cases ru; exact SeqAt.RcAt.bool_list _ p.isList hu0
        · obtain ⟨tk, rfl⟩ := ru; exact SeqAt.RcAt.int_list _ tk p.isList hu0
        · obtain ⟨tk, rfl⟩ := ru; exact SeqAt.RcAt.str_list _ tk p.isList hu0
  · rcases scal_v rx sx with ⟨e1, e2⟩ | ⟨i, e1, e2⟩ | ⟨i, e1, e2⟩ | ⟨i, e1, e2⟩ <;> rcases scal_v ry sy with ⟨e3, e4⟩ | ⟨j, e3, e4⟩ | ⟨j, e3, e4⟩ | ⟨j, e3, e4⟩ <;> subst e1 e2 e3 e4 <;> cases e
    · cases ru; cases rt; exact SeqAt.RcAt.none_none
    · cases ru; cases rt; exact SeqAt.RcAt.none_bool _
    · obtain ⟨tk, rfl⟩ := rt; cases ru; exact SeqAt.RcAt.none_int _ _
    · obtain ⟨tk, rfl⟩ := rt; cases ru; exact SeqAt.RcAt.none_str _ _
    · cases ru; cases rt; exact SeqAt.RcAt.bool_none _
    · cases ru; cases rt; exact SeqAt.RcAt.bool_bool _ _
    · obtain ⟨tk, rfl⟩ := rt; cases ru; exact SeqAt.RcAt.bool_int _ _ _
    · obtain ⟨tk, rfl⟩ := rt; cases ru; exact SeqAt.RcAt.bool_str _ _ _
    · obtain ⟨tk, rfl⟩ := ru; cases rt; exact SeqAt.RcAt.int_none _ _
    · obtain ⟨tk, rfl⟩ := ru; cases rt; exact SeqAt.RcAt.int_bool _ _ _
    · obtain ⟨tk, rfl⟩ := ru; obtain ⟨tk', rfl⟩ := rt; exact SeqAt.RcAt.int_int _ _ _ _
    · obtain ⟨tk, rfl⟩ := ru; obtain ⟨tk', rfl⟩ := rt; exact SeqAt.RcAt.int_str _ _ _ _
    · obtain ⟨tk, rfl⟩ := ru; cases rt; exact SeqAt.RcAt.str_none _ _
    · obtain ⟨tk, rfl⟩ := ru; cases rt; exact SeqAt.RcAt.str_bool _ _ _
    · obtain ⟨tk, rfl⟩ := ru; obtain ⟨tk', rfl⟩ := rt; exact SeqAt.RcAt.str_int _ _ _ _
    · obtain ⟨tk, rfl⟩ := ru; obtain ⟨tk', rfl⟩ := rt; exact SeqAt.RcAt.str_str _ _ _ _
theorem op_neM (hu : X.A.units + 64 < cLine) : OpR X (compareOp .NotEq) (rM (gd X) eqT true) := by
  intro pins s σ H vx vy u t Q I ru rt hq
  obtain ⟨ρ, h, x, y, b, hh, rx, ry, e, q⟩ := hq
  have hu0 : X.A.units < cLine := by omega
  have hu1 : X.A.in1.units + deep < cLine := by show X.A.units + 1 + 12 < cLine; omega
  have fin : EP X pins σ Q (.bool (!b)) s := ⟨.bl (!b), H, I, rfl, q⟩
  suffices hs : SeqAt.RcNeAt X.A s u t (!b) from hs X.prog X.w X.xe _ fin
  unfold eqT eqTop at e
  cases sx : isScal x <;> cases sy : isScal y <;> rw [sx, sy] at e <;> dsimp only at e
  · cases qx : seqOf h x with
    | none => rw [qx] at e; cases e
    | some p =>
      cases qy : seqOf h y with
      | none => rw [qx, qy] at e; cases e
      | some p' =>
        obtain ⟨k, l⟩ := p
        obtain ⟨k', m⟩ := p'
        rw [qx, qy] at e
        dsimp only at e
        obtain ⟨a, vs, e1, r1, c1⟩ := seq_v hh rx qx
        obtain ⟨a', vs', e2, r2, c2⟩ := seq_v hh ry qy
        subst e1 e2
        cases ru
        cases rt
        rcases c1 with ⟨k1, c1⟩ | ⟨k1, c1⟩ <;> rcases c2 with ⟨k2, c2⟩ | ⟨k2, c2⟩ <;> subst k1 k2
        · rw [if_pos rfl] at e
          unfold eqSeq at e
          rw [if_neg (fun z => by cases z.1)] at e
          obtain ⟨its, rv, p, _⟩ := I.tuple c1
          obtain ⟨its', rv', p', _⟩ := I.tuple c2
          cases z : eqZ (eqv h deep) l m with
          | none => rw [z] at e; cases e
          | some c =>
            rw [z] at e
            cases e
            obtain ⟨ee, z1, z2⟩ := eqZ_map z
            have q := SeqAt.RcNeAt.tuples (e := ee) p p' hu0 fun j h1 h2 => by
              have h1' : j < its.length := by simpa using h1
              have h2' : j < its'.length := by simpa using h2
              obtain ⟨x1, v1, f1, f2, f3⟩ := vals_at rv r1 h1'
              obtain ⟨y1, w1, g1, g2, g3⟩ := vals_at rv' r2 h2'
              have := eqv_at I hh deep X.A.in1 x1 y1 v1 w1 _ _ _ hu1 f2 g2 f3 g3 (z1 j x1 y1 f1 g1)
              simpa using this
            have n1 : its.toArray.size = l.length := by rw [List.size_toArray, ← rv.length, r1.length]
            have n2 : its'.toArray.size = m.length := by rw [List.size_toArray, ← rv'.length, r2.length]
            rw [n1, n2] at q
            rw [z2]
            exact q
        · rw [if_neg (by decide)] at e
          cases e
          obtain ⟨its, rv, p, _⟩ := I.tuple c1
          obtain ⟨its', rv', p', _⟩ := I.list c2
          exact SeqAt.RcNeAt.tuple_list p p'.isList hu0
        · rw [if_neg (by decide)] at e
          cases e
          obtain ⟨its, rv, p, _⟩ := I.list c1
          obtain ⟨its', rv', p', _⟩ := I.tuple c2
          exact SeqAt.RcNeAt.list_tuple p.isList p' hu0
        · rw [if_pos rfl] at e
          unfold eqSeq at e
          obtain ⟨its, rv, p, _⟩ := I.list c1
          obtain ⟨its', rv', p', _⟩ := I.list c2
          have n1 : its.toArray.size = l.length := by rw [List.size_toArray, ← rv.length, r1.length]
          have n2 : its'.toArray.size = m.length := by rw [List.size_toArray, ← rv'.length, r2.length]
          by_cases hl : l.length = m.length
          · rw [if_neg (fun z => z.2 hl)] at e
            cases z : eqZ (eqv h deep) l m with
            | none => rw [z] at e; cases e
            | some c =>
              rw [z] at e
              cases e
              obtain ⟨ee, z1, z2⟩ := eqZ_map z
              have q := SeqAt.RcNeAt.lists (e := ee) p.isList p'.isList (by rw [n1, n2, hl]) hu0 fun j h1 h2 => by
                have h1' : j < its.length := by simpa using h1
                have h2' : j < its'.length := by simpa using h2
                obtain ⟨x1, v1, f1, f2, f3⟩ := vals_at rv r1 h1'
                obtain ⟨y1, w1, g1, g2, g3⟩ := vals_at rv' r2 h2'
                have := eqv_at I hh deep X.A.in1 x1 y1 v1 w1 _ _ _ hu1 f2 g2 f3 g3 (z1 j x1 y1 f1 g1)
                simpa using this
              rw [n1] at q
              rw [z2, ← hl, Nat.min_self]
              simpa using q
          · rw [if_pos ⟨rfl, hl⟩] at e
            cases e
            refine SeqAt.RcNeAt.lists_lengths p.isList p'.isList ?_ hu0
            rw [n1, n2]
            simpa using hl
  · cases qx : seqOf h x with
    | none => rw [qx] at e; cases e
    | some p =>
      obtain ⟨k, l⟩ := p
      rw [qx] at e
      cases e
      obtain ⟨a, vs, e1, r1, c1⟩ := seq_v hh rx qx
      subst e1
      cases ru
      rcases c1 with ⟨_, c1⟩ | ⟨_, c1⟩
      · obtain ⟨its, rv, p, _⟩ := I.tuple c1
        rcases scal_v ry sy with ⟨_, e2⟩ | ⟨_, _, e2⟩ | ⟨_, _, e2⟩ | ⟨_, _, e2⟩ <;> subst e2
        · cases rt; exact SeqAt.RcNeAt.tuple_none p hu0
        · cases rt; exact SeqAt.RcNeAt.tuple_bool _ p hu0
        · obtain ⟨tk, rfl⟩ := rt; exact SeqAt.RcNeAt.tuple_int _ tk p hu0
        · obtain ⟨tk, rfl⟩ := rt; exact SeqAt.RcNeAt.tuple_str _ tk p hu0
      · obtain ⟨its, rv, p, _⟩ := I.list c1
        rcases scal_v ry sy with ⟨_, e2⟩ | ⟨_, _, e2⟩ | ⟨_, _, e2⟩ | ⟨_, _, e2⟩ <;> subst e2
        · cases rt; exact SeqAt.RcNeAt.list_none p.isList hu0
        · cases rt; exact SeqAt.RcNeAt.list_bool _ p.isList hu0
        · obtain ⟨tk, rfl⟩ := rt; exact SeqAt.RcNeAt.list_int _ tk p.isList hu0
        · obtain ⟨tk, rfl⟩ := rt; exact SeqAt.RcNeAt.list_str _ tk p.isList hu0
  · cases qx : seqOf h y with
    | none => rw [qx] at e; cases e
    | some p =>
      obtain ⟨k, l⟩ := p
      rw [qx] at e
      cases e
      obtain ⟨a, vs, e1, r1, c1⟩ := seq_v hh ry qx
      subst e1
      cases rt
      rcases c1 with ⟨_, c1⟩ | ⟨_, c1⟩
      · obtain ⟨its, rv, p, _⟩ := I.tuple c1
        rcases scal_v rx sx with ⟨_, e2⟩ | ⟨_, _, e2⟩ | ⟨_, _, e2⟩ | ⟨_, _, e2⟩ <;> subst e2
        · cases ru; exact SeqAt.RcNeAt.none_tuple p hu0
        · cases ru; exact SeqAt.RcNeAt.bool_tuple _ p hu0
        · obtain ⟨tk, rfl⟩ := ru; exact SeqAt.RcNeAt.int_tuple _ tk p hu0
        · obtain ⟨tk, rfl⟩ := ru; exact SeqAt.RcNeAt.str_tuple _ tk p hu0
      · obtain ⟨its, rv, p, _⟩ := I.list c1
        rcases scal_v rx sx with ⟨_, e2⟩ | ⟨_, _, e2⟩ | ⟨_, _, e2⟩ | ⟨_, _, e2⟩ <;> subst e2
        · cases ru; exact SeqAt.RcNeAt.none_list p.isList hu0
        · cases ru; exact SeqAt.RcNeAt.bool_list _ p.isList hu0
        · obtain ⟨tk, rfl⟩ := ru; exact SeqAt.RcNeAt.int_list _ tk p.isList hu0
        · obtain ⟨tk, rfl⟩ := ru; exact SeqAt.RcNeAt.str_list _ tk p.isList hu0
  · rcases scal_v rx sx with ⟨e1, e2⟩ | ⟨i, e1, e2⟩ | ⟨i, e1, e2⟩ | ⟨i, e1, e2⟩ <;> rcases scal_v ry sy with ⟨e3, e4⟩ | ⟨j, e3, e4⟩ | ⟨j, e3, e4⟩ | ⟨j, e3, e4⟩ <;> subst e1 e2 e3 e4 <;> cases e
    · cases ru; cases rt; exact SeqAt.RcNeAt.none_none
    · cases ru; cases rt; exact SeqAt.RcNeAt.none_bool _
    · obtain ⟨tk, rfl⟩ := rt; cases ru; exact SeqAt.RcNeAt.none_int _ _
    · obtain ⟨tk, rfl⟩ := rt; cases ru; exact SeqAt.RcNeAt.none_str _ _
    · cases ru; cases rt; exact SeqAt.RcNeAt.bool_none _
    · cases ru; cases rt; exact SeqAt.RcNeAt.bool_bool _ _
    · obtain ⟨tk, rfl⟩ := rt; cases ru; exact SeqAt.RcNeAt.bool_int _ _ _
    · obtain ⟨tk, rfl⟩ := rt; cases ru; exact SeqAt.RcNeAt.bool_str _ _ _
    · obtain ⟨tk, rfl⟩ := ru; cases rt; exact SeqAt.RcNeAt.int_none _ _
    · obtain ⟨tk, rfl⟩ := ru; cases rt; exact SeqAt.RcNeAt.int_bool _ _ _
    · obtain ⟨tk, rfl⟩ := ru; obtain ⟨tk', rfl⟩ := rt; exact SeqAt.RcNeAt.int_int _ _ _ _
    · obtain ⟨tk, rfl⟩ := ru; obtain ⟨tk', rfl⟩ := rt; exact SeqAt.RcNeAt.int_str _ _ _ _
    · obtain ⟨tk, rfl⟩ := ru; cases rt; exact SeqAt.RcNeAt.str_none _ _
    · obtain ⟨tk, rfl⟩ := ru; cases rt; exact SeqAt.RcNeAt.str_bool _ _ _
    · obtain ⟨tk, rfl⟩ := ru; obtain ⟨tk', rfl⟩ := rt; exact SeqAt.RcNeAt.str_int _ _ _ _
    · obtain ⟨tk, rfl⟩ := ru; obtain ⟨tk', rfl⟩ := rt; exact SeqAt.RcNeAt.str_str _ _ _ _
end
end ML

/-! ML 6: arithmetic, order, in, is None, built-in calls, items, slices, methods of lists -/
namespace ML
open PySem PySem.Spec PyProof.Rows L2

/-! ### + - * // % ** -/
def lstOf (h : MH) : D → Option (List D)
  | .ref n => (match h[n]? with
    | some (.lst l) => some l
    | _ => none)
  | _ => none
def addF : D → D → MH → R D := fun x y h => match x, y with
  | .int i, .int j => .ok (.int (i + j)) h
  | .str a, .str b => if a.length + b.length ≤ 1000000 then .ok (.str (a ++ b)) h else .bad
  | .tup l, .tup m => if l.length + m.length ≤ 1000000 then .ok (.tup (l ++ m)) h else .bad
  | .ref a, .ref b => (match lstOf h (.ref a), lstOf h (.ref b) with
    | some l, some m => if l.length + m.length ≤ 1000000 then .ok (.ref h.length) (h ++ [.lst (l ++ m)]) else .bad
    | _, _ => .bad)
  | _, _ => .bad
def subF : D → D → MH → R D := fun x y h => match x, y with
  | .int i, .int j => .ok (.int (i - j)) h
  | _, _ => .bad
def mulF : D → D → MH → R D := fun x y h => match x, y with
  | .int i, .int j => if i.natAbs.log2 + j.natAbs.log2 < 100000000 then .ok (.int (i * j)) h else .bad
  | .ref a, .int k => (match lstOf h (.ref a) with
    | some l => if -1000 ≤ k ∧ k ≤ 1000 ∧ l.length ≤ 1000 then .ok (.ref h.length) (h ++ [.lst (List.replicate k.toNat l).flatten]) else .bad
    | none => .bad)
  | _, _ => .bad
def modF : D → D → MH → R D := fun x y h => match x, y with
  | .int i, .int j => if 0 < j then .ok (.int (i % j)) h else .bad
  | _, _ => .bad
def fdivF : D → D → MH → R D := fun x y h => match x, y with
  | .int i, .int j => if 0 < j ∧ j.natAbs.log2 < 9000 then .ok (.int (i / j)) h else .bad
  | _, _ => .bad
def powF : D → D → MH → R D := fun x y h => match x, y with
  | .int i, .int j => if 0 ≤ j ∧ ((i.natAbs.log2 + 1 : Nat) : Int) * j ≤ 2 ^ 27 then .ok (.int (i ^ j.toNat)) h else .bad
  | _, _ => .bad
section
variable {X : Cx} {g : Gd} {ρ : List Addr} {H : Hp} {h : MH}
theorem OpR.or3 {f : Value → Value → Sem Value} {r r' : R2} (h : OpR X f r) (h' : OpR X f r') : OpR X f (fun x y H Q => r x y H Q ∨ r' x y H Q) := OpR.or h h'
theorem lst_v (hh : RH g ρ H h) {x : D} {v : V} {l : List D} (r : RD g ρ H x v) (e : lstOf h x = some l) : ∃ n a vs, x = .ref n ∧ h[n]? = some (.lst l) ∧ ρ[n]? = some a ∧ v = .ref a ∧ H a = some (.lst vs) ∧ RDs g ρ H l vs := by
  cases x <;> first | (cases e; done) | skip
  rename_i n
  obtain ⟨a, e1, e2⟩ := RD_ref r
  unfold lstOf at e
  dsimp only at e
  split at e
  · rename_i m hm
    cases e
    obtain ⟨vs, e3, rs⟩ := hh.obj n _ a hm e1
    exact ⟨n, a, vs, rfl, hm, e1, e2, e3, rs⟩
  · cases e
def rAddM (K : PySem.W.Frag) : R2 := fun x y H Q => (rI0 fun i j => .int (i + j)) x y H Q ∨ (∃ i j, x = .str i ∧ y = .str j ∧ i.length + j.length ≤ sizeLine ∧ Q (.str (i ++ j)) H) ∨ rCatA K x y H Q ∨ rCat x y H Q
theorem op_addM : OpR X (binaryOp .Add) (rAddM X.K) := OpR.or op_add (OpR.or op_add_str (OpR.or op_catA op_cat))
theorem RD.tupN {l : List D} {a : Addr} {vs : List V} (sq : SqT g.K H a vs) (r : RDs g ρ H l vs) : RD g ρ H (.tup l) (.ref a) := by unfold RD; exact ⟨a, vs, rfl, sq, r⟩
theorem RD.intN {i : Int} : RD g ρ H (.int i) (.int i) := by unfold RD; rfl
theorem RD.strN {i : Str} : RD g ρ H (.str i) (.str i) := by unfold RD; rfl
theorem RD.blN {i : Bool} : RD g ρ H (.bl i) (.bl i) := by unfold RD; rfl
theorem RD.nonN : RD g ρ H .non .non := by unfold RD; rfl
/-- a new tuple -/
theorem Post.newTup {Wf : XK} {Q : VK} {l : List D} {vs : List V} {q : Addr} (p : Post g (RD g) Wf ρ H (.ok (.tup l) h) Q) (hh : RH g ρ H h) (hq : H q = none) (r : RDs g ρ H l vs) : Q (.ref q) (L2.upd H q (.tup vs)) := by
  have l1 := Lat.upd (g := g) (ρ := ρ) (u := .tup vs) (Soft.none hq)
  exact p ρ _ _ l1 (hh.upd hq) (.tupN (.of upd_same) (l1.rds l r))
/-- a new list -/
theorem Post.newLst {Wf : XK} {Q : VK} {l : List D} {vs : List V} {q : Addr} (p : Post g (RD g) Wf ρ H (.ok (.ref h.length) (h ++ [.lst l])) Q) (hh : RH g ρ H h) (hq : H q = none) (r : RDs g ρ H l vs) : Q (.ref q) (L2.upd H q (.lst vs)) := by
  obtain ⟨l1, l2, l3⟩ := hh.newLst hq r
  exact p _ _ _ l1 l2 l3
theorem rf_add : RF2 (gd X) addF (rAddM X.K) := fun Wf Q ρ H h x y vx vy hh rx ry p => by
  unfold addF at p
  split at p
  · exact .inl ⟨_, _, RD_int rx, RD_int ry, p.okk hh .intN⟩
  · split at p
    · rename_i hl
      exact .inr (.inl ⟨_, _, RD_str rx, RD_str ry, big_le hl, p.okk hh .strN⟩)
    · exact p.elim
  · split at p
    · rename_i l m hl
      obtain ⟨a, vs, e1, s1, r1⟩ := RD_tup rx
      obtain ⟨b, ws, e2, s2, r2⟩ := RD_tup ry
      refine .inr (.inr (.inl ⟨a, b, vs, ws, e1, e2, s1, s2, big_le (by rw [← r1.length, ← r2.length]; exact hl), fun z => ?_, fun _ z => ?_, fun _ _ q hq => p.newTup hh hq (r1.append r2)⟩))
      · subst z
        have : l = [] := List.eq_nil_of_length_eq_zero r1.length
        subst this
        exact p.okk hh (.tupN s2 r2)
      · subst z
        have : m = [] := List.eq_nil_of_length_eq_zero r2.length
        subst this
        rw [List.append_nil] at p
        exact p.okk hh (.tupN s1 r1)
    · exact p.elim
  · split at p
    · rename_i l m hl hm
      split at p
      · rename_i hz
        obtain ⟨n, a, vs, _, _, _, e1, e2, r1⟩ := lst_v hh rx hl
        obtain ⟨n', b, ws, _, _, _, e3, e4, r2⟩ := lst_v hh ry hm
        exact .inr (.inr (.inr ⟨a, b, vs, ws, e1, e3, e2, e4, big_le (by rw [← r1.length, ← r2.length]; exact hz), fun q hq => p.newLst hh hq (r1.append r2)⟩))
      · exact p.elim
    · exact p.elim
  · exact p.elim
theorem rf_sub : RF2 (gd X) subF (rI0 fun i j => .int (i - j)) := fun Wf Q ρ H h x y vx vy hh rx ry p => by
  unfold subF at p
  split at p
  · exact ⟨_, _, RD_int rx, RD_int ry, p.okk hh .intN⟩
  · exact p.elim
def CMulM (i j : Int) : Prop := i.natAbs.log2 + j.natAbs.log2 < 100000000
theorem CMulM.ok {i j : Int} (c : CMulM i j) : IntMulOk i j := fun z => by
  have bits : ∀ x : Int, Builtin.Int.intBits x ≤ x.natAbs.log2 + 1 := fun x => by unfold Builtin.Int.intBits; split <;> omega
  have b1 := bits i
  have b2 := bits j
  have c' : i.natAbs.log2 + j.natAbs.log2 < 100000000 := c
  have line : bitsLine = 134217728 := by decide
  have z2 := (Bool.and_eq_true_iff.mp z).2
  unfold Builtin.Int.intTooBig at z2
  have z3 := of_decide_eq_true z2
  rw [line] at z3
  omega
theorem op_mulM : OpR X (binaryOp .Mult) (rI CMulM fun i j => .int (i * j)) := opI fun _ _ _ _ _ _ _ c q => mul_int q c.ok
theorem rf_mul : RF2 (gd X) mulF (fun x y H Q => (rI CMulM fun i j => .int (i * j)) x y H Q ∨ rRep x y H Q) := fun Wf Q ρ H h x y vx vy hh rx ry p => by
  unfold mulF at p
  split at p
  · split at p
    · rename_i c
      exact .inl ⟨_, _, RD_int rx, RD_int ry, c, p.okk hh .intN⟩
    · exact p.elim
  · rename_i ra k
    split at p
    · rename_i l hl
      split at p
      · rename_i hk
        obtain ⟨n, a, vs, _, _, _, e1, e2, r1⟩ := lst_v hh rx hl
        obtain ⟨k1, k2, k3⟩ := hk
        have kn : k.toNat ≤ 1000 := by omega
        have sz : vs.length * k.toNat ≤ 1000 * 1000 := Nat.mul_le_mul (by rw [← r1.length]; exact k3) kn
        refine .inr ⟨a, k, vs, e1, RD_int ry, e2, by omega, by omega, big_le sz, fun q hq => p.newLst hh hq ?_⟩
        generalize k.toNat = j
        induction j with
        | zero => exact .nil
        | succ j ih =>
          rw [List.replicate_succ, List.replicate_succ, List.flatten_cons, List.flatten_cons]
          exact r1.append ih
      · exact p.elim
    · exact p.elim
  · exact p.elim
theorem rf_mod : RF2 (gd X) modF (rI (fun _ j => 0 < j) fun i j => .int (i % j)) := fun Wf Q ρ H h x y vx vy hh rx ry p => by
  unfold modF at p
  split at p
  · split at p
    · rename_i c
      exact ⟨_, _, RD_int rx, RD_int ry, c, p.okk hh .intN⟩
    · exact p.elim
  · exact p.elim
theorem rf_fdiv : RF2 (gd X) fdivF (rI CDivW fun i j => .int (i / j)) := fun Wf Q ρ H h x y vx vy hh rx ry p => by
  unfold fdivF at p
  split at p
  · split at p
    · rename_i c
      exact ⟨_, _, RD_int rx, RD_int ry, c, p.okk hh .intN⟩
    · exact p.elim
  · exact p.elim
def CPowM (i j : Int) : Prop := 0 ≤ j ∧ ((i.natAbs.log2 + 1 : Nat) : Int) * j ≤ 2 ^ 27
theorem op_powM : OpR X (binaryOp .Pow) (rI CPowM fun i j => .int (i ^ j.toNat)) := opI fun i j _ _ _ _ _ c q => by
  refine pow_int c.1 ?_ q
  have b : Builtin.Int.intBits i ≤ i.natAbs.log2 + 1 := by unfold Builtin.Int.intBits; split <;> omega
  have c2 : ((i.natAbs.log2 + 1 : Nat) : Int) * j ≤ 2 ^ 27 := c.2
  exact Int.le_trans (Int.mul_le_mul_of_nonneg_right (by omega) c.1) c2
theorem rf_pow : RF2 (gd X) powF (rI CPowM fun i j => .int (i ^ j.toNat)) := fun Wf Q ρ H h x y vx vy hh rx ry p => by
  unfold powF at p
  split at p
  · split at p
    · rename_i c
      exact ⟨_, _, RD_int rx, RD_int ry, c, p.okk hh .intN⟩
    · exact p.elim
  · exact p.elim
end

/-! ### order, in, is None -/
def ordF (fi : Int → Int → Bool) (fs : List Nat → List Nat → Bool) : D → D → MH → R D := fun x y h => match x, y with
  | .int i, .int j => .ok (.bl (fi i j)) h
  | .str a, .str b => .ok (.bl (fs a.cps.toList b.cps.toList)) h
  | _, _ => .bad
def ltF := ordF (fun i j => decide (i < j)) fun a b => decide (a < b)
def leF := ordF (fun i j => decide (i ≤ j)) fun a b => !decide (b < a)
def gtF := ordF (fun i j => decide (j < i)) fun a b => decide (b < a)
def geF := ordF (fun i j => decide (j ≤ i)) fun a b => !decide (a < b)
def keyOf : D → Option Key
  | .int i => some (.inl i)
  | .str s => some (.inr s)
  | _ => none
def dctOf (h : MH) : D → Option (List (Key × D))
  | .ref n => (match h[n]? with
    | some (.dct l) => some l
    | _ => none)
  | _ => none
def findK (l : List (Key × D)) (k : Key) : Option D := (l.find? fun kv => decide (kv.1 = k)).map (·.2)
/-- a text of one sign in a text; a text in a text; a thing in a list or tuple; a key in a dict -/
def inT (h : MH) (x y : D) : Option Bool := match y with
  | .str b => (match x with
    | .str a => some (match a.cps.toList with
      | [c] => decide (c ∈ b.cps.toList)
      | _ => !(Builtin.Str.occurrences b a 0 b.length 1).isEmpty)
    | _ => none)
  | _ => (match dctOf h y with
    | some l => (match keyOf x with
      | some k => some (findK l k).isSome
      | none => none)
    | none => memT h x y)
def inF : D → D → MH → R D := fun x y h => match inT h x y with
  | some b => .ok (.bl b) h
  | none => .bad
def ninF : D → D → MH → R D := fun x y h => match inT h x y with
  | some b => .ok (.bl (!b)) h
  | none => .bad
def isNF : D → D → MH → R D := fun x y h => match x, y with
  | .non, .non => .ok (.bl true) h
  | _, .non => .ok (.bl false) h
  | _, _ => .bad
def isntNF : D → D → MH → R D := fun x y h => match x, y with
  | .non, .non => .ok (.bl false) h
  | _, .non => .ok (.bl true) h
  | _, _ => .bad
section
variable {X : Cx} {g : Gd} {ρ : List Addr} {H : Hp} {h : MH}
theorem rf_ord {fi : Int → Int → Bool} {fs : List Nat → List Nat → Bool} {r1 r2 : R2} (h1 : ∀ i j H Q, Q (.bl (fi i j)) H → r1 (.int i) (.int j) H Q) (h2 : ∀ (i j : Str) H Q, Q (.bl (fs i.cps.toList j.cps.toList)) H → r2 (.str i) (.str j) H Q) :
    RF2 (gd X) (ordF fi fs) (fun x y H Q => r1 x y H Q ∨ r2 x y H Q) := fun Wf Q ρ H h x y vx vy hh rx ry p => by
  unfold ordF at p
  split at p
  · rw [RD_int rx, RD_int ry]
    exact .inl (h1 _ _ _ _ (p.okk hh .blN))
  · rw [RD_str rx, RD_str ry]
    exact .inr (h2 _ _ _ _ (p.okk hh .blN))
  · exact p.elim
theorem op_ltM : OpR X (compareOp .Lt) (fun x y H Q => (rI0 fun i j => .bl (decide (i < j))) x y H Q ∨ ∃ i j, x = .str i ∧ y = .str j ∧ Q (.bl (decide (i.cps.toList < j.cps.toList))) H) := OpR.or op_lt op_lt_str
theorem op_leM : OpR X (compareOp .LtE) (fun x y H Q => (rI0 fun i j => .bl (decide (i ≤ j))) x y H Q ∨ ∃ i j, x = .str i ∧ y = .str j ∧ Q (.bl (!decide (j.cps.toList < i.cps.toList))) H) := OpR.or op_le op_le_str
theorem op_gtM : OpR X (compareOp .Gt) (fun x y H Q => (rI0 fun i j => .bl (decide (j < i))) x y H Q ∨ ∃ i j, x = .str i ∧ y = .str j ∧ Q (.bl (decide (j.cps.toList < i.cps.toList))) H) := OpR.or op_gt op_gt_str
theorem op_geM : OpR X (compareOp .GtE) (fun x y H Q => (rI0 fun i j => .bl (decide (j ≤ i))) x y H Q ∨ ∃ i j, x = .str i ∧ y = .str j ∧ Q (.bl (!decide (i.cps.toList < j.cps.toList))) H) := OpR.or op_ge op_ge_str
theorem rf_lt : RF2 (gd X) ltF (fun x y H Q => (rI0 fun i j => .bl (decide (i < j))) x y H Q ∨ ∃ i j, x = .str i ∧ y = .str j ∧ Q (.bl (decide (i.cps.toList < j.cps.toList))) H) := rf_ord (fun i j H Q q => ⟨i, j, rfl, rfl, q⟩) fun i j H Q q => ⟨i, j, rfl, rfl, q⟩
theorem rf_le : RF2 (gd X) leF (fun x y H Q => (rI0 fun i j => .bl (decide (i ≤ j))) x y H Q ∨ ∃ i j, x = .str i ∧ y = .str j ∧ Q (.bl (!decide (j.cps.toList < i.cps.toList))) H) := rf_ord (fun i j H Q q => ⟨i, j, rfl, rfl, q⟩) fun i j H Q q => ⟨i, j, rfl, rfl, q⟩
theorem rf_gt : RF2 (gd X) gtF (fun x y H Q => (rI0 fun i j => .bl (decide (j < i))) x y H Q ∨ ∃ i j, x = .str i ∧ y = .str j ∧ Q (.bl (decide (j.cps.toList < i.cps.toList))) H) := rf_ord (fun i j H Q q => ⟨i, j, rfl, rfl, q⟩) fun i j H Q q => ⟨i, j, rfl, rfl, q⟩
theorem rf_ge : RF2 (gd X) geF (fun x y H Q => (rI0 fun i j => .bl (decide (j ≤ i))) x y H Q ∨ ∃ i j, x = .str i ∧ y = .str j ∧ Q (.bl (!decide (i.cps.toList < j.cps.toList))) H) := rf_ord (fun i j H Q q => ⟨i, j, rfl, rfl, q⟩) fun i j H Q q => ⟨i, j, rfl, rfl, q⟩
theorem rf_in : RF2 g inF (rM g inT false) := fun Wf Q ρ H h x y vx vy hh rx ry p => by
  unfold inF at p
  split at p
  · rename_i b hb
    exact ⟨ρ, h, x, y, b, hh, rx, ry, hb, p.okk hh .blN⟩
  · exact p.elim
theorem rf_nin : RF2 g ninF (rM g inT true) := fun Wf Q ρ H h x y vx vy hh rx ry p => by
  unfold ninF at p
  split at p
  · rename_i b hb
    exact ⟨ρ, h, x, y, b, hh, rx, ry, hb, p.okk hh .blN⟩
  · exact p.elim
theorem keyOf_v {x : D} {v : V} {k : Key} (r : RD g ρ H x v) (e : keyOf x = some k) : v = kV k := by
  cases x <;> first | (cases e; done) | skip
  · cases e; exact RD_int r
  · cases e; exact RD_str r
theorem dct_v (hh : RH g ρ H h) {x : D} {v : V} {l : List (Key × D)} (r : RD g ρ H x v) (e : dctOf h x = some l) : ∃ n a ws, x = .ref n ∧ h[n]? = some (.dct l) ∧ ρ[n]? = some a ∧ v = .ref a ∧ H a = some (.dK ws) ∧ RP g ρ H l ws := by
  cases x <;> first | (cases e; done) | skip
  rename_i n
  obtain ⟨a, e1, e2⟩ := RD_ref r
  unfold dctOf at e
  dsimp only at e
  split at e
  · rename_i m hm
    cases e
    obtain ⟨ws, e3, rs⟩ := hh.obj n _ a hm e1
    exact ⟨n, a, ws, rfl, hm, e1, e2, e3, rs⟩
  · cases e
theorem RP.find {k : Key} : ∀ {l : List (Key × D)} {ws : List (Key × V)}, RP g ρ H l ws → (∃ d v, findK l k = some d ∧ valV ws k = some v ∧ RD g ρ H d v) ∨ (findK l k = none ∧ valV ws k = none)
  | [], ws, q => .inr ⟨rfl, by have q' : ws = [] := q; subst q'; rfl⟩
  | (f, d) :: l, ws, q => by
    obtain ⟨v, r, e, q1, q2⟩ := q
    subst e
    by_cases hf : f = k
    · exact .inl ⟨d, v, by unfold findK; simp [List.find?_cons, hf], valV_pos (p := (f, v)) hf, q1⟩
    · rw [valV_neg (p := (f, v)) hf, show findK ((f, d) :: l) k = findK l k by unfold findK; simp [List.find?_cons, hf]]
      exact RP.find q2
theorem anyF_map {f : D → Option Bool} : ∀ {l : List D} {b : Bool}, anyF f l = some b → (∀ (j : Nat) x, l[j]? = some x → ∃ c, f x = some c) ∧ (b = true ↔ ∃ (j : Nat) (x : D), l[j]? = some x ∧ f x = some true)
  | [], b, e => by
    unfold anyF at e
    cases e
    exact ⟨fun j x h => by simp at h, by simp⟩
  | y :: l, b, e => by
    unfold anyF at e
    cases q : f y with
    | none => rw [q] at e; cases e
    | some a =>
      rw [q] at e
      dsimp only at e
      cases q2 : anyF f l with
      | none => rw [q2] at e; cases e
      | some c =>
        rw [q2] at e
        cases e
        obtain ⟨h1, h2⟩ := anyF_map q2
        refine ⟨fun j x hj => ?_, ?_⟩
        · cases j with
          | zero => simp at hj; subst hj; exact ⟨a, q⟩
          | succ j => exact h1 j x (by simpa using hj)
        · constructor
          · intro z
            rcases Bool.or_eq_true_iff.mp z with z | z
            · subst z; exact ⟨0, y, rfl, q⟩
            · obtain ⟨j, x, e1, e2⟩ := h2.mp z
              exact ⟨j + 1, x, by simpa using e1, e2⟩
          · rintro ⟨j, x, e1, e2⟩
            cases j with
            | zero =>
              simp at e1
              subst e1
              rw [q] at e2
              cases e2
              rfl
            | succ j => rw [h2.mpr ⟨j, x, by simpa using e1, e2⟩, Bool.or_true]
end
section
variable {X : Cx}
/-- the answer for the items' values, and that it is the answer for each of them -/
theorem mem_vals {pins : List (Addr × Obj)} {σ : L2.St} {H : Hp} {s : Shared} {ρ : List Addr} {h : MH} (I : Inv X pins σ H s) (hh : RH (gd X) ρ H h) {A : Around} (hu : A.units + deep < cLine) {x : D} {v : V} {t : Value} (rx : RD (gd X) ρ H x v) (rt : RelV v t)
    {l : List D} {vs : List V} {its : List Value} {b : Bool} (rs : RDs (gd X) ρ H l vs) (ri : Vals vs its) (e : anyF (fun z => eqv h deep z x) l = some b) : ∃ f : Value → Bool, (∀ w, w ∈ its → SeqAt.EqAt A s w t (f w)) ∧ its.any f = b := by
  classical
  obtain ⟨h1, h2⟩ := anyF_map e
  have at_ : ∀ {w : Value}, w ∈ its → ∃ (j : Nat) (y : D) (u : V), l[j]? = some y ∧ RD (gd X) ρ H y u ∧ RelV u w := fun {w} hw => by
    obtain ⟨j, hj, ej⟩ := List.getElem_of_mem hw
    obtain ⟨y, u, e1, e2, e3⟩ := vals_at ri rs hj
    exact ⟨j, y, u, e1, e2, by rw [← ej]; exact e3⟩
  refine ⟨fun w => decide (∃ (j : Nat) (y : D) (u : V), l[j]? = some y ∧ RD (gd X) ρ H y u ∧ RelV u w ∧ eqv h deep y x = some true), fun w hw => ?_, ?_⟩
  · obtain ⟨j, y, u, e1, e2, e3⟩ := at_ hw
    obtain ⟨c, ec⟩ := h1 j y e1
    have q := eqv_at I hh deep A y x u v w t c hu e2 rx e3 rt ec
    suffices hc : decide (∃ (j : Nat) (y : D) (u : V), l[j]? = some y ∧ RD (gd X) ρ H y u ∧ RelV u w ∧ eqv h deep y x = some true) = c by show SeqAt.EqAt A s w t (decide _); rw [hc]; exact q
    cases c with
    | true => exact decide_eq_true ⟨j, y, u, e1, e2, e3, ec⟩
    | false =>
      refine decide_eq_false ?_
      rintro ⟨j', y', u', f1, f2, f3, f4⟩
      have : u' = u := f3.inj e3
      subst this
      have := eqv_det I hh deep deep y y' x x u' v false true e2 f2 rx rx ec f4
      cases this
  · rw [Bool.eq_iff_iff, List.any_eq_true, h2]
    constructor
    · rintro ⟨w, hw, z⟩
      obtain ⟨j, y, u, f1, f2, f3, f4⟩ := of_decide_eq_true z
      exact ⟨j, y, f1, f4⟩
    · rintro ⟨j, y, f1, f4⟩
      obtain ⟨u, g1, g2⟩ := rs.get f1
      obtain ⟨w, g3, g4⟩ := ri.get g1
      exact ⟨w, List.mem_of_getElem? g3, decide_eq_true ⟨j, y, u, f1, g2, g4, f4⟩⟩
theorem op_inM (hu : X.A.units + 64 < cLine) : OpR X (compareOp .In) (rM (gd X) inT false) := by
  intro pins s σ H vx vy u t Q I ru rt hq
  obtain ⟨ρ, h, x, y, b, hh, rx, ry, e, q⟩ := hq
  have fin : ∀ {s' : Shared}, Inv X pins σ H s' → EP X pins σ Q (.bool b) s' := fun I' => ⟨.bl b, H, I', rfl, q⟩
  have hu1 : X.A.in1.units + deep < cLine := by show X.A.units + 1 + 12 < cLine; omega
  unfold inT at e
  split at e
  · rename_i z
    cases x <;> first | (cases e; done) | skip
    rename_i a
    rw [RD_str ry] at rt
    rw [RD_str rx] at ru
    simp only [Option.some.injEq] at e
    split at e
    · rename_i c hc
      have ha : a = ⟨#[c]⟩ := by
        obtain ⟨arr⟩ := a
        have : arr = #[c] := by
          apply Array.ext'
          simpa using hc
        rw [this]
      subst ha
      refine op_in_sign pins s σ H _ _ u t Q I ru rt ⟨c, z, rfl, rfl, ?_⟩
      rw [e]
      exact q
    · refine op_in_str pins s σ H _ _ u t Q I ru rt ⟨a, z, rfl, rfl, ?_⟩
      rw [e]
      exact q
  · rename_i hns
    split at e
    · rename_i l hl
      split at e
      · rename_i k hk
        cases e
        obtain ⟨n, a, ws, _, _, _, e1, e2, rp⟩ := dct_v hh ry hl
        subst e1
        cases rt
        rw [keyOf_v rx hk] at ru
        refine d_in (by omega) I (DGet.k e2) ru fun s' I' => ?_
        have eb : (valV ws k).isSome = (findK l k).isSome := by
          rcases RP.find (k := k) rp with ⟨d, v, f1, f2, _⟩ | ⟨f1, f2⟩ <;> rw [f1, f2] <;> rfl
        rw [eb]
        exact fin I'
      · cases e
    · unfold memT at e
      split at e
      · rename_i k l hl
        obtain ⟨a, vs, e1, rs, c1⟩ := seq_v hh ry hl
        subst e1
        cases rt
        rcases c1 with ⟨_, c1⟩ | ⟨_, c1⟩
        · obtain ⟨its, rv, pl, _⟩ := I.tuple c1
          obtain ⟨f, g1, g2⟩ := mem_vals I hh hu1 rx ru rs rv e
          refine SeqAt.in_tupleAt f pl (fun w hw => g1 w (by simpa using hw)) ?_
          rw [show its.toArray.any f = its.any f by simp, g2]
          exact fin I
        · obtain ⟨its, rv, pl, _⟩ := I.list c1
          obtain ⟨f, g1, g2⟩ := mem_vals I hh hu1 rx ru rs rv e
          refine SeqAt.in_listAt f pl.isList (fun w hw => g1 w (by simpa using hw)) ?_
          rw [show its.toArray.any f = its.any f by simp, g2]
          exact fin I
      · cases e
theorem op_ninM (hu : X.A.units + 64 < cLine) : OpR X (compareOp .NotIn) (rM (gd X) inT true) := by
  intro pins s σ H vx vy u t Q I ru rt hq
  obtain ⟨ρ, h, x, y, b, hh, rx, ry, e, q⟩ := hq
  have fin : ∀ {s' : Shared}, Inv X pins σ H s' → EP X pins σ Q (.bool (!b)) s' := fun I' => ⟨.bl (!b), H, I', rfl, q⟩
  have hu1 : X.A.in1.units + deep < cLine := by show X.A.units + 1 + 12 < cLine; omega
  unfold inT at e
  split at e
  · rename_i z
    cases x <;> first | (cases e; done) | skip
    rename_i a
    rw [RD_str ry] at rt
    rw [RD_str rx] at ru
    simp only [Option.some.injEq] at e
    split at e
    · rename_i c hc
      have ha : a = ⟨#[c]⟩ := by
        obtain ⟨arr⟩ := a
        have : arr = #[c] := by
          apply Array.ext'
          simpa using hc
        rw [this]
      subst ha
      refine op_notIn_sign pins s σ H _ _ u t Q I ru rt ⟨c, z, rfl, rfl, ?_⟩
      rw [e]
      exact q
    · refine L2.op_notIn_str pins s σ H _ _ u t Q I ru rt ⟨a, z, rfl, rfl, ?_⟩
      rw [e]
      exact q
  · rename_i hns
    split at e
    · rename_i l hl
      split at e
      · rename_i k hk
        cases e
        obtain ⟨n, a, ws, _, _, _, e1, e2, rp⟩ := dct_v hh ry hl
        subst e1
        cases rt
        rw [keyOf_v rx hk] at ru
        refine d_notIn (by omega) I (DGet.k e2) ru fun s' I' => ?_
        have eb : (valV ws k).isSome = (findK l k).isSome := by
          rcases RP.find (k := k) rp with ⟨d, v, f1, f2, _⟩ | ⟨f1, f2⟩ <;> rw [f1, f2] <;> rfl
        rw [eb]
        exact fin I'
      · cases e
    · unfold memT at e
      split at e
      · rename_i k l hl
        obtain ⟨a, vs, e1, rs, c1⟩ := seq_v hh ry hl
        subst e1
        cases rt
        rcases c1 with ⟨_, c1⟩ | ⟨_, c1⟩
        · obtain ⟨its, rv, pl, _⟩ := I.tuple c1
          obtain ⟨f, g1, g2⟩ := mem_vals I hh hu1 rx ru rs rv e
          refine SeqAt.notIn_tupleAt f pl (fun w hw => g1 w (by simpa using hw)) ?_
          rw [show its.toArray.any f = its.any f by simp, g2]
          exact fin I
        · obtain ⟨its, rv, pl, _⟩ := I.list c1
          obtain ⟨f, g1, g2⟩ := mem_vals I hh hu1 rx ru rs rv e
          refine SeqAt.notIn_listAt f pl.isList (fun w hw => g1 w (by simpa using hw)) ?_
          rw [show its.toArray.any f = its.any f by simp, g2]
          exact fin I
      · cases e
theorem nonV {g : Gd} {ρ : List Addr} {H : Hp} {x : D} {v : V} (r : RD g ρ H x v) : decide (v = .non) = (match x with | .non => true | _ => false) := by
  cases x with
  | non => unfold RD at r; subst r; rfl
  | bl b => unfold RD at r; subst r; rfl
  | int b => unfold RD at r; subst r; rfl
  | str b => unfold RD at r; subst r; exact decide_eq_false (fun z => nomatch z)
  | ty b => unfold RD at r; subst r; exact decide_eq_false (fun z => nomatch z)
  | tup l => obtain ⟨a, vs, e, _⟩ := RD_tup r; subst e; rfl
  | ref n => obtain ⟨a, _, e⟩ := RD_ref r; subst e; rfl
  | glb n => unfold RD at r; obtain ⟨a, _, e⟩ := r; subst e; rfl
theorem rf_isN {g : Gd} : RF2 g isNF (fun x y H Q => y = .non ∧ Q (.bl (decide (x = .non))) H) := fun Wf Q ρ H h x y vx vy hh rx ry p => by
  show vy = .non ∧ Q (.bl (decide (vx = .non))) H
  rw [nonV rx]
  unfold isNF at p
  cases y <;> first | (cases x <;> exact p.elim) | skip
  unfold RD at ry
  refine ⟨ry, ?_⟩
  cases x <;> exact p.okk hh .blN
theorem rf_isntN {g : Gd} : RF2 g isntNF (fun x y H Q => y = .non ∧ Q (.bl (!decide (x = .non))) H) := fun Wf Q ρ H h x y vx vy hh rx ry p => by
  show vy = .non ∧ Q (.bl (!decide (vx = .non))) H
  rw [nonV rx]
  unfold isntNF at p
  cases y <;> first | (cases x <;> exact p.elim) | skip
  unfold RD at ry
  refine ⟨ry, ?_⟩
  cases x <;> exact p.okk hh .blN
end
end ML

/-! ML 7: built-in calls, isinstance, items, slices, methods of lists -/
namespace ML
open PySem PySem.Spec PyProof.Rows L2

section
variable {X : Cx} {W : Wx} {x : Str} {p pos : Pos} {e : Expr} {es : List Expr} {mas : AM} {id T : String} {r : List V → Hp → VK → Prop} {f : List D → MH → R D}
theorem e_callB (hc : CallR X (.builtin id) r) (hf : RFs (gd X) f r) (hg : Gl X x) (hm : X.mg x = none) (hv : bootBuiltins x = some (.builtin id)) (ha : PA X (e :: es) (tA (gd X) W mas)) (hn : x ≠ "__name__" := by decide) (hdb : (x == ("__debug__" : Str)) = false := by decide)
    (he : starEach (e :: es) X.env = (false, eval e X.env) :: starEach es X.env := by rfl) (hpl : (backTo pos (starEach es X.env)).any (·.1) = false := by rfl) : PE X (.Call (.Name x p) (e :: es) [] pos) (tE (gd X) W (onA f mas)) :=
  PE_of (pe_callB hc hg hm hv ha hn hdb he hpl) fun σ H Q q => one q fun ρ e H h xs vs s hh rx p => hf _ _ ρ H h xs vs hh rx p
theorem e_callTy (hc : CallR X (.type T) r) (hf : RFs (gd X) f r) (hg : Gl X x) (hm : X.mg x = none) (hv : bootBuiltins x = some (.type T)) (ha : PA X (e :: es) (tA (gd X) W mas)) (hn : x ≠ "__name__" := by decide) (hdb : (x == ("__debug__" : Str)) = false := by decide)
    (he : starEach (e :: es) X.env = (false, eval e X.env) :: starEach es X.env := by rfl) (hpl : (backTo pos (starEach es X.env)).any (·.1) = false := by rfl) : PE X (.Call (.Name x p) (e :: es) [] pos) (tE (gd X) W (onA f mas)) :=
  PE_of (pe_callTy hc hg hm hv ha hn hdb he hpl) fun σ H Q q => one q fun ρ e H h xs vs s hh rx p => hf _ _ ρ H h xs vs hh rx p
end

/-! ### len, list, tuple, int, all, any, max, min -/
def lenF : List D → MH → R D := fun ds h => match ds with
  | [.str z] => if z.length ≤ 1000000 then .ok (.int z.length) h else .bad
  | [x] => (match seqOf h x with
    | some (_, l) => .ok (.int l.length) h
    | none => (match dctOf h x with
      | some l => .ok (.int l.length) h
      | none => .bad))
  | _ => .bad
def listF : List D → MH → R D := fun ds h => match ds with
  | [x] => (match seqOf h x with
    | some (_, l) => .ok (.ref h.length) (h ++ [.lst l])
    | none => .bad)
  | _ => .bad
def tupleF : List D → MH → R D := fun ds h => match ds with
  | [x] => (match seqOf h x with
    | some (_, l) => .ok (.tup l) h
    | none => .bad)
  | _ => .bad
def intF : List D → MH → R D := fun ds h => match ds with
  | [.int i] => .ok (.int i) h
  | [.bl b] => .ok (.int (if b then 1 else 0)) h
  | _ => .bad
def bools : List D → Option (List Bool)
  | [] => some []
  | .bl b :: r => (match bools r with
    | some l => some (b :: l)
    | none => none)
  | _ => none
def allF : List D → MH → R D := fun ds h => match ds with
  | [x] => (match lstOf h x with
    | some l => (match bools l with
      | some bs => .ok (.bl (bs.all fun b => b)) h
      | none => .bad)
    | none => .bad)
  | _ => .bad
def anyBF : List D → MH → R D := fun ds h => match ds with
  | [x] => (match lstOf h x with
    | some l => (match bools l with
      | some bs => .ok (.bl (bs.any fun b => b)) h
      | none => .bad)
    | none => .bad)
  | _ => .bad
def max2F : List D → MH → R D := fun ds h => match ds with
  | [.int i, .int j] => .ok (.int (if j > i then j else i)) h
  | _ => .bad
def min2F : List D → MH → R D := fun ds h => match ds with
  | [.int i, .int j] => .ok (.int (if j < i then j else i)) h
  | _ => .bad
section
variable {X : Cx} {g : Gd} {ρ : List Addr} {H : Hp} {h : MH}
theorem RDs.inv1 {d : D} {vs : List V} (q : RDs g ρ H [d] vs) : ∃ v, vs = [v] ∧ RD g ρ H d v := by
  obtain ⟨v, r, e, a, b⟩ := q.inv
  rw [b.invNil] at e
  exact ⟨v, e, a⟩
theorem RDs.inv2 {d d2 : D} {vs : List V} (q : RDs g ρ H [d, d2] vs) : ∃ v w, vs = [v, w] ∧ RD g ρ H d v ∧ RD g ρ H d2 w := by
  obtain ⟨v, r, e, a, b⟩ := q.inv
  obtain ⟨w, e', c⟩ := b.inv1
  rw [e'] at e
  exact ⟨v, w, e, a, c⟩
def rLenD : List V → Hp → VK → Prop := fun xs H Q => ∃ a kvs, xs = [.ref a] ∧ H a = some (.dK kvs) ∧ Q (.int kvs.length) H
theorem call_lenDM : CallR X (.builtin "len") rLenD := by
  intro pins s σ H xs us Q I rr hq
  obtain ⟨a, kvs, rfl, e, q⟩ := hq
  obtain ⟨u, rfl, ru⟩ := vals1 rr
  cases ru
  exact d_len I (.inl e) fun t s' I' => ⟨.int kvs.length, H, I', ⟨t, rfl⟩, q⟩
theorem call_lenM : CallR X (.builtin "len") (fun xs H Q => (∃ x n, xs = [x] ∧ LenV X.K x H n ∧ Q (.int n) H) ∨ rLenD xs H Q) := CallR.or call_len call_lenDM
theorem RP.length {α : Type} : ∀ {l : List (α × D)} {ws : List (α × V)}, RP g ρ H l ws → l.length = ws.length
  | [], ws, q => by have q' : ws = [] := q; subst q'; rfl
  | (f, d) :: l, ws, q => by
    obtain ⟨v, r, e, _, q2⟩ := q
    subst e
    simp [RP.length q2]
theorem rf_len : RFs (gd X) lenF (fun xs H Q => (∃ x n, xs = [x] ∧ LenV X.K x H n ∧ Q (.int n) H) ∨ rLenD xs H Q) := fun Wf Q ρ H h xs vs hh rx p => by
  unfold lenF at p
  split at p
  · split at p
    · rename_i z hz
      obtain ⟨v, e, r⟩ := rx.inv1
      rw [RD_str r] at e
      exact .inl ⟨.str z, z.length, e, ⟨big_le hz, rfl⟩, p.okk hh .intN⟩
    · exact p.elim
  · obtain ⟨v, e, r⟩ := rx.inv1
    split at p
    · rename_i k l hl
      obtain ⟨a, ws, e1, rs, c⟩ := seq_v hh r hl
      subst e1
      refine .inl ⟨.ref a, l.length, e, ?_, p.okk hh .intN⟩
      rcases c with ⟨_, c⟩ | ⟨_, c⟩
      · exact .inr ⟨ws, c, rs.length⟩
      · exact .inl ⟨ws, c, rs.length⟩
    · split at p
      · rename_i l hl
        obtain ⟨n, a, ws, _, _, _, e1, e2, rp⟩ := dct_v hh r hl
        subst e1
        exact .inr ⟨a, ws, e, e2, by rw [← rp.length]; exact p.okk hh .intN⟩
      · exact p.elim
  · exact p.elim
theorem rf_list : RFs (gd X) listF (fun xs H Q => ∃ p ys, xs = [.ref p] ∧ (SqL X.K H p ys ∨ SqT X.K H p ys) ∧ ∀ l, H l = none → Q (.ref l) (L2.upd H l (.lst ys))) := fun Wf Q ρ H h xs vs hh rx p => by
  unfold listF at p
  split at p
  · obtain ⟨v, e, r⟩ := rx.inv1
    split at p
    · rename_i k l hl
      obtain ⟨a, ws, e1, rs, c⟩ := seq_v hh r hl
      subst e1
      refine ⟨a, ws, e, ?_, fun q hq => p.newLst hh hq rs⟩
      rcases c with ⟨_, c⟩ | ⟨_, c⟩
      · exact .inr c
      · exact .inl c
    · exact p.elim
  · exact p.elim
theorem rf_tuple : RFs (gd X) tupleF (fun xs H Q => ∃ p ys, xs = [.ref p] ∧ ((SqL X.K H p ys ∧ ∀ l, H l = none → Q (.ref l) (L2.upd H l (.tup ys))) ∨ (SqT X.K H p ys ∧ Q (.ref p) H))) := fun Wf Q ρ H h xs vs hh rx p => by
  unfold tupleF at p
  split at p
  · obtain ⟨v, e, r⟩ := rx.inv1
    split at p
    · rename_i k l hl
      obtain ⟨a, ws, e1, rs, c⟩ := seq_v hh r hl
      subst e1
      refine ⟨a, ws, e, ?_⟩
      rcases c with ⟨_, c⟩ | ⟨_, c⟩
      · exact .inr ⟨c, p.okk hh (.tupN c rs)⟩
      · exact .inl ⟨c, fun q hq => p.newTup hh hq rs⟩
    · exact p.elim
  · exact p.elim
theorem rf_int : RFs (gd X) intF (fun xs H Q => (∃ i, xs = [.int i] ∧ Q (.int i) H) ∨ ∃ k, xs = [.bl k] ∧ Q (.int (if k then 1 else 0)) H) := fun Wf Q ρ H h xs vs hh rx p => by
  unfold intF at p
  split at p
  · obtain ⟨v, e, r⟩ := rx.inv1
    rw [RD_int r] at e
    exact .inl ⟨_, e, p.okk hh .intN⟩
  · obtain ⟨v, e, r⟩ := rx.inv1
    rw [RD_bl r rfl] at e
    exact .inr ⟨_, e, p.okk hh .intN⟩
  · exact p.elim
theorem bools_v : ∀ {l : List D} {bs : List Bool} {vs : List V}, RDs g ρ H l vs → bools l = some bs → vs = bs.map V.bl
  | [], bs, vs, q, e => by unfold bools at e; cases e; exact q.invNil
  | d :: l, bs, vs, q, e => by
    obtain ⟨v, r, e1, q1, q2⟩ := q.inv
    cases d <;> first | (unfold bools at e; cases e; done) | skip
    unfold bools at e
    split at e
    · rename_i bs' hb
      cases e
      rw [e1, bools_v q2 hb, RD_bl q1 rfl]
      rfl
    · cases e
theorem rf_all : RFs (gd X) allF (rAll X.K) := fun Wf Q ρ H h xs vs hh rx p => by
  unfold allF at p
  split at p
  · obtain ⟨v, e, r⟩ := rx.inv1
    split at p
    · rename_i l hl
      split at p
      · rename_i bs hb
        obtain ⟨n, a, ws, _, _, _, e1, e2, rs⟩ := lst_v hh r hl
        subst e1
        rw [bools_v rs hb] at e2
        exact ⟨a, bs, e, .of e2, p.okk hh .blN⟩
      · exact p.elim
    · exact p.elim
  · exact p.elim
theorem rf_any : RFs (gd X) anyBF (rAny X.K) := fun Wf Q ρ H h xs vs hh rx p => by
  unfold anyBF at p
  split at p
  · obtain ⟨v, e, r⟩ := rx.inv1
    split at p
    · rename_i l hl
      split at p
      · rename_i bs hb
        obtain ⟨n, a, ws, _, _, _, e1, e2, rs⟩ := lst_v hh r hl
        subst e1
        rw [bools_v rs hb] at e2
        exact ⟨a, bs, e, .of e2, p.okk hh .blN⟩
      · exact p.elim
    · exact p.elim
  · exact p.elim
theorem rf_max2 : RFs (gd X) max2F (fun xs H Q => ∃ i j, xs = [.int i, .int j] ∧ Q (.int (if j > i then j else i)) H) := fun Wf Q ρ H h xs vs hh rx p => by
  unfold max2F at p
  split at p
  · obtain ⟨v, w, e, r1, r2⟩ := rx.inv2
    rw [RD_int r1, RD_int r2] at e
    exact ⟨_, _, e, p.okk hh .intN⟩
  · exact p.elim
theorem rf_min2 : RFs (gd X) min2F (fun xs H Q => ∃ i j, xs = [.int i, .int j] ∧ Q (.int (if j < i then j else i)) H) := fun Wf Q ρ H h xs vs hh rx p => by
  unfold min2F at p
  split at p
  · obtain ⟨v, w, e, r1, r2⟩ := rx.inv2
    rw [RD_int r1, RD_int r2] at e
    exact ⟨_, _, e, p.okk hh .intN⟩
  · exact p.elim
end

/-! ### isinstance against built-in classes -/
def tyD (h : MH) : D → Option String
  | .non => some "NoneType"
  | .bl _ => some "bool"
  | .int _ => some "int"
  | .str _ => some "str"
  | .tup _ => some "tuple"
  | .ref n => (match h[n]? with
    | some (.lst _) => some "list"
    | some (.rdl _) => some "list"
    | some (.dct _) => some "dict"
    | _ => none)
  | _ => none
def kinds : List String := ["NoneType", "bool", "int", "str", "tuple", "list", "dict"]
def isB (T c : String) : Bool := T == c || (T == "bool" && c == "int")
theorem isB_ok : (kinds.all fun T => ["bool", "int", "str", "tuple", "list", "dict"].all fun c => decide (kitB T c = some (isB T c))) = true := by decide +kernel
theorem kit_of_isB {K : PySem.W.Frag} {T c : String} (hT : T ∈ kinds) (hc : c ∈ ["bool", "int", "str", "tuple", "list", "dict"]) : PySem.W.kitOne K (.type T) (.type c) = some (isB T c) :=
  kit_ty (of_decide_eq_true (List.all_eq_true.mp (List.all_eq_true.mp isB_ok T hT) c hc))
def isiF (c : String) : List D → MH → R D := fun ds h => match ds with
  | [x, .ty n] => if n = c then (match tyD h x with
    | some T => .ok (.bl (isB T c)) h
    | none => .bad) else .bad
  | _ => .bad
def isiT (cs : List String) : D → MH → R D := fun x h => match tyD h x with
  | some T => .ok (.bl (cs.any fun c => isB T c)) h
  | none => .bad
section
variable {X : Cx} {g : Gd} {ρ : List Addr} {H : Hp} {h : MH}
theorem RdL.ty {K : PySem.W.Frag} {a : Addr} {vs : List V} (q : RdL K H a vs) : TyX K H (.ref a) (.type "list") := by
  rcases q with ⟨o, q⟩ | ⟨o, its, n, e, c, _⟩
  · exact .base (.frz q)
  · exact .kList e c
theorem tyD_v (hh : RH g ρ H h) {x : D} {v : V} {T : String} (r : RD g ρ H x v) (e : tyD h x = some T) : TyX g.K H v (.type T) ∧ T ∈ kinds := by
  cases x <;> first | (cases e; done) | skip
  · cases e; unfold RD at r; subst r; exact ⟨.base .non, by decide⟩
  · cases e; unfold RD at r; subst r; exact ⟨.base (.bl _), by decide⟩
  · cases e; unfold RD at r; subst r; exact ⟨.base (.int _), by decide⟩
  · cases e; unfold RD at r; subst r; exact ⟨.base (.str _), by decide⟩
  · cases e
    obtain ⟨a, vs, e1, sq, _⟩ := RD_tup r
    subst e1
    rcases sq with (sq | ⟨o, sq⟩) | ⟨o, its, n, k, c, _⟩
    · exact ⟨.base (.tup sq), by decide⟩
    · exact ⟨.fTuple sq, by decide⟩
    · exact ⟨.kTuple k c, by decide⟩
  · rename_i n
    obtain ⟨a, e1, e2⟩ := RD_ref r
    subst e2
    unfold tyD at e
    dsimp only at e
    split at e
    · rename_i l hl
      cases e
      obtain ⟨vs, e3, _⟩ := hh.obj n _ a hl e1
      exact ⟨.base (.lst e3), by decide⟩
    · rename_i l hl
      cases e
      obtain ⟨vs, e3, _⟩ := hh.obj n _ a hl e1
      exact ⟨e3.ty, by decide⟩
    · rename_i l hl
      cases e
      obtain ⟨vs, e3, _⟩ := hh.obj n _ a hl e1
      exact ⟨.base (.dK e3), by decide⟩
    · cases e
theorem rf_isi {c : String} (hc : c ∈ ["bool", "int", "str", "tuple", "list", "dict"]) : RFs (gd X) (isiF c) (rIsi X.K) := fun Wf Q ρ H h xs vs hh rx p => by
  unfold isiF at p
  split at p
  · rename_i x n
    split at p
    · rename_i hn
      subst hn
      split at p
      · rename_i T hT
        obtain ⟨v, w, e, r1, r2⟩ := rx.inv2
        unfold RD at r2
        subst r2
        obtain ⟨t1, t2⟩ := tyD_v hh r1 hT
        exact ⟨v, .ty n, _, _, _, e, .ty n, t1, kit_of_isB t2 hc, p.okk hh .blN⟩
      · exact p.elim
    · exact p.elim
  · exact p.elim
theorem kitAny_of {K : PySem.W.Frag} {T : String} (hT : T ∈ kinds) : ∀ (cs : List String), (∀ c ∈ cs, c ∈ ["bool", "int", "str", "tuple", "list", "dict"]) → PySem.W.kitAny K (.type T) (cs.map Value.type) = some (cs.any fun c => isB T c)
  | [], _ => rfl
  | c :: cs, hc => by
    rw [List.map_cons, List.any_cons]
    refine kitAny_cons (kit_of_isB hT (hc c List.mem_cons_self)) (fun e => ?_) (fun e => by rw [e]; rfl)
    rw [e, Bool.false_or]
    exact kitAny_of hT cs fun c' h' => hc c' (List.mem_cons_of_mem _ h')
end
section
variable {X : Cx} {W : Wx} {a c1 c2 : Expr} {ma : EM} {p pos tp : Pos} {k : Nat} {n1 n2 : String}
/-- isinstance(x, (A, B)), A and B built-in -/
theorem e_isi2 (hg : Gl X "isinstance") (hm : X.mg "isinstance" = none) (ha : PE X a (tE (gd X) W ma)) (h1 : PE X c1 (tC (.ty n1))) (h2 : PE X c2 (tC (.ty n2))) (m1 : n1 ∈ ["bool", "int", "str", "tuple", "list", "dict"] := by decide) (m2 : n2 ∈ ["bool", "int", "str", "tuple", "list", "dict"] := by decide)
    (s1 : starEach [c1, c2] X.env = (false, eval c1 X.env) :: starEach [c2] X.env := by rfl) (s2 : starEach [c2] X.env = (false, eval c2 X.env) :: starEach [] X.env := by rfl) (s3 : starEach [a, .Tuple [c1, c2] k tp] X.env = (false, eval a X.env) :: starEach [.Tuple [c1, c2] k tp] X.env := by rfl) (s4 : starEach [.Tuple [c1, c2] k tp] X.env = (false, eval (.Tuple [c1, c2] k tp) X.env) :: starEach [] X.env := by rfl)
    (hpl : (backTo pos (starEach [.Tuple [c1, c2] k tp] X.env)).any (·.1) = false := by rfl) :
    PE X (.Call (.Name "isinstance" p) [a, .Tuple [c1, c2] k tp] [] pos) (tE (gd X) W (un (isiT [n1, n2]) ma)) :=
  PE_of (pe_callB call_isiT hg hm (by decide +kernel) (pa_cons ha (pa_cons (pe_tup (pa_cons h1 (pa_cons h2 pa_nil s2) s1)) pa_nil s4) s3) (by decide) (by decide) s3 hpl) fun σ H Q q => by
    refine one q fun ρ e H h x vx s hh rx p => ?_
    refine ⟨by show 2 ≤ sizeLine; decide, fun t ht => ?_⟩
    unfold isiT at p
    split at p
    · rename_i T hT
      obtain ⟨t1, t2⟩ := tyD_v hh rx hT
      have l1 := Lat.upd (g := gd X) (ρ := ρ) (u := .tup [V.ty n1, V.ty n2]) (Soft.none ht)
      have t3 := tyD_v (hh.upd (u := .tup [V.ty n1, V.ty n2]) ht) (l1.rd x rx) hT
      exact ⟨vx, t, [.ty n1, .ty n2], _, [.type n1, .type n2], _, rfl, upd_same, .cons (.ty _) (.cons (.ty _) .nil), t3.1, kitAny_of t2 [n1, n2] (fun c hc => by
        rcases List.mem_cons.mp hc with e | hc
        · rw [e]; exact m1
        · rcases List.mem_cons.mp hc with e | hc
          · rw [e]; exact m2
          · cases hc), p ρ _ _ l1 (hh.upd ht) .blN⟩
    · exact p.elim
end

/-! ### items and slices -/
def ixF : D → D → MH → R D := fun x y h => match x, y with
  | .str z, .int i => if z.length ≤ 1000000 then (match atI z.cps.toList i with
    | some c => .ok (.str ⟨#[c]⟩) h
    | none => .bad) else .bad
  | x, y => (match seqOf h x, y with
    | some (_, l), .int i => (match atI l i with
      | some d => .ok d h
      | none => .bad)
    | none, y => (match dctOf h x, keyOf y with
      | some l, some k => (match findK l k with
        | some d => .ok d h
        | none => .bad)
      | _, _ => .bad)
    | _, _ => .bad)
def cutD (l : List D) (lo hi : Option Int) : List D := (l.drop (HT.sIx l.length 0 lo)).take (HT.sIx l.length l.length hi - HT.sIx l.length 0 lo)
def slF : D → Option Int → Option Int → MH → R D := fun x lo hi h => match x with
  | .str z => if z.length ≤ 1000000 then .ok (.str (cutS z lo hi)) h else .bad
  | .tup l => .ok (.tup (cutD l lo hi)) h
  | x => (match seqOf h x with
    | some (_, l) => .ok (.ref h.length) (h ++ [.lst (cutD l lo hi)])
    | none => .bad)
/-- xs[::-1] of a list, of a tuple, of a text -/
def revF : D → MH → R D := fun x h => match x with
  | .tup l => .ok (.tup l.reverse) h
  | .str z => .ok (.str ⟨z.cps.reverse⟩) h
  | x => (match lstOf h x with
    | some l => .ok (.ref h.length) (h ++ [.lst l.reverse])
    | none => .bad)
abbrev OM := Env → MH → R (Option Int)
def noO : OM := fun _ h => .ok none h
def someO (m : EM) : OM := fun e h => (m e h).bind fun d h1 => match d with
  | .int i => .ok (some i) h1
  | _ => .bad
def slE (a : EM) (lo hi : OM) : EM := fun e h => (a e h).bind fun x h1 => (lo e h1).bind fun l h2 => (hi e h2).bind fun u h3 => slF x l u h3
def RO_ : List Addr → Hp → Option Int → Option Int → Prop := fun _ _ a b => b = a
abbrev tO (g : Gd) (W : Wx) (m : OM) : TO := tG g RO_ W m
section
variable {X : Cx} {W : Wx} {a b : Expr} {ma mb : EM} {lo hi : Option Expr} {ml mh : OM} {pos p2 : Pos} {g : Gd} {ρ : List Addr} {H : Hp} {h : MH}
def rIxD : R2 := fun x y H Q => ∃ a kvs k v, x = .ref a ∧ y = kV k ∧ H a = some (.dK kvs) ∧ valV kvs k = some v ∧ Q v H
theorem ix_dictM (hu : X.A.units + 1 < cLine) : IxR X rIxD := by
  intro value slice pins s σ H x y v u Q I rx ry hq hs
  obtain ⟨a, kvs, k, w, rfl, rfl, e, l, q⟩ := hq
  have gd' : DGet H a (kV k) (some w) := by rw [← l]; exact DGet.k e
  cases rx
  have dd := dict_noDict I gd'
  have ty := dict_typeIs I gd'
  exact tail_any (ops := [.ref a, u]) ty PySem.slot_dict_getitem.lookup (d_getItem hu I gd' ry fun w' s' I' r' => ⟨w, H, I', r', q⟩) hs
end
end ML

/-! ML 8: subscripts, slices, stores, methods of lists and dicts -/
namespace ML
open PySem PySem.Spec PyProof.Rows L2

section
variable {X : Cx} {W : Wx} {W0 : WX} {a b : Expr} {ma mb : EM} {lo hi : Option Expr} {ml mh : OM} {pos p2 : Pos} {g : Gd} {ρ : List Addr} {H : Hp} {h : MH}
theorem RDs.at {l : List D} {vs : List V} {i : Int} {d : D} (r : RDs g ρ H l vs) (e : atI l i = some d) : ∃ v, atI vs i = some v ∧ RD g ρ H d v := by
  unfold atI at e ⊢
  rw [← r.length]
  cases q : ixN l.length i with
  | none => rw [q] at e; cases e
  | some j =>
    rw [q] at e
    obtain ⟨v, e1, r1⟩ := r.get (i := j) (d := d) e
    exact ⟨v, e1, r1⟩
def rIxM (K : PySem.W.Frag) : R2 := fun x y H Q => rIx K x y H Q ∨ rIxD x y H Q
theorem ix_M (hu : X.A.units + 1 < cLine) : IxR X (rIxM X.K) := IxR.or ix_seq (ix_dictM hu)
theorem rf_ix : RF2 (gd X) ixF (rIxM X.K) := fun Wf Q ρ H h x y vx vy hh rx ry p => by
  unfold ixF at p
  split at p
  · rename_i z i
    split at p
    · rename_i hz
      split at p
      · rename_i c hc
        exact .inl (.inr (.inr ⟨z, i, c, RD_str rx, RD_int ry, big_le hz, hc, p.okk hh .strN⟩))
      · exact p.elim
    · exact p.elim
  · split at p
    · rename_i x2 y2 k l i hl hn
      split at p
      · rename_i d hd
        obtain ⟨a, vs, e1, rs, c⟩ := seq_v hh rx hl
        obtain ⟨v, e2, r2⟩ := rs.at hd
        rcases c with ⟨_, c⟩ | ⟨_, c⟩
        · exact .inl (.inr (.inl ⟨a, vs, i, v, e1, RD_int ry, c, e2, p.okk hh r2⟩))
        · exact .inl (.inl ⟨a, vs, i, v, e1, RD_int ry, c, e2, p.okk hh r2⟩)
      · exact p.elim
    · split at p
      · rename_i l k hl hk
        split at p
        · rename_i d hd
          obtain ⟨n, a, ws, _, _, _, e1, e2, rp⟩ := dct_v hh rx hl
          rcases rp.find (k := k) with ⟨d', v, f1, f2, f3⟩ | ⟨f1, _⟩
          · rw [hd] at f1
            cases f1
            exact .inr ⟨a, ws, k, v, e1, keyOf_v ry hk, e2, f2, p.okk hh f3⟩
          · rw [hd] at f1
            cases f1
        · exact p.elim
      · exact p.elim
    · exact p.elim
theorem e_ix (hu : X.A.units + 64 < cLine) (ha : PE X a (tE (gd X) W ma)) (hb : PE X b (tE (gd X) W mb)) (hs : PlainIx b) : PE X (.Subscript a b pos) (tE (gd X) W (bin ixF ma mb)) :=
  PE_of (pe_ix (ix_M (by omega)) ha hb hs) fun σ H Q q => two q fun ρ H h x y vx vy hh rx ry p => rf_ix _ _ ρ H h x y vx vy hh rx ry p

/-! ### slices -/
theorem PO_of {e : Option Expr} {t t' : TO} (h : PO X e t) (i : ∀ σ H Q, t' σ H Q → t σ H Q) : PO X e t' := ⟨fun pins s σ H Q I q => h.run pins s σ H Q I (i _ _ _ q)⟩
theorem o_no : PO X none (tO (gd X) W noO) := PO_of po_none fun σ H Q q => by
  obtain ⟨ρ, e, m, s, hh, p⟩ := q
  exact p.okk hh rfl
theorem o_some (ha : PE X a (tE (gd X) W ma)) : PO X (some a) (tO (gd X) W (someO ma)) := PO_of (po_some ha) fun σ H Q q => by
  refine one q fun ρ e H h x vx s hh rx p => ?_
  split at p
  · rename_i i
    exact ⟨i, RD_int rx, p.okk hh rfl⟩
  · exact p.elim
def rSlM (K : PySem.W.Frag) : V → Option Int → Option Int → Hp → VK → Prop := fun x lo hi H Q => rSlL K x lo hi H Q ∨ rSlA K x lo hi H Q ∨ rSlS x lo hi H Q
theorem sl_M : SlR X (rSlM X.K) := SlR.or sl_list (SlR.or sl_tupA sl_str)
theorem RDs.cut {l : List D} {vs : List V} (r : RDs g ρ H l vs) (lo hi : Option Int) : RDs g ρ H (cutD l lo hi) (cutV vs lo hi) := by
  unfold cutD cutV
  rw [← r.length]
  exact (r.drop _).take _
theorem cutV_whole {vs : List V} {lo hi : Option Int} (w : HT.sIx vs.length 0 lo = 0 ∧ HT.sIx vs.length vs.length hi = vs.length) : cutV vs lo hi = vs := by
  unfold cutV
  rw [w.1, w.2, List.drop_zero, Nat.sub_zero, List.take_length]
theorem rf_sl {Wf : XK} {Q : VK} {x : D} {lo hi : Option Int} {vx : V} (hh : RH (gd X) ρ H h) (rx : RD (gd X) ρ H x vx) (p : Post (gd X) (RD (gd X)) Wf ρ H (slF x lo hi h) Q) : rSlM X.K vx lo hi H Q := by
  unfold slF at p
  split at p
  · split at p
    · rename_i z hz
      exact .inr (.inr ⟨z, RD_str rx, big_le hz, p.okk hh .strN⟩)
    · exact p.elim
  · rename_i l
    obtain ⟨a, vs, e1, sq, rs⟩ := RD_tup rx
    refine .inr (.inl ⟨a, vs, e1, sq, fun w => p.okk hh (.tupN sq ?_), fun _ q hq => p.newTup hh hq (rs.cut lo hi)⟩)
    have := rs.cut lo hi
    rw [cutV_whole w] at this
    exact this
  · split at p
    · rename_i n1 n2 k l hl
      obtain ⟨a, vs, e1, rs, c⟩ := seq_v hh rx hl
      rcases c with ⟨k1, c⟩ | ⟨_, c⟩
      · exfalso
        subst k1
        cases x <;> first | exact n2 _ rfl | skip
        all_goals first | cases hl; done | skip
        · exact n1 _ rfl
        · unfold seqOf at hl
          dsimp only at hl
          split at hl <;> cases hl
      · exact .inl ⟨a, vs, e1, c, fun q hq => p.newLst hh hq (rs.cut lo hi)⟩
    · exact p.elim
theorem e_sl (ha : PE X a (tE (gd X) W ma)) (hl : PO X lo (tO (gd X) W ml)) (hh' : PO X hi (tO (gd X) W mh)) : PE X (.Subscript a (.Slice lo hi none p2) pos) (tE (gd X) W (slE ma ml mh)) :=
  PE_of (pe_slice sl_M ha hl hh') fun σ H Q q => by
    refine one q fun ρ e H h x vx s hh rx p => ?_
    refine ⟨ρ, e, h, s, hh, p.bind.mono fun o1 H1 q => ?_⟩
    obtain ⟨ρ1, l1, h1, t1, hh1, r1, p1⟩ := q
    cases r1
    refine ⟨ρ1, e, h1, s.lat t1, hh1, p1.bind.mono fun o2 H2 q => ?_⟩
    obtain ⟨ρ2, l2, h2, t2, hh2, r2, p2⟩ := q
    cases r2
    exact rf_sl hh2 (t2.rd x (t1.rd x rx)) p2

/-! ### stores -/
def putKD (l : List (Key × D)) (k : Key) (d : D) : List (Key × D) := if (l.any fun kv => decide (kv.1 = k)) = true then l.map (fun kv => if kv.1 = k then (kv.1, d) else kv) else l ++ [(k, d)]
def stF : D → D → D → MH → Option MH := fun o i v h => match o with
  | .ref n => (match h[n]? with
    | some (.lst l) => (match i with
      | .int k => (match ixN l.length k with
        | some j => some (h.set n (.lst (l.set j v)))
        | none => none)
      | _ => none)
    | some (.dct l) => (match keyOf i with
      | some k => if l.length < 1000000 then some (h.set n (.dct (putKD l k v))) else none
      | none => none)
    | _ => none)
  | _ => none
def setX (o i a : EM) : SM := fun e h => ofE e (a e h) fun v h1 => ofE e (o e h1) fun x h2 => ofE e (i e h2) fun y h3 => match stF x y v h3 with
  | some h4 => .nx e h4
  | none => .bad
theorem RP.any {k : Key} : ∀ {l : List (Key × D)} {ws : List (Key × V)}, RP g ρ H l ws → (l.any fun kv => decide (kv.1 = k)) = (ws.any fun kv => decide (kv.1 = k))
  | [], ws, q => by have q' : ws = [] := q; subst q'; rfl
  | (f, d) :: l, ws, q => by
    obtain ⟨v, r, e, _, q2⟩ := q
    subst e
    rw [List.any_cons, List.any_cons, RP.any q2]
theorem RP.mapPut {k : Key} {d : D} {v : V} (r : RD g ρ H d v) : ∀ {l : List (Key × D)} {ws : List (Key × V)}, RP g ρ H l ws → RP g ρ H (l.map (fun kv => if kv.1 = k then (kv.1, d) else kv)) (ws.map (fun kv => if kv.1 = k then (kv.1, v) else kv))
  | [], ws, q => by have q' : ws = [] := q; subst q'; exact q
  | (f, x) :: l, ws, q => by
    obtain ⟨w, t, e, q1, q2⟩ := q
    subst e
    rw [List.map_cons, List.map_cons]
    by_cases hk : f = k
    · simp only [hk, if_true]
      exact ⟨v, _, rfl, r, RP.mapPut r q2⟩
    · simp only [hk, if_false]
      exact ⟨w, _, rfl, q1, RP.mapPut r q2⟩
theorem RP.app {α : Type} : ∀ {l m : List (α × D)} {vs ws : List (α × V)}, RP g ρ H l vs → RP g ρ H m ws → RP g ρ H (l ++ m) (vs ++ ws)
  | [], m, vs, ws, q, r => by have q' : vs = [] := q; subst q'; exact r
  | (f, x) :: l, m, vs, ws, q, r => by
    obtain ⟨w, t, e, q1, q2⟩ := q
    subst e
    exact ⟨w, t ++ ws, rfl, q1, RP.app q2 r⟩
theorem RP.one {α : Type} {k : α} {d : D} {v : V} (r : RD g ρ H d v) : RP g ρ H [(k, d)] [(k, v)] := ⟨v, [], rfl, r, rfl⟩
theorem RP.put {k : Key} {d : D} {v : V} {l : List (Key × D)} {ws : List (Key × V)} (q : RP g ρ H l ws) (r : RD g ρ H d v) : RP g ρ H (putKD l k d) (putK ws k v) := by
  unfold putKD putK
  rw [q.any (k := k)]
  split
  · exact q.mapPut r
  · exact q.app (.one r)
def rSetM : TSet := fun o i v H Q => rSetL o i v H Q ∨ rSetD o i v H Q
theorem set_M (hu : X.A.units + 1 < cLine) : PSet X rSetM := by
  intro pins s σ H o i v ov iv u Q I ro ri rv q
  rcases q with q | q
  · exact set_list pins s σ H o i v ov iv u Q I ro ri rv q
  · exact set_dict hu pins s σ H o i v ov iv u Q I ro ri rv q
theorem RH.setLst {n : Nat} {a : Addr} {l l' : List D} {vs vs' : List V} (hh : RH g ρ H h) (e : h[n]? = some (.lst l)) (ea : ρ[n]? = some a) (ev : H a = some (.lst vs)) (r : RDs g ρ H l' vs') :
    Lat g ρ H ρ (L2.upd H a (.lst vs')) ∧ RH g ρ (L2.upd H a (.lst vs')) (h.set n (.lst l')) := by
  have l1 := Lat.upd (g := g) (ρ := ρ) (u := .lst vs') (Soft.lst ev)
  exact ⟨l1, hh.set e ea rfl rfl (Soft.lst ev) ⟨vs', upd_same, l1.rds _ r⟩⟩
theorem RH.setDct {n : Nat} {a : Addr} {l l' : List (Key × D)} {vs vs' : List (Key × V)} (hh : RH g ρ H h) (e : h[n]? = some (.dct l)) (ea : ρ[n]? = some a) (ev : H a = some (.dK vs)) (r : RP g ρ H l' vs') :
    Lat g ρ H ρ (L2.upd H a (.dK vs')) ∧ RH g ρ (L2.upd H a (.dK vs')) (h.set n (.dct l')) := by
  have l1 := Lat.upd (g := g) (ρ := ρ) (u := .dK vs') (Soft.dK ev)
  exact ⟨l1, hh.set e ea rfl rfl (Soft.dK ev) ⟨vs', upd_same, l1.rp _ r⟩⟩
theorem st_ok {o i v : D} {vo vi vv : V} {h' : MH} {Q : Hp → Prop} (hh : RH g ρ H h) (ro : RD g ρ H o vo) (ri : RD g ρ H i vi) (rv : RD g ρ H v vv) (e : stF o i v h = some h') (k : ∀ H', Lat g ρ H ρ H' → RH g ρ H' h' → Q H') : rSetM vo vi vv H Q := by
  unfold stF at e
  split at e
  · rename_i n
    obtain ⟨a, e1, e2⟩ := RD_ref ro
    split at e
    · rename_i l hl
      obtain ⟨vs, e3, rs⟩ := hh.obj n _ a hl e1
      split at e
      · rename_i kk
        split at e
        · rename_i j hj
          cases e
          obtain ⟨l1, l2⟩ := hh.setLst (l' := l.set j v) (vs' := vs.set j vv) hl e1 e3 (rs.set j rv)
          exact .inl ⟨a, vs, kk, j, e2, RD_int ri, e3, by rw [← rs.length]; exact hj, k _ l1 l2⟩
        · cases e
      · cases e
    · rename_i l hl
      obtain ⟨ws, e3, rp⟩ := hh.obj n _ a hl e1
      split at e
      · rename_i kk hk
        split at e
        · rename_i hn
          cases e
          obtain ⟨l1, l2⟩ := hh.setDct hl e1 e3 (rp.put (k := kk) rv)
          refine .inr ⟨a, _, e2, ?_, k _ l1 l2⟩
          rw [keyOf_v ri hk]
          exact DPut.k e3 (by have := RP.length rp; have := sizeLine_eq; omega)
        · cases e
      · cases e
    · cases e
  · cases e
theorem s_setX {mo mi : EM} {c : Expr} {spos : Pos} (hu : X.A.units + 64 < cLine) (ha : PE X a (tE (gd X) (pl W0) ma)) (ho : PE X b (tE (gd X) (pl W0) mo)) (hi : PE X c (tE (gd X) (pl W0) mi))
    (hs : swapsWithSole [.Subscript b c pos] a spos.line X.env = pure false := by rfl) (hw : swappedStores [.Subscript b c pos] a X.env = pure none := by rfl)
    (h1 : (assignEach [.Subscript b c pos] X.env).map (·.2) = [assign (.Subscript b c pos) X.env] := by rfl)
    (hx : ∀ v, assign (.Subscript b c pos) X.env v = (do
      let ov ← holding [v] (eval b X.env)
      let iv ← holding [v, ov] (eval c X.env)
      standAt pos
      holding [v, ov, iv] (setItem ov iv v)
      release [v, ov, iv] []) := by intro _; rfl) : PS X (.Assign [.Subscript b c pos] a spos) (tS (gd X) W0 (setX mo mi ma)) :=
  PS_of (ps_asg ha (pg_sub ho hi (set_M (by omega)) hx) hs hw h1) fun N σ H q => by
    refine stE q fun ρ e H h v vv s hh rv p => ?_
    have q2 : tS (gd X) W0 (fun e h => ofE e (mo e h) fun x h2 => ofE e (mi e h2) fun y h3 => match stF x y v h3 with | some h4 => .nx e h4 | none => .bad) N σ H := ⟨ρ, e, h, s, hh, p⟩
    refine ⟨ρ, e, h, s.x, hh, ?_⟩
    revert p
    generalize mo e h = r
    intro p
    cases r with
    | bad => exact p.elim
    | exc c fs h1 => exact fun ρ1 H1 C dd gs l a => p ρ1 σ H1 C dd gs l a (l.rs s)
    | ok x h1 =>
      intro ρ1 vo H1 l1 hh1 r1
      have p : PostS (gd X) W0 ρ H (ofE e (mi e h1) fun y h3 => match stF x y v h3 with | some h4 => .nx e h4 | none => .bad) N := p
      refine ⟨ρ1, e, h1, (l1.rs s).x, hh1, ?_⟩
      revert p
      generalize mi e h1 = r
      intro p
      cases r with
      | bad => exact p.elim
      | exc c fs h2 => exact fun ρ2 H2 C dd gs l a => p ρ2 σ H2 C dd gs (l1.trans l) a ((l1.trans l).rs s)
      | ok y h2 =>
        intro ρ2 vi H2 l2 hh2 r2
        have p : PostS (gd X) W0 ρ H (match stF x y v h2 with | some h4 => .nx e h4 | none => .bad) N := p
        cases z : stF x y v h2 with
        | none => rw [z] at p; exact p.elim
        | some h4 =>
          rw [z] at p
          exact st_ok hh2 (l2.rd x r1) r2 ((l1.trans l2).rd v rv) z fun H3 l3 hh3 => p ρ2 σ H3 ((l1.trans l2).trans l3) hh3 (((l1.trans l2).trans l3).rs s)
end
end ML

/-! ML 9: methods of built-in things -/
namespace ML
open PySem PySem.Spec PyProof.Rows L2

/-- a method's reading against its mirror -/
def RFm (g : Gd) (f : D → List D → MH → R D) (r : V → List V → Hp → VK → Prop) : Prop := ∀ (Wf : XK) (Q : VK) ρ H h x xs vx vs, RH g ρ H h → RD g ρ H x vx → RDs g ρ H xs vs → Post g (RD g) Wf ρ H (f x xs h) Q → r vx vs H Q
def bmE (T : String) (f : D → List D → MH → R D) (o : EM) (a : AM) : EM := fun e h => (o e h).bind fun x h1 => if tyD h1 x = some T then (a e h1).bind fun xs h2 => f x xs h2 else .bad
section
variable {X : Cx} {g : Gd} {ρ : List Addr} {H : Hp} {h : MH}
theorem tyV_of (hh : RH g ρ H h) {x : D} {v : V} {T : String} (r : RD g ρ H x v) (e : tyD h x = some T) (hT : T ∈ ["list", "dict", "str"]) : tyV g.K T v H := by
  cases x <;> first | (cases e; done) | skip
  · cases e; exact absurd hT (by decide)
  · cases e; exact absurd hT (by decide)
  · cases e; exact absurd hT (by decide)
  · cases e; unfold RD at r; subst r; rfl
  · cases e; exact absurd hT (by decide)
  · rename_i n
    obtain ⟨a, e1, e2⟩ := RD_ref r
    subst e2
    unfold tyD at e
    dsimp only at e
    split at e
    · rename_i l hl
      cases e
      obtain ⟨vs, e3, _⟩ := hh.obj n _ a hl e1
      exact .inl ⟨rfl, vs, .of e3⟩
    · rename_i l hl
      cases e
      obtain ⟨vs, e3, _⟩ := hh.obj n _ a hl e1
      exact .inl ⟨rfl, vs, e3.sq⟩
    · rename_i l hl
      cases e
      obtain ⟨vs, e3, _⟩ := hh.obj n _ a hl e1
      exact .inr (.inr (.inl ⟨rfl, .inl ⟨vs, e3⟩⟩))
    · cases e
end
section
variable {X : Cx} {W : Wx} {o e : Expr} {es : List Expr} {mo : EM} {ma : AM} {name : Str} {apos cpos : Pos} {T id : String} {r : V → List V → Hp → VK → Prop} {f : D → List D → MH → R D}
theorem e_bm (pa : PlainAttrs T) (slot : Slot T name id) (hty : typeOf (.builtin id) = pure (.type "method_descriptor")) (hm : MtR X id r) (hf : RFm (gd X) f r) (ho : PE X o (tE (gd X) W mo)) (ha : PA X (e :: es) (tA (gd X) W ma)) (hT : T ∈ ["list", "dict", "str"] := by decide)
    (hbase : attributeBase o name X.env (eval o X.env) = eval o X.env := by rfl)
    (hfew : ((backTo cpos (starEach (e :: es) X.env)).all (fun x => !x.1) && (backToKw cpos (keywordEach [] X.env)).all (fun x => x.1.isSome)
      && decide ((e :: es).length + ([] : List Keyword).length + (if ([] : List Keyword).isEmpty then 0 else 1) < 30)) = true := by rfl)
    (hline : (apos.endLine == cpos.line) = true := by rfl) (hs : starEach (e :: es) X.env = (false, eval e X.env) :: starEach es X.env := by rfl) (hplain : (backTo cpos (starEach es X.env)).any (·.1) = false := by rfl) :
    PE X (.Call (.Attribute o name apos) (e :: es) [] cpos) (tE (gd X) W (bmE T f mo ma)) :=
  PE_of (pe_bm pa slot hty hm ho ha hbase hfew hline hs hplain) fun σ H Q q => by
    refine one q fun ρ e H h x vx s hh rx p => ?_
    split at p
    · rename_i ht
      refine ⟨tyV_of hh rx ht hT, ρ, e, h, s, hh, p.bind.mono fun vs H1 q => ?_⟩
      obtain ⟨ρ1, xs, h1, l1, hh1, rxs, p1⟩ := q
      exact hf _ _ ρ1 H1 h1 x xs vx vs hh1 (l1.rd x rx) rxs p1
    · exact p.elim
theorem e_bm0 (pa : PlainAttrs T) (slot : Slot T name id) (hty : typeOf (.builtin id) = pure (.type "method_descriptor")) (hm : MtR X id r) (hf : RFm (gd X) f r) (ho : PE X o (tE (gd X) W mo)) (hT : T ∈ ["list", "dict", "str"] := by decide)
    (hbase : attributeBase o name X.env (eval o X.env) = eval o X.env := by rfl) (hline : (apos.endLine == cpos.line) = true := by rfl) : PE X (.Call (.Attribute o name apos) [] [] cpos) (tE (gd X) W (bmE T f mo nilA)) :=
  PE_of (pe_bm0 pa slot hty hm ho hbase hline) fun σ H Q q => by
    refine one q fun ρ e H h x vx s hh rx p => ?_
    split at p
    · rename_i ht
      exact ⟨tyV_of hh rx ht hT, hf _ _ ρ H h x [] vx [] hh rx .nil p⟩
    · exact p.elim
end

/-! ### lists -/
def appF : D → List D → MH → R D := fun x xs h => match x, xs with
  | .ref n, [y] => (match h[n]? with
    | some (.lst l) => if l.length < 1000000 then .ok .non (h.set n (.lst (l ++ [y]))) else .bad
    | _ => .bad)
  | _, _ => .bad
def extF : D → List D → MH → R D := fun x xs h => match x, xs with
  | .ref n, [.ref m] => (match h[n]?, h[m]? with
    | some (.lst l), some (.lst k) => if l.length + k.length ≤ 1000000 then .ok .non (h.set n (.lst (l ++ k))) else .bad
    | _, _ => .bad)
  | _, _ => .bad
def popF : D → List D → MH → R D := fun x xs h => match x, xs with
  | .ref n, [] => (match h[n]? with
    | some (.lst l) => (match l[l.length - 1]? with
      | some y => .ok y (h.set n (.lst l.dropLast))
      | none => .bad)
    | _ => .bad)
  | .ref n, [.int i] => (match h[n]? with
    | some (.lst l) => if -(2 ^ 63) ≤ i ∧ i < 2 ^ 63 then (match seqIndex? i l.length with
      | some k => (match l[k]? with
        | some y => .ok y (h.set n (.lst (l.eraseIdx k)))
        | none => .bad)
      | none => .bad) else .bad
    | _ => .bad)
  | _, _ => .bad
section
variable {X : Cx} {g : Gd} {ρ : List Addr} {H : Hp} {h : MH}
theorem RDs.dropLast {l : List D} {vs : List V} (r : RDs g ρ H l vs) : RDs g ρ H l.dropLast vs.dropLast := by
  rw [List.dropLast_eq_take, List.dropLast_eq_take, ← r.length]
  exact r.take _
theorem rf_append : RFm g appF rAppend := fun Wf Q ρ H h x xs vx vs hh rx rxs p => by
  unfold appF at p
  split at p
  · rename_i n y
    split at p
    · rename_i l hl
      split at p
      · rename_i hz
        obtain ⟨a, e1, e2⟩ := RD_ref rx
        obtain ⟨ws, e3, rs⟩ := hh.obj n _ a hl e1
        obtain ⟨v, e4, r4⟩ := rxs.inv1
        obtain ⟨l1, l2⟩ := hh.setLst hl e1 e3 (rs.append (.one r4))
        exact ⟨a, ws, v, e2, e4, e3, by rw [← rs.length, sizeLine_eq]; omega, p ρ _ _ l1 l2 .nonN⟩
      · exact p.elim
    · exact p.elim
  · exact p.elim
theorem rf_extend : RFm g extF rExtend := fun Wf Q ρ H h x xs vx vs hh rx rxs p => by
  unfold extF at p
  split at p
  · rename_i n m
    split at p
    · rename_i l k hl hk
      split at p
      · rename_i hz
        obtain ⟨a, e1, e2⟩ := RD_ref rx
        obtain ⟨ws, e3, rs⟩ := hh.obj n _ a hl e1
        obtain ⟨v, e4, r4⟩ := rxs.inv1
        obtain ⟨b, f1, f2⟩ := RD_ref r4
        obtain ⟨zs, f3, rz⟩ := hh.obj m _ b hk f1
        obtain ⟨l1, l2⟩ := hh.setLst hl e1 e3 (rs.append rz)
        exact ⟨a, b, ws, zs, e2, by rw [e4, f2], e3, f3, by rw [← rs.length, ← rz.length, sizeLine_eq]; omega, p ρ _ _ l1 l2 .nonN⟩
      · exact p.elim
    · exact p.elim
  · exact p.elim
def rPopM : V → List V → Hp → VK → Prop := fun x vs H Q => rPop x vs H Q ∨ rPopAt x vs H Q
theorem mt_popM : MtR X "list.pop" rPopM := MtR.or mt_pop mt_popAt
theorem rf_pop : RFm g popF rPopM := fun Wf Q ρ H h x xs vx vs hh rx rxs p => by
  unfold popF at p
  split at p
  · rename_i n
    split at p
    · rename_i l hl
      split at p
      · rename_i y hy
        obtain ⟨a, e1, e2⟩ := RD_ref rx
        obtain ⟨ws, e3, rs⟩ := hh.obj n _ a hl e1
        obtain ⟨v, e4, r4⟩ := rs.get hy
        rw [rs.length] at e4
        obtain ⟨l1, l2⟩ := hh.setLst hl e1 e3 rs.dropLast
        exact .inl ⟨a, ws, v, e2, rxs.invNil, e3, e4, p ρ _ _ l1 l2 (l1.rd y r4)⟩
      · exact p.elim
    · exact p.elim
  · rename_i n i
    split at p
    · rename_i l hl
      split at p
      · rename_i hz
        split at p
        · rename_i k hk
          split at p
          · rename_i y hy
            obtain ⟨a, e1, e2⟩ := RD_ref rx
            obtain ⟨ws, e3, rs⟩ := hh.obj n _ a hl e1
            obtain ⟨v, e4, r4⟩ := rs.get hy
            obtain ⟨w, e5, r5⟩ := rxs.inv1
            rw [RD_int r5] at e5
            obtain ⟨l1, l2⟩ := hh.setLst hl e1 e3 (rs.eraseIdx k)
            exact .inr ⟨a, ws, i, k, v, e2, e5, e3, hz.1, hz.2, by rw [← rs.length]; exact hk, e4, p ρ _ _ l1 l2 (l1.rd y r4)⟩
          · exact p.elim
        · exact p.elim
      · exact p.elim
    · exact p.elim
  · exact p.elim
end
end ML

/-! ML 10: errors as values: made by place or by name, their fields, isinstance -/
namespace PySem
namespace HandSPX
open PySem.W PySem.Calls PyProof.Rows
section
variable {P : Program} {w : World} {A : Around} {E : Value → Shared → Prop} {R : Result → Shared → Prop} {h : Heap} {g : Array GenState} {d : Drawn} {tk : Nat} {os : OsState} {K : PySem.W.Frag} {C f : Addr} {us : List Value} {kw : List (Str × Value)}
/-- what stands at an error class that has ValueError's maker -/
theorem oex_at (T : L2.OexC K C) (X : K.In h) : ∃ nm q N bs bm sn sub ab col dd k0 k1 k2 k3 k5, h.get? C = some (excClassObj nm q C N bs bm true sn sub ab col dd k0 k1 k2 k3 k5 "ValueError.__new__") ∧
    (∀ Y : String, (Value.ref C :: bm).contains (.type Y) = ([Value.type "ValueError", .type "Exception", .type "BaseException", .type "object"] : List Value).contains (.type Y)) := by
  obtain ⟨nm, q, N, bs, bm, sn, sub, ab, col, dd, k0, k1, k2, k3, k5, hC, hb⟩ := T.cls
  refine ⟨nm, q, N, bs, bm, sn, sub, ab, col, dd, k0, k1, k2, k3, k5, X _ _ hC, fun Y => ?_⟩
  rw [List.contains_cons, refsVE_contains Y bm hb]
  rfl
/-- the maker of such a class looks at no keyword -/
theorem xk_check (T : L2.OexC K C) (X : K.In h) {Q : Unit → Shared → Prop} (q : Q () ⟨h, g, d, tk, os⟩) : wpAny (model P w) A (checkBuiltinCall "ValueError.__new__" ⟨.ref C :: us, kw⟩) Q E ⟨h, g, d, tk, os⟩ := by
  obtain ⟨nm, qn, N, bs, bm, sn, sub, ab, col, dd, k0, k1, k2, k3, k5, hC, hb⟩ := oex_at T X
  have F := F.excBase_ValueError
  have hv : (Value.ref C :: bm).contains (.type "ValueError") = true := (hb _).trans (by decide +kernel)
  have hs := F.noStar
  simp only [checkBuiltinCall, F.newKind, F.newSplit, F.newRow]
  repeat (first | refine wpAny_loadPart_at hC ?_ | (refine wpAny_isSubtype_exc hC ?_; rw [hv]) | refine wpAny_staticBase_exc hC ?_ | refine wpAny_madeBy_exc hC ?_ | simp only [bne_self_eq_false, Bool.false_eq_true, if_false] | wp_step)
  exact q
theorem xk_new (T : L2.OexC K C) (X : K.In h) (hl : us.length ≤ sizeLine) (q : R (.ok (.ret (.ref (h.objs.size + 1)))) ⟨(h.push (PySem.W.kdv_tup us)).push (excO C h.objs.size), g, d, tk, os⟩) :
    codeAny (model P w) A (.builtin "ValueError.__new__" ⟨.ref C :: us, kw⟩) R ⟨h, g, d, tk, os⟩ := by
  obtain ⟨nm, qn, N, bs, bm, sn, sub, ab, col, dd, k0, k1, k2, k3, k5, hC, hb⟩ := oex_at T X
  have F := F.excBase_ValueError
  have he := F.ends
  have c1 : (Value.ref C :: bm).contains (.type "ValueError") = true := (hb _).trans (by decide +kernel)
  have c2 : (Value.ref C :: bm).contains (.type "AttributeError") = false := (hb _).trans (by decide +kernel)
  have c3 : (Value.ref C :: bm).contains (.type "NameError") = false := (hb _).trans (by decide +kernel)
  refine codeAny_builtinAt F.entry ?_
  unfold Builtin.«BaseException.__new__»
  refine wpAt_bind ?_
  show wpAt _ _ _ (stack >>= _) _ _ _
  refine wpAt_bind (wpAt_stack fun p below => wpAt_of_wpAny ?_)
  wp_walk
  refine wpAt_of_wpAny ?_
  rw [F.owner]
  repeat (first | with_reducible refine wpAny_madeHere_exc F.canon hC ?_ | with_reducible refine wpAny_loadPart_at hC ?_ | (with_reducible refine wpAny_isSubtype_exc hC ?_; first | rw [c1] | rw [c2] | rw [c3]) | wp_step)
  show R _ _
  rw [Heap.size_push]
  exact q
theorem two_keep {o1 o2 : Obj} {b : Addr} {o : Obj} (e : h.get? b = some o) : ((h.push o1).push o2).get? b = some o := Heap.get?_push_of_some _ (Heap.get?_push_of_some _ e)
/-- type's own call of it -/
theorem xk_type (T : L2.OexC K C) (X : K.In h) (iC : PySem.W.findIn K (.ref C) "__init__" = some (some (.ref f))) (tI : PySem.W.typeIn K (.ref f) = some (.type "function")) (hl : us.length ≤ sizeLine) {Q : Fin → Shared → Prop}
    (q : codeAny (model P w) A (.call (.ref f) ⟨.ref (h.objs.size + 1) :: us, kw⟩)
      (fun r s' => match r with | .ok (.ret v) => v = .none ∧ Q (.done (.ret (.ref (h.objs.size + 1)))) s' | .ok _ => False | .error e => E e s') ⟨(h.push (PySem.W.kdv_tup us)).push (excO C h.objs.size), g, d, tk, os⟩) :
    wpAny (model P w) A (Builtin.«type.__call__» ⟨.ref C :: us, kw⟩) Q E ⟨h, g, d, tk, os⟩ := by
  have hlook := PySem.W.looks_findIn (M := model P w) X iC
  obtain ⟨nm, qn, N, bs, bm, sn, sub, ab, col, dd, k0, k1, k2, k3, k5, hC, hb⟩ := oex_at T X
  repeat (first | with_reducible refine wpAny_loadPart_at hC ?_ | with_reducible refine wpAny_madeBy_exc hC ?_ | wp_step)
  refine codeAny_call_builtin_code (Code.quiet_builtin _ F.excBase_ValueError.quiet) (xk_check T X (xk_new T X hl ?_))
  show wpAny _ _ _ _ _ _
  have hC' := two_keep (o1 := PySem.W.kdv_tup us) (o2 := excO C h.objs.size) hC
  have hnew : ((h.push (PySem.W.kdv_tup us)).push (excO C h.objs.size)).get? (h.objs.size + 1) = some (excO C h.objs.size) := by heap_get
  have hself : (Value.ref C :: bm).contains (.ref C) = true := by simp
  have i1 := hlook.keeps fun b o e => two_keep (o1 := PySem.W.kdv_tup us) (o2 := excO C h.objs.size) e
  have b1 := (PySem.W.bind_fn (M := model P w) X (.ref (h.objs.size + 1)) tI).keeps fun b o e => two_keep (o1 := PySem.W.kdv_tup us) (o2 := excO C h.objs.size) e
  unfold isInstance
  repeat (first | with_reducible refine wpAny_loadPart_at hnew ?_ | (with_reducible refine wpAny_isSubtype_exc hC' ?_; rw [hself]) | wp_step)
  show wpAny _ _ (typeLookup (.ref C) _) _ _ _
  refine i1.at (wpAny_holding (wpAny_bind (b1.at (wpAny_bind (wpAny_call (codeAny_mono q fun r s' z => ?_))))))
  cases r with
  | error e => exact z
  | ok fl =>
    cases fl with
    | ret v =>
      obtain ⟨rfl, z⟩ := z
      first
        | exact wpAny_pure (wpAny_pure z)
        | (wp_walk; exact z)
    | next => exact z.elim
    | brk => exact z.elim
    | cont => exact z.elim
/-- C(.., k=..) for such a class with an own __init__ -/
theorem xk_call (T : L2.OexC K C) (X : K.In h) (iC : PySem.W.findIn K (.ref C) "__init__" = some (some (.ref f))) (tI : PySem.W.typeIn K (.ref f) = some (.type "function")) (hl : us.length ≤ sizeLine)
    (q : codeAny (model P w) (A.under (.builtin "type.__call__" ⟨.ref C :: us, kw⟩)) (.call (.ref f) ⟨.ref (h.objs.size + 1) :: us, kw⟩) (PySem.W.InitBack (h.objs.size + 1) R) ⟨(h.push (PySem.W.kdv_tup us)).push (excO C h.objs.size), g, d, tk, os⟩) :
    codeAny (model P w) A (.call (.ref C) ⟨us, kw⟩) R ⟨h, g, d, tk, os⟩ := by
  obtain ⟨nm, qn, N, bs, bm, sn, sub, ab, col, dd, k0, k1, k2, k3, k5, hC, hb⟩ := oex_at T X
  have f1 := tc_lookup
  have f2 := tc_bind (.ref C)
  have hTy : (⟨h, g, d, tk, os⟩ : Shared).TypeIs (.ref C) "type" := ⟨_, hC, rfl⟩
  refine codeAny_of_tree ?_
  show wpAny _ _ (callAny (.ref C) _) _ _ _
  repeat (any_goals (first | assumption | with_reducible refine wpAny_loadPart_at hC ?_ | wp_step))
  refine ⟨rfl, codeAny_call_builtin_at (Code.quiet_builtin _ (by decide +kernel)) entry_typeCall (wpAny_check_type_call_sub hC (xk_type T X iC tI hl (codeAny_mono q fun r s' z => ?_)))⟩
  rcases r with e | (v | _ | _ | _) <;> exact z
end
end HandSPX
end PySem

/-! ML 11: errors as values in the mirror -/
namespace ML
open PySem PySem.Spec PyProof.Rows L2

theorem cx_no {P : Program} {w : World} {st : List PySem.Env} {H : Hp} {s : Shared} {e : Value} {s' : Shared} (h : L2.CX P w st H s (fun _ _ _ => False) e s') : False := by
  obtain ⟨_, _, _, _, _, _, _, _, _, _, _, _, z⟩ := h
  exact z
/-- __init__ of an error class with one field f -/
def spXi (C : Addr) (f : Str) : Sp := fun vs H Q _ => ∃ a y, vs = [.ref a, y] ∧ H a = some (exo a C none) ∧ ∀ dx, H dx = none → dx ≠ a → Q .non (L2.upd (L2.upd H dx (exd dx [(f, y)])) a (exo a C (some dx)))
theorem xi_ok {P : Program} {w : World} {K : PySem.W.Frag} {mg : Str → Option Value} {base : Heap} {qual f : Str} {st : Stmt} {fI C : Addr} {fd : FuncData} {p1 p2 p3 p4 : Pos} (F : Fun K "__init__" qual st fI fd) (Sc : FnScope ["self", f] ["self", f] (defScope st))
    (hb : defBody st = [.Assign [.Attribute (.Name "self" p1) f p2] (.Name f p3) p4]) (T : OexC K C) (hno : PySem.W.findIn K (.ref C) f = some none) 
    (l1 : Vis (defScope st) ("self" : Str)) (l2 : Vis (defScope st) f) (d1 : (f == ("__debug__" : Str)) = false) (d2 : (f == ("__classdict__" : Str)) = false) : FnOk P w K mg base (L2.CX P w) 1 fI fd ["self", f] (spXi C f) := by
  refine F.okX Sc (fun vs H Q E h => ?_) (fun cdv A outer s H vs Q E hr h => ?_)
  · obtain ⟨a, y, rfl, _⟩ := h
    rfl
  · obtain ⟨a, y, rfl, ea, k⟩ := h
    rw [hb]
    refine ⟨_, pss_one (ps_ost (pe_var (i := 0) rfl l1 (by decide) (by decide)) (pe_var (i := 1) rfl l2 d1 d2)), ?_⟩
    refine ⟨y, rfl, .ref a, rfl, a, C, rfl, T, hno, .inl ⟨ea, fun dx n ne => k dx n ne⟩⟩
/-- an error class of one field, as its callers know it -/
structure XcC (P : Program) (w : World) (K : PySem.W.Frag) (mg : Str → Option Value) (base : Heap) (c f : Str) : Prop where
  ex : ∃ C fI fd, mg c = some (.ref C) ∧ OexC K C ∧ PySem.W.findIn K (.ref C) "__init__" = some (some (.ref fI)) ∧ PySem.W.typeIn K (.ref fI) = some (.type "function") ∧
    FnOk P w K mg base (L2.CX P w) 1 fI fd ["self", f] (spXi C f) ∧ Binds K fd ["self", f] [] ∧ ∀ (s : Shared) (x y : Value), K.In s.heap → BindsTo s fd ⟨[x], [(f, y)]⟩ (([("self" : Str), f] : List Str).zip [x, y])
def xcH (H : Hp) (a dx C : Addr) (f : Str) (y : V) : Hp := L2.upd (L2.upd (L2.upd H a (exo a C none)) dx (exd dx [(f, y)])) a (exo a C (some dx))
section
variable {X : Cx} {pins : List (Addr × Obj)} {σ : L2.St} {H : Hp} {s : Shared} {Q : VK} {us : List Value} {kw : List (Str × Value)} {C fI : Addr} {fd : FuncData} {f : Str} {y : V} {u : Value}
theorem run_xc (T : OexC X.K C) (iC : PySem.W.findIn X.K (.ref C) "__init__" = some (some (.ref fI))) (tI : PySem.W.typeIn X.K (.ref fI) = some (.type "function")) (G : FnOk X.prog X.w X.K X.mg X.base (L2.CX X.prog X.w) 1 fI fd ["self", f] (spXi C f)) (hr : Room 2 X.A)
    (I : Inv X pins σ H s) (ry : RelV y u) (hl : us.length ≤ 1) (hk : kw.length ≤ 1) (hb : ∀ (s : Shared) (e : Addr), X.K.In s.heap → BindsTo s fd ⟨.ref e :: us, kw⟩ (([("self" : Str), f] : List Str).zip [.ref e, u]))
    (h : ∀ a dx, H a = none → H dx = none → dx ≠ a → Q (.ref a) (xcH H a dx C f y)) : wpAny (model X.prog X.w) X.A (call (.ref C) us kw) (EP X pins σ Q) X.xe s := by
  obtain ⟨hp, g, dr, tk, os⟩ := s
  have hsz : hp.objs.size ≤ hp.objs.size + 1 := Nat.le_succ _
  have hn : H (hp.objs.size + 1) = none := I.hok.fresh hsz
  have kk : ∀ b o, hp.get? b = some o → ((hp.push (PySem.W.kdv_tup us)).push (PySem.HandSPX.excO C hp.objs.size)).get? b = some o := fun b o e => PySem.HandSPX.two_keep e
  have hget : ((hp.push (PySem.W.kdv_tup us)).push (PySem.HandSPX.excO C hp.objs.size)).get? (hp.objs.size + 1) = some (PySem.HandSPX.excO C hp.objs.size) := by heap_get
  have I2 : Inv X pins σ (L2.upd H (hp.objs.size + 1) (exo (hp.objs.size + 1) C none)) ⟨(hp.push (PySem.W.kdv_tup us)).push (PySem.HandSPX.excO C hp.objs.size), g, dr, tk, os⟩ :=
    I.laid (t' := tk) (a := hp.objs.size + 1) (o := exo (hp.objs.size + 1) C none) (h' := (hp.push (PySem.W.kdv_tup us)).push (PySem.HandSPX.excO C hp.objs.size)) kk hsz (exo_ok hget)
  have hsp : spXi C f [.ref (hp.objs.size + 1), y] (L2.upd H (hp.objs.size + 1) (exo (hp.objs.size + 1) C none)) (fun v H2 => v = .non ∧ Q (.ref (hp.objs.size + 1)) H2) (fun _ _ _ => False) :=
    ⟨_, y, rfl, upd_same, fun dx n ne => ⟨rfl, h _ dx hn (by rw [upd_ne ne] at n; exact n) ne⟩⟩
  refine wpAny_call (PySem.HandSPX.xk_call T I.kIn iC tI (Nat.le_trans hl (by decide)) (codeAny_mono (G.run _ X.stack _ _ ⟨Value.ref (hp.objs.size + 1) :: us, kw⟩ [Value.ref (hp.objs.size + 1), u] _ _ (fun _ _ _ => False) (hr.make C us kw) (I2.env0.make C us kw) (hb _ _ I2.kIn) (.cons (show RelV (V.ref (hp.objs.size + 1)) (Value.ref (hp.objs.size + 1)) from rfl) (.cons ry .nil)) hsp) fun r s' hq => ?_))
  cases r with
  | error er => exact (cx_no hq).elim
  | ok fl =>
    cases fl with
    | ret v =>
      obtain ⟨x, H3, I3, rx, ex, q⟩ := I2.after hq
      subst ex
      exact ⟨rx, V.ref (hp.objs.size + 1), H3, I3, rfl, q⟩
    | next => exact False.elim hq
    | brk => exact False.elim hq
    | cont => exact False.elim hq
end
theorem xcH_lat {g : Gd} {ρ : List Addr} {H : Hp} {a dx C : Addr} {f : Str} {y : V} (h1 : H a = none) (h2 : H dx = none) (h3 : dx ≠ a) : Lat g ρ H ρ (xcH H a dx C f y) := by
  have key : ∀ {b : Addr} {o : HO}, H b = some o → xcH H a dx C f y b = some o := fun {b o} e => by
    unfold xcH
    rw [upd_ne (ne_of_none e h1), upd_ne (ne_of_none e h2), upd_ne (ne_of_none e h1)]
    exact e
  exact ⟨⟨[], by simp⟩, fun _ _ e => key e, fun _ _ _ e => key e, fun _ _ e => key e, fun _ _ e => key e⟩
theorem RH.newXc {g : Gd} {ρ : List Addr} {H : Hp} {h : MH} {a dx C : Addr} {c f : Str} {d : D} {y : V} (hh : RH g ρ H h) (h1 : H a = none) (h2 : H dx = none) (h3 : dx ≠ a) (hm : g.mg c = some (.ref C)) (r : RD g ρ H d y) :
    Lat g ρ H (ρ ++ [a]) (xcH H a dx C f y) ∧ RH g (ρ ++ [a]) (xcH H a dx C f y) (h ++ [.xc c [(f, d)]]) ∧ RD g (ρ ++ [a]) (xcH H a dx C f y) (.ref h.length) (.ref a) := by
  have l := xcH_lat (g := g) (ρ := ρ) (C := C) (f := f) (y := y) h1 h2 h3
  have l2 : Lat g ρ H (ρ ++ [a]) (xcH H a dx C f y) := l.trans Lat.more
  have hd : xcH H a dx C f y dx = some (exd dx [(f, y)]) := by
    unfold xcH
    rw [upd_ne h3, upd_same]
  have ha : xcH H a dx C f y a = some (exo a C (some dx)) := by
    unfold xcH
    rw [upd_same]
  refine ⟨l2, ?_, by unfold RD; exact ⟨a, by rw [← hh.len]; simp, rfl⟩⟩
  -- two new things of the tracked heap, then one of the mirror's
  have q1 : RH g ρ (L2.upd H dx (exd dx [(f, y)])) h := hh.upd h2
  have e0 : L2.upd H dx (exd dx [(f, y)]) a = none := by rw [upd_ne (Ne.symm h3)]; exact h1
  have e1 : L2.upd (L2.upd H dx (exd dx [(f, y)])) a (exo a C (some dx)) = xcH H a dx C f y := by
    funext b
    unfold xcH
    by_cases hb : b = a
    · subst hb; rw [upd_same, upd_same]
    · rw [upd_ne hb, upd_ne hb]
      by_cases hb2 : b = dx
      · subst hb2; rw [upd_same, upd_same]
      · rw [upd_ne hb2, upd_ne hb2, upd_ne hb]
  have q2 := q1.new (u := exo a C (some dx)) (o := .xc c [(f, d)]) e0 (by
    rw [e1]
    exact ⟨C, dx, [(f, y)], hm, ha, hd, y, [], rfl, l2.rd d r, rfl⟩)
  rw [e1] at q2
  exact q2
def mkXF (c f : Str) : List D → MH → R D := fun ds h => match ds with
  | [d] => .ok (.ref h.length) (h ++ [.xc c [(f, d)]])
  | _ => .bad
section
variable {X : Cx} {W : Wx} {e : Expr} {es : List Expr} {mas : AM} {pos p : Pos} {c f : Str} {kws : List Keyword}
theorem e_xc (F : XcC X.prog X.w X.K X.mg X.base c f) (hr : Room 2 X.A) (hg : Gl X c) (ha : PA X (e :: es) (tA (gd X) W mas)) (hdb : (c == ("__debug__" : Str)) = false := by decide)
    (he : starEach (e :: es) X.env = (false, eval e X.env) :: starEach es X.env := by rfl) (hpl : (backTo pos (starEach es X.env)).any (·.1) = false := by rfl) : PE X (.Call (.Name c p) (e :: es) [] pos) (tE (gd X) W (onA (mkXF c f) mas)) := by
  obtain ⟨C, fI, fd, mgC, T, iC, tI, G, hb, hk⟩ := F.ex
  refine ⟨fun pins s σ H Q I h => ?_⟩
  refine wpAny_Call_Name_kw (ld_glob I hg mgC ?_ hdb)
  have q : tA (gd X) W mas σ H fun vs H1 => ∃ y, vs = [y] ∧ ∀ a dx, H1 a = none → H1 dx = none → dx ≠ a → Q (.ref a) (xcH H1 a dx C f y) := by
    refine one h fun ρ e H h x vx s hh rx p => ?_
    unfold mkXF at p
    split at p
    · obtain ⟨y, ey, ry⟩ := rx.inv1
      refine ⟨y, ey, fun a dx h1 h2 h3 => ?_⟩
      obtain ⟨l1, l2, l3⟩ := RH.newXc (f := f) hh h1 h2 h3 mgC ry
      exact p _ _ _ l1 l2 l3
    · exact p.elim
  refine PySem.W.callWith_K (h₀ := X.base) I.ok.mod.kin T.kC (thn (ha.run pos pins s σ H _ I q) fun us s1 ⟨vs, H1, I1, r1, y, ey, q1⟩ => ⟨I1.kIn, ?_⟩) he hpl
  subst ey
  obtain ⟨u, rfl, ru⟩ := Vals.one r1
  exact run_xc T iC tI G hr I1 ru (by simp) (by simp) (fun s e hK => hb s [.ref e, u] hK rfl) q1
theorem PK_of {X : Cx} {e : List Keyword} {t t' : TA} (h : PK X e t) (i : ∀ σ H Q, t' σ H Q → t σ H Q) : PK X e t' := ⟨fun pos pins s σ H Q I q => h.run pos pins s σ H Q I (i _ _ _ q)⟩
theorem k_nil : PK X [] (tA (gd X) W nilA) := PK_of pk_nil fun σ H Q q => by
  obtain ⟨ρ, e, m, s, hh, p⟩ := q
  exact p.okk hh .nil
theorem k_cons {nm : Option Str} {kpos : Pos} {ma : EM} (ha : PE X e (tE (gd X) W ma)) (hr : PK X kws (tA (gd X) W mas)) : PK X (⟨nm, e, kpos⟩ :: kws) (tA (gd X) W (consA ma mas)) :=
  PK_of (pk_cons ha hr) fun σ H Q q => by
    refine one q fun ρ e H h x vx s hh rx p => ?_
    refine ⟨ρ, e, h, s, hh, p.bind.mono fun vs H1 q => ?_⟩
    obtain ⟨ρ1, xs, h1, l1, hh1, rxs, p1⟩ := q
    exact p1.okk hh1 (.cons (l1.rd x rx) rxs)
theorem e_xck (F : XcC X.prog X.w X.K X.mg X.base c f) (hr : Room 2 X.A) (hg : Gl X c) (ha : PK X kws (tA (gd X) W mas)) (hall : (backToKw pos (keywordEach kws X.env)).all (·.1.isSome) = true := by rfl) (hks : (backToKw pos (keywordEach kws X.env)).filterMap (·.1) = [f] := by rfl)
    (hpl : ((backTo pos (starEach [] X.env)).any (·.1) || (backToKw pos (keywordEach kws X.env)).any (·.1.isNone)) = false := by rfl) (hdb : (c == ("__debug__" : Str)) = false := by decide) :
    PE X (.Call (.Name c p) [] kws pos) (tE (gd X) W (onA (mkXF c f) mas)) := by
  obtain ⟨C, fI, fd, mgC, T, iC, tI, G, hb, hk⟩ := F.ex
  refine ⟨fun pins s σ H Q I h => ?_⟩
  refine wpAny_Call_Name_kw (ld_glob I hg mgC ?_ hdb)
  have q : tA (gd X) W mas σ H fun vs H1 => ∃ y, vs = [y] ∧ ∀ a dx, H1 a = none → H1 dx = none → dx ≠ a → Q (.ref a) (xcH H1 a dx C f y) := by
    refine one h fun ρ e H h x vx s hh rx p => ?_
    unfold mkXF at p
    split at p
    · obtain ⟨y, ey, ry⟩ := rx.inv1
      refine ⟨y, ey, fun a dx h1 h2 h3 => ?_⟩
      obtain ⟨l1, l2, l3⟩ := RH.newXc (f := f) hh h1 h2 h3 mgC ry
      exact p _ _ _ l1 l2 l3
    · exact p.elim
  refine PySem.W.callWith_KW0 (h₀ := X.base) I.ok.mod.kin T.kC hall (thn (ha.run pos pins s σ H _ I q) fun us s1 ⟨vs, H1, I1, r1, y, ey, q1⟩ => ⟨I1.kIn, ?_⟩) hpl
  rw [hks]
  subst ey
  obtain ⟨u, rfl, ru⟩ := Vals.one r1
  exact run_xc T iC tI G hr I1 ru (by simp) (by simp) (fun s e hK => hk s (.ref e) u hK) q1
end
end ML

/-! ML 12: fields, isinstance against own classes -/
namespace ML
open PySem PySem.Spec PyProof.Rows L2

theorem RP.lookup {g : Gd} {ρ : List Addr} {H : Hp} {f : Str} : ∀ {fs : List (Str × D)} {gs : List (Str × V)} {d : D}, RP g ρ H fs gs → fs.lookup f = some d → ∃ v, gs.lookup f = some v ∧ RD g ρ H d v
  | [], _, _, _, e => by cases e
  | (k, x) :: fs, gs, d, q, e => by
    obtain ⟨v, r, e1, q1, q2⟩ := q
    subst e1
    unfold List.lookup at e ⊢
    split at e
    · cases e
      exact ⟨v, rfl, q1⟩
    · exact RP.lookup q2 e
/-- what the written part says of the classes whose instances (ci), of the error classes whose errors (cx) have the field f -/
def FldOk (K : PySem.W.Frag) (mg : Str → Option Value) (ci cx : List Str) (f : Str) : Prop :=
  (∀ c ∈ ci, ∀ C, mg c = some (.ref C) → Cls K C ∧ NoAttr K C f) ∧ ∀ c ∈ cx, ∀ C, mg c = some (.ref C) → XfC K C ∧ PySem.W.findIn K (.ref C) f = some none
def fldF (ci cx : List Str) (f : Str) : D → MH → R D := fun x h => match x with
  | .ref n => (match h[n]? with
    | some (.ins c fs) => if c ∈ ci then (match fs.lookup f with
      | some d => .ok d h
      | none => .bad) else .bad
    | some (.xc c fs) => if c ∈ cx then (match fs.lookup f with
      | some d => .ok d h
      | none => .bad) else .bad
    | _ => .bad)
  | _ => .bad
section
variable {X : Cx} {W : Wx} {e : Expr} {m : EM} {pos : Pos} {f : Str} {ci cx : List Str}
theorem e_fld (F : FldOk X.K X.mg ci cx f) (he : PE X e (tE (gd X) W m)) (hb : attributeBase e f X.env (eval e X.env) = eval e X.env := by rfl) : PE X (.Attribute e f pos) (tE (gd X) W (un (fldF ci cx f) m)) := by
  refine ⟨fun pins s σ H Q I h => ?_⟩
  have q : tE (gd X) W m σ H fun x H1 => ∃ a C v, x = .ref a ∧ Q v H1 ∧ ((∃ dx gs, H1 a = some (.ins C dx gs) ∧ Cls X.K C ∧ NoAttr X.K C f ∧ gs.lookup f = some v) ∨
      ∃ dx gs, H1 a = some (exo a C (some dx)) ∧ H1 dx = some (exd dx gs) ∧ XfC X.K C ∧ PySem.W.findIn X.K (.ref C) f = some none ∧ gs.lookup f = some v) := by
    refine one h fun ρ e H h x vx s hh rx p => ?_
    unfold fldF at p
    split at p
    · rename_i n
      obtain ⟨a, e1, e2⟩ := RD_ref rx
      split at p
      · rename_i c fs hc
        split at p
        · rename_i hm
          split at p
          · rename_i d hd
            obtain ⟨C, dx, gs, mgC, e3, rp⟩ := hh.obj n _ a hc e1
            obtain ⟨v, e4, r4⟩ := rp.lookup hd
            obtain ⟨c1, c2⟩ := F.1 c hm C mgC
            exact ⟨a, C, v, e2, p.okk hh r4, .inl ⟨dx, gs, e3, c1, c2, e4⟩⟩
          · exact p.elim
        · exact p.elim
      · rename_i c fs hc
        split at p
        · rename_i hm
          split at p
          · rename_i d hd
            obtain ⟨C, dx, gs, mgC, e3, e5, rp⟩ := hh.obj n _ a hc e1
            obtain ⟨v, e4, r4⟩ := rp.lookup hd
            obtain ⟨c1, c2⟩ := F.2 c hm C mgC
            exact ⟨a, C, v, e2, p.okk hh r4, .inr ⟨dx, gs, e3, e5, c1, c2, e4⟩⟩
          · exact p.elim
        · exact p.elim
      · exact p.elim
    · exact p.elim
  refine attr_of hb (thn (he.run pins s σ H _ I q) fun u s1 ⟨x, H1, I1, rx, a, C, v, ex, q1, alt⟩ => ?_)
  subst ex
  obtain rfl : u = Value.ref a := rx
  rcases alt with ⟨dx, gs, ea, c, n, l⟩ | ⟨dx, gs, ea, ed, T, hno, l⟩
  · exact getattr_ok I1 ea c n l fun u' s2 I2 ru => ⟨v, H1, I2, ru, q1⟩
  · obtain ⟨t1, ho⟩ := exo_at I1.hok ea
    obtain ⟨mA, hns, hr⟩ := exd_at I1.hok ed
    obtain ⟨od, hod, hl⟩ := lookIn_ns hns
    obtain ⟨u, hu, ru⟩ := RelO.some_of (v := v) (o := mA f) (by rw [← l]; exact hr f)
    have J : PySem.W.InstAt s1.heap a _ C (some od) := ⟨ho, rfl, rfl, hod⟩
    exact HandSPX.exc_get I1.kIn J T.ga T.gg T.exC (PySem.W.findObj_own T.hdC hno rfl (by rw [hl, hu])) (handed_of ru) ⟨v, H1, I1.tok _, ru, q1⟩
end

/-! ### isinstance(x, C), C a class of the module or a built-in error class -/
/-- what isinstance asks of the classes of x: own ones (ci), error classes (cx) -/
structure IsC (K : PySem.W.Frag) (C : Addr) : Prop where
  hdC : (PySem.W.clsIn K C).isSome = true
  ga : PySem.W.findIn K (.ref C) "__getattribute__" = some (some (.builtin "BaseException.__getattribute__"))
  gg : PySem.W.findIn K (.ref C) "__getattr__" = some none
  sub : PySem.W.subIn K (.ref C) (.type "BaseException") = some true
  ha : PySem.W.findIn K (.ref C) "__class__" = some (some (.builtin "object.__class__"))
  hn : PySem.W.specialIn K (.builtin "object.__class__") "__get__" = some (some (.builtin "getset_descriptor.__get__"))
  ht : PySem.W.takesIn K (.builtin "object.__class__") = some true
  hm : PySem.W.mroIn K C (.type "object") = some true
/-- an own class's instances are asked for their class -/
structure IsI (K : PySem.W.Frag) (C : Addr) : Prop where
  cl : Cls K C
  ha : PySem.W.findIn K (.ref C) "__class__" = some (some (.builtin "object.__class__"))
  hn : PySem.W.specialIn K (.builtin "object.__class__") "__get__" = some (some (.builtin "getset_descriptor.__get__"))
  ht : PySem.W.takesIn K (.builtin "object.__class__") = some true
  hm : PySem.W.mroIn K C (.type "object") = some true
/-- the answers of isinstance(x, c), cv what c is: by the type of a built-in x (tb), by the class of an instance (ti), of an error (tx) -/
structure IsTab (K : PySem.W.Frag) (mg : Str → Option Value) (cv : Value) (tb : List (String × Bool)) (ti tx : List (Str × Bool)) : Prop where
  b : ∀ T r, tb.lookup T = some r → PySem.W.kitOne K (.type T) cv = some r
  i : ∀ c r, ti.lookup c = some r → ∀ C, mg c = some (.ref C) → IsI K C ∧ PySem.W.kitOne K (.ref C) cv = some r
  x : ∀ c r, tx.lookup c = some r → ∀ C, mg c = some (.ref C) → IsC K C ∧ PySem.W.kitOne K (.ref C) cv = some r
def isxF (tb : List (String × Bool)) (ti tx : List (Str × Bool)) : D → MH → R D := fun x h => match tyD h x with
  | some T => (match tb.lookup T with
    | some r => .ok (.bl r) h
    | none => .bad)
  | none => (match x with
    | .ref n => (match h[n]? with
      | some (.ins c _) => (match ti.lookup c with
        | some r => .ok (.bl r) h
        | none => .bad)
      | some (.xc c _) => (match tx.lookup c with
        | some r => .ok (.bl r) h
        | none => .bad)
      | _ => .bad)
    | _ => .bad)
section
variable {X : Cx} {pins : List (Addr × Obj)} {σ : L2.St} {H : Hp} {s : Shared}
/-- isinstance of an error that stands as a value -/
def rIsX (K : PySem.W.Frag) : List V → Hp → VK → Prop := fun xs H Q => ∃ (a C : Addr) (dx : Addr) (gs : List (Str × V)) (c : V) (cv : Value) (b : Bool), xs = [.ref a, c] ∧ ClsV c cv ∧ H a = some (exo a C (some dx)) ∧ H dx = some (exd dx gs) ∧ IsC K C ∧ PySem.W.kitOne K (.ref C) cv = some b ∧ Q (.bl b) H
theorem call_isX : CallR X (.builtin "isinstance") (rIsX X.K) := by
  intro pins s σ H xs us Q I r h
  obtain ⟨a, C, dx, gs, c, cv, b, rfl, k, ea, ed, F, e, q⟩ := h
  obtain ⟨u1, u2, rfl, r1, r2⟩ := vals2 r
  have e2 := k.eq r2
  subst e2
  obtain rfl : u1 = Value.ref a := r1
  obtain ⟨t1, ho⟩ := exo_at I.hok ea
  obtain ⟨mA, hns, hr⟩ := exd_at I.hok ed
  obtain ⟨od, hod, hl⟩ := lookIn_ns hns
  have J : PySem.W.InstAt s.heap a _ C (some od) := ⟨ho, rfl, rfl, hod⟩
  exact PySem.W.kia_one (PySem.W.kitx_exc F.hdC F.ga F.gg F.sub F.ha F.hn F.ht F.hm) I.kIn J e (fun z => nomatch z) fun tk => ⟨.bl b, H, I.tok tk, rfl, q⟩
end
section
variable {X : Cx} {W : Wx} {a c : Expr} {m : EM} {p pos : Pos} {v : V} {cv : Value} {tb : List (String × Bool)} {ti tx : List (Str × Bool)}
theorem e_isx (F : IsTab X.K X.mg cv tb ti tx) (k : ClsV v cv) (hg : Gl X "isinstance") (hm : X.mg "isinstance" = none) (ha : PE X a (tE (gd X) W m)) (hc : PE X c (tC v))
    (s1 : starEach [a, c] X.env = (false, eval a X.env) :: starEach [c] X.env := by rfl) (s2 : starEach [c] X.env = (false, eval c X.env) :: starEach [] X.env := by rfl) (hpl : (backTo pos (starEach [c] X.env)).any (·.1) = false := by rfl) :
    PE X (.Call (.Name "isinstance" p) [a, c] [] pos) (tE (gd X) W (un (isxF tb ti tx) m)) :=
  PE_of (pe_callB (CallR.or call_isi call_isX) hg hm (by decide +kernel) (pa_cons ha (pa_cons hc pa_nil s2) s1) (by decide) (by decide) s1 hpl) fun σ H Q q => by
    refine one q fun ρ e H h x vx s hh rx p => ?_
    unfold isxF at p
    split at p
    · rename_i T hT
      split at p
      · rename_i r hr
        obtain ⟨t1, _⟩ := tyD_v hh rx hT
        exact .inl ⟨vx, v, .type T, cv, r, rfl, k, t1, F.b T r hr, p.okk hh .blN⟩
      · exact p.elim
    · split at p
      · rename_i n _
        obtain ⟨b, e1, e2⟩ := RD_ref rx
        split at p
        · rename_i c0 fs hn
          obtain ⟨C, dx, gs, mgC, e3, rp⟩ := hh.obj n _ b hn e1
          split at p
          · rename_i r hr
            obtain ⟨i1, i2⟩ := F.i c0 r hr C mgC
            subst e2
            exact .inl ⟨.ref b, v, .ref C, cv, r, rfl, k, .base (.ins e3 i1.cl i1.ha i1.hn i1.ht i1.hm), i2, p.okk hh .blN⟩
          · exact p.elim
        · rename_i c0 fs hn
          obtain ⟨C, dx, gs, mgC, e3, e4, rp⟩ := hh.obj n _ b hn e1
          split at p
          · rename_i r hr
            obtain ⟨i1, i2⟩ := F.x c0 r hr C mgC
            subst e2
            exact .inr ⟨b, C, dx, gs, v, cv, r, rfl, k, e3, e4, i1, i2, p.okk hh .blN⟩
          · exact p.elim
        · exact p.elim
      · exact p.elim
end
end ML

/-! ML 13: enumerate of a list, displays of dicts -/
namespace ML
open PySem PySem.Spec PyProof.Rows L2

def enumD (l : List D) : List D := l.zipIdx.map fun p => .tup [.int (p.2 : Nat), p.1]
def enumF : List D → MH → R IT := fun ds h => match ds with
  | [.ref n] => (match h[n]? with
    | some (.lst l) => .ok ⟨enumD l, [(n, l)]⟩ h
    | some (.rdl l) => .ok ⟨enumD l, []⟩ h
    | _ => .bad)
  | _ => .bad
def enumI (m : AM) : IM := fun e h => (m e h).bind enumF
theorem enumD_len (l : List D) : (enumD l).length = l.length := by unfold enumD; simp
theorem enumD_at {l : List D} {i : Nat} {d : D} (e : (enumD l)[i]? = some d) : ∃ x, l[i]? = some x ∧ d = .tup [.int (i : Nat), x] := by
  unfold enumD at e
  rw [List.getElem?_map, List.getElem?_zipIdx] at e
  cases q : l[i]? with
  | none => rw [q] at e; cases e
  | some x =>
    rw [q] at e
    refine ⟨x, rfl, ?_⟩
    have e' := Option.some.inj e
    rw [← e']
    simp
section
variable {X : Cx} {W : Wx} {g : Gd} {ρ : List Addr} {H : Hp} {h : MH}
theorem enum_step {ρ2 : List Addr} {H2 H3 : Hp} {h2 : MH} {T : Addr} {i : Nat} {x : D} {v : V} (hh : RH g ρ2 H2 h2) (hT : H2 T = none) (e : H3 = L2.upd H2 T (.tup [.int (i : Nat), v])) (r : RD g ρ2 H2 x v) :
    Lat g ρ2 H2 ρ2 H3 ∧ RH g ρ2 H3 h2 ∧ RD g ρ2 H3 (.tup [.int (i : Nat), x]) (.ref T) := by
  subst e
  have l := Lat.upd (g := g) (ρ := ρ2) (u := .tup [V.int (i : Nat), v]) (Soft.none hT)
  exact ⟨l, hh.upd hT, .tupN (.of upd_same) (.cons .intN (.one (l.rd x r)))⟩
theorem wk_enumL {a : Addr} {l : List D} {n : Nat} (en : ρ[n]? = some a) : WkD g ρ H ⟨enumD l, [(n, l)]⟩ (Ite g.K a) := by
  have key : ∀ {ρ2 H2 h2}, Lat g ρ H ρ2 H2 → RH g ρ2 H2 h2 → IT.ok h2 [(n, l)] = true → ∃ vs, H2 a = some (.lst vs) ∧ RDs g ρ2 H2 l vs := fun {ρ2 H2 h2} l2 hh ok => by
    have e := stands_eq (p := (n, l)) (by unfold IT.ok at ok; simpa using ok)
    exact hh.obj n _ a e (l2.at en)
  refine ⟨fun H => ∃ vs, SqL g.K H a vs ∧ vs.length = l.length, (Ite g.K a).yld, ⟨fun i H hi ⟨vs, q, e⟩ => ⟨vs, vs[i]'(by rw [e]; rw [enumD_len] at hi; exact hi), q, List.getElem?_eq_getElem _⟩, fun H ⟨vs, q, e⟩ => ⟨vs, q, Nat.le_of_eq (by show vs.length = (enumD l).length; rw [enumD_len, e])⟩, fun _ _ _ _ _ _ y => y⟩,
    fun ρ2 H2 h2 l2 hh ok => ?_, fun i H2 x H3 ρ2 h2 d l2 hh ok y e => ?_⟩
  · obtain ⟨vs, e, r⟩ := key l2 hh ok
    exact ⟨vs, .of e, r.length.symm⟩
  · obtain ⟨vs, e1, r⟩ := key l2 hh ok
    obtain ⟨T, z, e2, e3, e4, y⟩ := y
    obtain ⟨d', e5, e6⟩ := enumD_at e
    obtain ⟨v, e7, r7⟩ := r.get e5
    have e8 := y vs (.of e1)
    rw [e7] at e8
    cases e8
    subst e2 e6
    exact enum_step hh e3 e4 r7
theorem wk_enumR {a : Addr} {l : List D} {vs : List V} (sq : RdL g.K H a vs) (r : RDs g ρ H l vs) : WkD g ρ H ⟨enumD l, []⟩ (Ite g.K a) := by
  refine ⟨fun H => RdL g.K H a vs, (Ite g.K a).yld, ⟨fun i H hi q => ⟨vs, vs[i]'(by rw [enumD_len] at hi; rw [← r.length]; exact hi), q.sq, List.getElem?_eq_getElem _⟩, fun H q => ⟨vs, q.sq, Nat.le_of_eq (by show vs.length = (enumD l).length; rw [enumD_len, r.length])⟩, fun _ _ _ _ _ _ y => y⟩,
    fun ρ2 H2 h2 l2 hh ok => l2.rdl sq, fun i H2 x H3 ρ2 h2 d l2 hh ok y e => ?_⟩
  obtain ⟨T, z, e2, e3, e4, y⟩ := y
  obtain ⟨d', e5, e6⟩ := enumD_at e
  obtain ⟨v, e7, r7⟩ := r.get e5
  have e8 := y vs (l2.rdl sq).sq
  rw [e7] at e8
  cases e8
  subst e2 e6
  exact enum_step hh e3 e4 (l2.rd d' r7)
theorem i_enum {e : Expr} {ma : AM} {p pos tpos : Pos} {elts : List Expr} {kk : Nat} (hg : Gl X "enumerate") (hm : X.mg "enumerate" = none) (ha : PA X [e] (tA (gd X) W ma)) (hs : starEach [e] X.env = [(false, eval e X.env)] := by rfl) :
    PI X (.Tuple elts kk tpos) (.Call (.Name "enumerate" p) [e] [] pos) (iM (gd X) W (enumI ma)) := PI_of (pi_enum hg hm ha hs) fun σ H Q q => by
  refine one q fun ρ e H h xs vs s hh rx p => ?_
  unfold enumF at p
  split at p
  · rename_i n
    obtain ⟨v, e1, r1⟩ := rx.inv1
    obtain ⟨a, e2, e3⟩ := RD_ref r1
    subst e3
    split at p
    · rename_i l hl
      obtain ⟨ws, e4, r⟩ := hh.obj n _ a hl e2
      exact ⟨a, ws, e1, .of e4, p.okk hh (wk_enumL e2)⟩
    · rename_i l hl
      obtain ⟨ws, e4, r⟩ := hh.obj n _ a hl e2
      exact ⟨a, ws, e1, e4.sq, p.okk hh (wk_enumR e4 r)⟩
    · exact p.elim
  · exact p.elim
end

/-! ### displays of dicts -/
/-- the pairs of a display, from the left -/
abbrev PM := List (EM × EM)
def pairsM : PM → Env → MH → R (List (Key × D))
  | [], _, h => .ok [] h
  | (k, v) :: r, e, h => (k e h).bind fun x h1 => match keyOf x with
    | some kx => (v e h1).bind fun y h2 => (pairsM r e h2).bind fun ps h3 => .ok ((kx, y) :: ps) h3
    | none => .bad
def mergeD (kvs more : List (Key × D)) : List (Key × D) := more.foldl (fun acc kv => putKD acc kv.1 kv.2) kvs
def dctE (ps : PM) : EM := fun e h => (pairsM ps e (h ++ [.dct []])).bind fun kvs h2 => match h2[h.length]? with
  | some (.dct []) => if kvs.length ≤ 15 then .ok (.ref h.length) (h2.set h.length (.dct (mergeD [] kvs))) else .bad
  | _ => .bad
section
variable {X : Cx} {W : Wx} {pos : Pos} {g : Gd} {ρ : List Addr} {H : Hp} {h : MH}
theorem RP.merge : ∀ {kvs : List (Key × D)} {ws : List (Key × V)} {acc : List (Key × D)} {bs : List (Key × V)}, RP g ρ H kvs ws → RP g ρ H acc bs → RP g ρ H (mergeD acc kvs) (mergeK bs ws)
  | [], ws, acc, bs, q, r => by have q' : ws = [] := q; subst q'; exact r
  | (k, d) :: kvs, ws, acc, bs, q, r => by
    obtain ⟨v, t, e, q1, q2⟩ := q
    subst e
    show RP g ρ H (mergeD (putKD acc k d) kvs) (mergeK (putK bs k v) t)
    exact RP.merge q2 (r.put q1)
def RPk (g : Gd) : List Addr → Hp → List (Key × D) → List (Key × V) → Prop := fun ρ H => RP g ρ H
theorem pairs_read : ∀ (ps : PM) {σ : L2.St} {H : Hp} {Q : List (V × V) → Hp → Prop},
    tG g (RPk g) W (pairsM ps) σ H (fun ws H' => Q (ws.map fun kv => (kV kv.1, kv.2)) H') → tPairs (ps.map fun p => (tE g W p.1, tE g W p.2)) σ H Q
  | [], σ, H, Q, q => by
    obtain ⟨ρ, e, h, s, hh, p⟩ := q
    exact p ρ [] H Lat.refl hh rfl
  | (k, v) :: r, σ, H, Q, q => by
    show tE g W k σ H fun x H1 => tE g W v σ H1 fun y H2 => tPairs _ σ H2 fun ps H3 => Q ((x, y) :: ps) H3
    refine one q fun ρ e H h x vx s hh rx p => ?_
    split at p
    · rename_i kx hk
      refine ⟨ρ, e, h, s, hh, p.bind.mono fun vy H1 q1 => ?_⟩
      obtain ⟨ρ1, y, h1, l1, hh1, ry, p1⟩ := q1
      refine pairs_read r ⟨ρ1, e, h1, s.lat l1, hh1, p1.bind.mono fun ws H2 q2 => ?_⟩
      obtain ⟨ρ2, kvs, h2, l2, hh2, rk, p2⟩ := q2
      have z := p2.okk (v := (kx, vy) :: ws) hh2 ⟨vy, ws, rfl, l2.rd y ry, rk⟩
      rw [List.map_cons] at z
      rw [keyOf_v rx hk]
      exact z
    · exact p.elim
theorem e_dct {keys : List (Option Expr)} {values : List Expr} (ps : PM) (h : PPs X pos keys values (ps.map fun p => (tE (gd X) W p.1, tE (gd X) W p.2))) (hall : keys.all (·.isSome) = true := by rfl) (hl : keys.length = values.length := by rfl) (h0 : keys ≠ [] := by decide)
    (h15 : keys.length ≤ 15 := by decide) : PE X (.Dict keys values pos) (tE (gd X) W (dctE ps)) :=
  PE_of (pe_disp h hall hl h0 h15) fun σ H Q q => by
    intro a ha
    obtain ⟨ρ, e, m, s, hh, p⟩ := q
    have l1 := Lat.new (g := gd X) (ρ := ρ) (u := .dK []) (Soft.none ha)
    have hh1 : RH (gd X) (ρ ++ [a]) (L2.upd H a (.dK [])) (m ++ [.dct []]) := hh.new ha ⟨[], upd_same, rfl⟩
    have p := Post.later l1 p
    refine pairs_read ps ⟨_, e, _, s.lat l1, hh1, p.bind.mono fun ws H2 q2 => ?_⟩
    obtain ⟨ρ2, kvs, h2, l2, hh2, rk, p2⟩ := q2
    split at p2
    · rename_i hd
      split at p2
      case isFalse => exact p2.elim
      rename_i h15
      have ea : ρ2[m.length]? = some a := l2.at (by rw [← hh.len]; simp)
      obtain ⟨bs, e3, r3⟩ := hh2.obj _ _ a hd ea
      have e0 : bs = [] := r3
      subst e0
      refine ⟨e3, ws, rfl, ?_, ?_⟩
      · have := RP.length rk; omega
      · obtain ⟨l3, hh3⟩ := hh2.setDct hd ea e3 (RP.merge (acc := []) (bs := []) rk rfl)
        exact p2 _ _ _ l3 hh3 (by unfold RD; exact ⟨a, ea, rfl⟩)
    · exact p2.elim
end
end ML

/-! ML 14: assignment to any target, names of built-ins, small things for printed derivations -/
namespace ML
open PySem PySem.Spec PyProof.Rows L2

def asgS (g : GM) (a : EM) : SM := fun e h => ofE e (a e h) fun d h1 => match g d e h1 with
  | some e1 => .nx e1 h1
  | none => .bad
section
variable {X : Cx} {W : WX} {tg a : Expr} {ma : EM} {mg : GM} {own : List Nat} {pos : Pos}
theorem s_asg (ha : PE X a (tE (gd X) (pl W) ma)) (hg : PG X tg (tGm (gd X) own mg)) (hs : swapsWithSole [tg] a pos.line X.env = pure false := by rfl) (hw : swappedStores [tg] a X.env = pure none := by rfl)
    (h1 : (assignEach [tg] X.env).map (·.2) = [assign tg X.env] := by rfl) : PS X (.Assign [tg] a pos) (tS (gd X) W (asgS mg ma)) :=
  PS_of (ps_asg ha hg hs hw h1) fun N σ H q => stE q fun ρ e H h d v s hh r p => by
    cases z : mg d e h with
    | none => rw [z] at p; exact p.elim
    | some e1 =>
      rw [z] at p
      exact ⟨ρ, e, h, d, e1, s, hh, r, z, fun σ2 s2 _ => p ρ σ2 H Lat.refl hh s2⟩
theorem takes_no {X : Cx} : Takes X noW := fun u s' x => by
  obtain ⟨_, _, _, _, _, _, _, _, _, _, _, _, _, _, _, _, z⟩ := x
  exact z.elim
end
theorem Post.cyc : True := True.intro
/-! names -/
theorem bb_len : bootBuiltins "len" = some (.builtin "len") := by decide +kernel
theorem bb_all : bootBuiltins "all" = some (.builtin "all") := by decide +kernel
theorem bb_any : bootBuiltins "any" = some (.builtin "any") := by decide +kernel
theorem bb_max : bootBuiltins "max" = some (.builtin "max") := by decide +kernel
theorem bb_min : bootBuiltins "min" = some (.builtin "min") := by decide +kernel
theorem bb_isinstance : bootBuiltins "isinstance" = some (.builtin "isinstance") := by decide +kernel
theorem bb_int : bootBuiltins "int" = some (.type "int") := by decide +kernel
theorem bb_str : bootBuiltins "str" = some (.type "str") := by decide +kernel
theorem bb_bool : bootBuiltins "bool" = some (.type "bool") := by decide +kernel
theorem bb_list : bootBuiltins "list" = some (.type "list") := by decide +kernel
theorem bb_tuple : bootBuiltins "tuple" = some (.type "tuple") := by decide +kernel
theorem bb_dict : bootBuiltins "dict" = some (.type "dict") := by decide +kernel
theorem bb_VE : bootBuiltins "ValueError" = some (.type "ValueError") := by decide +kernel
end ML

/-! ML 15: repr of a list of the mirror, where no other repr is under way -/
namespace ML
open PySem PySem.Spec PyProof.Rows L2

def allO (f : D → Option PyData) : List D → Option (List PyData)
  | [] => some []
  | d :: r => match f d with
    | some p => (match allO f r with
      | some ps => some (p :: ps)
      | none => none)
    | none => none
def keyP : Key → PyData
  | .inl i => .int i
  | .inr x => .str x
def kvO (f : D → Option PyData) : List (Key × D) → Option (List (PyData × PyData))
  | [] => some []
  | (k, d) :: r => match f d with
    | some p => (match kvO f r with
      | some ps => some ((keyP k, p) :: ps)
      | none => none)
    | none => none
def small (p : PyData) : Option PyData := if p.showable = true ∧ p.shown.length ≤ 1000000 ∧ p.depth ≤ 40 then some p else none
def smalls : List PyData → Bool
  | [] => true
  | p :: ps => (small p).isSome && smalls ps
/-- what stands at d, as a tree -/
def toP (h : MH) : Nat → D → Option PyData
  | 0, _ => none
  | _ + 1, .non => some .none
  | _ + 1, .bl b => some (.bool b)
  | _ + 1, .int i => small (.int i)
  | _ + 1, .str x => small (.str x)
  | n + 1, .tup l => match allO (toP h n) l with
    | some ps => small (.tuple ps)
    | none => none
  | n + 1, .ref k => match h[k]? with
    | some (.lst l) => (match allO (toP h n) l with
      | some ps => small (.list ps)
      | none => none)
    | some (.dct kvs) => (match kvO (toP h n) kvs with
      | some ps => if ps.all (fun p => (small p.1).isSome) then small (.dict ps) else none
      | none => none)
    | _ => none
  | _ + 1, _ => none
theorem small_eq {p q : PyData} (e : small p = some q) : q = p ∧ p.showable = true ∧ p.shown.length ≤ 1000000 ∧ p.depth ≤ 40 := by
  unfold small at e
  split at e
  · rename_i h
    cases e
    exact ⟨rfl, h⟩
  · cases e
/-- all that the library asks of a value whose text is wanted -/
structure Shw (P : Program) (w : World) (h : Heap) (u : Value) (p : PyData) : Prop where
  len : p.shown.length ≤ sizeLine
  rd : ∃ as, Reads h u p as
  rp : ∃ bs, ReadAtMost h p.depth bs ∧ ReprK P w bs h p.depth u p.shown
structure ShwAll (P : Program) (w : World) (h : Heap) (us : List Value) (ps : List PyData) : Prop where
  rd : ∃ as, ReadsAll h us ps as
  rp : ∃ bs, ReadAtMost h (PyData.depthAll ps) bs ∧ ReprAllK P w bs h (PyData.depthAll ps) us (PyData.shownAll ps)
section
variable {P : Program} {w : World} {h : Heap}
theorem ShwAll.nil : ShwAll P w h [] [] := ⟨⟨[], .nil⟩, [], fun _ z => (nomatch z), by simp only [PyData.shownAll]; exact .nil⟩
theorem ShwAll.cons {u : Value} {us : List Value} {p : PyData} {ps : List PyData} (a : Shw P w h u p) (b : ShwAll P w h us ps) : ShwAll P w h (u :: us) (p :: ps) := by
  obtain ⟨x1, r1⟩ := a.rd
  obtain ⟨x2, r2⟩ := b.rd
  obtain ⟨b1, m1, k1⟩ := a.rp
  obtain ⟨b2, m2, k2⟩ := b.rp
  refine ⟨⟨_, .cons r1 r2⟩, b1 ++ b2, ?_, ?_⟩
  · simp only [PyData.depthAll]
    exact (m1.mono (Nat.le_max_left _ _)).append (m2.mono (Nat.le_max_right _ _))
  · simp only [PyData.depthAll, PyData.shownAll]
    exact .cons ((k1.more fun b hb => List.mem_append_left _ hb).level_le (Nat.le_max_left _ _)) (k2.more_le (fun b hb => List.mem_append_right _ hb) (Nat.le_max_right _ _))
theorem shw_leaf {u : Value} {p : PyData} (r : Reads h u p []) (k : ReprIs P w u p.shown) (l : p.shown.length ≤ sizeLine) : Shw P w h u p := ⟨l, ⟨_, r⟩, [], fun _ z => (nomatch z), .of_is k _ _ _⟩
theorem line_of {n : Nat} (h : n ≤ 1000000) : n ≤ sizeLine := big_le h
theorem shw_list {a : Addr} {o : Obj} {its : List Value} {n : Nat} {ps : List PyData} (e : h.get? a = some o) (c : o.cls = .type "list") (d : o.data = .seq its.toArray n) (k : ShwAll P w h its ps) (l : (PyData.list ps).shown.length ≤ sizeLine) : Shw P w h (.ref a) (.list ps) := by
  obtain ⟨x1, r1⟩ := k.rd
  obtain ⟨bs, m, rk⟩ := k.rp
  have r : Reads h (.ref a) (.list ps) (a :: x1) := .list e c d (by simpa using r1)
  have hna : a ∉ bs := not_mem_of_deeper r (by simp only [PyData.depth]; omega) m
  cases its with
  | nil =>
    cases r1
    refine ⟨l, ⟨_, r⟩, [], fun _ z => (nomatch z), ?_⟩
    simp only [PyData.shown, PyData.shownAll, listText_nil]
    exact ReprK.listEmpty e c (by simpa using d)
  | cons x xs =>
    refine ⟨l, ⟨_, r⟩, a :: bs, ReadAtMost.cons r (by simp only [PyData.depth]; omega) m, ?_⟩
    simp only [PyData.shown, PyData.depth]
    exact ReprK.list e c d hna (by simpa using rk.length_eq) fun i y q => rk.item i y (by simpa using q)
theorem shw_tup {a : Addr} {o : Obj} {its : Array Value} {n : Nat} {ps : List PyData} (e : h.get? a = some o) (c : o.cls = .type "tuple") (d : o.data = .seq its n) (k : ShwAll P w h its.toList ps) (l : (PyData.tuple ps).shown.length ≤ sizeLine) : Shw P w h (.ref a) (.tuple ps) := by
  obtain ⟨x1, r1⟩ := k.rd
  obtain ⟨bs, m, rk⟩ := k.rp
  have r : Reads h (.ref a) (.tuple ps) x1 := .tuple e c d r1
  have hna : a ∉ bs := not_mem_of_deeper r (by simp only [PyData.depth]; omega) m
  refine ⟨l, ⟨_, r⟩, a :: bs, ReadAtMost.cons r (by simp only [PyData.depth]; omega) m, ?_⟩
  simp only [PyData.shown, PyData.depth]
  exact ReprK.tuple e c d hna rk
theorem shw_dict {a : Addr} {o : Obj} {es : Array DictEntry} {n : Nat} {ps : List (PyData × PyData)} (e : h.get? a = some o) (c : o.cls = .type "dict") (d : o.data = .dict es n) (hs : (a == sysModules) = false) (k1 : ShwAll P w h (es.toList.map (·.key)) (ps.map (·.1))) (k2 : ShwAll P w h (es.toList.map (·.val)) (ps.map (·.2)))
    (l : (PyData.dict ps).shown.length ≤ sizeLine) : Shw P w h (.ref a) (.dict ps) := by
  obtain ⟨x1, r1⟩ := k1.rd
  obtain ⟨x2, r2⟩ := k2.rd
  obtain ⟨b1, m1, rk1⟩ := k1.rp
  obtain ⟨b2, m2, rk2⟩ := k2.rp
  have r : Reads h (.ref a) (.dict ps) (a :: x1 ++ x2) := .dict e c d r1 r2
  have m : ReadAtMost h (PyData.depthKv ps) (b1 ++ b2) := (m1.mono (PyData.depthAll_keys_le ps)).append (m2.mono (PyData.depthAll_vals_le ps))
  have hna : a ∉ b1 ++ b2 := not_mem_of_deeper r (by simp only [PyData.depth]; omega) m
  refine ⟨l, ⟨_, r⟩, a :: (b1 ++ b2), ReadAtMost.cons r (by simp only [PyData.depth]; omega) m, ?_⟩
  simp only [PyData.shown, PyData.depth, PyData.shownKv_eq]
  exact ReprK.dict e c d hs hna (ReprEntriesK.of_two es.toList _ _ (rk1.more_le (fun b hb => List.mem_append_left _ hb) (PyData.depthAll_keys_le ps)) (rk2.more_le (fun b hb => List.mem_append_right _ hb) (PyData.depthAll_vals_le ps)))
end
section
variable {X : Cx} {pins : List (Addr × Obj)} {σ : L2.St} {H : Hp} {s : Shared} {ρ : List Addr} {h : MH}
theorem shw_all (f : D → Option PyData) (hf : ∀ d v u p, RD (gd X) ρ H d v → RelV v u → f d = some p → Shw X.prog X.w s.heap u p) : ∀ {l : List D} {vs : List V} {us : List Value} {ps : List PyData}, RDs (gd X) ρ H l vs → Vals vs us → allO f l = some ps → ShwAll X.prog X.w s.heap us ps
  | [], vs, us, ps, q, r, e => by
    have := q.invNil
    subst this
    cases r
    cases e
    exact .nil
  | d :: l, vs, us, ps, q, r, e => by
    obtain ⟨v, t, e1, q1, q2⟩ := q.inv
    subst e1
    cases r with
    | cons r1 r2 =>
      unfold allO at e
      split at e
      · rename_i p hp
        split at e
        · rename_i ps' hps
          cases e
          exact .cons (hf _ _ _ _ q1 r1 hp) (shw_all f hf q2 r2 hps)
        · cases e
      · cases e
theorem shw_small {u : Value} {x : PyData} (hx : (small x).isSome = true) (k : ∀ p, small x = some p → Shw X.prog X.w s.heap u p) : Shw X.prog X.w s.heap u x := by
  obtain ⟨p, hp⟩ := Option.isSome_iff_exists.mp hx
  have := (small_eq hp).1
  subst this
  exact k _ hp
theorem shw_int {i : Int} {u : Value} {p : PyData} (r : RelV (.int i) u) (e : small (.int i) = some p) : Shw X.prog X.w s.heap u p := by
  obtain ⟨e1, e2, e3, _⟩ := small_eq e
  subst e1
  obtain ⟨t, rfl⟩ := r
  have hs : i.natAbs.log2 < 1920 := by simpa [PyData.showable] using e2
  exact shw_leaf (.int i t) (by simp only [PyData.shown]; exact ReprIs.int t hs) (line_of e3)
theorem shw_str {x : Str} {u : Value} {p : PyData} (r : RelV (.str x) u) (e : small (.str x) = some p) : Shw X.prog X.w s.heap u p := by
  obtain ⟨e1, e2, e3, _⟩ := small_eq e
  subst e1
  obtain ⟨t, rfl⟩ := r
  exact shw_leaf (.str x t) (by simp only [PyData.shown] at e3 ⊢; exact ReprIs.str x t (line_of e3)) (line_of e3)
theorem shw_key {k : Key} {u : Value} (r : keyIs k u = true) (e : (small (keyP k)).isSome = true) : Shw X.prog X.w s.heap u (keyP k) := by
  obtain ⟨p, hp⟩ := Option.isSome_iff_exists.mp e
  have e1 := (small_eq hp).1
  rw [← e1]
  cases k with
  | inl i =>
    cases u <;> first | (cases r; done) | skip
    rename_i j t
    have : j = i := by simpa [keyIs, Value.isInt] using r
    subst this
    exact shw_int ⟨t, rfl⟩ hp
  | inr x =>
    cases u <;> first | (cases r; done) | skip
    rename_i y t
    have : y = x := by simpa [keyIs, Value.isStrOf] using r
    subst this
    exact shw_str ⟨t, rfl⟩ hp
theorem shw_kv (f : D → Option PyData) (hf : ∀ d v u p, RD (gd X) ρ H d v → RelV v u → f d = some p → Shw X.prog X.w s.heap u p) : ∀ {l : List (Key × D)} {ws : List (Key × V)} {rs : List (Key × Value)} {es : List DictEntry} {ps : List (PyData × PyData)},
    RP (gd X) ρ H l ws → KV ws rs → Pairs (mixKind X.prog X.w) es rs → kvO f l = some ps → ps.all (fun p => (small p.1).isSome) = true → ShwAll X.prog X.w s.heap (es.map (·.key)) (ps.map (·.1)) ∧ ShwAll X.prog X.w s.heap (es.map (·.val)) (ps.map (·.2))
  | [], ws, rs, es, ps, q, r, t, e, z => by
    have q' : ws = [] := q
    subst q'
    cases r
    cases t
    cases e
    exact ⟨.nil, .nil⟩
  | (k, d) :: l, ws, rs, es, ps, q, r, t, e, z => by
    obtain ⟨v, ws', e1, q1, q2⟩ := q
    subst e1
    cases r with
    | cons r1 r2 =>
      cases t with
      | cons t1 t2 t3 =>
        unfold kvO at e
        split at e
        · rename_i p hp
          split at e
          · rename_i ps' hps
            cases e
            rw [List.all_cons, Bool.and_eq_true] at z
            obtain ⟨i1, i2⟩ := shw_kv f hf q2 r2 t3 hps z.2
            obtain ⟨r3, r4⟩ := r1
            have r3' : k = _ := r3
            refine ⟨.cons (shw_key (by rw [r3']; exact t1) z.1) i1, .cons ?_ i2⟩
            have q3 := hf _ _ _ _ q1 r4 hp
            rw [← t2] at q3
            exact q3
          · cases e
        · cases e
theorem shw_of (I : Inv X pins σ H s) (hh : RH (gd X) ρ H h) : ∀ (n : Nat) (d : D) (v : V) (u : Value) (p : PyData), RD (gd X) ρ H d v → RelV v u → toP h n d = some p → Shw X.prog X.w s.heap u p
  | 0, _, _, _, _, _, _, e => by cases e
  | n + 1, d, v, u, p, r, ru, e => by
    have ih := shw_of I hh n
    cases d with
    | non =>
      cases e
      unfold RD at r
      subst r
      obtain rfl : u = Value.none := ru
      exact shw_leaf .none (by simp only [PyData.shown]; exact ReprIs.none) (by decide +kernel)
    | bl b =>
      cases e
      unfold RD at r
      subst r
      obtain rfl : u = Value.bool b := ru
      exact shw_leaf (.bool b) (by simp only [PyData.shown]; exact ReprIs.bool b) (by cases b <;> decide +kernel)
    | int i => rw [RD_int r] at ru; exact shw_int ru e
    | str x => rw [RD_str r] at ru; exact shw_str ru e
    | ty _ => cases e
    | glb _ => cases e
    | tup l =>
      unfold toP at e
      split at e
      · rename_i ps hps
        obtain ⟨e1, e2, e3, _⟩ := small_eq e
        subst e1
        obtain ⟨a, vs, ev, sq, rs⟩ := RD_tup r
        subst ev
        obtain rfl : u = Value.ref a := ru
        obtain ⟨its, rv, ⟨o, ho, hc, m, hd⟩, _⟩ := I.tuple sq
        exact shw_tup ho hc hd (shw_all _ ih rs rv hps) (line_of e3)
      · cases e
    | ref k =>
      obtain ⟨a, ea, ev⟩ := RD_ref r
      subst ev
      obtain rfl : u = Value.ref a := ru
      unfold toP at e
      split at e
      · rename_i l hl
        split at e
        · rename_i ps hps
          obtain ⟨e1, e2, e3, _⟩ := small_eq e
          subst e1
          obtain ⟨vs, e4, rs⟩ := hh.obj k _ a hl ea
          obtain ⟨z, its, m, rv, _, ho⟩ := I.lstM e4
          exact shw_list ho rfl rfl (shw_all _ ih rs rv hps) (line_of e3)
        · cases e
      · rename_i kvs hl
        split at e
        · rename_i ps hps
          split at e
          · rename_i hk
            obtain ⟨e1, e2, e3, _⟩ := small_eq e
            subst e1
            obtain ⟨ws, e4, rp⟩ := hh.obj k _ a hl ea
            obtain ⟨_, hsys, rs, rk, o, es, ep, ho, hx, hd, _, hp, _⟩ := dk_of I.hok e4
            obtain ⟨i1, i2⟩ := shw_kv _ ih rp rk hp hps hk
            exact shw_dict ho hx.1 hd hsys i1 i2 (line_of e3)
          · cases e
        · cases e
      · cases e
end
def reprF : D → MH → R D := fun x h => match x with
  | .ref n => (match h[n]? with
    | some (.lst (d :: l)) => (match toP h 12 x with
      | some p => .ok (.str p.shown) h
      | none => .bad)
    | _ => .bad)
  | _ => .bad
def rRp (g : Gd) : List V → Hp → VK → Prop := fun xs H Q => ∃ ρ h n d l p a, RH g ρ H h ∧ xs = [.ref a] ∧ ρ[n]? = some a ∧ h[n]? = some (.lst (d :: l)) ∧ toP h 12 (.ref n) = some p ∧ Q (.str p.shown) H
section
variable {X : Cx} {W : Wx} {a : Expr} {m : EM} {p pos : Pos}
theorem call_reprM (hg : X.A.guards = some []) (hu : X.A.units + 64 < cLine) : CallR X (.builtin "repr") (rRp (gd X)) := by
  intro pins s σ H xs us Q I r h
  obtain ⟨ρ, h, n, d, l, p, a, hh, rfl, ea, hl, hp, q⟩ := h
  obtain ⟨u, rfl, ru⟩ := vals1 r
  obtain rfl : u = Value.ref a := ru
  unfold toP at hp
  simp only [hl] at hp
  split at hp
  · rename_i ps hps
    obtain ⟨e1, e2, e3, e4⟩ := small_eq hp
    subst e1
    obtain ⟨vs, ev, rs⟩ := hh.obj n _ a hl ea
    obtain ⟨z, its, k, rv, _, ho⟩ := I.lstM ev
    have sa := shw_all _ (shw_of I hh 11) rs rv hps
    obtain ⟨x1, r1⟩ := sa.rd
    obtain ⟨bs, mm, rk⟩ := sa.rp
    have rd : Reads s.heap (.ref a) (.list ps) (a :: x1) := .list ho rfl rfl (by simpa using r1)
    have hna : a ∉ bs := not_mem_of_deeper rd (by simp only [PyData.depth]; omega) mm
    simp only [PyData.depth] at e4
    cases its with
    | nil =>
      cases rv
      have := rs.length
      simp at this
    | cons y ys =>
      refine call_repr_slot (by omega) ⟨_, ho, rfl⟩ F.slot_list_repr.toG (call_list_reprK ho rfl rfl hna (by simpa using rk.length_eq) (fun i y e => rk.item i y (by simpa using e)) hg (fun b _ => Clear.nil b) (by show X.A.units + 1 + _ < cLine; omega) (fun _ _ e => e) (fun h' u tk hk => ⟨_, _, rfl, ?_⟩) (by simpa only [PyData.shown] using line_of e3))
      simp only [PyData.shown] at q
      exact ⟨V.str (listText (PyData.shownAll ps)), H, I.kept (t' := tk) hk, ⟨u, rfl⟩, q⟩
  · cases hp
theorem e_repr (hgd : X.A.guards = some []) (hu : X.A.units + 64 < cLine) (hg : Gl X "repr") (hm : X.mg "repr" = none) (ha : PE X a (tE (gd X) W m)) (hs : starEach [a] X.env = (false, eval a X.env) :: starEach [] X.env := by rfl) :
    PE X (.Call (.Name "repr" p) [a] [] pos) (tE (gd X) W (un reprF m)) :=
  PE_of (pe_callB (call_reprM hgd hu) hg hm (by decide +kernel) (pa_cons ha pa_nil hs) (by decide) (by decide) hs rfl) fun σ H Q q => by
    refine one q fun ρ e H h x vx s hh rx p => ?_
    unfold reprF at p
    split at p
    · rename_i n
      obtain ⟨a, e1, e2⟩ := RD_ref rx
      split at p
      · rename_i d l hl
        split at p
        · rename_i pd hp
          subst e2
          exact ⟨ρ, h, n, d, l, pd, a, hh, rfl, e1, hl, hp, p.okk hh .strN⟩
        · exact p.elim
      · exact p.elim
    · exact p.elim
end
end ML

/-! ML 16: the law's own def, run where no repr is under way -/
namespace ML
open PySem PySem.Spec PyProof.Rows L2

section
variable {P : Program} {w : World} {K : PySem.W.Frag} {mg : Str → Option Value} {base : Heap}
/-- one call of a def, at one place of the stack -/
theorem fn_run {x qual : Str} {st : Stmt} {f : Addr} {fd : FuncData} {N ps : List Str} {k : Nat} {A : Around} {outer : List PySem.Env} {s : Shared} {H : Hp} {args : Args} {us : List Value} {vs : List V} {Q : VK} {E : XK} {t : TS} (F : Fun K x qual st f fd) (S : FnScope N ps (defScope st))
    (hr : Room (k + 1) A) (e0 : Env0 P w K mg base A outer s H) (hb : BindsTo s fd args (ps.zip us)) (r : Vals vs us) (hl : vs.length = ps.length)
    (ht : ∀ cdv, Room k (A.deeper (envOfC qual (defScope st) s.heap.objs.size f cdv)) → PSs (cxOf (L2.CX P w) P w K mg base N qual (defScope st) f cdv A outer s H E) (defBody st) t) (q : t { nx := fun _ H' => Q .non H', rt := Q } (start N vs) H) :
    codeAny (model P w) A (.call (.ref f) args) (CR (L2.CX P w) outer P w H s Q E) s := by
  obtain ⟨oc, od, kV, doc, pm, an, cdv, ct, osl, rfl, lk, hcd⟩ := F.ex
  have stay := fun b o (e : base.get? b = some o) => (e0.bs b o e).1
  have KX : K.In s.heap := e0.mod.kin.keeps stay
  refine codeAny_call_function hr.depth (KX _ _ lk) rfl S.co S.gen rfl (PySem.W.codeRec_of KX hcd) (hb _ _ _ _ (wpAny_newFunctionEnv_cells S.kind (fun y hy => ?_) fun env he s1 i => ?_))
  · obtain ⟨n, v⟩ := y
    exact (S.par n (List.of_mem_zip hy).1).imp id fun z => ⟨z, PySem.W.cellsFrom_some _ _ _ (.inl z)⟩
  · subst he
    have I : Inv (cxOf (L2.CX P w) P w K mg base N qual (defScope st) f cdv A outer s H E) [] (start N vs) H s1 := inv_start S hr.hd e0 hl r i
    refine ⟨(e0.mod.nolimit.keeps stay).keeps i.toInCall.keep, codeAny_func (wpAny_mono ((ht cdv (hr.deeper _)).run [] s1 (start N vs) H _ I q) (fun fl s' hs => ?_) fun _ _ hs => hs)⟩
    cases fl with
    | ret u =>
      obtain ⟨v, _, H', J, rv, hq⟩ := hs
      exact ⟨v, H', J.os, J.bare, J.base, J.hok, rv, hq⟩
    | next =>
      obtain ⟨_, H', J, hq⟩ := hs
      exact ⟨V.non, H', J.os, J.bare, J.base, J.hok, rfl, hq⟩
    | brk =>
      obtain ⟨_, _, _, z⟩ := hs
      exact z.elim
    | cont =>
      obtain ⟨_, _, _, z⟩ := hs
      exact z.elim
/-- the tracked heap ahead of the law: the script alone, where the written part does not hold it -/
def scH (o : Option Obj) (a : Addr) (vs : List Value) (ns : List Int) : Hp := match o with
  | some _ => fun _ => none
  | none => fun b => if b = a then some (.frz { cls := .type "list", data := .seq vs.toArray } (.lst (ns.map V.int))) else none
/-- the call of the law, from what its body does at the caller's own place -/
theorem law_top {mb : Str → Option Value} {fa a : Addr} {s₁ : Shared} {vs : List Value} {ns : List Int} (KX : K.In s₁.heap) (hns : s₁.heap.Ns mainGlobals mg) (hb : s₁.heap.Ns builtinsNs mb) (hbb : ∀ x : Str, x ≠ "__name__" → mb x = bootBuiltins x) (hlim : s₁.heap.NoLimit)
    (hg : s₁.gens = #[]) (ha : s₁.heap.get? a = some { cls := .type "list", data := .seq vs.toArray }) (hi : IntsAre vs ns) (hl : ns.length ≤ sizeLine)
    (go : ∀ (base : Heap) (H : Hp), Env0 P w K mg base callerA [] s₁ H → RdL K H a (ns.map V.int) → codeAny (model P w) callerA (.call (.ref fa) ⟨[.ref a], []⟩) (CR (L2.CX P w) [] P w H s₁ (fun v _ => v = .bl true) fun _ _ _ => False) s₁) :
    codeAny (model P w) callerA (.call (.ref fa) ⟨[.ref a], []⟩) (fun r s' => r = .ok (.ret (.bool true)) ∧ OldK s₁.heap s'.heap ∧ s'.os = s₁.os ∧ AllBare s'.gens) s₁ := by
  have rv := vals_ints hi
  -- what is tracked: nothing, or the script that nobody writes
  have only : ∀ {b : Addr} {u : HO}, scH (K.lookup a) a vs ns b = some u → b = a ∧ K.lookup a = none ∧ u = .frz { cls := .type "list", data := .seq vs.toArray } (.lst (ns.map V.int)) := fun {b u} z => by
    cases hk : K.lookup a with
    | some o =>
      rw [hk] at z
      cases (show (none : Option HO) = some u from z)
    | none =>
      rw [hk] at z
      have z' : (if b = a then some (HO.frz { cls := .type "list", data := .seq vs.toArray } (.lst (ns.map V.int))) else none) = some u := z
      by_cases hb : b = a
      · rw [if_pos hb] at z'
        cases z'
        exact ⟨hb, rfl, rfl⟩
      · rw [if_neg hb] at z'
        cases z'
  have hS : RdL K (scH (K.lookup a) a vs ns) a (ns.map V.int) := by
    cases hk : K.lookup a with
    | none => exact .inl ⟨_, if_pos rfl⟩
    | some o =>
      have e := KX a o hk
      rw [ha] at e
      cases e
      exact .inr ⟨_, vs.toArray, _, hk, rfl, rfl, rfl, by rw [List.size_toArray, hi.length]; exact hl, by simpa using rv⟩
  have free : ∀ {b : Addr} {o : Obj}, s₁.heap.get? b = some o → (b = a → K.lookup a ≠ none ∨ False) → scH (K.lookup a) a vs ns b = none := fun {b o} e hn => by
    cases q : scH (K.lookup a) a vs ns b with
    | none => rfl
    | some u =>
      obtain ⟨h1, h2, _⟩ := only q
      rcases hn h1 with h | h
      · exact absurd h2 h
      · exact h.elim
  have dict : ∀ {b : Addr} {m : Str → Option Value}, s₁.heap.Ns b m → (hidT s₁.heap (scH (K.lookup a) a vs ns)).Ns b m := fun {b m} ⟨o, es, ep, e, d, r⟩ =>
    ⟨o, es, ep, hidT_get e (free e fun hb => by
      subst hb
      rw [ha] at e
      cases e
      cases d), d, r⟩
  have hK : K.In (hidT s₁.heap (scH (K.lookup a) a vs ns)) := fun b o e => hidT_get (KX b o e) (free (KX b o e) fun hb => .inl (by subst hb; rw [e]; simp))
  have hok : HOk P w (scH (K.lookup a) a vs ns) s₁.heap := fun b u q => by
    obtain ⟨h1, _, h3⟩ := only q
    subst h1 h3
    exact ⟨ha, by rw [List.length_map]; exact hl, vs, _, rv, ha⟩
  obtain ⟨mc, l1, l2⟩ := hlim
  have e0 : Env0 P w K mg (hidT s₁.heap (scH (K.lookup a) a vs ns)) callerA [] s₁ (scH (K.lookup a) a vs ns) :=
    ⟨rfl, ⟨hK, dict hns, ⟨mb, dict hb, hbb⟩, ⟨mc, dict l1, l2⟩⟩, fun b o e => of_hidT e, Nat.le_of_eq (hidT_size _ _), trivial, fun b z => absurd (show b ∈ ([] : List Addr) from z) (by simp), hok, .of_eq hg⟩
  refine codeAny_mono (go _ _ e0 hS) fun r s' h => ?_
  cases r with
  | error e => exact (cx_no h).elim
  | ok fl =>
    cases fl with
    | next => exact False.elim h
    | brk => exact False.elim h
    | cont => exact False.elim h
    | ret u =>
      obtain ⟨v, H', os, bare, un, hok', r', q⟩ := h
      have q' : v = .bl true := q
      subst q'
      obtain rfl : u = Value.bool true := r'
      refine ⟨rfl, OldK.of_keep fun b o e => ?_, os, bare⟩
      cases z : scH (K.lookup a) a vs ns b with
      | none => exact un.keep b o e z (by intro y; exact absurd (show b ∈ ([] : List Addr) from y) (by simp)) (by simp)
      | some u =>
        obtain ⟨h1, _, h3⟩ := only z
        subst h3
        obtain ⟨e1, _⟩ := hok b _ z
        obtain ⟨e2, _⟩ := hok' b _ (un.frzs b _ _ z)
        rw [e] at e1
        cases e1
        exact e2
end
end ML

/-! ML 17: the head of a law: classes of the written part, the law from its mirror -/
namespace ML
open PySem PySem.Spec PyProof.Rows L2

/-! ### error classes -/
def xcB (K : PySem.W.Frag) (C fI : Addr) (f : Str) : Bool :=
  decide (PySem.W.findIn K (.ref C) "__setattr__" = some (some (.builtin "object.__setattr__"))) && (decide (PySem.W.subIn K (.ref C) (.type "BaseException") = some true) && (decide (PySem.W.typeIn K (.ref C) = some (.type "type")) && (PySem.W.keepIn K (.ref C) &&
  (decide (PySem.W.findIn K (.ref C) "__init__" = some (some (.ref fI))) && (decide (PySem.W.typeIn K (.ref fI) = some (.type "function")) && (decide (PySem.W.findIn K (.ref C) f = some none) && (xfB K C && ((PySem.W.clsIn K C).isSome &&
  (decide (PySem.W.findIn K (.ref C) "__class__" = some (some (.builtin "object.__class__"))) && (decide (PySem.W.specialIn K (.builtin "object.__class__") "__get__" = some (some (.builtin "getset_descriptor.__get__"))) &&
  (decide (PySem.W.takesIn K (.builtin "object.__class__") = some true) && decide (PySem.W.mroIn K C (.type "object") = some true))))))))))))
structure XcB (K : PySem.W.Frag) (C fI : Addr) (f : Str) : Prop where
  sa : PySem.W.findIn K (.ref C) "__setattr__" = some (some (.builtin "object.__setattr__"))
  exC : PySem.W.subIn K (.ref C) (.type "BaseException") = some true
  tyC : PySem.W.typeIn K (.ref C) = some (.type "type")
  kC : PySem.W.keepIn K (.ref C) = true
  iC : PySem.W.findIn K (.ref C) "__init__" = some (some (.ref fI))
  tI : PySem.W.typeIn K (.ref fI) = some (.type "function")
  no : PySem.W.findIn K (.ref C) f = some none
  xf : XfC K C
  is : IsC K C
theorem xcB_ok {K : PySem.W.Frag} {C fI : Addr} {f : Str} (h : xcB K C fI f = true) : XcB K C fI f := by
  unfold xcB at h
  simp only [Bool.and_eq_true, decide_eq_true_eq] at h
  obtain ⟨h1, h2, h3, h4, h5, h6, h7, h8, h9, h10, h11, h12, h13⟩ := h
  have x := xfB_ok h8
  exact ⟨h1, h2, h3, h4, h5, h6, h7, x, ⟨h9, x.ga, x.gg, h2, h10, h11, h12, h13⟩⟩
section
variable {P : Program} {w : World} {K : PySem.W.Frag} {mg : Str → Option Value} {base : Heap}
/-- the class object of such a class -/
def XcO (K : PySem.W.Frag) (C : Addr) : Prop := ∃ nm q N bs bm sn sub ab col dd k0 k1 k2 k3 k5, K.lookup C = some (excClassObj nm q C N bs bm true sn sub ab col dd k0 k1 k2 k3 k5 "ValueError.__new__") ∧ PySem.HandSPX.refsVE bm = true
theorem xco_mk {C N : Addr} {nm q : Str} {bs bm sub : List Value} {sn : List Str} {ab : Bool} {col : Option Bool} {dd : Option Addr} {k0 k1 k2 k3 k5 : Option Value} (h1 : K.lookup C = some (excClassObj nm q C N bs bm true sn sub ab col dd k0 k1 k2 k3 k5 "ValueError.__new__"))
    (h2 : PySem.HandSPX.refsVE bm = true) : XcO K C := ⟨nm, q, N, bs, bm, sn, sub, ab, col, dd, k0, k1, k2, k3, k5, h1, h2⟩
theorem fun_ex {x qual : Str} {st : Stmt} {f : Addr} {oc : Value} {od an : Option Addr} {osl : Array (Option Value)} {kV doc pm cdv ct : Value} (l : K.lookup f = some ⟨oc, od, .func (PySem.W.fnOf x qual (defArgs st) (defBody st) (defScope st) .none kV doc pm an cdv ct), osl⟩)
    (c : PySem.W.codeIn K cdv qual = true) (k : PySem.W.keepIn K (.ref f) = true) : ∃ fd, Fun K x qual st f fd := ⟨_, fun_mk l c k⟩
theorem xc_mk {c f qual : Str} {st : Stmt} {C fI : Addr} {fd : FuncData} {p1 p2 p3 p4 : Pos} (hm : mg c = some (.ref C)) (oC : XcO K C) (F : Fun K "__init__" qual st fI fd) (B : XcB K C fI f)
    (Sc : FnScope ["self", f] ["self", f] (defScope st)) (hb : defBody st = [.Assign [.Attribute (.Name "self" p1) f p2] (.Name f p3) p4]) (v1 : Vis (defScope st) ("self" : Str)) (v2 : Vis (defScope st) f) (d1 : (f == ("__debug__" : Str)) = false) (d2 : (f == ("__classdict__" : Str)) = false)
    (bd : ∀ (kV doc pm : Value) (an : Option Addr) (cdv ct : Value) (us : List Value), us.length = 2 → bindArgs (PySem.W.fnOf "__init__" qual (defArgs st) (defBody st) (defScope st) .none kV doc pm an cdv ct) ⟨us, []⟩ = pure (([("self" : Str), f] : List Str).zip us))
    (bk : ∀ (kV doc pm : Value) (an : Option Addr) (cdv ct : Value) (x y : Value), bindArgs (PySem.W.fnOf "__init__" qual (defArgs st) (defBody st) (defScope st) .none kV doc pm an cdv ct) ⟨[x], [(f, y)]⟩ = pure (([("self" : Str), f] : List Str).zip [x, y])) : XcC P w K mg base c f := by
  have T : OexC K C := ⟨oC, B.sa, B.exC, B.tyC, B.kC⟩
  refine ⟨C, fI, _, hm, T, B.iC, B.tI, xi_ok F Sc hb T B.no v1 v2 d1 d2, F.binds bd, fun s x y _ => ?_⟩
  obtain ⟨oc, od, kV, doc, pm, an, cdv, ct, osl, rfl, _, _⟩ := F.ex
  exact .of_eq (bk _ _ _ _ _ _ x y)
/-! ### isinstance among the error classes -/
def kindB (K : PySem.W.Frag) (cs : List (Str × Addr)) (U : Addr) : Bool := cs.all fun p => decide (PySem.W.kitOne K (.ref p.2) (.ref U) = some true) && (decide (PySem.W.kitOne K (.ref p.2) (.type "ValueError") = some true) &&
  cs.all fun q => decide (PySem.W.kitOne K (.ref p.2) (.ref q.2) = some (decide (p.1 = q.1))))
def tabOf (ns : List Str) (g : Str → Bool) : List (Str × Bool) := ns.map fun n => (n, g n)
theorem tabOf_at {ns : List Str} {g : Str → Bool} {c : Str} {r : Bool} (e : (tabOf ns g).lookup c = some r) : c ∈ ns ∧ r = g c := by
  induction ns with
  | nil => cases e
  | cons n ns ih =>
    unfold tabOf at e
    rw [List.map_cons] at e
    unfold List.lookup at e
    split at e
    · rename_i h
      cases e
      have h' : c = n := by simpa using h
      subst h'
      exact ⟨List.mem_cons_self, rfl⟩
    · obtain ⟨a, b⟩ := ih e
      exact ⟨List.mem_cons_of_mem _ a, b⟩
theorem isTab_mk {cs : List (Str × Addr)} {cv : Value} {g : Str → Bool} (hm : ∀ p ∈ cs, mg p.1 = some (.ref p.2)) (hx : ∀ p ∈ cs, IsC K p.2) (hk : ∀ p ∈ cs, PySem.W.kitOne K (.ref p.2) cv = some (g p.1)) : IsTab K mg cv [] [] (tabOf (cs.map (·.1)) g) := by
  refine ⟨fun T r e => (by cases e), fun c r e => (by cases e), fun c r e C hC => ?_⟩
  obtain ⟨h1, h2⟩ := tabOf_at e
  subst h2
  obtain ⟨p, hp, e1⟩ := List.mem_map.mp h1
  subst e1
  have := hm p hp
  rw [hC] at this
  cases this
  exact ⟨hx p hp, hk p hp⟩
theorem kind_U {cs : List (Str × Addr)} {U : Addr} (h : kindB K cs U = true) : ∀ p ∈ cs, PySem.W.kitOne K (.ref p.2) (.ref U) = some true := fun p hp => by
  have := List.all_eq_true.mp h p hp
  simp only [Bool.and_eq_true, decide_eq_true_eq] at this
  exact this.1
theorem kind_V {cs : List (Str × Addr)} {U : Addr} (h : kindB K cs U = true) : ∀ p ∈ cs, PySem.W.kitOne K (.ref p.2) (.type "ValueError") = some true := fun p hp => by
  have := List.all_eq_true.mp h p hp
  simp only [Bool.and_eq_true, decide_eq_true_eq] at this
  exact this.2.1
theorem kind_C {cs : List (Str × Addr)} {U : Addr} (h : kindB K cs U = true) {q : Str × Addr} (hq : q ∈ cs) : ∀ p ∈ cs, PySem.W.kitOne K (.ref p.2) (.ref q.2) = some (decide (p.1 = q.1)) := fun p hp => by
  have := List.all_eq_true.mp h p hp
  simp only [Bool.and_eq_true, decide_eq_true_eq] at this
  exact of_decide_eq_true (List.all_eq_true.mp this.2.2 q hq)
/-- the fields of the error classes -/
theorem fld_mk {cs : List (Str × Addr)} {f : Str} (hm : ∀ p ∈ cs, mg p.1 = some (.ref p.2)) (hx : ∀ p ∈ cs, XfC K p.2 ∧ PySem.W.findIn K (.ref p.2) f = some none) : FldOk K mg [] (cs.map (·.1)) f := by
  refine ⟨fun c h => (by cases h), fun c h C hC => ?_⟩
  obtain ⟨p, hp, e1⟩ := List.mem_map.mp h
  subst e1
  have := hm p hp
  rw [hC] at this
  cases this
  exact hx p hp
def adr (mg : Str → Option Value) (x : Str) : Addr := match mg x with
  | some (.ref a) => a
  | _ => 0
theorem adr_of {x : Str} {a : Addr} (h : mg x = some (.ref a)) : mg x = some (.ref (adr mg x)) := by
  unfold adr
  rw [h]
theorem adr_is {x : Str} {a : Addr} (h : mg x = some (.ref a)) : adr mg x = a := by
  unfold adr
  rw [h]

/-! ### the law, from its mirror -/
def scriptM (ns : List Int) : MH := [.rdl (ns.map .int)]
theorem RDs.ints {g : Gd} {ρ : List Addr} {H : Hp} : ∀ (ns : List Int), RDs g ρ H (ns.map .int) (ns.map V.int)
  | [] => .nil
  | n :: ns => .cons .intN (RDs.ints ns)
theorem law_run {st : Stmt} {fa a : Addr} {fd : FuncData} {N : List Str} {k : Nat} {s : Shared} {H : Hp} {ns : List Int} {b : SM} (F : Fun K "law" "law" st fa fd) (S : FnScope N ["script"] (defScope st)) (hr : Room (k + 1) callerA) (e0 : Env0 P w K mg base callerA [] s H)
    (hb : Binds K fd ["script"] []) (hS : RdL K H a (ns.map V.int))
    (hbody : ∀ cdv, Room k (callerA.deeper (envOfC "law" (defScope st) s.heap.objs.size fa cdv)) → PSs (cxOf (L2.CX P w) P w K mg base N "law" (defScope st) fa cdv callerA [] s H (fun _ _ _ => False)) (defBody st) (tS ⟨K, mg⟩ (fun cls d _ H => (fun _ _ _ => False : XK) cls d H) b))
    (hm : ∃ h', b ([some (.ref 0)] ++ List.replicate (N.length - 1) none) (scriptM ns) = .rt (.bl true) h') : codeAny (model P w) callerA (.call (.ref fa) ⟨[.ref a], []⟩) (CR (L2.CX P w) [] P w H s (fun v _ => v = .bl true) fun _ _ _ => False) s := by
  obtain ⟨h', hm⟩ := hm
  have hh : RH ⟨K, mg⟩ [a] H (scriptM ns) := by
    have one : ∀ {n : Nat} {o : O} {x : Addr}, (scriptM ns)[n]? = some o → ([a] : List Addr)[n]? = some x → o = .rdl (ns.map .int) ∧ x = a := fun {n o x} e1 e2 => by
      cases n with
      | zero => cases e1; cases e2; exact ⟨rfl, rfl⟩
      | succ n => simp at e2
    refine ⟨rfl, fun n o x e1 e2 => ?_, fun n m o o' x e1 e2 m1 m2 e3 e4 => ?_⟩
    · obtain ⟨h1, h2⟩ := one e1 e2
      subst h1 h2
      exact ⟨_, hS, RDs.ints ns⟩
    · obtain ⟨h1, _⟩ := one e1 e3
      subst h1
      cases m1
  have rd : RDs ⟨K, mg⟩ [a] H [D.ref 0] [V.ref a] := .one (by unfold RD; exact ⟨a, rfl, rfl⟩)
  refine fn_run F S hr e0 (hb s [.ref a] (e0.mod.kin.keeps fun b o e => (e0.bs b o e).1) rfl) (us := [.ref a]) (vs := [.ref a]) (.cons rfl .nil) rfl hbody ⟨[a], _, _, RS.start rd, hh, ?_⟩
  show PostS _ _ _ _ (b ([some (.ref 0)] ++ List.replicate (N.length - 1) none) (scriptM ns)) _
  rw [hm]
  intro ρ' v H' l _ r
  exact RD_bl r rfl
end
theorem walk {l : PySem.W.OpenLaw} {q : Program} {loose : List Str} {XP : (Str → Option Value) → Heap → Prop} {YP : World → Heap → Prop} {d : DefRec} {K : Params → PySem.W.Frag} (hn : l.most = some 63) (hdf : d.params.defaults = []) (hY : ∀ (w : World) (h : Heap), YP w h → (K w.params).In h)
    (F : ∀ (w : World) (mg : Str → Option Value) (fa : Addr) (h : Heap), (K w.params).In h → h.Ns mainGlobals mg → mg d.name = some (.ref fa) →
      ∀ (base : Heap) (s : Shared) (H : Hp) (a : Addr) (ns : List Int), ns.length ≤ 63 → (∀ z ∈ ns, Builtin.Int.intBits z ≤ 1048576) → Env0 l.prog w (K w.params) mg base callerA [] s H → RdL (K w.params) H a (ns.map V.int) →
        codeAny (model l.prog w) callerA (.call (.ref fa) ⟨[.ref a], []⟩) (CR (L2.CX l.prog w) [] l.prog w H s (fun v _ => v = .bl true) fun _ _ _ => False) s) :
    PySem.W.WalkO q loose XP YP l.row.toRowW d [] (fun f vs => PySem.call f vs) := by
  refine Att.attach_callB hn hdf fun w s₀ s₁ mg mb fa o pm cd doc a vs ns G Y ho hd hcd hmg hobj hints hlen hbits hg => ?_
  exact law_top (hY w _ Y) G.T.g G.T.b G.T.builtins G.T.nolimit hg hobj hints (Nat.le_trans hlen (by decide)) fun base H e0 hS => F w mg fa _ (hY w _ Y) G.T.g hmg base s₁ H a ns hlen hbits e0 hS
end ML

/-! Mp: running mirrors step by step (no program in sight) -/
namespace ML
open PySem PySem.Spec PyProof.Rows L2
section
variable {α β : Type} {e e1 e2 : Env} {h h1 h2 h3 h4 : MH} {x y z d : D} {xs : List D} {a b c : EM} {as : AM} {t t2 : TM} {m m2 : SM} {i n : Nat} {v : Bool} {r : R D} {s : S}
theorem ev_var (p : e[i]? = some (some d)) : varE i e h = .ok d h := by unfold varE; rw [p]
theorem ev_con : conE d e h = .ok d h := rfl
theorem ev_bin {f : D → D → MH → R D} (p : a e h = .ok x h1) (q : b e h1 = .ok y h2) (k : f x y h2 = r) : bin f a b e h = r := by unfold bin; rw [p]; show R.bind (b e h1) _ = r; rw [q]; exact k
theorem ev_un {f : D → MH → R D} (p : a e h = .ok x h1) (k : f x h1 = r) : un f a e h = r := by unfold un; rw [p]; exact k
theorem ev_nil : nilA e h = .ok [] h := rfl
theorem ev_cons (p : a e h = .ok x h1) (q : as e h1 = .ok xs h2) : consA a as e h = .ok (x :: xs) h2 := by unfold consA; rw [p]; show R.bind (as e h1) _ = _; rw [q]; rfl
theorem ev_on {f : List D → MH → R D} (p : as e h = .ok xs h1) (k : f xs h1 = r) : onA f as e h = r := by unfold onA; rw [p]; exact k
theorem ev_bm {T : String} {f : D → List D → MH → R D} (p : a e h = .ok x h1) (ty : tyD h1 x = some T) (q : as e h1 = .ok xs h2) (k : f x xs h2 = r) : bmE T f a as e h = r := by
  unfold bmE
  rw [p]
  show (if tyD h1 x = some T then (as e h1).bind (fun xs h2 => f x xs h2) else .bad) = r
  rw [if_pos ty, q]
  exact k
theorem ev_val (p : a e h = .ok (.bl v) h1) : valT a e h = .ok v h1 := by unfold valT; rw [p]; rfl
theorem ev_not (p : t e h = .ok v h1) : notT t e h = .ok (!v) h1 := by unfold notT; rw [p]; rfl
theorem ev_andF (p : t e h = .ok false h1) : andT t t2 e h = .ok false h1 := by unfold andT; rw [p]; rfl
theorem ev_andT (p : t e h = .ok true h1) (q : t2 e h1 = .ok v h2) : andT t t2 e h = .ok v h2 := by unfold andT; rw [p]; exact q
theorem ev_orT (p : t e h = .ok true h1) : orT t t2 e h = .ok true h1 := by unfold orT; rw [p]; rfl
theorem ev_orF (p : t e h = .ok false h1) (q : t2 e h1 = .ok v h2) : orT t t2 e h = .ok v h2 := by unfold orT; rw [p]; exact q
theorem ev_ifT (p : t e h = .ok true h1) (q : a e h1 = r) : ifE t a b e h = r := by unfold ifE; rw [p]; exact q
theorem ev_ifF (p : t e h = .ok false h1) (q : b e h1 = r) : ifE t a b e h = r := by unfold ifE; rw [p]; exact q
/-! statements -/
theorem es_set (p : a e h = .ok d h1) : setS i a e h = .nx (e.set i (some d)) h1 := by unfold setS ofE; rw [p]
theorem es_set' (p : a e h = .ok d h1) (q : e.set i (some d) = e1) : setS i a e h = .nx e1 h1 := by rw [← q]; exact es_set p
theorem es_exp (p : a e h = .ok d h1) : expS a e h = .nx e h1 := by unfold expS ofE; rw [p]
theorem es_ret (p : a e h = .ok d h1) : retS a e h = .rt d h1 := by unfold retS ofE; rw [p]
theorem es_pass : passS e h = .nx e h := rfl
theorem es_seq (p : m e h = .nx e1 h1) (q : m2 e1 h1 = s) : seqS m m2 e h = s := by unfold seqS; rw [p]; exact q
theorem es_seqR (p : m e h = .rt d h1) : seqS m m2 e h = .rt d h1 := by unfold seqS; rw [p]
theorem es_ifT (p : t e h = .ok true h1) (q : m e h1 = s) : ifS t m m2 e h = s := by unfold ifS ofT; rw [p]; exact q
theorem es_ifF (p : t e h = .ok false h1) (q : m2 e h1 = s) : ifS t m m2 e h = s := by unfold ifS ofT; rw [p]; exact q
theorem es_setX (p : c e h = .ok z h1) (q : a e h1 = .ok x h2) (k : b e h2 = .ok y h3) (w : stF x y z h3 = some h4) : setX a b c e h = .nx e h4 := by
  unfold setX ofE
  rw [p]
  dsimp only
  rw [q]
  dsimp only
  rw [k]
  dsimp only
  rw [w]
theorem es_par2 {j : Nat} (p : as e h = .ok [x, y] h1) : parS [i, j] as e h = .nx ((e.set i (some x)).set j (some y)) h1 := by unfold parS ofA; rw [p]; rfl
theorem ef_rt {np n : Nat} {ds : List D} {b : SM} (hl : ds.length = np) (p : b (ds.map some ++ List.replicate (n - ds.length) none) h = .rt d h1) : fnM np n b ds h = .ok d h1 := by unfold fnM; rw [if_pos hl, p]
/-! numbers -/
variable {l : List D} {k j : Int}
theorem set_get {k : Nat} {o o' : O} (e : h[k]? = some o) : (h.set k o')[k]? = some o' := by
  rw [List.getElem?_set_self (List.getElem?_eq_some_iff.mp e).1]
theorem ix0 {x : D} {r : List D} (e : h[n]? = some (.lst (x :: r))) : ixF (.ref n) (.int 0) h = .ok x h := by
  simp [ixF, seqOf, e, atI, ixN]
theorem ix1 {x y : D} {r : List D} (e : h[n]? = some (.lst (x :: y :: r))) : ixF (.ref n) (.int 1) h = .ok y h := by
  have : (1 : Int) < (r.length : Int) + 1 + 1 := by omega
  simp [ixF, seqOf, e, atI, ixN, this]
theorem int_i : intF [.int k] h = .ok (.int k) h := rfl
theorem add_i : addF (.int k) (.int j) h = .ok (.int (k + j)) h := rfl
theorem sub_i : subF (.int k) (.int j) h = .ok (.int (k - j)) h := rfl
theorem mod_i (p : 0 < j) : modF (.int k) (.int j) h = .ok (.int (k % j)) h := by unfold modF; dsimp only; rw [if_pos p]
theorem div_i (p : 0 < j) (q : j.natAbs.log2 < 9000) : fdivF (.int k) (.int j) h = .ok (.int (k / j)) h := by unfold fdivF; dsimp only; rw [if_pos ⟨p, q⟩]
theorem mul_i (p : k.natAbs.log2 + j.natAbs.log2 < 100000000) : mulF (.int k) (.int j) h = .ok (.int (k * j)) h := by unfold mulF; dsimp only; rw [if_pos p]
theorem pow_i (p : 0 ≤ j) (q : ((k.natAbs.log2 + 1 : Nat) : Int) * j ≤ 2 ^ 27) : powF (.int k) (.int j) h = .ok (.int (k ^ j.toNat)) h := by unfold powF; dsimp only; rw [if_pos ⟨p, q⟩]
theorem ge_T (p : j ≤ k) : geF (.int k) (.int j) h = .ok (.bl true) h := by unfold geF ordF; dsimp only; rw [decide_eq_true p]
theorem ge_F (p : ¬ j ≤ k) : geF (.int k) (.int j) h = .ok (.bl false) h := by unfold geF ordF; dsimp only; rw [decide_eq_false p]
theorem lt_T (p : k < j) : ltF (.int k) (.int j) h = .ok (.bl true) h := by unfold ltF ordF; dsimp only; rw [decide_eq_true p]
theorem lt_F (p : ¬ k < j) : ltF (.int k) (.int j) h = .ok (.bl false) h := by unfold ltF ordF; dsimp only; rw [decide_eq_false p]
theorem log_lt {k : Nat} {z : Int} (hk : 0 < k) (p : z.natAbs < 2 ^ k) : z.natAbs.log2 < k := by
  rcases Nat.eq_zero_or_pos z.natAbs with e | e
  · rw [e]; simpa using hk
  · exact (Nat.log2_lt (by omega)).mpr p
theorem st0 {a b v : D} (e : h[n]? = some (.lst [a, b])) : stF (.ref n) (.int 0) v h = some (h.set n (.lst [v, b])) := by simp [stF, e, ixN]
theorem st1 {a b v : D} (e : h[n]? = some (.lst [a, b])) : stF (.ref n) (.int 1) v h = some (h.set n (.lst [a, v])) := by simp [stF, e, ixN]
theorem lst_new (hl : xs.length ≤ 1000000) : lstF xs h = .ok (.ref h.length) (h ++ [.lst xs]) := by unfold lstF; rw [if_pos hl]
theorem tup_new (hl : xs.length ≤ 1000000) : tupF xs h = .ok (.tup xs) h := by unfold tupF; rw [if_pos hl]
/-! walks -/
theorem loop_nil {srcs : List (Nat × List D)} {g : GM} (ok : IT.ok h srcs = true) : loopS srcs g m [] e h = .nx e h := by unfold loopS; rw [if_pos ok]
theorem loop_cons {srcs : List (Nat × List D)} {g : GM} (ok : IT.ok h srcs = true) (p : g d e h = some e1) (q : m e1 h = .nx e2 h2) : loopS srcs g m (d :: xs) e h = loopS srcs g m xs e2 h2 := by
  rw [loopS, if_pos ok, p]
  dsimp only
  rw [q]
theorem es_for {it : IM} {g : GM} {I : IT} (p : it e h = .ok I h1) (q : loopS I.srcs g m I.items e h1 = s) : forS it g m e h = s := by unfold forS; rw [p]; exact q
theorem ei_rdl {l : List D} (p : a e h = .ok (.ref n) h1) (q : h1[n]? = some (.rdl l)) : seqI a e h = .ok ⟨l, []⟩ h1 := by
  unfold seqI
  rw [p]
  show seqF (.ref n) h1 = _
  unfold seqF
  dsimp only
  rw [q]
theorem ei_lst {l : List D} (p : a e h = .ok (.ref n) h1) (q : h1[n]? = some (.lst l)) : seqI a e h = .ok ⟨l, [(n, l)]⟩ h1 := by
  unfold seqI
  rw [p]
  show seqF (.ref n) h1 = _
  unfold seqF
  dsimp only
  rw [q]
theorem ei_rng {j : Int} (p : as e h = .ok [.int j] h1) (c : -(2 ^ 62) ≤ j ∧ j < 2 ^ 62) : rng1I as e h = .ok ⟨rangeD 0 j.toNat, []⟩ h1 := by
  unfold rng1I
  rw [p]
  show (if -(2 ^ 62) ≤ j ∧ j < 2 ^ 62 then _ else _) = _
  rw [if_pos c]
theorem len_rdl {l : List D} (q : h[n]? = some (.rdl l)) : lenF [.ref n] h = .ok (.int l.length) h := by simp [lenF, seqOf, q]
theorem len_lst {l : List D} (q : h[n]? = some (.lst l)) : lenF [.ref n] h = .ok (.int l.length) h := by simp [lenF, seqOf, q]
theorem len_tup {l : List D} : lenF [.tup l] h = .ok (.int l.length) h := by simp [lenF, seqOf]
theorem ixN_ok {n : Nat} {i : Int} (h0 : 0 ≤ i) (h1 : i < n) : ixN n i = some i.toNat := by unfold ixN; rw [if_pos h0, if_pos h1]
theorem ix_rdl {l : List D} {i : Int} {d : D} (q : h[n]? = some (.rdl l)) (h0 : 0 ≤ i) (h1 : l[i.toNat]? = some d) : ixF (.ref n) (.int i) h = .ok d h := by
  have hl : i.toNat < l.length := (List.getElem?_eq_some_iff.mp h1).1
  have : atI l i = some d := by unfold atI; rw [ixN_ok h0 (by omega)]; exact h1
  simp [ixF, seqOf, q, this]
theorem ix_lst {l : List D} {i : Int} {d : D} (q : h[n]? = some (.lst l)) (h0 : 0 ≤ i) (h1 : l[i.toNat]? = some d) : ixF (.ref n) (.int i) h = .ok d h := by
  have hl : i.toNat < l.length := (List.getElem?_eq_some_iff.mp h1).1
  have : atI l i = some d := by unfold atI; rw [ixN_ok h0 (by omega)]; exact h1
  simp [ixF, seqOf, q, this]
theorem ix_tup {l : List D} {i : Int} {d : D} (h0 : 0 ≤ i) (h1 : l[i.toNat]? = some d) : ixF (.tup l) (.int i) h = .ok d h := by
  have hl : i.toNat < l.length := (List.getElem?_eq_some_iff.mp h1).1
  have : atI l i = some d := by unfold atI; rw [ixN_ok h0 (by omega)]; exact h1
  simp [ixF, seqOf, this]
/-! numbers of any size -/
theorem bits_lt (z : Int) : z.natAbs < 2 ^ (Builtin.Int.intBits z) := by
  unfold Builtin.Int.intBits
  split
  · rename_i hz
    have : z = 0 := by simpa using hz
    subst this
    decide
  · exact Nat.lt_log2_self
theorem log_add {x y : Int} {k : Nat} (hx : x.natAbs < 2 ^ k) (hy : y.natAbs < 2 ^ k) : (x + y).natAbs.log2 ≤ k := by
  have h1 : (x + y).natAbs < 2 ^ (k + 1) := by
    have := Int.natAbs_add_le x y
    rw [Nat.pow_succ]
    omega
  have := log_lt (Nat.succ_pos k) h1
  omega
theorem pow_up {k j : Nat} {x : Nat} (h : x < 2 ^ k) (hk : k ≤ j) : x < 2 ^ j := Nat.lt_of_lt_of_le h (Nat.pow_le_pow_right (by decide) hk)
end
end ML

/-! ML 18: constants of the module, starred arguments, chains, a, b, c = x, y, z, insert -/
namespace ML
open PySem PySem.Spec PyProof.Rows L2

/-! ### constants of the module -/
/-- the tuple of texts that the module's name x holds -/
def TupG (K : PySem.W.Frag) (mg : Str → Option Value) (x : Str) (l : List Str) : Prop := ∃ a dd its n sl, mg x = some (.ref a) ∧ K.lookup a = some ⟨.type "tuple", dd, .seq its n, sl⟩ ∧ its.size ≤ sizeLine ∧ Vals (l.map V.str) its.toList
/-- the text, the number that it holds -/
def StrG (mg : Str → Option Value) (x : Str) (s : Str) : Prop := ∃ t, mg x = some (.str s t)
def IntG (mg : Str → Option Value) (x : Str) (i : Int) : Prop := ∃ t, mg x = some (.int i t)
def strsD (l : List Str) : D := .tup (l.map .str)
theorem RDs.strs {g : Gd} {ρ : List Addr} {H : Hp} : ∀ (l : List Str), RDs g ρ H (l.map .str) (l.map V.str)
  | [] => .nil
  | s :: l => .cons .strN (RDs.strs l)
section
variable {X : Cx} {W : Wx} {W0 : WX} {x : Str} {pos : Pos} {l : List Str} {s : Str} {i : Int}
theorem e_gtup (G : TupG X.K X.mg x l) (hg : Gl X x) (hd : (x == ("__debug__" : Str)) = false := by decide) : PE X (.Name x pos) (tE (gd X) W (conE (strsD l))) := by
  obtain ⟨a, dd, its, n, sl, hm, hk, hz, rv⟩ := G
  exact e_con (pe_glob (v := .ref a) hg hm rfl hd) fun ρ H => .tupN (.inr ⟨_, its, n, hk, rfl, rfl, hz, rv⟩) (RDs.strs l)
theorem e_gstr (G : StrG X.mg x s) (hg : Gl X x) (hd : (x == ("__debug__" : Str)) = false := by decide) : PE X (.Name x pos) (tE (gd X) W (conE (.str s))) := by
  obtain ⟨t, hm⟩ := G
  exact e_con (pe_glob (v := .str s) hg hm ⟨t, rfl⟩ hd) fun ρ H => .strN
theorem e_gint (G : IntG X.mg x i) (hg : Gl X x) (hd : (x == ("__debug__" : Str)) = false := by decide) : PE X (.Name x pos) (tE (gd X) W (conE (.int i))) := by
  obtain ⟨t, hm⟩ := G
  exact e_con (pe_glob (v := .int i) hg hm ⟨t, rfl⟩ hd) fun ρ H => .intN
end

/-! ### starred arguments -/
def starA (a : EM) (r : AM) : AM := fun e h => (a e h).bind fun x h1 => match seqOf h1 x with
  | some (_, l) => (r e h1).bind fun ys h2 => .ok (l ++ ys) h2
  | none => .bad
section
variable {X : Cx} {W : Wx} {a b c : Expr} {ma mb mc : EM} {es : List Expr} {mas : AM} {p pos : Pos}
theorem a_star (ha : PE X a (tE (gd X) W ma)) (hr : PA X es (tA (gd X) W mas)) (hs : starEach (.Starred a p :: es) X.env = (true, eval a X.env) :: starEach es X.env := by rfl) : PA X (.Starred a p :: es) (tA (gd X) W (starA ma mas)) :=
  PA_of (StX.pa_star ha hr hs) fun σ H Q q => by
    refine one q fun ρ e H h x vx s hh rx p => ?_
    split at p
    · rename_i k l hl
      obtain ⟨q, vs, e1, rs, alt⟩ := seq_v hh rx hl
      refine ⟨q, vs, e1, ?_, ρ, e, h, s, hh, p.bind.mono fun ws H1 q1 => ?_⟩
      · rcases alt with ⟨_, z⟩ | ⟨_, z⟩
        · exact .inl z
        · exact .inr z
      · obtain ⟨ρ1, ys, h1, l1, hh1, ry, p1⟩ := q1
        exact p1.okk hh1 ((l1.rds l rs).append ry)
    · exact p.elim

/-! ### chains a < b < c -/
def chainE (f g : D → D → MH → R D) (a b c : EM) : EM := fun e h => (a e h).bind fun x h1 => (b e h1).bind fun y h2 => (f x y h2).bind fun z h3 => (toB z h3).bind fun k h4 => if k then (c e h4).bind fun w h5 => g y w h5 else .ok (.bl false) h4
theorem chain_read {f g : D → D → MH → R D} {r r' : R2} (hf : RF2 (gd X) f r) (hg : RF2 (gd X) g r') {σ : L2.St} {H : Hp} {Q : VK} (q : tE (gd X) W (chainE f g ma mb mc) σ H Q) : tChain r r' (tE (gd X) W ma) (tE (gd X) W mb) (tE (gd X) W mc) σ H Q := by
  refine one q fun ρ e H h x vx s hh rx p => ?_
  refine ⟨ρ, e, h, s, hh, p.bind.mono fun vy H1 q1 => ?_⟩
  obtain ⟨ρ1, y, h1, l1, hh1, ry, p1⟩ := q1
  refine hf _ _ ρ1 H1 h1 x y vx vy hh1 (l1.rd x rx) ry (p1.bind.mono fun vz H2 q2 => ?_)
  obtain ⟨ρ2, z, h2, l2, hh2, rz, p2⟩ := q2
  obtain ⟨k, e1, p3⟩ := toB_ok rz p2
  refine ⟨k, e1, ?_⟩
  cases k with
  | false =>
    rw [if_neg (by decide)]
    exact p3.okk hh2 .blN
  | true =>
    rw [if_pos rfl]
    rw [if_pos rfl] at p3
    refine ⟨ρ2, e, h2, (s.lat l1).lat l2, hh2, p3.bind.mono fun vw H3 q3 => ?_⟩
    obtain ⟨ρ3, w, h3, l3, hh3, rw', p4⟩ := q3
    exact hg _ _ ρ3 H3 h3 y w vy vw hh3 (l3.rd y (l2.rd y ry)) rw' p4
theorem e_chain {op op' : CmpOp} {r r' : R2} {f g : D → D → MH → R D} (ho : OpR X (compareOp op) r) (hf : RF2 (gd X) f r) (ho' : OpR X (compareOp op') r') (hg : RF2 (gd X) g r') (ha : PE X a (tE (gd X) W ma)) (hb : PE X b (tE (gd X) W mb)) (hc : PE X c (tE (gd X) W mc))
    (hm : lastMarks [op, op'] [b, c] = false := by with_unfolding_all rfl) : PE X (.Compare a [op, op'] [b, c] pos) (tE (gd X) W (chainE f g ma mb mc)) :=
  PE_of (pe_chain ho ho' ha hb hc hm) fun σ H Q q => chain_read hf hg q
theorem t_chain {op op' : CmpOp} {r r' : R2} {f g : D → D → MH → R D} (ho : OpR X (compareOp op) r) (hf : RF2 (gd X) f r) (ho' : OpR X (compareOp op') r') (hg : RF2 (gd X) g r') (ha : PE X a (tE (gd X) W ma)) (hb : PE X b (tE (gd X) W mb)) (hc : PE X c (tE (gd X) W mc))
    (hm : lastMarks [op, op'] [b, c] = false := by with_unfolding_all rfl) : PT X (.Compare a [op, op'] [b, c] pos) (tT (gd X) W (valT (chainE f g ma mb mc))) :=
  PT_of (pt_chain ho ho' ha hb hc hm) fun σ H Q q => chain_read hf hg (testOf q)
/-! ### -x -/
def negF : D → MH → R D := fun x h => match x with
  | .int i => .ok (.int (-i)) h
  | _ => .bad
theorem rf_neg : RF1 (gd X) negF (rU fun i => .int (-i)) := fun Wf Q ρ H h x vx hh rx p => by
  unfold negF at p
  split at p
  · exact ⟨_, RD_int rx, p.okk hh .intN⟩
  · exact p.elim
end
section
variable {X : Cx} {W : WX} {ma : AM} {pos : Pos}
theorem s_par3 (i j l : Nat) {x y z : Str} {a b c : Expr} {px py pz pt : Pos} {kt k2 pt2} (hc : X.calm = true) (hN : X.N.Nodup) (hi : X.N[i]? = some x) (hj : X.N[j]? = some y) (hl : X.N[l]? = some z) (hij : i ≠ j) (hil : i ≠ l) (hjl : j ≠ l)
    (hx : X.env.scope.names.lookup x = some .local) (hy : X.env.scope.names.lookup y = some .local) (hz : X.env.scope.names.lookup z = some .local) (ha : PA X [a, b, c] (tA (gd X) (pl W) ma))
    (hw : swappedStores [.Tuple [.Name x px, .Name y py, .Name z pz] kt pt] (.Tuple [a, b, c] k2 pt2) X.env = pure (some [x, y, z]))
    (hs : swapsWithSole [.Tuple [.Name x px, .Name y py, .Name z pz] kt pt] (.Tuple [a, b, c] k2 pt2) pos.line X.env = pure false := by rfl) :
    PS X (.Assign [.Tuple [.Name x px, .Name y py, .Name z pz] kt pt] (.Tuple [a, b, c] k2 pt2) pos) (tS (gd X) W (parS [i, j, l] ma)) :=
  PS_of (ps_par3 hc hN hi hj hl hij hil hjl hx hy hz ha hw hs) fun N σ H q => stA q fun ρ e H h ds vs s hh r p => by
    match ds, r, p with
    | [d1, d2, d3], r, p =>
      obtain ⟨v, r1, e1, q1, q2⟩ := r.inv
      obtain ⟨w, r2, e2, q3, q4⟩ := q2.inv
      obtain ⟨u, e3, q5⟩ := q4.inv1
      rw [e3] at e2
      rw [e2] at e1
      exact ⟨v, w, u, e1, p ρ _ H Lat.refl hh (((s.set q1 i).set q3 j).set q5 l)⟩
    | [], r, p => exact p.elim
    | [_], r, p => exact p.elim
    | [_, _], r, p => exact p.elim
    | _ :: _ :: _ :: _ :: _, r, p =>
      rw [if_neg (by simp)] at p
      exact p.elim
end
/-! ### xs.insert(i, x) -/
def insF : D → List D → MH → R D := fun x xs h => match x, xs with
  | .ref n, [.int i, y] => (match h[n]? with
    | some (.lst l) => if l.length < 1000000 ∧ 0 ≤ i ∧ i < 2 ^ 62 then .ok .non (h.set n (.lst (l.take i.toNat ++ [y] ++ l.drop i.toNat))) else .bad
    | _ => .bad)
  | _, _ => .bad
theorem rf_insert {g : Gd} : RFm g insF (fun x vs H Q => ∃ (l : Addr) (xs : List V) (i : Int) (y : V), x = .ref l ∧ vs = [.int i, y] ∧ H l = some (.lst xs) ∧ xs.length < sizeLine ∧ 0 ≤ i ∧ i < 2 ^ 63 ∧
    Q .non (L2.upd H l (.lst (xs.take i.toNat ++ [y] ++ xs.drop i.toNat)))) := fun Wf Q ρ H h x xs vx vs hh rx rxs p => by
  unfold insF at p
  split at p
  · rename_i n i y
    split at p
    · rename_i l hl
      split at p
      · rename_i hz
        obtain ⟨a, e1, e2⟩ := RD_ref rx
        obtain ⟨ws, e3, rs⟩ := hh.obj n _ a hl e1
        obtain ⟨v1, v2, e4, r4, r5⟩ := rxs.inv2
        rw [RD_int r4] at e4
        obtain ⟨l1, l2⟩ := hh.setLst hl e1 e3 (((rs.take i.toNat).append (.one r5)).append (rs.drop i.toNat))
        exact ⟨a, ws, i, v2, e2, e4, e3, by rw [← rs.length, sizeLine_eq]; omega, hz.2.1, by omega, p ρ _ _ l1 l2 .nonN⟩
      · exact p.elim
    · exact p.elim
  · exact p.elim
end ML

/-! ML 19: instances: made, their attributes stored, raise -/
namespace ML
open PySem PySem.Spec PyProof.Rows L2

/-! ### C(..): the class's __init__ lets nothing out -/
def makeF (c : Str) (m : FM) : FM := fun ds h => match m (.ref h.length :: ds) (h ++ [.ins c []]) with
  | .ok .non h' => .ok (.ref h.length) h'
  | _ => .bad
/-- an own class with its __init__, as its callers know it -/
structure InC (P : Program) (w : World) (K : PySem.W.Frag) (mg : Str → Option Value) (base : Heap) (c : Str) (k np : Nat) (m : FM) : Prop where
  ex : ∃ C f fd ps, mg c = some (.ref C) ∧ Mk K C f ∧ Binds K fd ps [] ∧ ps.length = np ∧ FnOk P w K mg base (L2.CX P w) k f fd ps (spM ⟨K, mg⟩ ps.length m)
section
variable {X : Cx} {W : Wx} {g : Gd} {e : Expr} {es : List Expr} {mas : AM} {pos p : Pos} {c : Str} {k np : Nat} {m : FM} {ρ : List Addr} {H : Hp} {h : MH}
theorem RH.newIns {x dx C : Addr} (hh : RH g ρ H h) (h1 : H x = none) (h2 : H dx = none) (h3 : dx ≠ x) (hm : g.mg c = some (.ref C)) :
    Lat g ρ H (ρ ++ [x]) (L2.upd (L2.upd H dx (.own x)) x (.ins C dx [])) ∧ RH g (ρ ++ [x]) (L2.upd (L2.upd H dx (.own x)) x (.ins C dx [])) (h ++ [.ins c []]) ∧ RD g (ρ ++ [x]) (L2.upd (L2.upd H dx (.own x)) x (.ins C dx [])) (.ref h.length) (.ref x) := by
  have q1 : RH g ρ (L2.upd H dx (.own x)) h := hh.upd h2
  have l1 := Lat.upd (g := g) (ρ := ρ) (u := .own x) (Soft.none h2)
  have e0 : L2.upd H dx (.own x) x = none := by rw [upd_ne (Ne.symm h3)]; exact h1
  have l2 := Lat.new (g := g) (ρ := ρ) (u := .ins C dx []) (Soft.none e0)
  refine ⟨l1.trans l2, q1.new e0 ⟨C, dx, [], hm, upd_same, rfl⟩, ?_⟩
  unfold RD
  exact ⟨x, by rw [← hh.len]; simp, rfl⟩
theorem make_read {C : Addr} {ps : List Str} (mgC : X.mg c = some (.ref C)) {σ : L2.St} {H : Hp} {Q : VK} (hn : ∀ ds h, ds.length ≠ ps.length → m ds h = .bad) (q : tE (gd X) W (onA (makeF c m) mas) σ H Q) :
    tMake C (spM (gd X) ps.length m) [] (fun _ _ _ => False) (tA (gd X) W mas) σ H Q := by
  refine one q fun ρ e H h xs vs s hh rx p => ?_
  intro x dx h1 h2 h3
  obtain ⟨l1, l2, l3⟩ := hh.newIns (c := c) h1 h2 h3 mgC
  unfold makeF at p
  have rd : RDs (gd X) (ρ ++ [x]) (L2.upd (L2.upd H dx (.own x)) x (.ins C dx [])) (.ref h.length :: xs) (.ref x :: (vs ++ [])) := by
    rw [List.append_nil]
    exact .cons l3 (l1.rds xs rx)
  have hx0 : ∃ h', m (.ref h.length :: xs) (h ++ [.ins c []]) = .ok .non h' ∧ Post (gd X) (RD (gd X)) (fun c d H' => W.W c d σ H') ρ H (.ok (.ref h.length) h') Q := by
    split at p
    · rename_i h' e1
      exact ⟨h', e1, p⟩
    · exact p.elim
  obtain ⟨h', e1, p⟩ := hx0
  refine ⟨?_, ρ ++ [x], _, _, rd, l2, ?_⟩
  · by_cases hl : (D.ref h.length :: xs).length = ps.length
    · rw [← hl, ← rd.length]
    · rw [hn _ _ hl] at e1
      cases e1
  · rw [e1]
    intro ρ2 v H2 a b r
    refine ⟨by unfold RD at r; exact r, ?_⟩
    refine p ρ2 (.ref x) H2 (l1.trans a) b ?_
    exact a.rd _ l3
theorem e_make (F : InC X.prog X.w X.K X.mg X.base c k np m) (hn : ∀ ds h, ds.length ≠ np → m ds h = .bad) (hr : Room (k + 1) X.A) (hg : Gl X c) (ha : PA X (e :: es) (tA (gd X) W mas)) (hdb : (c == ("__debug__" : Str)) = false := by decide)
    (he : starEach (e :: es) X.env = (false, eval e X.env) :: starEach es X.env := by rfl) (hpl : (backTo pos (starEach es X.env)).any (·.1) = false := by rfl) : PE X (.Call (.Name c p) (e :: es) [] pos) (tE (gd X) W (onA (makeF c m) mas)) := by
  obtain ⟨C, f, fd, ps, mgC, M, hb, hnp, G⟩ := F.ex
  subst hnp
  exact PE_of (pe_make M G hr hg mgC hb .nil (fun _ _ _ _ _ _ _ z => (cx_no z).elim) ha hdb he hpl) fun σ H Q q => make_read mgC hn q
end

/-! ### o.f = v -/
def putFD (f : Str) (v : D) : List (Str × D) → List (Str × D)
  | [] => [(f, v)]
  | (g, x) :: r => if g = f then (g, v) :: r else (g, x) :: putFD f v r
theorem RP.putF {g : Gd} {ρ : List Addr} {H : Hp} {f : Str} {d : D} {v : V} (r : RD g ρ H d v) : ∀ {fs : List (Str × D)} {gs : List (Str × V)}, RP g ρ H fs gs → RP g ρ H (putFD f d fs) (L2.putF f v gs)
  | [], gs, q => by
    have q' : gs = [] := q
    subst q'
    exact ⟨v, [], rfl, r, rfl⟩
  | (k, x) :: fs, gs, q => by
    obtain ⟨u, t, e, q1, q2⟩ := q
    subst e
    show RP g ρ H (if k = f then (k, d) :: fs else (k, x) :: putFD f d fs) (if k = f then (k, v) :: t else (k, u) :: L2.putF f v t)
    by_cases hk : k = f
    · rw [if_pos hk, if_pos hk]
      exact ⟨v, t, rfl, r, q2⟩
    · rw [if_neg hk, if_neg hk]
      exact ⟨u, _, rfl, q1, RP.putF r q2⟩
def putO (ci : List Str) (f : Str) : D → D → MH → Option MH := fun x v h => match x with
  | .ref n => (match h[n]? with
    | some (.ins c fs) => if c ∈ ci ∧ fs.length < 1000 then some (h.set n (.ins c (putFD f v fs))) else none
    | _ => none)
  | _ => none
def stFld (ci : List Str) (f : Str) (o a : EM) : SM := fun e h => ofE e (a e h) fun v h1 => ofE e (o e h1) fun x h2 => match putO ci f x v h2 with
  | some h3 => .nx e h3
  | none => .bad
section
variable {X : Cx} {W : WX} {o a : Expr} {mo ma : EM} {pos pos' : Pos} {f : Str} {ci cx : List Str}
theorem put_ok (F : FldOk X.K X.mg ci cx f) {ρ : List Addr} {H : Hp} {h h' : MH} {x v : D} {vx vv : V} {Q : Hp → Prop} (hh : RH (gd X) ρ H h) (rx : RD (gd X) ρ H x vx) (rv : RD (gd X) ρ H v vv) (e : putO ci f x v h = some h') (k : ∀ H', Lat (gd X) ρ H ρ H' → RH (gd X) ρ H' h' → Q H') :
    ∃ a C dx fs, vx = .ref a ∧ H a = some (.ins C dx fs) ∧ Cls X.K C ∧ NoAttr X.K C f ∧ fs.length < 1000 ∧ Q (L2.upd H a (.ins C dx (L2.putF f vv fs))) := by
  unfold putO at e
  split at e
  · rename_i n
    obtain ⟨b, e1, e2⟩ := RD_ref rx
    split at e
    · rename_i c fs hn
      split at e
      · rename_i hc
        cases e
        obtain ⟨C, dx, gs, mgC, e3, rp⟩ := hh.obj n _ b hn e1
        obtain ⟨c1, c2⟩ := F.1 c hc.1 C mgC
        have rp2 := rp.putF (f := f) rv
        have l2 := Lat.upd (g := gd X) (ρ := ρ) (u := .ins C dx (L2.putF f vv gs)) (Soft.ins e3)
        have hh2 := hh.set (u := .ins C dx (L2.putF f vv gs)) (o' := .ins c (putFD f v fs)) hn e1 rfl rfl (Soft.ins e3) ⟨C, dx, _, mgC, upd_same, l2.rp _ rp2⟩
        exact ⟨b, C, dx, gs, e2, e3, c1, c2, by rw [← RP.length rp]; exact hc.2, k _ l2 hh2⟩
      · cases e
    · cases e
  · cases e
theorem s_fld (F : FldOk X.K X.mg ci cx f) (ho : PE X o (tE (gd X) (pl W) mo)) (ha : PE X a (tE (gd X) (pl W) ma)) (hs : swapsWith a (some (.Attribute o f pos')) pos.line X.env = pure false := by rfl) : PS X (.Assign [.Attribute o f pos'] a pos) (tS (gd X) W (stFld ci f mo ma)) :=
  PS_of (ps_fld ho ha hs) fun N σ H q => by
    refine stE q fun ρ e H h v vv s hh rv p => ?_
    refine ⟨ρ, e, h, s.x, hh, ?_⟩
    revert p
    generalize mo e h = r
    intro p
    cases r with
    | bad => exact p.elim
    | exc c fs h1 => exact fun ρ1 H1 C dd gs l a => p ρ1 σ H1 C dd gs l a (l.rs s)
    | ok x h1 =>
      intro ρ1 vo H1 l1 hh1 r1
      have p : PostS (gd X) W ρ H (match putO ci f x v h1 with | some h3 => .nx e h3 | none => .bad) N := p
      cases z : putO ci f x v h1 with
      | none => rw [z] at p; exact p.elim
      | some h3 =>
        rw [z] at p
        exact put_ok F hh1 r1 (l1.rd v rv) z fun H3 l3 hh3 => p ρ1 σ H3 (l1.trans l3) hh3 ((l1.trans l3).rs s)
end

/-! ### raise C(x), C an error class of one field -/
def raiseS (c f : Str) (a : AM) : SM := fun e h => ofA e (a e h) fun ds h1 => match ds with
  | [d] => .exc c [(f, d)] e h1
  | _ => .bad
section
variable {X : Cx} {W : WX} {e : Expr} {es : List Expr} {mas : AM} {pos p pos' : Pos} {c f : Str}
theorem del_xc {H : Hp} {a dx C : Addr} {y : V} (h1 : H a = none) (h3 : dx ≠ a) : L2.upd (L2.del (xcH H a dx C f y) a) dx (.xd [(f, y)]) = L2.upd H dx (.xd [(f, y)]) := by
  funext b
  by_cases hb : b = dx
  · subst hb; rw [upd_same, upd_same]
  · rw [upd_ne hb, upd_ne hb]
    by_cases ha : b = a
    · subst ha; rw [del_same, h1]
    · rw [del_ne ha]
      unfold xcH
      rw [upd_ne ha, upd_ne hb, upd_ne ha]
theorem s_raise (tk : Takes X W) (hc : X.calm = true) (F : XcC X.prog X.w X.K X.mg X.base c f) (hr : Room 2 X.A) (hg : Gl X c) (ha : PA X (e :: es) (tA (gd X) (pl W) mas)) (hdb : (c == ("__debug__" : Str)) = false := by decide)
    (he : starEach (e :: es) X.env = (false, eval e X.env) :: starEach es X.env := by rfl) (hpl : (backTo pos (starEach es X.env)).any (·.1) = false := by rfl) : PS X (.Raise (some (.Call (.Name c p) (e :: es) [] pos)) none pos') (tS (gd X) W (raiseS c f mas)) := by
  obtain ⟨C, fI, fd, mgC, T, iC, tI, G, hb, hk⟩ := F.ex
  refine PS_of (ps_raise hc tk (pmk_oex (k := 1) T iC tI G hr hb .nil (fun _ _ _ _ _ _ _ z => (cx_no z).elim) hg mgC ha hdb he hpl)) fun N σ H q => ?_
  refine stA q fun ρ e H h ds vs s hh rd p => ?_
  have hd : ∃ d, ds = [d] ∧ PostS (gd X) W ρ H (.exc c [(f, d)] e h) N := by
    split at p
    · exact ⟨_, rfl, p⟩
    · exact p.elim
  obtain ⟨d, ed, p⟩ := hd
  subst ed
  obtain ⟨y, ey, ry⟩ := rd.inv1
  subst ey
  refine ⟨by simp, fun a ha => ⟨a, y, rfl, upd_same, fun dx n ne => ?_⟩⟩
  have n' : H dx = none := by rw [upd_ne ne] at n; exact n
  refine ⟨rfl, dx, [(f, y)], upd_same, by rw [upd_ne ne, upd_same], n', ?_⟩
  have e1 := del_xc (C := C) (f := f) (y := y) ha ne
  unfold xcH at e1
  rw [e1]
  have l := Lat.upd (g := gd X) (ρ := ρ) (u := .xd [(f, y)]) (Soft.none n')
  exact p ρ σ _ C dx [(f, y)] l (hh.upd n') (l.rs s) mgC upd_same (RP.one (l.rd d ry))
end
def neverS : SM := fun _ _ => .bad
section
variable {X : Cx} {W : WX} {st : Stmt} {sts : List Stmt}
theorem s_never : PS X st (tS (gd X) W neverS) := PS_of ps_never fun N σ H q => by
  obtain ⟨ρ, e, h, s, hh, p⟩ := q
  exact p.elim
theorem ss_never : PSs X sts (tS (gd X) W neverS) := PSs_of pss_never fun N σ H q => by
  obtain ⟨ρ, e, h, s, hh, p⟩ := q
  exact p.elim
end
end ML

/-! ML 20: try .. except C as e: one statement -/
namespace ML
open PySem PySem.Spec PyProof.Rows L2

/-- in an except suite: where the error stands and what it holds -/
def sufW (g : Gd) (i : Nat) (a dd : Addr) (gs : List (Str × V)) (fs : List (Str × D)) : Wx :=
  ⟨noW, fun ρ H σ => σ[i]? = some (some (.ref a)) ∧ H dd = some (.xd gs) ∧ RP g ρ H fs gs, fun g' ρ H ρ' H' σ l j => ⟨j.1, l.xd _ _ j.2.1, (show Lat g ρ H ρ' H' from ⟨l.pre, l.tup, l.frz, l.xd, l.ext⟩).rp _ j.2.2⟩⟩
/-- which classes are caught by the class that stands in the clause -/
def CatTab (K : PySem.W.Frag) (mg : Str → Option Value) (cv : Value) (ct : List (Str × Bool)) : Prop := ∀ c b, ct.lookup c = some b → ∀ C, mg c = some (.ref C) → PySem.W.exmOne K (.ref C) cv = some b
def tryAs (b : SM) (ct : List (Str × Bool)) (i : Nat) (s : Str → List (Str × D) → SM) : SM := fun e h => match b e h with
  | .exc c fs e1 h1 => (match ct.lookup c with
    | some true => if i < e1.length then (match s c fs (e1.set i none) h1 with
      | .nx e2 h2 => .nx (e2.set i none) h2
      | .rt d h2 => .rt d h2
      | _ => .bad) else .bad
    | some false => .exc c fs e1 h1
    | none => .bad)
  | r => r
/-- error.f in the suite -/
def xfE (cx : List Str) (c : Str) (fs : List (Str × D)) (f : Str) : EM := fun _ h => if c ∈ cx then (match fs.lookup f with
  | some d => .ok d h
  | none => .bad) else .bad
/-- isinstance(error, ..) in the suite -/
def xiE (tx : List (Str × Bool)) (c : Str) : EM := fun _ h => match tx.lookup c with
  | some b => .ok (.bl b) h
  | none => .bad
section
variable {X : Cx} {a C dd : Addr} {oe : Obj} {pn : List (Addr × Obj)} {i : Nat} {gs : List (Str × V)} {fs : List (Str × D)} {c f n : Str} {p pos : Pos} {ci cx : List Str}
theorem x_fld (F : FldOk X.K X.mg ci cx f) (mc : X.mg c = some (.ref C)) (hz : Zc (.ref C) (some dd) oe) (hf : ∃ vs, oe.data = .fields vs) (hv : PE (X.suite a ((a, oe) :: pn)) (.Name n p) (tVar i))
    (hb : attributeBase (.Name n p) f X.env (eval (.Name n p) X.env) = eval (.Name n p) X.env := by rfl) : PE (X.suite a ((a, oe) :: pn)) (.Attribute (.Name n p) f pos) (tE (gd X) (sufW (gd X) i a dd gs fs) (xfE cx c fs f)) := by
  by_cases hc : c ∈ cx
  · obtain ⟨c1, c2⟩ := F.2 c hc C mc
    refine PE_of (pe_xf c1 c2 hz hf hv hb) fun σ H Q q => ?_
    obtain ⟨ρ, e, h, s, hh, p⟩ := q
    unfold xfE at p
    rw [if_pos hc] at p
    cases z : fs.lookup f with
    | none => rw [z] at p; exact p.elim
    | some d =>
      rw [z] at p
      obtain ⟨j1, j2, j3⟩ := s.j
      obtain ⟨v, e1, r1⟩ := j3.lookup z
      exact ⟨.ref a, j1, rfl, rfl, dd, gs, v, rfl, j2, e1, p.okk hh r1⟩
  · refine ⟨fun pins s σ H Q I q => ?_⟩
    obtain ⟨ρ, e, h, s, hh, p⟩ := q
    unfold xfE at p
    rw [if_neg hc] at p
    exact p.elim
/-- isinstance of the pinned error, whatever its dict -/
def rIsP (K : PySem.W.Frag) (a C dd : Addr) : List V → Hp → VK → Prop := fun xs H Q => ∃ (gs : List (Str × V)) (k : V) (cv : Value) (b : Bool), xs = [.ref a, k] ∧ ClsV k cv ∧ H dd = some (.xd gs) ∧ IsC K C ∧ PySem.W.kitOne K (.ref C) cv = some b ∧ Q (.bl b) H
theorem call_isP (hz : Zc (.ref C) (some dd) oe) (hf : ∃ vs, oe.data = .fields vs) : CallR (X.suite a ((a, oe) :: pn)) (.builtin "isinstance") (rIsP X.K a C dd) := by
  intro pins s σ H xs us Q I r h
  obtain ⟨gs, k, cv, b, rfl, hk, ed, F, e, q⟩ := h
  obtain ⟨u1, u2, rfl, r1, r2⟩ := vals2 r
  have e2 := hk.eq r2
  subst e2
  obtain rfl : u1 = Value.ref a := r1
  obtain ⟨ha, _⟩ := I.pin (a, oe) (List.mem_append_left _ List.mem_cons_self)
  obtain ⟨vs, hd⟩ := hf
  have hx : ObjOk X.prog X.w H s.heap dd (.xd gs) := I.hok dd _ ed
  obtain ⟨mA, hns, hr⟩ := hx
  obtain ⟨od, ho, hl⟩ := lookIn_ns hns
  have J : PySem.W.InstAt s.heap a oe C (some od) := ⟨ha, hz.1, by unfold PySem.W.notCls; rw [hd] <;> rfl, by rw [hz.2]; exact ho⟩
  exact PySem.W.kia_one (PySem.W.kitx_exc F.hdC F.ga F.gg F.sub F.ha F.hn F.ht F.hm) I.kIn J e (fun z => nomatch z) fun tk => ⟨.bl b, H, I.tok tk, rfl, q⟩
theorem x_is {k : V} {cv : Value} {tb : List (String × Bool)} {ti tx : List (Str × Bool)} {ce : Expr} (F : IsTab X.K X.mg cv tb ti tx) (mc : X.mg c = some (.ref C)) (hz : Zc (.ref C) (some dd) oe) (hf : ∃ vs, oe.data = .fields vs) (hk : ClsV k cv) (hg : Gl X "isinstance") (hm : X.mg "isinstance" = none)
    (hv : PE (X.suite a ((a, oe) :: pn)) (.Name n p) (tVar i)) (hce : PE (X.suite a ((a, oe) :: pn)) ce (tC k)) (s1 : starEach [.Name n p, ce] X.env = (false, eval (.Name n p) X.env) :: starEach [ce] X.env := by rfl) (s2 : starEach [ce] X.env = (false, eval ce X.env) :: starEach [] X.env := by rfl)
    (hpl : (backTo pos (starEach [ce] X.env)).any (·.1) = false := by rfl) {ip : Pos} : PE (X.suite a ((a, oe) :: pn)) (.Call (.Name "isinstance" ip) [.Name n p, ce] [] pos) (tE (gd X) (sufW (gd X) i a dd gs fs) (xiE tx c)) := by
  cases z : tx.lookup c with
  | none =>
    refine ⟨fun pins s σ H Q I q => ?_⟩
    obtain ⟨ρ, e, h, s, hh, p⟩ := q
    unfold xiE at p
    rw [z] at p
    exact p.elim
  | some b =>
    obtain ⟨i1, i2⟩ := F.x c b z C mc
    refine PE_of (pe_callB (call_isP hz hf) hg hm (by decide +kernel) (pa_cons hv (pa_cons hce pa_nil s2) s1) (by decide) (by decide) s1 hpl) fun σ H Q q => ?_
    obtain ⟨ρ, e, h, s, hh, p⟩ := q
    unfold xiE at p
    rw [z] at p
    obtain ⟨j1, j2, j3⟩ := s.j
    exact ⟨.ref a, j1, gs, k, cv, b, rfl, hk, j2, i1, i2, p.okk hh .blN⟩
end
section
variable {X : Cx} {Wout : WX} {i : Nat} {n x y : Str} {cv : Value} {ct : List (Str × Bool)} {body : List Stmt} {mb : SM} {np pos pos' py sp : Pos} {ex : Expr} {m : Str → List (Str × D) → EM} {j : Nat}
/-- what the suite reads -/
def tSuf (X : Cx) (i : Nat) (sm : Str → List (Str × D) → SM) (a : Addr) (cls : Value) (d : Option Addr) : TS := fun N σ H => ∃ ρ e h c C dd gs fs, cls = .ref C ∧ d = some dd ∧ X.mg c = some (.ref C) ∧ RX (gd X) (sufW (gd X) i a dd gs fs) ρ H e σ ∧ RH (gd X) ρ H h ∧
  (match sm c fs e h with
    | .nx e2 h2 => ∀ ρ' σ' H', Lat (gd X) ρ H ρ' H' → RH (gd X) ρ' H' h2 → RS (gd X) ρ' H' e2 σ' → N.nx σ' H'
    | .rt v h2 => ∀ ρ' u H', Lat (gd X) ρ H ρ' H' → RH (gd X) ρ' H' h2 → RD (gd X) ρ' H' v u → N.rt u H'
    | _ => False)
theorem RS.wipe1 {g : Gd} {ρ : List Addr} {H : Hp} {e : Env} {σ : L2.St} {v : Option V} (s : RS g ρ H e σ) (i : Nat) : RS g ρ H (e.set i none) (σ.set i v) := by
  refine ⟨by simp [s.len], fun k d z => ?_⟩
  by_cases hk : k = i
  · subst hk
    have hl : k < e.length := by
      have := (List.getElem?_eq_some_iff.mp z).1
      simpa using this
    rw [List.getElem?_set_self hl] at z
    cases z
  · rw [List.getElem?_set_ne (Ne.symm hk)] at z
    obtain ⟨u, z1, z2⟩ := s.get k d z
    exact ⟨u, by rw [List.getElem?_set_ne (Ne.symm hk)]; exact z1, z2⟩
theorem s_tryAs (tk : Takes X Wout) (hN : X.N.Nodup) (hi : X.N[i]? = some n) (hln : X.env.kindOf n = some .local) (hc : Names X x cv) (F : CatTab X.K X.mg cv ct) {b₀ : Stmt} {suite : List Stmt} {sm : Str → List (Str × D) → SM}
    (hb : ∀ (W : WX) (pn : List (Addr × Obj)) (xe : Value → Shared → Prop), Takes (X.tr pn xe) W → PassesOwn (model X.prog X.w) X.A X.env xe → PSs (X.tr pn xe) body (tS (gd X) W mb))
    (hsu : ∀ (a : Addr) (oe : Obj) (cls : Value) (d : Option Addr) (pn : List (Addr × Obj)), Zc cls d oe → (∃ vs, oe.data = .fields vs) → PSs (X.suite a ((a, oe) :: pn)) (b₀ :: suite) (tSuf X i sm a cls d))
    (hs : X.stack = X.env :: X.outer := by rfl) (hf : X.env.frame = some X.env.locals := by rfl) :
    PS X (.Try body [.ExceptHandler (some (.Name x np)) (some n) (b₀ :: suite) pos'] [] [] pos) (tS (gd X) Wout (tryAs mb ct i sm)) :=
  PS_of (ps_try_as (tb := fun W => tS (gd X) W mb) (ts := tSuf X i sm) hs hf hN hi hln hc tk hb hsu) fun D σ H q => by
    obtain ⟨ρ, e, h, s, hh, p⟩ := q
    refine ⟨ρ, e, h, s, hh, ?_⟩
    unfold tryAs at p
    revert p
    generalize mb e h = r
    intro p
    cases r with
    | nx e1 h1 => exact p
    | rt d h1 => exact p
    | bk e1 h1 => exact p
    | ct e1 h1 => exact p
    | bad => exact p
    | exc c fs e1 h1 =>
      intro ρ1 σ1 H1 C dd gs l1 hh1 s1 mc ed rp
      dsimp only at p
      cases z : ct.lookup c with
      | none => rw [z] at p; exact p.elim
      | some b =>
        rw [z] at p
        refine ⟨b, F c b z C mc, fun hb a ha => ?_, fun hb => ?_⟩
        · subst hb
          dsimp only at p
          split at p
          case isFalse => exact p.elim
          rename_i hi1
          have hlen : i < σ1.length := by rw [← s1.len]; exact hi1
          refine ⟨ρ1, e1.set i none, h1, c, C, dd, gs, fs, rfl, rfl, mc, ⟨s1.wipe1 i, ?_, ed, rp⟩, hh1, ?_⟩
          · rw [List.getElem?_set_self hlen]
          · revert p
            generalize sm c fs (e1.set i none) h1 = r
            intro p
            cases r with
            | nx e2 h2 => exact fun ρ2 σ2 H2 l2 hh2 s2 => p ρ2 _ H2 (l1.trans l2) hh2 (s2.wipe1 i)
            | rt d h2 => exact fun ρ2 u H2 l2 hh2 r2 => p ρ2 u H2 (l1.trans l2) hh2 r2
            | bk e2 h2 => exact p.elim
            | ct e2 h2 => exact p.elim
            | exc c2 f2 e2 h2 => exact p.elim
            | bad => exact p.elim
        · subst hb
          exact p ρ1 σ1 H1 C dd gs l1 hh1 s1 mc ed rp
/-- the suite is y = ex -/
theorem su_set {a : Addr} {oe : Obj} {cls : Value} {d : Option Addr} {pn : List (Addr × Obj)} (j : Nat) (hN : X.N.Nodup) (hj : X.N[j]? = some y) (hy : Loc X.env.scope y)
    (hx : ∀ (C dd : Addr) (gs : List (Str × V)) (c : Str) (fs : List (Str × D)), cls = .ref C → d = some dd → X.mg c = some (.ref C) → PE (X.suite a ((a, oe) :: pn)) ex (tE (gd X) (sufW (gd X) i a dd gs fs) (m c fs)))
    (hsw : swapsWith ex (some (.Name y py)) sp.line X.env = pure false := by rfl) (hf : X.fn y = true ∨ X.env.scope.names.lookup y = some .local := by first | exact .inl rfl | exact .inr rfl | assumption) :
    PSs (X.suite a ((a, oe) :: pn)) [.Assign [.Name y py] ex sp] (tSuf X i (fun c fs => setS j (m c fs)) a cls d) := by
  refine ⟨fun pins s σ H D I q => ?_⟩
  obtain ⟨ρ, e, h, c, C, dd, gs, fs, e1, e2, mc, rx, hh, p⟩ := q
  refine (pss_one (ps_set (X := X.suite a ((a, oe) :: pn)) hN hj hy (hx C dd gs c fs e1 e2 mc) hsw hf)).run pins s σ H D I ?_
  refine ⟨ρ, e, h, rx, hh, ?_⟩
  revert p
  show (match (match m c fs e h with | .ok d h1 => S.nx (e.set j (some d)) h1 | .exc c' fs' h1 => S.exc c' fs' e h1 | .bad => S.bad) with | .nx e2 h2 => _ | .rt v h2 => _ | _ => False) → _
  generalize m c fs e h = r
  intro p
  cases r with
  | ok d h1 => exact fun ρ1 v H1 l1 hh1 rv => p ρ1 _ H1 l1 hh1 ((l1.rs rx.s).set rv j)
  | exc c' fs' h1 => exact p.elim
  | bad => exact p.elim
end
end ML

/-! ML 21: calls with keywords -/
namespace ML
open PySem PySem.Spec PyProof.Rows L2

def gCut {α : Type} (n m : Nat) (us ws : List α) : List α := if us.length = n ∧ ws.length = m then us ++ ws else []
theorem kb_mk {K : PySem.W.Frag} {fd : FuncData} {ps ks : List Str} {n m : Nat} (hp : ps ≠ []) (h : ∀ (s : Shared) (us ws : List Value), us.length = n → ws.length = m → BindsTo s fd ⟨us, ks.zip ws⟩ (ps.zip (us ++ ws))) : KBinds K fd ps ks (gCut n m) (gCut n m) := by
  refine ⟨fun s us ws _ hl => ?_, fun {vs us zs ws} r1 r2 => ?_⟩
  · unfold gCut at hl ⊢
    split at hl
    · rename_i c
      rw [if_pos c]
      exact h s us ws c.1 c.2
    · cases ps with
      | nil => exact absurd rfl hp
      | cons p ps => simp at hl
  · unfold gCut
    by_cases c : vs.length = n ∧ zs.length = m
    · rw [if_pos c, if_pos ⟨by rw [← r1.length]; exact c.1, by rw [← r2.length]; exact c.2⟩]
      exact r1.append r2
    · rw [if_neg c, if_neg (by rw [← r1.length, ← r2.length]; exact c)]
      exact .nil
/-- what a caller with keywords knows of a def: n arguments by place, then the keywords ks -/
structure CalK (P : Program) (w : World) (K : PySem.W.Frag) (mg : Str → Option Value) (base : Heap) (x : Str) (n : Nat) (ks : List Str) (k : Nat) (m : FM) : Prop where
  ex : ∃ f fd ps, mg x = some (.ref f) ∧ PySem.W.keepIn K (.ref f) = true ∧ KBinds K fd ps ks (gCut n ks.length) (gCut n ks.length) ∧ FnOk P w K mg base (L2.CX P w) k f fd ps (spM ⟨K, mg⟩ ps.length m) ∧ ps.length = n + ks.length ∧ ∀ ds h, ds.length ≠ ps.length → m ds h = .bad
def onK (n j : Nat) (m : FM) (a b : AM) : EM := fun e h => (a e h).bind fun xs h1 => (b e h1).bind fun ys h2 => if xs.length = n ∧ ys.length = j then m (xs ++ ys) h2 else .bad
section
variable {X : Cx} {E : XK} {e : Expr} {es : List Expr} {mas mks : AM} {kws : List Keyword} {pos p : Pos} {x : Str} {k n : Nat} {ks : List Str} {m : FM}
theorem e_callK (F : CalK X.prog X.w X.K X.mg X.base x n ks k m) (hr : Room k X.A) (tk : Takes X (fun cls d _ H => E cls d H)) (hg : Gl X x) (ha : PA X (e :: es) (tA (gd X) (pl fun cls d _ H => E cls d H) mas)) (hkw : PK X kws (tA (gd X) (pl fun cls d _ H => E cls d H) mks))
    (hall : (backToKw pos (keywordEach kws X.env)).all (·.1.isSome) = true := by rfl) (hks : (backToKw pos (keywordEach kws X.env)).filterMap (·.1) = ks := by rfl)
    (hdb : (x == ("__debug__" : Str)) = false := by decide) (he : starEach (e :: es) X.env = (false, eval e X.env) :: starEach es X.env := by rfl)
    (hpl : ((backTo pos (starEach (e :: es) X.env)).any (·.1) || (backToKw pos (keywordEach kws X.env)).any (·.1.isNone)) = false := by rfl) :
    PE X (.Call (.Name x p) (e :: es) kws pos) (tE (gd X) (pl fun cls d _ H => E cls d H) (onK n ks.length m mas mks)) := by
  obtain ⟨f, fd, ps, mgf, kp, hb, G, hl, hn⟩ := F.ex
  refine PE_of (pe_callK G hr hg mgf kp hb (passes_call tk fun _ _ _ _ q => q) ha hkw hall hks hdb he hpl) fun σ H Q q => ?_
  refine one q fun ρ e H h xs vs s hh rx p => ?_
  refine ⟨ρ, e, h, s, hh, p.bind.mono fun zs H1 q1 => ?_⟩
  obtain ⟨ρ1, ys, h1, l1, hh1, ry, p1⟩ := q1
  split at p1
  · rename_i c
    unfold gCut
    rw [if_pos ⟨by rw [← rx.length]; exact c.1, by rw [← ry.length]; exact c.2⟩]
    refine ⟨?_, ρ1, xs ++ ys, h1, (l1.rds xs rx).append ry, hh1, p1⟩
    rw [List.length_append, ← rx.length, ← ry.length, c.1, c.2, hl]
  · exact p1.elim
end
theorem calk_mk {P : Program} {w : World} {K : PySem.W.Frag} {mg : Str → Option Value} {base : Heap} {x qual : Str} {st : Stmt} {f : Addr} {fd : FuncData} {ps ks : List Str} {k np nn n : Nat} {b : SM} (F : Fun K x qual st f fd) (hm : mg x = some (.ref f))
    (hb : ∀ (kV doc pm : Value) (an : Option Addr) (cdv ct : Value) (us ws : List Value), us.length = n → ws.length = ks.length → bindArgs (PySem.W.fnOf x qual (defArgs st) (defBody st) (defScope st) .none kV doc pm an cdv ct) ⟨us, ks.zip ws⟩ = pure (ps.zip (us ++ ws)))
    (G : FnOk P w K mg base (L2.CX P w) k f fd ps (spM ⟨K, mg⟩ ps.length (fnM np nn b))) (hnp : np = ps.length) (hl : ps.length = n + ks.length) (hp : ps ≠ []) : CalK P w K mg base x n ks k (fnM np nn b) := by
  refine ⟨f, fd, ps, hm, F.kp, kb_mk hp (fun s us ws h1 h2 => ?_), G, hl, fun ds h hd => by unfold fnM; rw [hnp, if_neg hd]⟩
  obtain ⟨oc, od, kV, doc, pm, an, cdv, ct, osl, rfl, _, _⟩ := F.ex
  exact .of_eq (hb _ _ _ _ _ _ us ws h1 h2)
end ML

/-! ML 22: comprehensions that make a dict -/
namespace ML
open PySem PySem.Spec PyProof.Rows L2

def dcLoop (srcs : List (Nat × List D)) (tg : GM) (tst : TM) (ky vl : EM) (n : Nat) (e0 : Env) : List D → MH → R D
  | [], h => if IT.ok h srcs = true then .ok (.ref n) h else .bad
  | d :: r, h => if IT.ok h srcs = true then (match tg d e0 h with
    | some e1 => (match tst e1 h with
      | .ok true h2 => (match ky e1 h2 with
        | .ok x h3 => (match keyOf x with
          | some k => (match vl e1 h3 with
            | .ok y h4 => (match h4[n]? with
              | some (.dct acc) => if acc.length < 1000000 then dcLoop srcs tg tst ky vl n e0 r (h4.set n (.dct (putKD acc k y))) else .bad
              | _ => .bad)
            | _ => .bad)
          | none => .bad)
        | _ => .bad)
      | .ok false h2 => dcLoop srcs tg tst ky vl n e0 r h2
      | _ => .bad)
    | none => .bad) else .bad
def dcE (own : List Nat) (it : IM) (tg : GM) (tst : TM) (ky vl : EM) : EM := fun e h => (it e h).bind fun it h1 => dcLoop it.srcs tg tst ky vl h1.length (wipeM e own) it.items (h1 ++ [.dct []])
section
variable {X : Cx} {W : Wx} {tg iter kx vx : Expr} {ifs : List Expr} {scope : Scope} {own : List (Str × Nat)} {pos : Pos} {mi : IM} {mg : GM} {mt : TM} {mk mv : EM}
theorem dc_ok {g : Gd} {ρ : List Addr} {H : Hp} {Wf : XK} {Q : VK} {srcs : List (Nat × List D)} {l : List D} {n : Nat} {e : Env} {h : MH} (p : Post g (RD g) Wf ρ H (dcLoop srcs mg mt mk mv n e l h) Q) : IT.ok h srcs = true := by
  cases l with
  | nil =>
    unfold dcLoop at p
    split at p
    · assumption
    · exact p.elim
  | cons d r =>
    unfold dcLoop at p
    split at p
    · assumption
    · exact p.elim
theorem RH.newDct {g : Gd} {ρ : List Addr} {H : Hp} {h : MH} {q : Addr} (hh : RH g ρ H h) (hq : H q = none) :
    Lat g ρ H (ρ ++ [q]) (L2.upd H q (.dK [])) ∧ RH g (ρ ++ [q]) (L2.upd H q (.dK [])) (h ++ [.dct []]) ∧ RD g (ρ ++ [q]) (L2.upd H q (.dK [])) (.ref h.length) (.ref q) := by
  have l1 := Lat.new (g := g) (ρ := ρ) (u := .dK []) (Soft.none hq)
  refine ⟨l1, hh.new hq ⟨[], upd_same, rfl⟩, ?_⟩
  unfold RD
  exact ⟨q, by rw [← hh.len]; simp, rfl⟩
theorem dc_read {σ : L2.St} {H : Hp} {Q : VK} (q : tE (gd X) W (dcE (own.map (·.2)) mi mg mt mk mv) σ H Q) :
    tDc (iM (gd X) W mi) (tGm (gd X) (own.map (·.2)) mg) (tT (gd X) (pl noW) mt) (tE (gd X) (pl noW) mk) (tE (gd X) (pl noW) mv) (own.map (·.2)) σ H Q := by
  refine one q fun ρ e H h it J s hh wk p => ?_
  intro Dd hD
  generalize hvs : own.map (·.2) = vs at p ⊢
  obtain ⟨G, Y, wlk, hG, hY⟩ := wk
  obtain ⟨l1, hh1, rD⟩ := hh.newDct hD
  have s1 : RS (gd X) (ρ ++ [Dd]) (L2.upd H Dd (.dK [])) (wipeM e vs) (L2.wipe σ vs) := (l1.rs s.s).wipe vs
  have rD' : (ρ ++ [Dd])[h.length]? = some Dd := by
    obtain ⟨a, e1, e2⟩ := RD_ref rD
    cases e2
    exact e1
  refine ⟨fun i m H' => i ≤ it.items.length ∧ m = it.items.length - i ∧ ∃ ρ2 h2, Lat (gd X) (ρ ++ [Dd]) (L2.upd H Dd (.dK [])) ρ2 H' ∧ RH (gd X) ρ2 H' h2 ∧ Post (gd X) (RD (gd X)) (fun c d H' => W.W c d σ H') ρ2 H' (dcLoop it.srcs mg mt mk mv h.length (wipeM e vs) (it.items.drop i) h2) Q,
    ⟨_, Nat.zero_le _, rfl, _, _, Lat.refl, hh1, Post.later l1 p⟩, ?_⟩
  rintro i m H' ⟨hi, em, ρ2, h2, l2, hh2, p2⟩
  have ok := dc_ok p2
  have gg := hG ρ2 H' h2 (l1.trans l2) hh2 ok
  by_cases hlt : i < it.items.length
  · refine .inr ⟨wlk.goes i H' hlt gg, fun H'' => ∃ ρ3 h3, Lat (gd X) (ρ ++ [Dd]) (L2.upd H Dd (.dK [])) ρ3 H'' ∧ RH (gd X) ρ3 H'' h3 ∧ Post (gd X) (RD (gd X)) (fun c d H' => W.W c d σ H') ρ3 H'' (dcLoop it.srcs mg mt mk mv h.length (wipeM e vs) (it.items.drop (i + 1)) h3) Q,
      fun H'' z => ⟨it.items.length - (i + 1), by omega, by omega, rfl, z⟩, fun x H'' y0 => ?_⟩
    have y := wlk.yields i H' x H'' hlt gg y0
    have ed : it.items.drop i = it.items[i] :: it.items.drop (i + 1) := List.drop_eq_getElem_cons hlt
    obtain ⟨l3, hh3, rd⟩ := hY i H' x H'' ρ2 h2 _ (l1.trans l2) hh2 ok y (List.getElem?_eq_getElem hlt)
    rw [ed] at p2
    unfold dcLoop at p2
    rw [if_pos ok] at p2
    cases q1 : mg it.items[i] (wipeM e vs) h2 with
    | none => rw [q1] at p2; exact p2.elim
    | some e3 =>
      rw [q1] at p2
      refine ⟨ρ2, _, h2, _, e3, (l2.trans l3).rs s1, hh3, rd, q1, fun σ3 s3 b3 => ⟨wipe_but b3, ?_⟩⟩
      have p3 := Post.later l3 p2
      dsimp only at p3
      refine ⟨ρ2, e3, h2, s3.x, hh3, ?_⟩
      revert p3
      generalize mt e3 h2 = r
      intro p3
      cases r with
      | bad => exact p3.elim
      | exc c fs h4 => exact p3.elim
      | ok b h4 =>
        intro ρ4 b' H4 l4 hh4 eb
        cases eb
        cases b with
        | false =>
          rw [if_neg (by decide)]
          exact ⟨ρ4, h4, (l2.trans l3).trans l4, hh4, Post.later l4 p3⟩
        | true =>
          rw [if_pos rfl]
          have p4 := Post.later l4 p3
          dsimp only at p4
          refine ⟨ρ4, e3, h4, (l4.rs s3).x, hh4, ?_⟩
          revert p4
          generalize mk e3 h4 = r
          intro p4
          cases r with
          | bad => exact p4.elim
          | exc c fs h5 => exact p4.elim
          | ok xk h5 =>
            intro ρ5 vk H5 l5 hh5 rk
            have p5 := Post.later l5 p4
            dsimp only at p5
            split at p5
            · rename_i k hk
              refine ⟨ρ5, e3, h5, ((l4.trans l5).rs s3).x, hh5, ?_⟩
              revert p5
              generalize mv e3 h5 = r
              intro p5
              cases r with
              | bad => exact p5.elim
              | exc c fs h6 => exact p5.elim
              | ok yv h6 =>
                intro ρ6 vy H6 l6 hh6 ry
                have p6 := Post.later l6 p5
                dsimp only at p6
                have lf := (((l2.trans l3).trans l4).trans l5).trans l6
                split at p6
                · rename_i acc hacc
                  split at p6
                  · rename_i hlen
                    have ea := lf.at rD'
                    obtain ⟨ws, e7, r7⟩ := hh6.obj _ _ Dd hacc ea
                    obtain ⟨l8, hh8⟩ := hh6.setDct (l' := putKD acc k yv) (vs' := putK ws k vy) hacc ea e7 (r7.put ry)
                    refine ⟨ws, k, keyOf_v rk hk, e7, Nat.lt_of_lt_of_le (by rw [← RP.length r7]; exact hlen) (big_le (Nat.le_refl _)), ρ6, _, lf.trans l8, hh8, Post.later l8 p6⟩
                  · exact p6.elim
                · exact p6.elim
            · exact p5.elim
  · have e : i = it.items.length := by omega
    subst e
    refine .inl ⟨wlk.stops H' gg, ?_⟩
    rw [List.drop_length] at p2
    unfold dcLoop at p2
    rw [if_pos ok] at p2
    exact p2.okk hh2 (l2.rd (.ref h.length) rD)
theorem e_dc (hc : X.calm = true) (hN : X.N.Nodup) (hi : PI X tg iter (iM (gd X) W mi)) (ok : BlkOk X.N X.env.scope scope own)
    (hg : ∀ (s : Shared) (H : Hp) (C : Addr) (cl : List (Str × Addr)) (fp : List Addr), PG (X.blk s H scope (compEnvC scope cl C X.env) fp) tg (tGm (gd X) (own.map (·.2)) mg))
    (ht : ∀ (s : Shared) (H : Hp) (C : Addr) (cl : List (Str × Addr)) (fp : List Addr), PTs (X.blk s H scope (compEnvC scope cl C X.env) fp) ifs (tT (gd X) (pl noW) mt))
    (hk : ∀ (s : Shared) (H : Hp) (C : Addr) (cl : List (Str × Addr)) (fp : List Addr), PE (X.blk s H scope (compEnvC scope cl C X.env) fp) kx (tE (gd X) (pl noW) mk))
    (he : ∀ (s : Shared) (H : Hp) (C : Addr) (cl : List (Str × Addr)) (fp : List Addr), PE (X.blk s H scope (compEnvC scope cl C X.env) fp) vx (tE (gd X) (pl noW) mv)) (hs : ∀ x, foldedSetIterable iter X.env x = pure x := by intro _; rfl) :
    PE X (.DictComp kx vx [⟨tg, iter, ifs, 0⟩] scope pos) (tE (gd X) W (dcE (own.map (·.2)) mi mg mt mk mv)) :=
  PE_of (pe_dc hc hN hi ok hg ht hk he hs) fun σ H Q q => dc_read q
/-- {} -/
def dct0E : EM := fun _ h => .ok (.ref h.length) (h ++ [.dct []])
theorem e_dct0 : PE X (.Dict [] [] pos) (tE (gd X) W dct0E) := PE_of pe_dnewK fun σ H Q q => by
  obtain ⟨ρ, e, h, s, hh, p⟩ := q
  intro a ha
  obtain ⟨l1, l2, l3⟩ := hh.newDct ha
  exact p _ _ _ l1 l2 l3
end
end ML

/-! ML 23: len(set(xs)) of texts, any number of them -/
namespace PySem
namespace SetM
open PyProof.Rows PySem.Calls
/-- the texts among the first i; how many different ones -/
def seen (xs : List Str) (i : Nat) : Str → Bool := fun k => (xs.take i).any (· == k)
def many (xs : List Str) : Nat → Nat
  | 0 => 0
  | i + 1 => if seen xs i (xs.getD i Str.empty) = true then many xs i else many xs i + 1
theorem many_le (xs : List Str) : ∀ i, many xs i ≤ i
  | 0 => Nat.le_refl _
  | i + 1 => by
    have := many_le xs i
    unfold many
    split <;> omega
theorem strs_val : ∀ {us : List Value} {xs : List Str}, StrsAre us xs → ∀ (i : Nat) (v : Value), us[i]? = some v → ∃ t, v = .str (xs.getD i Str.empty) t
  | _, _, .nil, i, v, h => by simp at h
  | _, _, .cons n t hr, 0, v, h => by
    simp at h
    exact ⟨t, by rw [← h]; rfl⟩
  | _, _, .cons n t hr, i + 1, v, h => by
    obtain ⟨t', e⟩ := strs_val hr i v (by simpa using h)
    exact ⟨t', by rw [e]; rfl⟩
abbrev set0 (led : Bool) : Obj := { cls := .type "set", dict := none, data := .set #[] 0 (.fresh 0 0 led) }
section
variable {prog : Program} {w : World} {A : Around} {R : Result → Shared → Prop} {I : Addr} {fp wr : List Addr} {G : Array GenState → Array GenState → Prop} {n : Nat} {P : Nat → Value → Prop} {St : Nat → Shared → Prop}
theorem seen_step {xs : List Str} {i : Nat} (hi : i < xs.length) (k : Str) : (seen xs i k || decide (k = xs.getD i Str.empty)) = seen xs (i + 1) k := by
  unfold seen
  have e1 : xs.getD i Str.empty = xs[i] := by simp [List.getD, hi]
  rw [List.take_succ_eq_append_getElem hi, List.any_append, e1]
  congr 1
  simp only [List.any_cons, List.any_nil, Bool.or_false]
  by_cases q : k = xs[i]
  · rw [← q]; simp
  · have q' : (xs[i] == k) = false := by simpa using (fun z : xs[i] = k => q z.symm)
    rw [q', decide_eq_false q]
theorem upd_loop (W : WalksS prog w A.in1 I fp wr G n P St) (S : Addr) (nf : S ∉ fp) (xs : List Str) (hsz : xs.length = n) (hn : xs.length ≤ 1000) (hval : ∀ i v, P i v → ∃ t, v = .str (xs.getD i Str.empty) t) :
    ∀ (k i : Nat) (s : Shared), n - i = k → i ≤ n → St i s → s.heap.SetOf (strKind prog w) S (seen xs i) (many xs i) →
      (∀ s', Moved (S :: wr) G s s' → s'.heap.SetOf (strKind prog w) S (seen xs xs.length) (many xs xs.length) → R (.ok (.ret .none)) s') → codeAny (model prog w) A (.builtin "set.update.loop" ⟨[.ref S, .ref I], []⟩) R s := by
  have nw : S ∉ wr := fun z => nf (W.sub _ z)
  have stay : ∀ {s s' : Shared} {f : Str → Bool} {m : Nat}, Moved wr G s s' → s.heap.SetOf (strKind prog w) S f m → s'.heap.SetOf (strKind prog w) S f m := fun {s s' f m} hm hS => by
    obtain ⟨o, es, ep, t, ho, rest⟩ := hS
    exact ⟨o, es, ep, t, hm.heap S _ nw ho, rest⟩
  have more : ∀ b ∈ wr, b ∈ S :: wr := fun b hb => List.mem_cons_of_mem _ hb
  intro k
  induction k with
  | zero =>
    intro i s hk hi hst hS hR
    obtain rfl : i = xs.length := by omega
    refine codeAny_builtin F.entry_set_update_loop ?_
    rw [Around.under_plainId F.plain_set_update_loop _]
    show wpAny _ A.in1 (pyNext (.ref I) >>= _) _ _ s
    refine wpAny_bind (W.done s _ _ (by rw [← hsz]; exact hst) fun s' hm => ?_)
    show wpAny _ A.in1 (ret Value.none) _ _ s'
    exact wpAny_pure (hR s' (hm.mono more) (stay hm hS))
  | succ k ih =>
    intro i s hk hi hst hS hR
    have hlt : i < n := by omega
    have hlx : i < xs.length := by omega
    refine codeAny_builtin F.entry_set_update_loop ?_
    rw [Around.under_plainId F.plain_set_update_loop _]
    show wpAny _ A.in1 (pyNext (.ref I) >>= _) _ _ s
    refine wpAny_bind (W.item i s _ _ hlt hst fun v s' hP hst' hm => ?_)
    obtain ⟨t, rfl⟩ := hval i v hP
    show wpAny _ A.in1 (holding [Value.str (xs.getD i Str.empty) t] (setAdd S (.str (xs.getD i Str.empty) t)) >>= _) _ _ s'
    refine wpAny_bind (wpAny_holding ?_)
    unfold setAdd
    have hm2 := many_le xs i
    have hS1 := stay hm hS
    refine wpAny_holding (wpAny_bind ((strKind prog w).pyHash (k := xs.getD i Str.empty) (strKind_is _ _ _ _) (wpAny_setAddHashed_of (knd := strKind prog w) (s := { s' with toks := s'.toks + 1 }) (strKind_is _ _ _ _) rfl hS1 (by unfold scanBound; omega) fun h' sb hS2 => ?_)))
    have hS3 : h'.SetOf (strKind prog w) S (seen xs (i + 1)) (many xs (i + 1)) := SetOf_congr hS2 (fun k' => seen_step hlx k') rfl
    refine wpAny_pure ⟨plainId_quiet F.plain_set_update_loop _, ih (i + 1) _ (by omega) hlt (W.frame _ s' _ _ hst' (Nat.le_succ _) fun b hb o e => (sb.2 b fun z => nf (by rw [← z]; exact hb)).trans e) hS3 fun s'' hm'' hS'' => hR s'' (Moved.trans W.gtrans ((hm.mono more).then_heap (Nat.le_succ _) fun b o hb e => (sb.2 b fun z => hb (by rw [z]; exact List.mem_cons_self)).trans e) hm'') hS''⟩
end
section
variable {prog : Program} {w : World} {A : Around} {E : Value → Shared → Prop} {s : Shared}

theorem set_list {l : Addr} {items : Array Value} {xs : List Str} {Q : Value → Shared → Prop} (hh : A.handled = none) (hl : s.heap.IsList l items) (hi : StrsAre items.toList xs) (hn : xs.length ≤ 1000)
    (h : ∀ (h' : Heap) (tk : Nat), h'.SetOf (strKind prog w) s.heap.objs.size (seen xs xs.length) (many xs xs.length) → (∀ b o, b < s.heap.objs.size → s.heap.get? b = some o → h'.get? b = some o) → Q (.ref s.heap.objs.size) { s with heap := h', toks := tk }) :
    wpAny (model prog w) A (call (.type "set") [.ref l]) Q E s := by
  obtain ⟨c, tl, m0⟩ := F.called_set.mro
  have m1 := F.called_set.made
  have m2 := F.called_set.sub
  have m3 := F.called_set.notType
  have m4 := F.called_set.canCreate
  have m5 := F.typeCall_set_1 (.ref l)
  refine wpAny_call (codeAny_of_tree ?_)
  show wpAny _ _ (callAny (.type "set") _) _ _ _
  refine wpAny_pure ⟨Code.quiet_builtin _ (by decide +kernel), codeAny_builtin F.entry_type_call ?_⟩
  rw [Around.under_plain (weight_type_call_type "set" [.ref l] []) rfl]
  repeat (any_goals (first | assumption | wp_step))
  -- the empty set
  refine codeAny_mono (code_set_new_1 (.ref l) (E := E) (Q₁ := fun obj s₁ => ∃ led : Bool, obj = .ref s.heap.objs.size ∧ s₁ = { s with heap := s.heap.push (set0 led) }) fun led => ⟨led, rfl, rfl⟩) fun r s₁ hr => ?_
  match r, hr with
  | .error e, hr => exact hr
  | .ok .next, hr => exact hr.elim
  | .ok .brk, hr => exact hr.elim
  | .ok .cont, hr => exact hr.elim
  | .ok (.ret obj), hr =>
    obtain ⟨led, rfl, rfl⟩ := hr
    have hS : (s.heap.push (set0 led)).get? s.heap.objs.size = some (set0 led) := Heap.get?_push_size _ rfl
    have hT : Shared.TypeIs { s with heap := s.heap.push (set0 led) } (.ref s.heap.objs.size) "set" := ⟨_, hS, rfl⟩
    have i1 := F.called_set.init.lookup
    have i2 := F.called_set.init.bind (.ref s.heap.objs.size)
    repeat (any_goals (first | assumption | wp_step))
    refine codeAny_mono (codeAny_call_builtin (R := wants (fun r s₂ => r = .none ∧ ∃ h' tk, s₂ = { s with heap := h', toks := tk } ∧ h'.SetOf (strKind prog w) s.heap.objs.size (seen xs xs.length) (many xs xs.length) ∧
      ∀ b o, b < s.heap.objs.size → s.heap.get? b = some o → h'.get? b = some o) E) F.called_set.init.plain F.entry_set_init (check_set_init_1 hT ?_)) fun r₂ s₂ hr₂ => ?_
    · obtain ⟨⟨oc, od, oda, osl⟩, hol, hcl, nl, hdl⟩ := hl
      simp only at hcl hdl
      subst hcl
      subst hdl
      have hlS : l < s.heap.objs.size := Heap.lt_size hol
      have hol' : (s.heap.push (set0 led)).get? l = some { cls := .type "list", dict := od, data := .seq items nl, slots := osl } := Heap.get?_push_of_some _ hol
      have k1 := F.sub_list_set
      have k2 := F.sub_list_frozenset
      have k3 : (Value.type "list" == Value.type "dict") = false := by decide
      have hl1 : (s.heap.push (set0 led)).IsList l items := ⟨_, hol', rfl, nl, rfl⟩
      unfold Builtin.«set.__init__» noKeywords Builtin.Frozenset.updateFrom
      generalize hPI : pyIter = PI
      wp_walk
      subst hPI
      refine wpAny_pyIter_list hl1 (wpAny_bind (wpAny_runValue ?_))
      have h3 : A.in1.in1.in1.handled = none := by simp [hh]
      have ne1 : l ≠ (s.heap.push (set0 led)).objs.size := by
        rw [Heap.size_push]
        exact Nat.ne_of_lt (Nat.lt_succ_of_lt hlS)
      have nf : s.heap.objs.size ∉ [(s.heap.push (set0 led)).objs.size, l] := by
        rw [Heap.size_push]
        simp only [List.mem_cons, List.not_mem_nil, or_false, not_or]
        exact ⟨Nat.ne_of_lt (Nat.lt_succ_self _), Nat.ne_of_gt hlS⟩
      have hsz : xs.length = items.size := by rw [← StrsAre.len_eq hi, Array.length_toList]
      refine upd_loop ((Walks.list h3 _ l ne1 items).toS) s.heap.objs.size nf xs hsz hn (fun i v hv => strs_val hi i v (by rw [Array.getElem?_toList]; exact hv)) (items.size - 0) 0 _ (by omega) (Nat.zero_le _) ⟨⟨_, Heap.get?_push_size _ rfl, rfl, rfl⟩, (hl1.push _)⟩ ?_ ?_
      · have hget : ((s.heap.push (set0 led)).push { cls := .type "list_iterator", data := .fields #[.ref l, .int 0 0] }).get? s.heap.objs.size = some (set0 led) := Heap.get?_push_of_some _ hS
        exact SetOf_congr ((setObjOf_fresh (knd := strKind prog w) led).setOf hget (by unfold scanBound; omega)) (fun _ => rfl) rfl
      · rintro ⟨h', g', d', tk', os'⟩ hm hS'
        obtain rfl : g' = s.gens := hm.gens
        obtain rfl : d' = s.drawn := hm.drawn
        obtain rfl : os' = s.os := hm.os
        show wpAny _ _ _ _ _ _
        refine wpAny_pure ?_
        show wpAny _ _ (ret Value.none) _ _ _
        refine wpAny_pure ⟨rfl, h', tk', rfl, hS', fun b o hb e => hm.heap b o ?_ (Heap.get?_push_of_some _ (Heap.get?_push_of_some _ e))⟩
        rw [Heap.size_push]
        simp only [List.mem_cons, List.not_mem_nil, or_false, not_or]
        exact ⟨Nat.ne_of_lt hb, Nat.ne_of_lt (Nat.lt_succ_of_lt hb)⟩
    · match r₂, hr₂ with
      | .error e, hr₂ => exact hr₂
      | .ok .next, hr₂ => exact hr₂.elim
      | .ok .brk, hr₂ => exact hr₂.elim
      | .ok .cont, hr₂ => exact hr₂.elim
      | .ok (.ret r), hr₂ =>
        obtain ⟨rfl, h', tk, rfl, hS', hk'⟩ := hr₂
        repeat (any_goals (first | assumption | wp_step))
        exact h _ _ hS' hk'

theorem set_tuple {l : Addr} {items : Array Value} {xs : List Str} {Q : Value → Shared → Prop} (hh : A.handled = none) (hl : s.heap.IsTuple l items) (hi : StrsAre items.toList xs) (hn : xs.length ≤ 1000)
    (h : ∀ (h' : Heap) (tk : Nat), h'.SetOf (strKind prog w) s.heap.objs.size (seen xs xs.length) (many xs xs.length) → (∀ b o, b < s.heap.objs.size → s.heap.get? b = some o → h'.get? b = some o) → Q (.ref s.heap.objs.size) { s with heap := h', toks := tk }) :
    wpAny (model prog w) A (call (.type "set") [.ref l]) Q E s := by
  obtain ⟨c, tl, m0⟩ := F.called_set.mro
  have m1 := F.called_set.made
  have m2 := F.called_set.sub
  have m3 := F.called_set.notType
  have m4 := F.called_set.canCreate
  have m5 := F.typeCall_set_1 (.ref l)
  refine wpAny_call (codeAny_of_tree ?_)
  show wpAny _ _ (callAny (.type "set") _) _ _ _
  refine wpAny_pure ⟨Code.quiet_builtin _ (by decide +kernel), codeAny_builtin F.entry_type_call ?_⟩
  rw [Around.under_plain (weight_type_call_type "set" [.ref l] []) rfl]
  repeat (any_goals (first | assumption | wp_step))
  -- the empty set
  refine codeAny_mono (code_set_new_1 (.ref l) (E := E) (Q₁ := fun obj s₁ => ∃ led : Bool, obj = .ref s.heap.objs.size ∧ s₁ = { s with heap := s.heap.push (set0 led) }) fun led => ⟨led, rfl, rfl⟩) fun r s₁ hr => ?_
  match r, hr with
  | .error e, hr => exact hr
  | .ok .next, hr => exact hr.elim
  | .ok .brk, hr => exact hr.elim
  | .ok .cont, hr => exact hr.elim
  | .ok (.ret obj), hr =>
    obtain ⟨led, rfl, rfl⟩ := hr
    have hS : (s.heap.push (set0 led)).get? s.heap.objs.size = some (set0 led) := Heap.get?_push_size _ rfl
    have hT : Shared.TypeIs { s with heap := s.heap.push (set0 led) } (.ref s.heap.objs.size) "set" := ⟨_, hS, rfl⟩
    have i1 := F.called_set.init.lookup
    have i2 := F.called_set.init.bind (.ref s.heap.objs.size)
    repeat (any_goals (first | assumption | wp_step))
    refine codeAny_mono (codeAny_call_builtin (R := wants (fun r s₂ => r = .none ∧ ∃ h' tk, s₂ = { s with heap := h', toks := tk } ∧ h'.SetOf (strKind prog w) s.heap.objs.size (seen xs xs.length) (many xs xs.length) ∧
      ∀ b o, b < s.heap.objs.size → s.heap.get? b = some o → h'.get? b = some o) E) F.called_set.init.plain F.entry_set_init (check_set_init_1 hT ?_)) fun r₂ s₂ hr₂ => ?_
    · obtain ⟨⟨oc, od, oda, osl⟩, hol, hcl, nl, hdl⟩ := hl
      simp only at hcl hdl
      subst hcl
      subst hdl
      have hlS : l < s.heap.objs.size := Heap.lt_size hol
      have hol' : (s.heap.push (set0 led)).get? l = some { cls := .type "tuple", dict := od, data := .seq items nl, slots := osl } := Heap.get?_push_of_some _ hol
      have k1 := F.sub_tuple_set
      have k2 := F.sub_tuple_frozenset
      have k3 : (Value.type "tuple" == Value.type "dict") = false := by decide
      have hl1 : (s.heap.push (set0 led)).IsTuple l items := ⟨_, hol', rfl, nl, rfl⟩
      unfold Builtin.«set.__init__» noKeywords Builtin.Frozenset.updateFrom
      generalize hPI : pyIter = PI
      wp_walk
      subst hPI
      refine wpAny_pyIter_tuple hl1 (wpAny_bind (wpAny_runValue ?_))
      have h3 : A.in1.in1.in1.handled = none := by simp [hh]
      have ne1 : l ≠ (s.heap.push (set0 led)).objs.size := by
        rw [Heap.size_push]
        exact Nat.ne_of_lt (Nat.lt_succ_of_lt hlS)
      have nf : s.heap.objs.size ∉ [(s.heap.push (set0 led)).objs.size, l] := by
        rw [Heap.size_push]
        simp only [List.mem_cons, List.not_mem_nil, or_false, not_or]
        exact ⟨Nat.ne_of_lt (Nat.lt_succ_self _), Nat.ne_of_gt hlS⟩
      have hsz : xs.length = items.size := by rw [← StrsAre.len_eq hi, Array.length_toList]
      refine upd_loop ((Walks.tuple h3 _ l ne1 items).toS) s.heap.objs.size nf xs hsz hn (fun i v hv => strs_val hi i v (by rw [Array.getElem?_toList]; exact hv)) (items.size - 0) 0 _ (by omega) (Nat.zero_le _) ⟨⟨_, Heap.get?_push_size _ rfl, rfl, rfl⟩, (hl1.push _)⟩ ?_ ?_
      · have hget : ((s.heap.push (set0 led)).push { cls := .type "tuple_iterator", data := .fields #[.ref l, .int 0 0] }).get? s.heap.objs.size = some (set0 led) := Heap.get?_push_of_some _ hS
        exact SetOf_congr ((setObjOf_fresh (knd := strKind prog w) led).setOf hget (by unfold scanBound; omega)) (fun _ => rfl) rfl
      · rintro ⟨h', g', d', tk', os'⟩ hm hS'
        obtain rfl : g' = s.gens := hm.gens
        obtain rfl : d' = s.drawn := hm.drawn
        obtain rfl : os' = s.os := hm.os
        show wpAny _ _ _ _ _ _
        refine wpAny_pure ?_
        show wpAny _ _ (ret Value.none) _ _ _
        refine wpAny_pure ⟨rfl, h', tk', rfl, hS', fun b o hb e => hm.heap b o ?_ (Heap.get?_push_of_some _ (Heap.get?_push_of_some _ e))⟩
        rw [Heap.size_push]
        simp only [List.mem_cons, List.not_mem_nil, or_false, not_or]
        exact ⟨Nat.ne_of_lt hb, Nat.ne_of_lt (Nat.lt_succ_of_lt hb)⟩
    · match r₂, hr₂ with
      | .error e, hr₂ => exact hr₂
      | .ok .next, hr₂ => exact hr₂.elim
      | .ok .brk, hr₂ => exact hr₂.elim
      | .ok .cont, hr₂ => exact hr₂.elim
      | .ok (.ret r), hr₂ =>
        obtain ⟨rfl, h', tk, rfl, hS', hk'⟩ := hr₂
        repeat (any_goals (first | assumption | wp_step))
        exact h _ _ hS' hk'
end
end SetM
end PySem
namespace ML
open PySem PySem.Spec PyProof.Rows L2
def strsOf : List D → Option (List Str)
  | [] => some []
  | .str s :: r => (match strsOf r with
    | some l => some (s :: l)
    | none => none)
  | _ => none
/-- len(set(xs)) -/
def lensetF : D → MH → R D := fun x h => match seqOf h x with
  | some (_, l) => (match strsOf l with
    | some ss => if ss.length ≤ 1000 then .ok (.int (SetM.many ss ss.length)) h else .bad
    | none => .bad)
  | none => .bad
theorem strsOf_v {g : Gd} {ρ : List Addr} {H : Hp} : ∀ {l : List D} {ss : List Str} {vs : List V}, RDs g ρ H l vs → strsOf l = some ss → vs = ss.map V.str
  | [], ss, vs, q, e => by
    cases e
    exact q.invNil
  | d :: l, ss, vs, q, e => by
    obtain ⟨v, r, e1, q1, q2⟩ := q.inv
    cases d <;> first | (cases e; done) | skip
    unfold strsOf at e
    split at e
    · rename_i l' hl
      cases e
      rw [e1, strsOf_v q2 hl, RD_str q1]
      rfl
    · cases e
theorem strs_are : ∀ {ys : List Str} {us : List Value}, Vals (ys.map V.str) us → StrsAre us ys
  | [], _, r => by cases r; exact .nil
  | y :: ys, _, r => by
    cases r with
    | cons r1 r2 =>
      obtain ⟨k, rfl⟩ := r1
      exact .cons y k (strs_are r2)
section
variable {X : Cx} {W : Wx} {a : Expr} {m : EM} {p p2 q pos : Pos}
theorem e_lenset (hc : X.calm = true) (hg : Gl X "len") (hm : X.mg "len" = none) (hg2 : Gl X "set") (hm2 : X.mg "set" = none) (ha : PE X a (tE (gd X) W m)) (na : starEach [a] X.env = (false, eval a X.env) :: starEach [] X.env := by rfl) :
    PE X (.Call (.Name "len" p) [.Call (.Name "set" p2) [a] [] q] [] pos) (tE (gd X) W (un lensetF m)) := by
  refine ⟨fun pins s σ H Q I h => ?_⟩
  have q0 : tE (gd X) W m σ H fun x H1 => ∃ l, ∃ ss : List Str, x = .ref l ∧ (SqL X.K H1 l (ss.map V.str) ∨ SqT X.K H1 l (ss.map V.str)) ∧ ss.length ≤ 1000 ∧ Q (.int (SetM.many ss ss.length)) H1 := by
    refine one h fun ρ e H h x vx s hh rx p => ?_
    unfold lensetF at p
    split at p
    · rename_i k l hl
      split at p
      · rename_i ss hss
        split at p
        · rename_i hz
          obtain ⟨l0, vs, e1, rs, alt⟩ := seq_v hh rx hl
          rw [strsOf_v rs hss] at alt
          refine ⟨l0, ss, e1, ?_, hz, p.okk hh .intN⟩
          rcases alt with ⟨_, z⟩ | ⟨_, z⟩
          · exact .inr z
          · exact .inl z
        · exact p.elim
      · exact p.elim
    · exact p.elim
  refine Call_ (ld_blt I hg hm boot_len (PyProof.Rows.callWith_builtin1 (PyProof.Rows.args_cons ?_ rfl) rfl rfl))
  refine Call_ (ld_blt I hg2 hm2 boot_set (PyProof.Rows.callWith_type1 (PyProof.Rows.args_cons (thn (ha.run pins s σ H _ I q0) fun v s1 ⟨x, H1, I1, r1, l, ss, ex, hq, hz, q1⟩ => PyProof.Rows.args_nil ?_) na) na rfl))
  subst ex
  obtain rfl : v = Value.ref l := r1
  have fin : ∀ (h' : Heap) (tk : Nat), h'.SetOf (strKind X.prog X.w) s1.heap.objs.size (SetM.seen ss ss.length) (SetM.many ss ss.length) → (∀ b o, b < s1.heap.objs.size → s1.heap.get? b = some o → h'.get? b = some o) →
      wpAny (model X.prog X.w) X.A (spliced (backTo pos (starEach [] X.env))) (fun vs s₂ => wpAny (model X.prog X.w) X.A (call (.builtin "len") (Value.ref s1.heap.objs.size :: vs)) (EP X pins σ Q) X.xe s₂) X.xe { s1 with heap := h', toks := tk } := fun h' tk hS hk => by
    obtain ⟨o, es, ep, t, ho, hex, hd, _, _, _, hf, hn⟩ := hS
    have hle := SetM.many_le ss ss.length
    have I2 : Inv X pins σ H1 { s1 with heap := h', toks := tk } := I1.kept fun b o e => hk b o (Heap.lt_size e) e
    exact PyProof.Rows.args_nil (call_len_set ho hex hd hf (by rw [hn]; omega) ⟨.int (SetM.many ss ss.length), H1, I2.tok _, ⟨_, by rw [hn]⟩, q1⟩)
  rcases hq with hq | hq
  · obtain ⟨its, r, pl, _⟩ := I1.list hq
    exact SetM.set_list (I1.ok.hd hc) pl.isList (by simpa using strs_are r) hz fin
  · obtain ⟨its, r, pl, _⟩ := I1.tuple hq
    exact SetM.set_tuple (I1.ok.hd hc) pl (by simpa using strs_are r) hz fin
end
end ML

/-! ML 24: xs[::-1] of a list, a tuple, a text -/
namespace PySem
namespace RevM
open PyProof.Rows PySem.Calls HT
section
variable {prog : Program} {w : World} {A : Around} {E : Value → Shared → Prop} {s : Shared}
theorem parts {sl : Addr} {t : Tok} {n : Nat} {Q : Int × Int × Nat → Shared → Prop} (hs : s.heap.IsSliceOf sl .none .none (.int (-1) t)) (h : Q ((n : Int) - 1, -1, n) s) : wpAny (model prog w) A (Builtin.Slice.sliceApplied (.ref sl) (pure (n : Int))) Q E s := by
  obtain ⟨os, hos, hcs, hds⟩ := id hs
  unfold Builtin.Slice.sliceApplied Builtin.Slice.sliceFields
  refine wpAny_bind (wpAny_bind (wpAny_field hos hds (x := .none) rfl (wpAny_bind (wpAny_field hos hds (x := .none) rfl (wpAny_bind (wpAny_field hos hds (x := .int (-1) t) rfl (wpAny_pure ?_)))))))
  refine wpAny_bind (slicePart_int ?_)
  show wpAny _ _ (if ((-1 : Int) == 0) = true then _ else _) _ _ s
  rw [if_neg (by decide)]
  refine wpAny_bind (slicePart_none (wpAny_bind (slicePart_none (wpAny_bind (wpAny_pure (wpAny_pure ?_))))))
  have e : Builtin.Slice.slicePlaces ((n : Int) - 1) (-1) (-1) = n := by
    unfold Builtin.Slice.slicePlaces
    rw [if_neg (by decide)]
    by_cases q : (n : Int) - 1 > -1
    · rw [if_pos q]
      have : ((n : Int) - 1 - -1 - 1) / (- -1) = (n : Int) - 1 := by
        have e1 : (- -1 : Int) = 1 := by decide
        rw [e1, Int.ediv_one]
        omega
      rw [this]
      omega
    · rw [if_neg q]
      have : n = 0 := by omega
      subst this
      rfl
  show Q (((n : Int) - 1), -1, Builtin.Slice.slicePlaces ((n : Int) - 1) (-1) (-1)) s
  rw [e]
  exact h
theorem fm_map {α β : Type} {f : α → Option β} {g : α → β} : ∀ (l : List α), (∀ x ∈ l, f x = some (g x)) → l.filterMap f = l.map g
  | [], _ => rfl
  | x :: l, h => by
    rw [List.filterMap_cons, h x List.mem_cons_self, List.map_cons, fm_map l fun y hy => h y (List.mem_cons_of_mem _ hy)]
theorem picked (its : List Value) : ((List.range its.toArray.size).filterMap fun (k : Nat) => its.toArray[(((its.toArray.size : Nat) : Int) - 1 + (k : Int) * -1).toNat]?) = its.reverse := by
  apply List.ext_getElem?
  intro i
  have hs : its.toArray.size = its.length := by simp
  rw [hs]
  have e : ((List.range its.length).filterMap fun (k : Nat) => its.toArray[(((its.length : Nat) : Int) - 1 + (k : Int) * -1).toNat]?) = (List.range its.length).map fun k => its.getD (its.length - 1 - k) Value.none := by
    refine fm_map _ fun k hk => ?_
    have hk' := List.mem_range.mp hk
    have e1 : (((its.length : Nat) : Int) - 1 + (k : Int) * -1).toNat = its.length - 1 - k := by omega
    rw [e1]
    have h2 : its.length - 1 - k < its.length := by omega
    simp [List.getD, h2]
  rw [e, List.getElem?_map]
  by_cases hi : i < its.length
  · rw [List.getElem?_range hi, List.getElem?_reverse hi]
    have h2 : its.length - 1 - i < its.length := by omega
    simp [List.getD, h2]
  · rw [List.getElem?_eq_none (by simp; omega), List.getElem?_eq_none (by simp; omega)]
    rfl
theorem tup_rev {t sl : Addr} {its : List Value} {u : Tok} {Q : Value → Shared → Prop} (ht : IsTup s.heap t its.toArray) (hs : s.heap.IsSliceOf sl .none .none (.int (-1) u)) (hz : its.length ≤ sizeLine)
    (h : Q (.ref s.heap.objs.size) { s with heap := s.heap.push { cls := .type "tuple", data := .seq its.reverse.toArray } }) : wpAny (model prog w) A (getItem (.ref t) (.ref sl)) Q E s := by
  have hsz : sizeOk (.seq its.reverse.toArray) := by
    show its.reverse.toArray.size ≤ sizeLine
    rw [List.size_toArray, List.length_reverse]
    exact hz
  obtain ⟨os, hos, hcs, hds⟩ := id hs
  have hTs : s.TypeIs (.ref sl) "slice" := ⟨os, hos, hcs⟩
  unfold getItem
  try with_reducible refine wpAny_holding ?_
  first | refine wpAny_bind (wpAny_pure ?_) | skip
  refine wpAny_bind (wpAny_sequenceKey ht.typeIs (by decide) (wpAny_bind (wpAny_callSpecial?_slot (name := Str.ofString "__getitem__") ht.typeIs PyProof.Rows.slot_tuple_getitem (wpAny_call_entry PyProof.Rows.slot_tuple_getitem ht.typeIs entry_tuple_getitem ?_ (args_tuple_getitem _ _)))))
  show wpAny _ _ (Builtin.Tuple.tupleItemsOf (.ref t) >>= _) _ _ s
  refine wpAny_bind (tupleItemsOf_ ht (wpAny_bind (wpAny_typeOf hTs ?_)))
  rw [if_pos (by decide)]
  refine wpAny_bind (parts (n := its.toArray.size) hs ?_)
  show wpAny _ _ (if ((((its.toArray.size : Nat) : Int) - 1) == 0 && (-1 : Int) == 1 && (its.toArray.size == its.toArray.size)) = true then _ else _) _ _ s
  rw [if_neg (by simp), picked]
  first
    | exact wpAny_bind (m := Builtin.Tuple.tupleExact _) (wpAny_newObj_type (wpAny_pure ⟨_, rfl, wpAny_pure h⟩) hsz)
    | exact wpAny_bind (m := Builtin.Tuple.tupleExact _) (wpAny_newObj_type (wpAny_bind (wpAny_pure (wpAny_pure ⟨_, rfl, wpAny_pure h⟩))) hsz)
    | exact wpAny_bind (wpAny_bind (m := Builtin.Tuple.tupleExact _) (wpAny_newObj_type (wpAny_pure (wpAny_pure ⟨_, rfl, wpAny_pure h⟩)) hsz))
    | exact wpAny_bind (wpAny_bind (m := Builtin.Tuple.tupleExact _) (wpAny_newObj_type (wpAny_pure ⟨_, rfl, wpAny_pure h⟩) hsz))
end
end RevM
end PySem

/-! ML 25: xs[::-1] of a list, a tuple, a text -/
namespace ML
open PySem PySem.Spec PyProof.Rows L2

theorem rev_text (x : Str) (u : Tok) : (((PySem.Builtin.Str.strSliceIndices none none (-1) x.length).filterMap (x.cps[·]?)).toArray : Array Nat) = x.cps.reverse := by
  rw [picked_rev]
  apply Array.ext'
  rw [List.toList_toArray, RevM.fm_map (g := fun i => x.cps.getD i 0)]
  · rw [List.map_map]
    apply List.ext_getElem?
    intro i
    rw [List.getElem?_map, Array.toList_reverse]
    by_cases hi : i < x.length
    · have hi' : i < x.cps.toList.length := by rw [Array.length_toList]; exact hi
      rw [List.getElem?_range hi, List.getElem?_reverse hi']
      have h2 : x.length - 1 - i < x.cps.size := by
        have : x.length = x.cps.size := rfl
        omega
      show some (x.cps.getD (x.length - 1 - i) 0) = x.cps.toList[x.cps.toList.length - 1 - i]?
      rw [Array.length_toList, Array.getElem?_toList]
      have e : x.cps.size - 1 - i = x.length - 1 - i := rfl
      rw [e]
      simp [Array.getD, h2]
    · have hi' : ¬ i < x.cps.size := hi
      rw [List.getElem?_eq_none (by simp; omega), List.getElem?_eq_none (by simp; omega)]
      rfl
  · intro i hi
    obtain ⟨k, hk, rfl⟩ := List.mem_map.mp hi
    have hk' : k < x.length := List.mem_range.mp hk
    have h2 : x.length - 1 - k < x.cps.size := by
      have : x.length = x.cps.size := rfl
      omega
    simp [Array.getD, h2]
/-- what [::-1] answers -/
def rRev (K : PySem.W.Frag) (x : V) (H : Hp) (Q : VK) : Prop :=
  (∃ a xs, x = .ref a ∧ SqL K H a xs ∧ ∀ p, H p = none → Q (.ref p) (L2.upd H p (.lst xs.reverse))) ∨
  (∃ a xs, x = .ref a ∧ SqT K H a xs ∧ ∀ p, H p = none → Q (.ref p) (L2.upd H p (.tup xs.reverse))) ∨
  (∃ z : Str, x = .str z ∧ z.length ≤ sizeLine ∧ Q (.str ⟨z.cps.reverse⟩) H)
section
variable {X : Cx} {W : Wx} {m : EM}
theorem pe_rev {e : Expr} {te : TE} {k : Nat} {p1 p2 p3 pos : Pos} (he : PE X e te) : PE X (.Subscript e (.Slice none none (some (.UnaryOp .USub (.Constant (.int 1) k p1) p2)) p3) pos) (fun σ H Q => te σ H fun x H1 => rRev X.K x H1 Q) := by
  refine ⟨fun pins s σ H Q I h => ?_⟩
  refine Subscript_ (thn (he.run pins s σ H _ I h) fun v s1 ⟨x, H1, I1, r1, q1⟩ => ?_)
  have hst : PO X (some (.UnaryOp .USub (.Constant (.int 1) k p1) p2)) (tPart (tUn (rU fun i => .int (-i)) (tC (.int 1)))) := po_some (pe_un un_neg pe_int)
  refine wpAny_Slice (thn (po_none.run pins s1 σ H1 (fun o H2 => o = none ∧ H2 = H1) I1 ⟨rfl, rfl⟩) fun vl s2 ⟨l, H2, I2, pl, el, e2⟩ => ?_)
  subst el e2
  refine thn (po_none.run pins s2 σ H2 (fun o H3 => o = none ∧ H3 = H2) I2 ⟨rfl, rfl⟩) fun vu s3 ⟨u, H3, I3, pu, eu, e3⟩ => ?_
  subst eu e3
  refine thn (hst.run pins s3 σ H3 (fun o H4 => o = some (-1) ∧ H4 = H3) I3 ⟨1, rfl, -1, rfl, rfl, rfl⟩) fun vs s4 ⟨o, H4, I4, ps, eo, e4⟩ => ?_
  subst eo e4
  have I5 : Inv X pins σ H4 { s4 with heap := s4.heap.push { cls := .type "slice", data := .fields #[vl, vu, vs] } } := I4.kept (t' := s4.toks) fun b ob q => Heap.get?_push_of_some _ q
  show wpAny (model X.prog X.w) X.A (subscriptTail e (.Slice none none (some (.UnaryOp .USub (.Constant (.int 1) k p1) p2)) p3) v (.ref s4.heap.objs.size)) (EP X pins σ Q) X.xe { s4 with heap := s4.heap.push { cls := .type "slice", data := .fields #[vl, vu, vs] } }
  rcases q1 with ⟨a, xs, ex, hx, q⟩ | ⟨a, xs, ex, hx, q⟩ | ⟨z, ex, hz, q⟩
  · subst ex
    cases r1
    obtain ⟨its, r, ht, hz⟩ := I5.list hx
    have hlen := r.length
    refine tail_any (ops := [.ref a, .ref s4.heap.objs.size]) ht.isList.typeIs (PySem.slot_list_getitem.lookup) ?_ (by with_unfolding_all rfl)
    refine wpAny_getItem_list_slice ht.isList (Heap.IsSliceOf.new _ vl vu vs) pl pu ps (by decide) ?_ (by rw [List.size_toArray]; omega)
    rw [PySem.W.krv_pick]
    refine ⟨.ref _, _, I5.laid (t' := s4.toks) (o := .lst xs.reverse) (fun b ob q => Heap.get?_push_of_some _ q) (Nat.le_refl _) ?_, rfl, q _ (I5.hok.fresh (Nat.le_refl _))⟩
    exact ⟨by rw [List.length_reverse]; exact hz, _, 0, r.reverse, Heap.get?_push_size _ rfl⟩
  · subst ex
    cases r1
    obtain ⟨its, r, ht, hz⟩ := I5.tuple hx
    have hlen := r.length
    refine tail_any (ops := [.ref a, .ref s4.heap.objs.size]) ht.typeIs (PyProof.Rows.slot_tuple_getitem.lookup) ?_ (by with_unfolding_all rfl)
    obtain ⟨l, rfl, hl⟩ := IsPart.raw pl
    obtain ⟨u, rfl, hu⟩ := IsPart.raw pu
    obtain ⟨st, rfl, hst'⟩ := IsPart.raw ps
    cases l with
    | some l => cases hl
    | none =>
    cases u with
    | some u => cases hu
    | none =>
    cases st with
    | none => cases hst'
    | some st =>
    obtain ⟨i, t⟩ := st
    cases hst'
    refine RevM.tup_rev (u := t) ht (Heap.IsSliceOf.new _ _ _ _) (by omega) ?_
    refine ⟨.ref _, _, I5.laid (t' := s4.toks) (o := .tup xs.reverse) (fun b ob q => Heap.get?_push_of_some _ q) (Nat.le_refl _) ?_, rfl, q _ (I5.hok.fresh (Nat.le_refl _))⟩
    exact ⟨by rw [List.length_reverse]; exact hz, _, r.reverse, IsTup.new _ _⟩
  · subst ex
    obtain ⟨t, rfl⟩ := r1
    obtain ⟨l, rfl, hl⟩ := IsPart.raw pl
    obtain ⟨u, rfl, hu⟩ := IsPart.raw pu
    obtain ⟨st, rfl, hst'⟩ := IsPart.raw ps
    cases l with
    | some l => cases hl
    | none =>
    cases u with
    | some u => cases hu
    | none =>
    cases st with
    | none => cases hst'
    | some st =>
    obtain ⟨i, t2⟩ := st
    cases hst'
    refine tail_any (ops := [.str z t, .ref s4.heap.objs.size]) (typeIs_str _ _ _) (F.slot_str_getitem.lookup) ?_ (by with_unfolding_all rfl)
    refine wpAny_getItem_str_slice (l := none) (u := none) (st := some (-1, t2)) ⟨_, Heap.get?_push_size _ rfl, rfl, rfl⟩ rfl ?_
    show Made.post (if ((-1 : Int) == 1 && _) = true then _ else Made.str ⟨((PySem.Builtin.Str.strSliceIndices none none (-1) z.length).filterMap (z.cps[·]?)).toArray⟩) _ _
    rw [if_neg (by simp), rev_text z t2]
    exact ⟨by show z.cps.reverse.size ≤ sizeLine; rw [Array.size_reverse]; exact hz, .str _, H4, I5.tok _, ⟨_, rfl⟩, q⟩
theorem rf_rev {ρ : List Addr} {H : Hp} {h : MH} {Wf : XK} {Q : VK} {x : D} {vx : V} (hh : RH (gd X) ρ H h) (rx : RD (gd X) ρ H x vx) (p : Post (gd X) (RD (gd X)) Wf ρ H (revF x h) Q) (hz : ∀ z, x = .str z → z.length ≤ 1000000) : rRev X.K vx H Q := by
  unfold revF at p
  split at p
  · rename_i l
    obtain ⟨a, vs, e1, sq, rs⟩ := RD_tup rx
    exact .inr (.inl ⟨a, vs, e1, sq, fun q hq => p.newTup hh hq rs.reverse⟩)
  · rename_i z
    exact .inr (.inr ⟨z, RD_str rx, big_le (hz z rfl), p.okk hh .strN⟩)
  · split at p
    · rename_i l hl
      obtain ⟨n, a, vs, e0, _, _, e1, e2, rs⟩ := lst_v hh rx hl
      exact .inl ⟨a, vs, e1, .inl (.inl e2), fun q hq => p.newLst hh hq rs.reverse⟩
    · exact p.elim
/-- x[::-1] -/
def revE (m : EM) : EM := fun e h => (m e h).bind fun x h1 => match x with
  | .str z => if z.length ≤ 1000000 then revF (.str z) h1 else .bad
  | x => revF x h1
theorem e_rev {e : Expr} {k : Nat} {p1 p2 p3 pos : Pos} (ha : PE X e (tE (gd X) W m)) : PE X (.Subscript e (.Slice none none (some (.UnaryOp .USub (.Constant (.int 1) k p1) p2)) p3) pos) (tE (gd X) W (revE m)) :=
  PE_of (pe_rev ha) fun σ H Q q => one q fun ρ e H h x vx s hh rx p => by
    split at p
    · rename_i z
      split at p
      · rename_i hz
        exact rf_rev hh rx p fun z' e => by cases e; exact hz
      · exact p.elim
    · rename_i x' hx
      exact rf_rev hh rx p fun z' e => absurd e (hx z')
end
end ML

/-! ML 26: the head: own classes of instances, constants, except clauses -/
namespace ML
open PySem PySem.Spec PyProof.Rows L2

def clsB (K : PySem.W.Frag) (C fI : Addr) (fs : List Str) : Bool :=
  PySem.W.plainGet K C Str.empty && (PySem.W.hasDictIn K C && (PySem.W.plainOver K C && (decide (PySem.W.findIn K (.ref C) "__setattr__" = some (some (.builtin "object.__setattr__"))) &&
  (decide (PySem.W.findIn K (.ref C) "__class__" = some (some (.builtin "object.__class__"))) && (decide (PySem.W.specialIn K (.builtin "object.__class__") "__get__" = some (some (.builtin "getset_descriptor.__get__"))) &&
  (decide (PySem.W.takesIn K (.builtin "object.__class__") = some true) && (decide (PySem.W.mroIn K C (.type "object") = some true) && (PySem.W.makesIn K C && (decide (PySem.W.findIn K (.ref C) "__init__" = some (some (.ref fI))) &&
  (PySem.W.isFn K (.ref fI) && (PySem.W.keepIn K (.ref C) && fs.all fun f => decide (PySem.W.findIn K (.ref C) f = some none))))))))))))
structure ClsB (K : PySem.W.Frag) (C fI : Addr) (fs : List Str) : Prop where
  cl : Cls K C
  ii : IsI K C
  makes : Mk K C fI
  no : ∀ f ∈ fs, NoAttr K C f
theorem clsB_ok {K : PySem.W.Frag} {C fI : Addr} {fs : List Str} (h : clsB K C fI fs = true) : ClsB K C fI fs := by
  unfold clsB at h
  simp only [Bool.and_eq_true, decide_eq_true_eq] at h
  obtain ⟨h1, h2, h3, h4, h5, h6, h7, h8, h9, h10, h11, h12, h13⟩ := h
  have c : Cls K C := ⟨h1, h2, h3, h4⟩
  exact ⟨c, ⟨c, h5, h6, h7, h8⟩, ⟨h9, h10, h11, h12⟩, fun f hf => of_decide_eq_true (p := PySem.W.findIn K (.ref C) f = some none) (List.all_eq_true.mp h13 f hf)⟩
section
variable {P : Program} {w : World} {K : PySem.W.Frag} {mg : Str → Option Value} {base : Heap}
/-- fields of own classes (ci) and of error classes (cx) -/
theorem fld_mk2 {ci cx : List (Str × Addr)} {f : Str} (hi : ∀ p ∈ ci, mg p.1 = some (.ref p.2)) (hc : ∀ p ∈ ci, Cls K p.2 ∧ NoAttr K p.2 f) (hm : ∀ p ∈ cx, mg p.1 = some (.ref p.2)) (hx : ∀ p ∈ cx, XfC K p.2 ∧ PySem.W.findIn K (.ref p.2) f = some none) : FldOk K mg (ci.map (·.1)) (cx.map (·.1)) f := by
  refine ⟨fun c h C hC => ?_, (fld_mk hm hx).2⟩
  obtain ⟨p, hp, e1⟩ := List.mem_map.mp h
  subst e1
  have := hi p hp
  rw [hC] at this
  cases this
  exact hc p hp
/-- which error classes are caught -/
def catB (K : PySem.W.Frag) (cs : List (Str × Addr)) (cv : Value) (g : Str → Bool) : Bool := cs.all fun p => decide (PySem.W.exmOne K (.ref p.2) cv = some (g p.1))
theorem cat_mk {cs : List (Str × Addr)} {cv : Value} {g : Str → Bool} (hm : ∀ p ∈ cs, mg p.1 = some (.ref p.2)) (h : catB K cs cv g = true) : CatTab K mg cv (tabOf (cs.map (·.1)) g) := by
  intro c b e C hC
  obtain ⟨h1, h2⟩ := tabOf_at e
  subst h2
  obtain ⟨p, hp, e1⟩ := List.mem_map.mp h1
  subst e1
  have := hm p hp
  rw [hC] at this
  cases this
  exact of_decide_eq_true (List.all_eq_true.mp h p hp)
theorem names_own {X : Cx} {x : Str} {a : Addr} (hg : Gl X x) (hm : X.mg x = some (.ref a)) (hd : (x == ("__debug__" : Str)) = false := by decide) : Names X x (.ref a) := ⟨hg, hd, .inl hm⟩
/-- the class, as its makers know it -/
theorem in_mk {c : Str} {C f : Addr} {fd : FuncData} {ps : List Str} {k np nn : Nat} {b : SM} (hm : mg c = some (.ref C)) (M : Mk K C f) (hb : Binds K fd ps []) (G : FnOk P w K mg base (L2.CX P w) k f fd ps (spM ⟨K, mg⟩ ps.length (fnM np nn b))) (hnp : ps.length = np) : InC P w K mg base c k np (fnM np nn b) :=
  ⟨C, f, fd, ps, hm, M, hb, hnp, G⟩
/-- the constants -/
def isStrs : List Str → List Value → Bool
  | [], [] => true
  | s :: l, .str t _ :: r => decide (s = t) && isStrs l r
  | _, _ => false
theorem isStrs_ok : ∀ {l : List Str} {r : List Value}, isStrs l r = true → Vals (l.map V.str) r
  | [], [], _ => .nil
  | s :: l, .str t u :: r, h => by
    unfold isStrs at h
    simp only [Bool.and_eq_true, decide_eq_true_eq] at h
    obtain ⟨h1, h2⟩ := h
    subst h1
    exact .cons ⟨u, rfl⟩ (isStrs_ok h2)
def tupB (K : PySem.W.Frag) (a : Addr) (l : List Str) : Bool := match K.lookup a with
  | some ⟨.type t, _, .seq its _, _⟩ => decide (t = "tuple") && (decide (its.size ≤ sizeLine) && isStrs l its.toList)
  | _ => false
theorem tup_mk {x : Str} {a : Addr} {l : List Str} (hm : mg x = some (.ref a)) (h : tupB K a l = true) : TupG K mg x l := by
  unfold tupB at h
  split at h
  · rename_i t dd its n sl hk
    simp only [Bool.and_eq_true, decide_eq_true_eq] at h
    obtain ⟨h1, h2, h3⟩ := h
    subst h1
    exact ⟨a, dd, its, n, sl, hm, hk, h2, isStrs_ok h3⟩
  · cases h
theorem str_mk {x s : Str} {t : Tok} (hm : mg x = some (.str s t)) : StrG mg x s := ⟨t, hm⟩
theorem int_mk {x : Str} {i : Int} {t : Tok} (hm : mg x = some (.int i t)) : IntG mg x i := ⟨t, hm⟩
end
end ML

/-! ML 27: enumerate of a tuple -/
namespace PySem
open Sem (wp)
theorem meets_enumerate_new1B {v : Value} {o : Obj} {H : Heap → Prop} (B : Begins v o H) :
    Meets (Builtin.«enumerate.__new__» ⟨[.type "enumerate", v], []⟩) (fun _ R s => H s.heap ∧
      R (.ok (.ret (.ref (s.heap.push o).objs.size))) { s with heap := (s.heap.push o).push { cls := .type "enumerate", data := .fields #[.none, .bool false, .ref s.heap.objs.size, rawInt 0, .none, .none] } }) :=
  .of_wp fun prog w A R s h => by
    obtain ⟨hp, g, d, tk, os⟩ := s; obtain ⟨h1, h⟩ := h
    have hsub := sub_enumerate
    have q1 : ∀ {A' : Around} {E : Value → Shared → Prop} {Q : Value → Shared → Prop}, Q (.ref hp.objs.size) ⟨hp.push o, g, d, tk, os⟩ → wpAny (model prog w) A' (pyIter v) Q E ⟨hp, g, d, tk, os⟩ :=
      fun q => B.iter prog w _ _ ⟨hp, g, d, tk, os⟩ _ h1 q
    wp_walk using q1
    refine wpAny_stack_any fun st => wpAny_pure ?_
    split
    · rename_i c _ _ _ _ _
      cases (c == Value.type "enumerate")
      · wp_walk using q1
        exact ⟨_, rfl, h⟩
      · wp_walk using q1
        exact ⟨_, rfl, h⟩
    · wp_walk using q1
      exact ⟨_, rfl, h⟩
section
variable {prog : Program} {w : World} {A : Around} {E : Value → Shared → Prop} {s : Shared}
theorem enum_begins1 {v : Value} {o : Obj} {H : Heap → Prop} {Q : Value → Shared → Prop} (B : Begins v o H) (h1 : H s.heap)
    (h : ∀ h', IsEnum h' (s.heap.objs.size + 1) s.heap.objs.size 0 .none → h'.get? s.heap.objs.size = some o → h'.objs.size = s.heap.objs.size + 2 →
      (∀ b o, s.heap.get? b = some o → h'.get? b = some o) → Q (.ref (s.heap.objs.size + 1)) { s with heap := h' }) :
    wpAny (model prog w) A (call (.type "enumerate") [v]) Q E s := by
  refine callType_new F.called_enumerate (by decide) (F.typeCall_enumerate_1 _) (F.newCall_enumerate_1 _) (fun obj => F.args_object_init_2 obj _) F.entry_enumerate_new
    (meets_enumerate_new1B B) ⟨h1, ?_⟩
  have hz : (s.heap.push o).objs.size = s.heap.objs.size + 1 := Heap.size_push ..
  show _ ∧ _
  rw [hz]
  have he : IsEnum ((s.heap.push o).push { cls := .type "enumerate", data := .fields #[.none, .bool false, .ref s.heap.objs.size, rawInt 0, .none, .none] }) (s.heap.objs.size + 1) s.heap.objs.size 0 .none := by
    have := Heap.get?_push_size (s.heap.push o) (o := { cls := .type "enumerate", data := .fields #[.none, .bool false, .ref s.heap.objs.size, rawInt 0, .none, .none] }) rfl
    rw [hz] at this; exact this
  refine ⟨⟨_, he, rfl⟩, h _ he (Heap.get?_push_of_some _ (Heap.get?_push_size _ B.free)) (by rw [Heap.size_push, hz]) fun b o x => Heap.get?_push_of_some _ (Heap.get?_push_of_some _ x)⟩
end
end PySem
namespace ML
open PySem PySem.Spec PyProof.Rows L2
/-- the tuple at a, each item in a new pair -/
def IteT (K : PySem.W.Frag) (a : Addr) : It :=
  ⟨fun i H => ∃ (xs : List V) (x : V), SqT K H a xs ∧ xs[i]? = some x, fun i H v H' => ∃ T x, v = .ref T ∧ H T = none ∧ H' = L2.upd H T (.tup [.int (i : Nat), x]) ∧ ∀ xs, SqT K H a xs → xs[i]? = some x, fun i H => ∃ xs : List V, SqT K H a xs ∧ xs.length ≤ i⟩
theorem turn_enumT {P : Program} {w : World} {K : PySem.W.Frag} {elts : List Expr} {kk : Nat} {tpos : Pos} (a e it : Addr) :
    Turn P w K (.Tuple elts kk tpos) (IteT K a) [e, it] e (fun i h => (∃ old, IsEnum h e it ((i : Nat) : Int) old) ∧ h.IsTupleIter it a i ∧ e ≠ it ∧ e ≠ a ∧ a ≠ it) where
  mem := by simp
  obj := fun i h st b hb => by
    obtain ⟨⟨old, he⟩, ⟨o, ho, hc, hd⟩, _⟩ := st
    have e' : b = e ∨ b = it := by simpa using hb
    rcases e' with z | z
    · rw [z]; exact ⟨_, he, fun v q => nomatch q⟩
    · rw [z]; exact ⟨o, ho, fun v q => by rw [hd] at q; cases q⟩
  keep := fun i h h' st k => let ⟨⟨old, he⟩, hi, hne⟩ := st; ⟨⟨old, k e (by simp) _ he⟩, hi.at fun o q => k it (by simp) o q, hne⟩
  item := by
    intro X hP hw hK hc i pins s σ H E I hf st hg
    subst hP hw hK
    obtain ⟨⟨old, he⟩, hit, hne, hea, hai⟩ := st
    obtain ⟨xs, x, hq, hx⟩ := hg
    obtain ⟨its, rv, p, hz⟩ := I.tuple hq
    obtain ⟨u, hu, ru⟩ := rv.get hx
    have hel : e < s.heap.objs.size := Heap.lt_size he
    have hil : it < s.heap.objs.size := by obtain ⟨_, q, _⟩ := hit; exact Heap.lt_size q
    have hn : its.toArray[i]? = some u := by simpa using hu
    have D := Draws.tuple (prog := X.prog) (w := X.w) (A := X.A.in1) (I.ok.hd hc) it a hai its.toArray
    have hlt : i < its.toArray.size := by
      have := (Array.getElem?_eq_some_iff.mp hn).1
      exact this
    refine wpAny_pyNext_enum_itemC D he ⟨hit, show s.heap.IsTuple a its.toArray from p⟩ hlt hne (by simp; exact ⟨hne, hea⟩) fun x' h' tk hP ho hst' hT hsz hk => ?_
    rw [hn] at hP
    cases hP
    refine ⟨_, rfl, wpAny_letOwnedTupleGo_enum (s := { s with heap := h', toks := tk + 1 }) ho fun h'' he' sb => ?_⟩
    have hT2 : h''.get? s.heap.objs.size = some { cls := .type "tuple", data := .seq #[.int i tk, u] } := (sb.2 _ (Nat.ne_of_gt hel)).trans hT
    have new : ObjOk X.prog X.w (L2.upd H s.heap.objs.size (.tup [.int (i : Nat), x])) h'' s.heap.objs.size (.tup [.int (i : Nat), x]) :=
      ⟨by show 2 ≤ sizeLine; decide, [.int i tk, u], .cons ⟨_, rfl⟩ (.cons ru .nil), ⟨_, hT2, rfl, _, rfl⟩⟩
    have I1 : Inv X pins σ (L2.upd H s.heap.objs.size (.tup [.int (i : Nat), x])) { s with heap := h'', toks := tk + 1 } :=
      I.turnedNew (ch := [e, it]) (fun b ob hb q => (sb.2 b (fun z => hb (by simp [z]))).trans (hk b ob (fun z => hb (by simp [z])) (fun z => hb (by simp [z])) q)) hf (Nat.le_refl _) new
    refine ⟨.ref s.heap.objs.size, _, I1, rfl, ⟨_, x, rfl, I.hok.fresh (Nat.le_refl _), rfl, fun ys hy => by rw [I.tuple_inj hy hq]; exact hx⟩, ⟨⟨u, ?_⟩, hst'.1.at fun o q => (sb.2 it (Ne.symm hne)).trans q, hne, hea, hai⟩, fun b hb => ?_⟩
    · have e1 : ((i + 1 : Nat) : Int) = (i : Int) + 1 := by omega
      rw [e1]; exact he'
    · have hb' : b < s.heap.objs.size := by
        have e' : b = e ∨ b = it := by simpa using hb
        rcases e' with z | z
        · rw [z]; exact hel
        · rw [z]; exact hil
      rw [upd_ne (Nat.ne_of_lt hb')]
      exact (hf b hb).1
  done := by
    intro X hP hw hK hc i pins s σ H E I hf st hg
    subst hP hw hK
    obtain ⟨⟨old, he⟩, hit, hne, hea, hai⟩ := st
    obtain ⟨xs, hq, hx⟩ := hg
    obtain ⟨its, rv, p, hz⟩ := I.tuple hq
    obtain ⟨f0, f1, f2, f3, f4, f5⟩ := hf it (by simp)
    have hl := rv.length
    have hT : s.TypeIs (.ref e) "enumerate" := ⟨_, he, rfl⟩
    have nx : its.toArray[i]? = none := by simp; omega
    unfold pyNext
    refine wpAny_bind (wpAny_attempt (wpAny_callSpecial?_slot (name := Str.ofString "__next__") hT F.slot_enumerate_next
      (wpAny_call_entry F.slot_enumerate_next hT F.entry_enumerate_next ?_ (F.args_enumerate_next_1 _))))
    show wpAny _ _ (field (.ref e) 2 >>= _) _ _ _
    refine wpAny_bind (wpAny_field he rfl (x := .ref it) rfl ?_)
    refine wpAny_bind (wpAny_nextOf_tuple_end (I.ok.hd hc) hit (show s.heap.IsTuple a its.toArray from p) nx fun h' x he' hx' => ?_)
    obtain ⟨o, ho, hcl⟩ := hx'
    refine wpAny_bind (wpAny_isInstance (T := "StopIteration") (b := true) ⟨o, ho, hcl⟩ isSubtype_stop ?_)
    exact wpAny_pure ⟨rfl, I.turned (t' := s.toks) (fun b o hb q => he' b o hb q) f0 f1 f3 f4 f5⟩
  self := fun A i s Q E st h => let ⟨⟨_, he⟩, _⟩ := st; wpAny_pyIter_enum he h
/-- enumerate of a list or of a tuple -/
def iEnumB (K : PySem.W.Frag) (ta : TA) : TI := fun σ H R => ta σ H fun vs H1 => ∃ a xs, vs = [.ref a] ∧ ((SqL K H1 a xs ∧ R (Ite K a) H1) ∨ (SqT K H1 a xs ∧ R (IteT K a) H1))
theorem pi_enumB {X : Cx} {e : Expr} {ta : TA} {p pos tpos : Pos} {elts : List Expr} {kk : Nat} (hg : Gl X "enumerate") (hm : X.mg "enumerate" = none) (ha : PA X [e] ta) (hs : starEach [e] X.env = [(false, eval e X.env)] := by rfl) :
    PI X (.Tuple elts kk tpos) (.Call (.Name "enumerate" p) [e] [] pos) (iEnumB X.K ta) := by
  refine ⟨fun pins s σ H R I h => ?_⟩
  refine Call_ (ld_blt I hg hm boot_enumerate (PyProof.Rows.callWith_type1 (thn (ha.run pos pins s σ H _ I h) fun us s1 ⟨vs, H1, I1, r1, q1⟩ => ?_) hs rfl))
  obtain ⟨a, xs, ex, q⟩ := q1
  subst ex
  cases r1 with
  | cons r rr =>
    cases rr
    cases r
    rcases q with ⟨hq, q⟩ | ⟨hq, q⟩
    · obtain ⟨its, rv, p', hz⟩ := I1.list hq
      refine call_enumerate_list p'.isList fun h' he hit hsz hk => wpAny_pyIter_enum he ?_
      have I2 : Inv X pins σ H1 { s1 with heap := h' } := I1.kept (t' := s1.toks) hk
      refine ⟨s1.heap.objs.size + 1, [s1.heap.objs.size + 1, s1.heap.objs.size], _, _, H1, rfl, I2, turn_enum a (s1.heap.objs.size + 1) s1.heap.objs.size, ⟨⟨.none, he⟩, hit, Nat.succ_ne_self _⟩, fun b hb => ?_, q⟩
      have e' : b = s1.heap.objs.size + 1 ∨ b = s1.heap.objs.size := by simpa using hb
      have hle : s1.heap.objs.size ≤ b := by
        rcases e' with z | z
        · rw [z]; exact Nat.le_add_right _ _
        · rw [z]; exact Nat.le_refl _
      exact I1.fpOk hle (I1.hok.fresh hle)
    · obtain ⟨its, rv, p', hz⟩ := I1.tuple hq
      have al : a < s1.heap.objs.size := by obtain ⟨_, q, _⟩ := id p'; exact Heap.lt_size q
      refine enum_begins1 (begins_tuple a its.toArray) (show s1.heap.IsTuple a its.toArray from p') fun h' he hit hsz hk => wpAny_pyIter_enum he ?_
      have I2 : Inv X pins σ H1 { s1 with heap := h' } := I1.kept (t' := s1.toks) hk
      have ti : h'.IsTupleIter s1.heap.objs.size a 0 := ⟨_, hit, rfl, rfl⟩
      refine ⟨s1.heap.objs.size + 1, [s1.heap.objs.size + 1, s1.heap.objs.size], _, _, H1, rfl, I2, turn_enumT a (s1.heap.objs.size + 1) s1.heap.objs.size, ⟨⟨.none, he⟩, ti, Nat.succ_ne_self _, Nat.ne_of_gt (Nat.lt_succ_of_lt al), Nat.ne_of_lt al⟩, fun b hb => ?_, q⟩
      have e' : b = s1.heap.objs.size + 1 ∨ b = s1.heap.objs.size := by simpa using hb
      have hle : s1.heap.objs.size ≤ b := by
        rcases e' with z | z
        · rw [z]; exact Nat.le_add_right _ _
        · rw [z]; exact Nat.le_refl _
      exact I1.fpOk hle (I1.hok.fresh hle)
section
variable {X : Cx} {W : Wx} {g : Gd} {ρ : List Addr} {H : Hp} {h : MH}
theorem wk_enumT {a : Addr} {l : List D} {vs : List V} (sq : SqT g.K H a vs) (r : RDs g ρ H l vs) : WkD g ρ H ⟨enumD l, []⟩ (IteT g.K a) := by
  refine ⟨fun H => SqT g.K H a vs, (IteT g.K a).yld, ⟨fun i H hi q => ⟨vs, vs[i]'(by rw [enumD_len] at hi; rw [← r.length]; exact hi), q, List.getElem?_eq_getElem _⟩, fun H q => ⟨vs, q, Nat.le_of_eq (by show vs.length = (enumD l).length; rw [enumD_len, r.length])⟩, fun _ _ _ _ _ _ y => y⟩,
    fun ρ2 H2 h2 l2 hh ok => l2.sqT sq, fun i H2 x H3 ρ2 h2 d l2 hh ok y e => ?_⟩
  obtain ⟨T, z, e2, e3, e4, y⟩ := y
  obtain ⟨d', e5, e6⟩ := enumD_at e
  obtain ⟨v, e7, r7⟩ := r.get e5
  have e8 := y vs (l2.sqT sq)
  rw [e7] at e8
  cases e8
  subst e2 e6
  exact enum_step hh e3 e4 (l2.rd d' r7)
def enumF2 : List D → MH → R IT := fun ds h => match ds with
  | [.tup l] => .ok ⟨enumD l, []⟩ h
  | ds => enumF ds h
def enumI2 (m : AM) : IM := fun e h => (m e h).bind enumF2
theorem i_enum2 {e : Expr} {ma : AM} {p pos tpos : Pos} {elts : List Expr} {kk : Nat} (hg : Gl X "enumerate") (hm : X.mg "enumerate" = none) (ha : PA X [e] (tA (gd X) W ma)) (hs : starEach [e] X.env = [(false, eval e X.env)] := by rfl) :
    PI X (.Tuple elts kk tpos) (.Call (.Name "enumerate" p) [e] [] pos) (iM (gd X) W (enumI2 ma)) := PI_of (pi_enumB hg hm ha hs) fun σ H Q q => by
  refine one q fun ρ e H h xs vs s hh rx p => ?_
  unfold enumF2 at p
  split at p
  · rename_i l
    obtain ⟨v, e1, r1⟩ := rx.inv1
    obtain ⟨a, ws, e2, sq, r⟩ := RD_tup r1
    subst e2
    exact ⟨a, ws, e1, .inr ⟨sq, p.okk hh (wk_enumT sq r)⟩⟩
  · unfold enumF at p
    split at p
    · rename_i n _
      obtain ⟨v, e1, r1⟩ := rx.inv1
      obtain ⟨a, e2, e3⟩ := RD_ref r1
      subst e3
      split at p
      · rename_i l hl
        obtain ⟨ws, e4, r⟩ := hh.obj n _ a hl e2
        exact ⟨a, ws, e1, .inl ⟨.of e4, p.okk hh (wk_enumL e2)⟩⟩
      · rename_i l hl
        obtain ⟨ws, e4, r⟩ := hh.obj n _ a hl e2
        exact ⟨a, ws, e1, .inl ⟨e4.sq, p.okk hh (wk_enumR e4 r)⟩⟩
      · exact p.elim
    · exact p.elim
end
end ML

/-! ML 28: == and != by an own __eq__ -/
namespace PySem.W
open PySem
section
variable {prog : Program} {w : World} {A A₀ : Around} {E : Value → Shared → Prop} {s : Shared} {K : Frag} {x C L f : Addr} {h₀ : Heap} {m : Str → Option Value} {ox : Obj} {od : Option Obj} {name : Str} {b tb : Value}
theorem ifBound_KB {M : Model} {B id : String} {args : List Value} {Q : Option Value → Shared → Prop} (X : K.In s.heap) (I : InstAt s.heap x ox C od) (hs : findIn K (.ref C) name = some (some (.builtin id))) (S : Slot B name id)
    (h : wpAny M A (call (.builtin id) (.ref x :: args)) (fun v => Q (some v)) E s) : wpAny M A (callSpecialIfBound? (.ref x) name args) Q E s := by
  simp only [callSpecialIfBound?, bindSpecialIfBound?]
  refine wpAny_holding (wpAny_bind (wpAny_bind (wpAny_bind (I.type.here ((looks_findIn X hs).here ?_)))))
  simp only [S.bind]
  refine wpAny_bind (wpAny_askSetting (wpAny_ite ?_))
  have fin : wpAny M A (call (.builtin id) ([.ref x] ++ args) >>= fun v => pure (some v)) Q E s := wpAny_bind (wpAny_mono h (fun v s' h' => wpAny_pure h') fun _ _ h' => h')
  split
  · exact wpAny_bind (wpAny_pure (wpAny_pure fin))
  · exact wpAny_tryCatch (wpAny_bind (wpAny_pure (wpAny_pure fin)))
theorem objNe_K {Q : Fin → Shared → Prop} (X : K.In s.heap) (I : InstAt s.heap x ox C od) (hs : findIn K (.ref C) "__eq__" = some (some (.ref f))) (hf : isFn K (.ref f) = true) (hu : A.units < cLine)
    (hcall : wpAny (model prog w) A (call (.ref f) [.ref x, b]) (fun v s' => ∃ r, v = .bool r ∧ Q (.done (.ret (.bool (!r)))) s') E s) :
    wpAny (model prog w) A (Builtin.«object.__ne__» ⟨[.ref x, b], []⟩) Q E s := by
  obtain ⟨h, g, d, t, os⟩ := s
  unfold Builtin.«object.__ne__»
  repeat (first
    | with_reducible refine wpAny_cRoomFor hu ?_
    | (refine wpAny_bind (m := callSpecialIfBound? (.ref x) (Str.ofString "__eq__") [b])
        (ifBound_K X I hs hf (wpAny_mono hcall (fun r s' hr => by
          obtain ⟨b, rfl, hq⟩ := hr
          repeat (first | exact hq | exact wpAny_pure hq | exact wpAny_truthy_bool hq | (refine wpAny_bind (m := truthy (.bool _)) (wpAny_truthy_bool ?_)) | wp_step)) fun _ _ e => e)))
    | wp_step)
theorem ne_K {Q : Value → Shared → Prop} (hu : A.units + 1 < cLine) (X : K.In s.heap) (I : InstAt s.heap x ox C od) (hb : Looks (model prog w) s.heap (typeOf b) tb) (hn : notFirst K C tb = true)
    (hne : findIn K (.ref C) "__ne__" = some (some (.builtin "object.__ne__"))) (hob : mroIn K C (.type "object") = some true) (hs : findIn K (.ref C) "__eq__" = some (some (.ref f))) (hf : isFn K (.ref f) = true)
    (h : wpAny (model prog w) A.in1 (call (.ref f) [.ref x, b]) (fun v s' => ∃ r, v = .bool r ∧ Q (.bool (!r)) s') E s) : wpAny (model prog w) A (richCompare .NotEq (.ref x) b) Q E s := by
  have one : wpAny (model prog w) A (tryCompare (.ref x) "__ne__" b) (fun r s' => ∃ v, r = some v ∧ Q v s') E s := by
    unfold tryCompare
    refine wpAny_bind (ifBound_KB X I hne F.cmp_object.ne (wpAny_call (codeAny_call_builtin F.cmp_object.ne.plain F.cmpEntry_ne
      (check_slot F.cmpKind_ne F.cmpSplit_ne ((I.type).andThen (looks_mroIn X hob)) (F.cmpArgs_ne _ _)
        (objNe_K (A := A.in1) X I hs hf hu (wpAny_mono h (fun v s' hv => ?_) fun _ _ e => e))))))
    obtain ⟨r, rfl, hq⟩ := hv
    exact ⟨r, rfl, by first | exact wpAny_pure ⟨_, rfl, hq⟩ | exact wpAny_pure (wpAny_pure ⟨_, rfl, hq⟩)⟩
  unfold richCompare
  simp only [oneThing_ref]
  refine wpAny_holding (wpAny_bind (wpAny_cRoomFor (Nat.lt_of_succ_lt hu) ?_))
  refine wpAny_bind (I.type.here (wpAny_bind (hb.here ?_)))
  split
  · rename_i q
    have e : subIn K tb (.ref C) = some false := by
      rcases Bool.or_eq_true_iff.mp hn with e | e
      · rw [beq_iff_eq.mp e] at q; simp at q
      · exact beq_iff_eq.mp e
    refine wpAny_bind ((looks_subIn X e).here ?_)
    simp only [Bool.false_eq_true, if_false]
    refine wpAny_bind (wpAny_mono one (fun r s' z => ?_) fun _ _ e => e)
    obtain ⟨v, rfl, hq⟩ := z
    exact wpAny_pure hq
  · refine wpAny_bind (wpAny_pure ?_)
    simp only [Bool.false_eq_true, if_false]
    refine wpAny_bind (wpAny_mono one (fun r s' z => ?_) fun _ _ e => e)
    obtain ⟨v, rfl, hq⟩ := z
    exact wpAny_pure hq
end
end PySem.W

/-! ML 29: a built-in thing == an instance with an own __eq__ -/
namespace PySem.W
open PySem PySem.SeqAt

section
variable {M : Model} {prog : Program} {w : World} {A : Around} {E : Value → Shared → Prop} {s : Shared} {l b : Addr} {Q : Fin → Shared → Prop}
/-- the object at b has not the type T -/
def NotT (s : Shared) (b : Addr) (T : String) : Prop := ∀ {M : Model} {A : Around} {E : Value → Shared → Prop} {Q : Bool → Shared → Prop}, Q false s → wpAny M A (isInstance (.ref b) (.type T)) Q E s
theorem decl_list (h : NotT s b "list") (hq : Q (.done (.ret .notImplemented)) s) : wpAny M A (Builtin.«list.__eq__» ⟨[.ref l, .ref b], []⟩) Q E s := by
  obtain ⟨hp, g, d, tk, os⟩ := s
  have h' : ∀ {M : Model} {A : Around} {E : Value → Shared → Prop} {Q : Bool → Shared → Prop}, Q false ⟨hp, g, d, tk, os⟩ → wpAny M A (isInstance (.ref b) (.type "list")) Q E ⟨hp, g, d, tk, os⟩ := h
  wp_walk using h'
  exact hq
theorem decl_tuple (h : NotT s b "tuple") (hq : Q (.done (.ret .notImplemented)) s) : wpAny M A (Builtin.«tuple.__eq__» ⟨[.ref l, .ref b], []⟩) Q E s := by
  obtain ⟨hp, g, d, tk, os⟩ := s
  have h' : ∀ {M : Model} {A : Around} {E : Value → Shared → Prop} {Q : Bool → Shared → Prop}, Q false ⟨hp, g, d, tk, os⟩ → wpAny M A (isInstance (.ref b) (.type "tuple")) Q E ⟨hp, g, d, tk, os⟩ := h
  wp_walk using h'
  exact hq
theorem decl_dict (h : NotT s b "dict") (hq : Q (.done (.ret .notImplemented)) s) : wpAny M A (Builtin.«dict.__eq__» ⟨[.ref l, .ref b], []⟩) Q E s := by
  obtain ⟨hp, g, d, tk, os⟩ := s
  have h' : ∀ {M : Model} {A : Around} {E : Value → Shared → Prop} {Q : Bool → Shared → Prop}, Q false ⟨hp, g, d, tk, os⟩ → wpAny M A (isInstance (.ref b) (.type "dict")) Q E ⟨hp, g, d, tk, os⟩ := h
  wp_walk using h'
  exact hq
theorem decl_none (hq : Q (.done (.ret .notImplemented)) s) : wpAny M A (Builtin.«NoneType.__eq__» ⟨[.none, .ref b], []⟩) Q E s := by
  obtain ⟨hp, g, d, tk, os⟩ := s
  wp_walk
  exact hq
variable {C dx : Addr}
theorem decl_int {x : Int} {t : Tok} (hb : s.heap.get? b = some (instObj C dx)) (hq : Q (.done (.ret .notImplemented)) s) : wpAny M A (Builtin.«int.__eq__» ⟨[.int x t, .ref b], []⟩) Q E s := by
  obtain ⟨hp, g, d, tk, os⟩ := s
  wp_walk using AutoSeq1.wpAny_loadPart' hb, wpAny_load hb
  exact hq
theorem decl_bool {x : Bool} (hb : s.heap.get? b = some (instObj C dx)) (hq : Q (.done (.ret .notImplemented)) s) : wpAny M A (Builtin.«int.__eq__» ⟨[.bool x, .ref b], []⟩) Q E s := by
  obtain ⟨hp, g, d, tk, os⟩ := s
  wp_walk using AutoSeq1.wpAny_loadPart' hb, wpAny_load hb
  exact hq
theorem decl_str {x : Str} {t : Tok} (hb : s.heap.get? b = some (instObj C dx)) (hq : Q (.done (.ret .notImplemented)) s) : wpAny M A (Builtin.«str.__eq__» ⟨[.str x t, .ref b], []⟩) Q E s := by
  obtain ⟨hp, g, d, tk, os⟩ := s
  wp_walk using AutoSeq1.wpAny_loadPart' hb, wpAny_load hb
  exact hq
end
end PySem.W

/-! ML 30: == and != where an own __eq__ answers -/
namespace PySem.W
open PySem PySem.SeqAt
section
variable {prog : Program} {w : World} {A : Around} {E : Value → Shared → Prop} {s : Shared} {K : Frag} {b C f : Addr} {ob : Obj} {od : Option Obj}
theorem eq_back {a : Value} {T id : String} {Q : Value → Shared → Prop} (ha : s.TypeIs a T) (S : Slot T (cmpInfo .Eq).2.1 id) (X : K.In s.heap) (I : InstAt s.heap b ob C od) (hsub : subIn K (.ref C) (.type T) = some false)
    (hs : findIn K (.ref C) "__eq__" = some (some (.ref f))) (hf : isFn K (.ref f) = true) (hu : A.units < cLine)
    (decl : ∀ Q' : Value → Shared → Prop, Q' .notImplemented s → wpAny (model prog w) A (call (.builtin id) [a, .ref b]) Q' E s)
    (h : wpAny (model prog w) A (call (.ref f) [.ref b, a]) (CmpBack Q) E s) : wpAny (model prog w) A (richCompare .Eq a (.ref b)) Q E s := by
  have two : wpAny (model prog w) A (tryCompare (.ref b) "__eq__" a) (fun r s' => ∃ v, r = some v ∧ Q v s') E s := by
    unfold tryCompare
    refine wpAny_bind (ifBound_K X I hs hf (wpAny_mono h (fun v s' hv => ?_) fun _ _ e => e))
    cases v <;> first | exact hv.elim | exact wpAny_pure ⟨_, rfl, hv⟩
  rcases hi : cmpInfo CmpOp.Eq with ⟨sym, f', r'⟩
  have hr : r' = "__eq__" := by
    rw [cmpInfo_Eq] at hi
    cases hi
    rfl
  rw [hi] at S
  simp only [richCompare, hi, ha.oneThing_none]
  try with_reducible refine wpAny_holding ?_
  refine wpAny_bind (wpAny_cRoomFor hu ?_)
  refine wpAny_bind (wpAny_typeOf ha (wpAny_bind (I.type.here ?_)))
  have hne : (Value.type T != Value.ref C) = true := rfl
  simp only [hne, if_true]
  refine wpAny_bind ((looks_subIn X hsub).here ?_)
  simp only [Bool.false_eq_true, if_false, Bool.not_false, if_true]
  refine wpAny_bind (m := tryCompare a _ (.ref b)) (wpAny_tryCompare_declines ha S (decl _ ⟨rfl, ?_⟩))
  subst hr
  refine wpAny_bind (m := tryCompare (.ref b) _ a) (wpAny_mono two (fun r s' z => ?_) fun _ _ e => e)
  obtain ⟨v, rfl, hq⟩ := z
  exact wpAny_pure hq
end
end PySem.W
namespace ML
open PySem PySem.Spec PyProof.Rows L2
/-- an own class with its __eq__, as its comparers know it; cs: the own classes whose instances may stand beside one -/
structure EqC (P : Program) (w : World) (K : PySem.W.Frag) (mg : Str → Option Value) (base : Heap) (c : Str) (k : Nat) (cs : List Str) (m : FM) : Prop where
  ex : ∃ C f fd ps, mg c = some (.ref C) ∧ PySem.W.findIn K (.ref C) "__eq__" = some (some (.ref f)) ∧ PySem.W.isFn K (.ref f) = true ∧ PySem.W.findIn K (.ref C) "__ne__" = some (some (.builtin "object.__ne__")) ∧ PySem.W.mroIn K C (.type "object") = some true ∧
    Binds K fd ps [] ∧ ps.length = 2 ∧ FnOk P w K mg base (L2.CX P w) k f fd ps (spM ⟨K, mg⟩ ps.length m) ∧
    (∀ T ∈ kinds, PySem.W.subIn K (.type T) (.ref C) = some false ∧ PySem.W.subIn K (.ref C) (.type T) = some false) ∧ ∀ c' ∈ cs, ∀ C', mg c' = some (.ref C') → PySem.W.notFirst K C (.ref C') = true
section
variable {X : Cx} {pins : List (Addr × Obj)} {σ : L2.St} {H : Hp} {s : Shared} {k : Nat} {f C : Addr} {fd : FuncData} {ps : List Str} {sp : Sp}
abbrev noE : XK := fun _ _ _ => False
/-- the own __eq__ is called -/
theorem run_eq {A : Around} {x y : V} {u v : Value} {Q : Bool → Hp → Prop} (F : FnOk X.prog X.w X.K X.mg X.base (L2.CX X.prog X.w) k f fd ps sp) (hb : Binds X.K fd ps []) (hl : ps.length = 2) (sb : Sub X k A) (I : Inv X pins σ H s) (rx : RelV x u) (ry : RelV y v)
    (h : sp [x, y] H (fun z H' => ∃ b, z = .bl b ∧ Q b H') noE) : wpAny (model X.prog X.w) A (call (.ref f) [u, v]) (fun z s' => ∃ b, z = .bool b ∧ ∃ H', Inv X pins σ H' s' ∧ Q b H') X.xe s := by
  have e0 : Env0 X.prog X.w X.K X.mg X.base A X.stack s H := by
    have e := I.env0
    exact ⟨by rw [sb.fr]; exact e.frames, e.mod, e.bs, e.bsz, e.funs, e.frf, e.hok, e.bare⟩
  have r2 : Vals [x, y] [u, v] := .cons rx (.cons ry .nil)
  refine wpAny_call (codeAny_mono (F.run A X.stack s H ⟨[u, v], []⟩ [u, v] [x, y] _ noE sb.room e0 (by
    have := hb s [u, v] I.kIn (by simpa using hl.symm)
    simpa using this) r2 h) fun r s' hq => ?_)
  cases r with
  | error e => exact (cx_no hq).elim
  | ok fl =>
    cases fl with
    | ret w =>
      obtain ⟨z, H', I', rz, b, ez, q⟩ := I.after hq
      subst ez
      cases rz
      exact ⟨b, rfl, H', I', q⟩
    | next => exact False.elim hq
    | brk => exact False.elim hq
    | cont => exact False.elim hq
/-- what may stand behind: a thing of a built-in kind, or an instance of no class below -/
def OthV (K : PySem.W.Frag) (C : Addr) (H : Hp) (y : V) : Prop := (∃ T ∈ kinds, TyX K H y (.type T)) ∨ ∃ b C' dy gs, y = .ref b ∧ H b = some (.ins C' dy gs) ∧ PySem.W.notFirst K C (.ref C') = true
theorem oth_looks {y : V} {v : Value} (I : Inv X pins σ H s) (ry : RelV y v) (hk : ∀ T ∈ kinds, PySem.W.subIn X.K (.type T) (.ref C) = some false) (o : OthV X.K C H y) : ∃ tb, PySem.W.Looks (model X.prog X.w) s.heap (typeOf v) tb ∧ PySem.W.notFirst X.K C tb = true := by
  rcases o with ⟨T, hT, ty⟩ | ⟨b, C', dy, gs, e, hb, hn⟩
  · obtain ⟨P, Z, hP, _⟩ := kit_of I ry ty
    refine ⟨.type T, Z.ty _ _ I.kIn hP, ?_⟩
    unfold PySem.W.notFirst
    rw [hk T hT]
    simp
  · subst e
    cases ry
    obtain ⟨mB, J', _⟩ := ins_get I.hok hb
    obtain ⟨od', J', _⟩ := J'.look
    exact ⟨.ref C', J'.type, hn⟩
def rEqI (K : PySem.W.Frag) (C : Addr) (sp : Sp) (neg : Bool) : R2 := fun x y H Q => ∃ a dx fs, x = .ref a ∧ H a = some (.ins C dx fs) ∧ OthV K C H y ∧ sp [x, y] H (fun z H' => ∃ b, z = .bl b ∧ Q (.bl (if neg then !b else b)) H') noE
theorem op_eqI (F : FnOk X.prog X.w X.K X.mg X.base (L2.CX X.prog X.w) k f fd ps sp) (hb : Binds X.K fd ps []) (hl : ps.length = 2) (hr : Room k X.A) (hs : PySem.W.findIn X.K (.ref C) "__eq__" = some (some (.ref f))) (hf : PySem.W.isFn X.K (.ref f) = true)
    (hk : ∀ T ∈ kinds, PySem.W.subIn X.K (.type T) (.ref C) = some false) : OpR X (compareOp .Eq) (rEqI X.K C sp false) := by
  intro pins s σ H x y u v Q I rx ry h
  obtain ⟨a, dx, fs, rfl, ha, o, q⟩ := h
  obtain ⟨tb, L, hn⟩ := oth_looks I ry hk o
  cases (show u = Value.ref a from rx)
  obtain ⟨mA, J, _⟩ := ins_get I.hok ha
  obtain ⟨od, J, _⟩ := J.look
  obtain ⟨m, hF⟩ := I.fr
  show wpAny (model X.prog X.w) X.A (richCompare .Eq (.ref a) v) (EP X pins σ Q) X.xe s
  refine PySem.W.cmp_K (op := .Eq) (tb := tb) hr.units0 hF I.ok.mod.kin J L hn hs hf ?_
  refine wpAny_mono (run_eq (Q := fun b H' => Q (.bl b) H') F hb hl ⟨hr, rfl⟩ I (show RelV (.ref a) (.ref a) from rfl) ry (by simpa using q)) (fun z s' p => ?_) fun _ _ e => e
  obtain ⟨b, rfl, H', I', qb⟩ := p
  exact ⟨.bl b, H', I', rfl, qb⟩
theorem op_neI (F : FnOk X.prog X.w X.K X.mg X.base (L2.CX X.prog X.w) k f fd ps sp) (hb : Binds X.K fd ps []) (hl : ps.length = 2) (hr : Room (k + 1) X.A) (hs : PySem.W.findIn X.K (.ref C) "__eq__" = some (some (.ref f))) (hf : PySem.W.isFn X.K (.ref f) = true)
    (hne : PySem.W.findIn X.K (.ref C) "__ne__" = some (some (.builtin "object.__ne__"))) (hob : PySem.W.mroIn X.K C (.type "object") = some true)
    (hk : ∀ T ∈ kinds, PySem.W.subIn X.K (.type T) (.ref C) = some false) : OpR X (compareOp .NotEq) (rEqI X.K C sp true) := by
  intro pins s σ H x y u v Q I rx ry h
  obtain ⟨a, dx, fs, rfl, ha, o, q⟩ := h
  obtain ⟨tb, L, hn⟩ := oth_looks I ry hk o
  cases (show u = Value.ref a from rx)
  obtain ⟨mA, J, _⟩ := ins_get I.hok ha
  obtain ⟨od, J, _⟩ := J.look
  show wpAny (model X.prog X.w) X.A (richCompare .NotEq (.ref a) v) (EP X pins σ Q) X.xe s
  refine PySem.W.ne_K (tb := tb) hr.in1.units0 I.kIn J L hn hne hob hs hf ?_
  refine wpAny_mono (run_eq (Q := fun b H' => Q (.bl (!b)) H') F hb hl (Sub.in1 ⟨hr, rfl⟩) I (show RelV (.ref a) (.ref a) from rfl) ry (by simpa using q)) (fun z s' p => ?_) fun _ _ e => e
  obtain ⟨b, rfl, H', I', qb⟩ := p
  exact ⟨b, rfl, .bl (!b), H', I', rfl, qb⟩
end
end ML

/-! ML 31: == and != where an own __eq__ may answer: the mirrors -/
namespace ML
open PySem PySem.Spec PyProof.Rows L2
section
variable {X : Cx} {pins : List (Addr × Obj)} {σ : L2.St} {H : Hp} {s : Shared} {k : Nat} {f C : Addr} {fd : FuncData} {ps : List Str} {sp : Sp}
/-- a thing of a built-in kind: what its own == says to an instance -/
theorem decl_all {T : String} {x : V} {u : Value} {b : Addr} {C dx : Addr} (I : Inv X pins σ H s) (rx : RelV x u) (hT : T ∈ kinds) (ty : TyX X.K H x (.type T)) (hb : s.heap.get? b = some (PySem.W.instObj C dx)) (hn : ∀ T' ∈ kinds, PySem.W.NotT s b T') :
    s.TypeIs u T ∧ ∃ id, PySem.Slot T (cmpInfo .Eq).2.1 id ∧ ∀ Q' : Value → Shared → Prop, Q' .notImplemented s → wpAny (model X.prog X.w) X.A (call (.builtin id) [u, .ref b]) Q' X.xe s := by
  have seq : ∀ {a : Addr} {o : Obj}, s.heap.get? a = some o → (o.cls = .type "list" → s.TypeIs (.ref a) "list" ∧ ∃ id, PySem.Slot "list" (cmpInfo .Eq).2.1 id ∧ ∀ Q' : Value → Shared → Prop, Q' .notImplemented s → wpAny (model X.prog X.w) X.A (call (.builtin id) [.ref a, .ref b]) Q' X.xe s) ∧
      (o.cls = .type "tuple" → s.TypeIs (.ref a) "tuple" ∧ ∃ id, PySem.Slot "tuple" (cmpInfo .Eq).2.1 id ∧ ∀ Q' : Value → Shared → Prop, Q' .notImplemented s → wpAny (model X.prog X.w) X.A (call (.builtin id) [.ref a, .ref b]) Q' X.xe s) ∧
      (o.cls = .type "dict" → s.TypeIs (.ref a) "dict" ∧ ∃ id, PySem.Slot "dict" (cmpInfo .Eq).2.1 id ∧ ∀ Q' : Value → Shared → Prop, Q' .notImplemented s → wpAny (model X.prog X.w) X.A (call (.builtin id) [.ref a, .ref b]) Q' X.xe s) := fun {a o} e => by
    refine ⟨fun c => ?_, fun c => ?_, fun c => ?_⟩
    · have t : s.TypeIs (.ref a) "list" := ⟨o, e, c⟩
      exact ⟨t, _, F.slot_list_eq, fun Q' q => wpAny_call_entry F.slot_list_eq t F.entry_list_eq (PySem.W.decl_list (hn "list" (by decide)) ⟨_, rfl, q⟩) (F.args_list_eq_2 _ _)⟩
    · have t : s.TypeIs (.ref a) "tuple" := ⟨o, e, c⟩
      exact ⟨t, _, F.slot_tuple_eq, fun Q' q => wpAny_call_entry F.slot_tuple_eq t F.entry_tuple_eq (PySem.W.decl_tuple (hn "tuple" (by decide)) ⟨_, rfl, q⟩) (F.args_tuple_eq_2 _ _)⟩
    · have t : s.TypeIs (.ref a) "dict" := ⟨o, e, c⟩
      exact ⟨t, _, F.slot_dict_eq, fun Q' q => wpAny_call_entry F.slot_dict_eq t F.entry_dict_eq (PySem.W.decl_dict (hn "dict" (by decide)) ⟨_, rfl, q⟩) (F.args_dict_eq_2 _ _)⟩
  cases ty with
  | base b' =>
    cases b' with
    | non =>
      cases (show u = Value.none from rx)
      exact ⟨rfl, _, F.slot_NoneType_eq, fun Q' q => wpAny_call_entry F.slot_NoneType_eq rfl F.entry_NoneType_eq (PySem.W.decl_none ⟨_, rfl, q⟩) (F.args_NoneType_eq_2 _ _)⟩
    | bl y =>
      cases (show u = Value.bool y from rx)
      exact ⟨rfl, _, F.slot_bool_eq, fun Q' q => wpAny_call_entry F.slot_bool_eq rfl F.entry_int_eq (PySem.W.decl_bool hb ⟨_, rfl, q⟩) (F.args_int_eq_2 _ _)⟩
    | int i =>
      obtain ⟨t, q⟩ := (show ∃ t, u = Value.int i t from rx)
      cases q
      exact ⟨rfl, _, F.slot_int_eq, fun Q' q => wpAny_call_entry F.slot_int_eq rfl F.entry_int_eq (PySem.W.decl_int hb ⟨_, rfl, q⟩) (F.args_int_eq_2 _ _)⟩
    | str y =>
      obtain ⟨t, q⟩ := (show ∃ t, u = Value.str y t from rx)
      cases q
      exact ⟨rfl, _, F.slot_str_eq, fun Q' q => wpAny_call_entry F.slot_str_eq rfl F.entry_str_eq (PySem.W.decl_str hb ⟨_, rfl, q⟩) (F.args_str_eq_2 _ _)⟩
    | flt y => exact absurd hT (by decide)
    | @lst a xs ea =>
      cases (show u = Value.ref a from rx)
      obtain ⟨_, _, n, _, h1⟩ := (show ObjOk X.prog X.w H s.heap a (.lst xs) from I.hok a _ ea)
      exact (seq h1).1 rfl
    | @frz a ob xs ea =>
      cases (show u = Value.ref a from rx)
      obtain ⟨_, _, _, n, _, h1⟩ := (show ObjOk X.prog X.w H s.heap a (.frz ob (.lst xs)) from I.hok a _ ea)
      exact (seq h1).1 rfl
    | @tup a xs ea =>
      cases (show u = Value.ref a from rx)
      obtain ⟨_, _, _, o, h1, h2, _⟩ := (show ObjOk X.prog X.w H s.heap a (.tup xs) from I.hok a _ ea)
      exact (seq h1).2.1 h2
    | @dK a kvs ea =>
      cases (show u = Value.ref a from rx)
      obtain ⟨_, _, vs, _, o, es, ep, h1, h2, _⟩ := (show ObjOk X.prog X.w H s.heap a (.dK kvs) from I.hok a _ ea)
      exact (seq h1).2.2 h2.1
    | @dT a kvs ea =>
      cases (show u = Value.ref a from rx)
      obtain ⟨_, _, xs, _, o, es, ep, h1, h2, _⟩ := (show ObjOk X.prog X.w H s.heap a (.dT kvs) from I.hok a _ ea)
      exact (seq h1).2.2 h2.1
  | byt y => exact absurd hT (by decide)
  | @set a S n ea => exact absurd hT (by decide)
  | @kList a o e c =>
    cases (show u = Value.ref a from rx)
    exact (seq (I.kIn a o e)).1 c
  | @kTuple a o e c =>
    cases (show u = Value.ref a from rx)
    exact (seq (I.kIn a o e)).2.1 c
  | @kDict a o e c =>
    cases (show u = Value.ref a from rx)
    exact (seq (I.kIn a o e)).2.2 c
  | @fTuple a ob xs ea =>
    cases (show u = Value.ref a from rx)
    obtain ⟨_, _, _, _, o, h1, h2, _⟩ := (show ObjOk X.prog X.w H s.heap a (.frz ob (.tup xs)) from I.hok a _ ea)
    exact (seq h1).2.1 h2
  | @fDict a ob kvs ea =>
    cases (show u = Value.ref a from rx)
    obtain ⟨_, _, _, vs, _, o, es, ep, h1, h2, _⟩ := (show ObjOk X.prog X.w H s.heap a (.frz ob (.dK kvs)) from I.hok a _ ea)
    exact (seq h1).2.2 h2.1
def rEqB (K : PySem.W.Frag) (C : Addr) (sp : Sp) : R2 := fun x y H Q => (∃ T ∈ kinds, TyX K H x (.type T)) ∧ ∃ b dx fs, y = .ref b ∧ H b = some (.ins C dx fs) ∧ sp [y, x] H (fun z H' => ∃ r, z = .bl r ∧ Q (.bl r) H') noE
theorem op_eqB (F : FnOk X.prog X.w X.K X.mg X.base (L2.CX X.prog X.w) k f fd ps sp) (hb : Binds X.K fd ps []) (hl : ps.length = 2) (hr : Room k X.A) (hs : PySem.W.findIn X.K (.ref C) "__eq__" = some (some (.ref f))) (hf : PySem.W.isFn X.K (.ref f) = true)
    (hk : ∀ T ∈ kinds, PySem.W.subIn X.K (.ref C) (.type T) = some false) : OpR X (compareOp .Eq) (rEqB X.K C sp) := by
  intro pins s σ H x y u v Q I rx ry h
  obtain ⟨⟨T, hT, ty⟩, b, dx, fs, rfl, hb', q⟩ := h
  cases (show v = Value.ref b from ry)
  obtain ⟨mB, O, _⟩ := ins_get I.hok hb'
  obtain ⟨od, J, _⟩ := O.look
  obtain ⟨t, id, S, d⟩ := decl_all I rx hT ty O.obj (fun T' hT' {M A E Q} hq => (show PySem.W.Looks M s.heap (isInstance (.ref b) (.type T')) false from J.type.andThen (PySem.W.looks_subIn I.kIn (hk T' hT'))).here hq)
  show wpAny (model X.prog X.w) X.A (richCompare .Eq u (.ref b)) (EP X pins σ Q) X.xe s
  refine PySem.W.eq_back t S I.kIn J (hk T hT) hs hf hr.units0 d ?_
  refine wpAny_mono (run_eq (Q := fun b H' => Q (.bl b) H') F hb hl ⟨hr, rfl⟩ I (show RelV (.ref b) (.ref b) from rfl) rx q) (fun z s' p => ?_) fun _ _ e => e
  obtain ⟨b, rfl, H', I', qb⟩ := p
  exact ⟨.bl b, H', I', rfl, qb⟩
end
/-! ### the mirrors -/
def insOf (h : MH) : D → Option Str
  | .ref n => (match h[n]? with
    | some (.ins c _) => some c
    | _ => none)
  | _ => none
def othOk (cs : List Str) (h : MH) (y : D) : Bool := (tyD h y).isSome || (match insOf h y with
  | some c => cs.contains c
  | none => false)
def boolR (neg : Bool) : R D → R D
  | .ok (.bl b) h => .ok (.bl (if neg then !b else b)) h
  | _ => .bad
/-- x == y (x != y): x an instance of c, whose __eq__ is m; cs: the classes of what may stand behind it -/
def eqIF (neg : Bool) (c : Str) (cs : List Str) (m : FM) (f0 : D → D → MH → R D) : D → D → MH → R D := fun x y h => if insOf h x = some c then (if othOk cs h y = true then boolR neg (m [x, y] h) else .bad) else f0 x y h
/-- x == y: y an instance of c, x a thing of a built-in kind -/
def eqBF (c : Str) (m : FM) (f0 : D → D → MH → R D) : D → D → MH → R D := fun x y h => if insOf h y = some c ∧ (tyD h x).isSome = true then boolR false (m [y, x] h) else f0 x y h
theorem insOf_v {g : Gd} {ρ : List Addr} {H : Hp} {h : MH} {x : D} {v : V} {c : Str} (hh : RH g ρ H h) (r : RD g ρ H x v) (e : insOf h x = some c) : ∃ a C dx fs, v = .ref a ∧ g.mg c = some (.ref C) ∧ H a = some (.ins C dx fs) := by
  cases x <;> first | (cases e; done) | skip
  rename_i n
  obtain ⟨a, e1, e2⟩ := RD_ref r
  subst e2
  unfold insOf at e
  dsimp only at e
  split at e
  · rename_i c' fs hn
    cases e
    obtain ⟨C, dx, gs, mgC, e3, _⟩ := hh.obj n _ a hn e1
    exact ⟨a, C, dx, gs, rfl, mgC, e3⟩
  · cases e
theorem oth_v {g : Gd} {ρ : List Addr} {H : Hp} {h : MH} {y : D} {v : V} {cs : List Str} {C : Addr} (hh : RH g ρ H h) (r : RD g ρ H y v) (hc : ∀ c' ∈ cs, ∀ C', g.mg c' = some (.ref C') → PySem.W.notFirst g.K C (.ref C') = true) (e : othOk cs h y = true) : OthV g.K C H v := by
  unfold othOk at e
  cases t : tyD h y with
  | some T =>
    obtain ⟨t1, t2⟩ := tyD_v hh r t
    exact .inl ⟨T, t2, t1⟩
  | none =>
    rw [t] at e
    cases i : insOf h y with
    | none => rw [i] at e; cases e
    | some c =>
      rw [i] at e
      obtain ⟨a, C', dx, fs, e1, e2, e3⟩ := insOf_v hh r i
      exact .inr ⟨a, C', dx, fs, e1, e3, hc c (by simpa using e) C' e2⟩
theorem bool_post {g : Gd} {Wf : XK} {ρ : List Addr} {H : Hp} {r : R D} {neg : Bool} {Q : VK} (p : Post g (RD g) Wf ρ H (boolR neg r) Q) : Post g (RD g) noE ρ H r (fun z H' => ∃ b, z = .bl b ∧ Q (.bl (if neg then !b else b)) H') := by
  unfold boolR at p
  split at p
  · rename_i b h'
    intro ρ' v H' l hh rv
    refine ⟨b, RD_bl rv rfl, ?_⟩
    refine p ρ' (.bl (if neg then !b else b)) H' l hh (by unfold RD; rfl)
  · exact p.elim
/-- a comparison with its mirror -/
def OpM (X : Cx) (op : CmpOp) (f : D → D → MH → R D) : Prop := ∃ r, OpR X (compareOp op) r ∧ RF2 (gd X) f r
section
variable {X : Cx} {W : Wx} {a b : Expr} {ma mb : EM} {pos : Pos} {op : CmpOp} {f0 : D → D → MH → R D} {c : Str} {cs : List Str} {k : Nat} {m : FM}
theorem opm_eq (hu : X.A.units + 64 < cLine) : OpM X .Eq eqF := ⟨_, op_eqM hu, rf_eq⟩
theorem opm_ne (hu : X.A.units + 64 < cLine) : OpM X .NotEq neF := ⟨_, op_neM hu, rf_ne⟩
theorem rf_I {C : Addr} {ps : List Str} {neg : Bool} {r0 : R2} (h0 : RF2 (gd X) f0 r0) (hm : X.mg c = some (.ref C)) (hl : ps.length = 2) (hc : ∀ c' ∈ cs, ∀ C', X.mg c' = some (.ref C') → PySem.W.notFirst X.K C (.ref C') = true) :
    RF2 (gd X) (eqIF neg c cs m f0) (fun x y H Q => rEqI X.K C (spM (gd X) ps.length m) neg x y H Q ∨ r0 x y H Q) := fun Wf Q ρ H h x y vx vy hh rx ry p => by
  unfold eqIF at p
  split at p
  · rename_i hx
    split at p
    · rename_i hy
      obtain ⟨a, C', dx, fs, e1, e2, e3⟩ := insOf_v hh rx hx
      have e4 : (some (Value.ref C') : Option Value) = some (.ref C) := e2.symm.trans hm
      cases e4
      subst e1
      refine .inl ⟨a, dx, fs, rfl, e3, oth_v hh ry hc hy, ?_⟩
      exact ⟨by rw [hl]; rfl, ρ, [x, y], h, .cons rx (.cons ry .nil), hh, bool_post p⟩
    · exact p.elim
  · exact .inr (h0 _ _ _ _ _ _ _ _ _ hh rx ry p)
theorem rf_B {C : Addr} {ps : List Str} {r0 : R2} (h0 : RF2 (gd X) f0 r0) (hm : X.mg c = some (.ref C)) (hl : ps.length = 2) : RF2 (gd X) (eqBF c m f0) (fun x y H Q => rEqB X.K C (spM (gd X) ps.length m) x y H Q ∨ r0 x y H Q) := fun Wf Q ρ H h x y vx vy hh rx ry p => by
  unfold eqBF at p
  split at p
  · rename_i hy
    obtain ⟨b, C', dx, fs, e1, e2, e3⟩ := insOf_v hh ry hy.1
    have e4 : (some (Value.ref C') : Option Value) = some (.ref C) := e2.symm.trans hm
    cases e4
    subst e1
    cases t : tyD h x with
    | none => rw [t] at hy; cases hy.2
    | some T =>
      obtain ⟨t1, t2⟩ := tyD_v hh rx t
      refine .inl ⟨⟨T, t2, t1⟩, b, dx, fs, rfl, e3, ?_⟩
      exact ⟨by rw [hl]; rfl, ρ, [y, x], h, .cons ry (.cons rx .nil), hh, by simpa using bool_post p⟩
  · exact .inr (h0 _ _ _ _ _ _ _ _ _ hh rx ry p)
theorem opm_I (E : EqC X.prog X.w X.K X.mg X.base c k cs m) (hr : Room k X.A) (h : OpM X .Eq f0) : OpM X .Eq (eqIF false c cs m f0) := by
  obtain ⟨C, f, fd, ps, hm, hs, hf, _, _, hb, hl, G, hk, hc⟩ := E.ex
  obtain ⟨r, h1, h2⟩ := h
  exact ⟨_, OpR.or (op_eqI G hb hl hr hs hf fun T hT => (hk T hT).1) h1, rf_I h2 hm hl hc⟩
theorem opm_N (E : EqC X.prog X.w X.K X.mg X.base c k cs m) (hr : Room (k + 1) X.A) (h : OpM X .NotEq f0) : OpM X .NotEq (eqIF true c cs m f0) := by
  obtain ⟨C, f, fd, ps, hm, hs, hf, hne, hob, hb, hl, G, hk, hc⟩ := E.ex
  obtain ⟨r, h1, h2⟩ := h
  exact ⟨_, OpR.or (op_neI G hb hl hr hs hf hne hob fun T hT => (hk T hT).1) h1, rf_I h2 hm hl hc⟩
theorem opm_B (E : EqC X.prog X.w X.K X.mg X.base c k cs m) (hr : Room k X.A) (h : OpM X .Eq f0) : OpM X .Eq (eqBF c m f0) := by
  obtain ⟨C, f, fd, ps, hm, hs, hf, _, _, hb, hl, G, hk, hc⟩ := E.ex
  obtain ⟨r, h1, h2⟩ := h
  exact ⟨_, OpR.or (op_eqB G hb hl hr hs hf fun T hT => (hk T hT).2) h1, rf_B h2 hm hl⟩
theorem e_cmpM {f : D → D → MH → R D} (ho : OpM X op f) (ha : PE X a (tE (gd X) W ma)) (hb : PE X b (tE (gd X) W mb)) (hm : behindInMarks op b = false) : PE X (.Compare a [op] [b] pos) (tE (gd X) W (bin f ma mb)) := by
  obtain ⟨r, h1, h2⟩ := ho
  exact e_cmp h1 h2 ha hb hm
end
/-! ### the class, checked at the head -/
def eqcB (K : PySem.W.Frag) (C f : Addr) (Cs : List Addr) : Bool :=
  decide (PySem.W.findIn K (.ref C) "__eq__" = some (some (.ref f))) && (PySem.W.isFn K (.ref f) && (decide (PySem.W.findIn K (.ref C) "__ne__" = some (some (.builtin "object.__ne__"))) && (decide (PySem.W.mroIn K C (.type "object") = some true) &&
  ((kinds.all fun T => decide (PySem.W.subIn K (.type T) (.ref C) = some false) && decide (PySem.W.subIn K (.ref C) (.type T) = some false)) && Cs.all fun C' => PySem.W.notFirst K C (.ref C')))))
theorem eqc_mk {P : Program} {w : World} {K : PySem.W.Frag} {mg : Str → Option Value} {base : Heap} {c : Str} {k : Nat} {m : FM} {C f : Addr} {fd : FuncData} {ps : List Str} {cs : List (Str × Addr)} (hm : mg c = some (.ref C)) (q : eqcB K C f (cs.map (·.2)) = true) (hb : Binds K fd ps []) (hl : ps.length = 2)
    (G : FnOk P w K mg base (L2.CX P w) k f fd ps (spM ⟨K, mg⟩ ps.length m)) (hc : ∀ p ∈ cs, mg p.1 = some (.ref p.2)) : EqC P w K mg base c k (cs.map (·.1)) m := by
  unfold eqcB at q
  simp only [Bool.and_eq_true, decide_eq_true_eq] at q
  obtain ⟨q1, q2, q3, q4, q5, q6⟩ := q
  refine ⟨C, f, fd, ps, hm, q1, q2, q3, q4, hb, hl, G, fun T hT => ?_, fun c' h' C' e => ?_⟩
  · have := List.all_eq_true.mp q5 T hT
    simpa using this
  · obtain ⟨p, hp, e1⟩ := List.mem_map.mp h'
    subst e1
    have e2 := (hc p hp).symm.trans e
    cases e2
    exact List.all_eq_true.mp q6 p.2 (List.mem_map.mpr ⟨p, hp, rfl⟩)
end ML

/-! ML 32: isinstance(x, C), C an own class of instances -/
namespace ML
open PySem PySem.Spec PyProof.Rows L2
def isi1 (K : PySem.W.Frag) (C : Addr) : Bool := decide (PySem.W.findIn K (.ref C) "__class__" = some (some (.builtin "object.__class__"))) && (decide (PySem.W.specialIn K (.builtin "object.__class__") "__get__" = some (some (.builtin "getset_descriptor.__get__"))) &&
  (decide (PySem.W.takesIn K (.builtin "object.__class__") = some true) && decide (PySem.W.mroIn K C (.type "object") = some true)))
def isiB (K : PySem.W.Frag) (C : Addr) (cs : List (Str × Addr)) (c : Str) : Bool := (kinds.all fun T => decide (PySem.W.kitOne K (.type T) (.ref C) = some false)) && cs.all fun p => decide (PySem.W.kitOne K (.ref p.2) (.ref C) = some (decide (p.1 = c))) && isi1 K p.2
def noKinds : List (String × Bool) := kinds.map fun T => (T, false)
theorem noKinds_at {T : String} {r : Bool} (e : noKinds.lookup T = some r) : T ∈ kinds ∧ r = false := by
  unfold noKinds at e
  revert e
  generalize kinds = l
  intro e
  induction l with
  | nil => cases e
  | cons n ns ih =>
    rw [List.map_cons] at e
    unfold List.lookup at e
    split at e
    · rename_i h
      cases e
      have h' : T = n := by simpa using h
      subst h'
      exact ⟨List.mem_cons_self, rfl⟩
    · obtain ⟨a, b⟩ := ih e
      exact ⟨List.mem_cons_of_mem _ a, b⟩
theorem isTabI {K : PySem.W.Frag} {mg : Str → Option Value} {cs : List (Str × Addr)} {C : Addr} {c : Str} (hm : ∀ p ∈ cs, mg p.1 = some (.ref p.2)) (hc : ∀ p ∈ cs, Cls K p.2) (q : isiB K C cs c = true) :
    IsTab K mg (.ref C) noKinds (tabOf (cs.map (·.1)) fun n => decide (n = c)) [] := by
  unfold isiB at q
  obtain ⟨q1, q2⟩ := Bool.and_eq_true_iff.mp q
  refine ⟨fun T r e => ?_, fun c' r e C' hC => ?_, fun c r e => (by cases e)⟩
  · obtain ⟨h1, h2⟩ := noKinds_at e
    subst h2
    exact of_decide_eq_true (List.all_eq_true.mp q1 T h1)
  · obtain ⟨h1, h2⟩ := tabOf_at e
    subst h2
    obtain ⟨p, hp, e1⟩ := List.mem_map.mp h1
    subst e1
    have e2 := (hm p hp).symm.trans hC
    cases e2
    have := List.all_eq_true.mp q2 p hp
    unfold isi1 at this
    simp only [Bool.and_eq_true, decide_eq_true_eq] at this
    obtain ⟨z1, z2, z3, z4, z5⟩ := this
    exact ⟨⟨hc p hp, z2, z3, z4, z5⟩, z1⟩
section
variable {X : Cx} {W : Wx} {a b : Expr} {ma mb : EM} {pos : Pos} {op : CmpOp}
theorem t_cmpM {f : D → D → MH → R D} (ho : OpM X op f) (ha : PE X a (tE (gd X) W ma)) (hb : PE X b (tE (gd X) W mb)) (hm : behindInMarks op b = false) : PT X (.Compare a [op] [b] pos) (tT (gd X) W (valT (bin f ma mb))) := by
  obtain ⟨r, h1, h2⟩ := ho
  exact t_cmp h1 h2 ha hb hm
end
end ML

/-! Mh: the head by one kernel run; what the law needs is checked on the part of the heap that the module's names reach -/
namespace ML
open PySem PySem.Spec PyProof.Rows L2
/-! ### a def of the written part -/
structure FnM where
  adr : PySem.W.Frag → Addr
  name : Str
  qual : Str
  st : Stmt
def FnM.obs (K : PySem.W.Frag) (d : FnM) : He.FnV := match K.lookup (d.adr K) with
  | some ⟨_, _, .func fd, _⟩ => some (fd.name, fd.qualname, fd.params, fd.body, fd.scope, fd.globals, fd.closure, fd.defaults, fd.builtins)
  | _ => none
def FnM.val (d : FnM) : He.FnV := some (d.name, d.qual, defArgs d.st, .stmts (defBody d.st), defScope d.st, mainGlobals, [], .none, builtinsNs)
def FnM.ok (K : PySem.W.Frag) (d : FnM) : Bool := match K.lookup (d.adr K) with
  | some ⟨_, _, .func fd, _⟩ => PySem.W.codeIn K fd.code d.qual && PySem.W.keepIn K (.ref (d.adr K))
  | _ => false
theorem FnM.fun_ {K : PySem.W.Frag} {d : FnM} (e : d.obs K = d.val) (c : d.ok K = true) : ∃ fd, Fun K d.name d.qual d.st (d.adr K) fd := by
  unfold FnM.ok at c
  unfold FnM.obs FnM.val at e
  cases q : K.lookup (d.adr K) with
  | none =>
    rw [q] at c
    cases c
  | some o =>
    obtain ⟨oc, od, dt, osl⟩ := o
    rw [q] at c e
    cases dt with
    | func fd =>
      obtain ⟨n1, n2, n3, n4, n5, n6, n7, n8, n9, n10, n11, n12, n13, n14, n15⟩ := fd
      obtain ⟨adr, name, qual, st⟩ := d
      have e2 : (some (n1, n2, n3, n4, n5, n6, n7, n8, n15) : He.FnV) = some (name, qual, defArgs st, .stmts (defBody st), defScope st, mainGlobals, [], .none, builtinsNs) := e
      simp only [Option.some.injEq, Prod.mk.injEq] at e2
      obtain ⟨h1, h2, h3, h4, h5, h6, h7, h8, h9⟩ := e2
      subst h1 h2 h3 h4 h5 h6 h7 h8 h9
      obtain ⟨c1, c2⟩ := He.ba c
      exact fun_ex q c1 c2
    | _ => cases c
/-! ### the class object of an error class -/
def xcoB (K : PySem.W.Frag) (C : Addr) : Bool := match K.lookup C with
  | some ⟨.type "type", _, .cls cd, sl⟩ => (match cd.mro, sl.toList with
    | .ref C' :: bm, [_, _, _, _, some (.builtin n), _] => C' == C && (n == "ValueError.__new__" && (!cd.hasDel && (cd.hasDict && PySem.HandSPX.refsVE bm)))
    | _, _ => false)
  | _ => false
theorem xco_of {K : PySem.W.Frag} {C : Addr} (q : xcoB K C = true) : XcO K C := by
  unfold xcoB at q
  split at q
  · rename_i dd cd sl ho
    split at q
    · rename_i C' bm k0 k1 k2 k3 n k5 hm hs
      simp only [Bool.and_eq_true, beq_iff_eq, Bool.not_eq_true'] at q
      obtain ⟨rfl, rfl, hdel, hdct, hr⟩ := q
      obtain ⟨nm, bs, mro, ns, qn, hd, sn, sub, ab, col, del⟩ := cd
      dsimp only at hm hdel hdct
      subst hm hdel hdct
      have hsl : sl = #[k0, k1, k2, k3, some (.builtin "ValueError.__new__"), k5] := by
        obtain ⟨l⟩ := sl
        simp only at hs
        rw [hs]
      subst hsl
      exact ⟨nm, qn, ns, bs, bm, sn, sub, ab, col, dd, k0, k1, k2, k3, k5, ho, hr⟩
    · cases q
  · cases q
/-! ### constants -/
def tokI (K : PySem.W.Frag) (x : Str) : Tok := match PySem.W.nsIn K mainGlobals x with
  | some (some (.int _ t)) => t
  | _ => 0
def tokS (K : PySem.W.Frag) (x : Str) : Tok := match PySem.W.nsIn K mainGlobals x with
  | some (some (.str _ t)) => t
  | _ => 0
def intB (K : PySem.W.Frag) (x : Str) (i : Int) : Bool := match PySem.W.nsIn K mainGlobals x with
  | some (some (.int j _)) => decide (j = i)
  | _ => false
def strB (K : PySem.W.Frag) (x z : Str) : Bool := match PySem.W.nsIn K mainGlobals x with
  | some (some (.str y _)) => decide (y = z)
  | _ => false
theorem int_of {K : PySem.W.Frag} {x : Str} {i : Int} (q : intB K x i = true) : PySem.W.nsIn K mainGlobals x = some (some (.int i (tokI K x))) := by
  unfold intB at q
  unfold tokI
  split at q
  · rename_i j t h
    rw [h, of_decide_eq_true q]
  · cases q
theorem str_of {K : PySem.W.Frag} {x z : Str} (q : strB K x z = true) : PySem.W.nsIn K mainGlobals x = some (some (.str z (tokS K x))) := by
  unfold strB at q
  unfold tokS
  split at q
  · rename_i j t h
    rw [h, of_decide_eq_true q]
  · cases q
/-! ### values made ready, so that the kernel meets them once -/
def frN {α : Type} (n : Nat) (k : Nat → α) : α := match n with
  | 0 => k 0
  | m + 1 => k (m + 1)
theorem frN_eq {α : Type} (n : Nat) (k : Nat → α) : frN n k = k n := by cases n <;> rfl
def frAs {α : Type} : List Addr → (List Addr → α) → α
  | [], k => k []
  | a :: r, k => frN a fun a => frAs r fun r => k (a :: r)
theorem frAs_eq {α : Type} : ∀ (l : List Addr) (k : List Addr → α), frAs l k = k l
  | [], _ => rfl
  | a :: r, k => by
    show (frN a fun a => frAs r fun r => k (a :: r)) = _
    rw [frN_eq, frAs_eq r]
def frEs {α β : Type} : List β → (List β → α) → α
  | [], k => k []
  | a :: r, k => frEs r fun r => k (a :: r)
theorem frEs_eq {α β : Type} : ∀ (l : List β) (k : List β → α), frEs l k = k l
  | [], _ => rfl
  | a :: r, k => by
    show (frEs r fun r => k (a :: r)) = _
    rw [frEs_eq r]
def frO {α : Type} (o : Obj) (k : Obj → α) : α := match o with
  | ⟨c, d, .cls ⟨nm, bs, mro, ns, qn, hd, sn, sub, ab, col, del⟩, sl⟩ => frN ns fun ns => frEs mro fun mro => k ⟨c, d, .cls ⟨nm, bs, mro, ns, qn, hd, sn, sub, ab, col, del⟩, sl⟩
  | ⟨c, d, .func ⟨n1, n2, n3, n4, n5, n6, n7, n8, n9, n10, n11, n12, n13, n14, n15⟩, sl⟩ => k ⟨c, d, .func ⟨n1, n2, n3, n4, n5, n6, n7, n8, n9, n10, n11, n12, n13, n14, n15⟩, sl⟩
  | ⟨c, d, .dict ⟨es⟩ n, sl⟩ => frEs es fun es => k ⟨c, d, .dict ⟨es⟩ n, sl⟩
  | ⟨c, d, .seq ⟨es⟩ n, sl⟩ => frEs es fun es => k ⟨c, d, .seq ⟨es⟩ n, sl⟩
  | ⟨c, d, .fields ⟨es⟩, sl⟩ => frEs es fun es => k ⟨c, d, .fields ⟨es⟩, sl⟩
  | o => k o
theorem frO_eq {α : Type} (o : Obj) (k : Obj → α) : frO o k = k o := by
  unfold frO
  split
  · rw [frN_eq, frEs_eq]
  · rfl
  · rw [frEs_eq]
  · rw [frEs_eq]
  · rw [frEs_eq]
  · rfl
/-- the objects at these addresses -/
def frK {α : Type} (g : Addr → Option Obj) : List Addr → (PySem.W.Frag → α) → α
  | [], k => k []
  | a :: r, k => match g a with
    | some o => frO o fun o => frK g r fun r => k ((a, o) :: r)
    | none => frK g r k
theorem frK_eq {α : Type} (g : Addr → Option Obj) : ∀ (l : List Addr) (k : PySem.W.Frag → α), frK g l k = k (He.frG g l)
  | [], _ => rfl
  | a :: r, k => by
    unfold frK He.frG
    cases q : g a with
    | none =>
      dsimp only
      rw [frK_eq g r, List.filterMap_cons, q]
      rfl
    | some o =>
      dsimp only
      rw [frO_eq, frK_eq g r, List.filterMap_cons, q]
      rfl
/-! ### what is reached from these names -/
def refsR (o : Obj) : List Addr := match o with
  | ⟨_, _, .func fd, _⟩ => He.refV fd.code
  | ⟨_, _, .cls cd, _⟩ => [cd.ns]
  | ⟨_, _, .dict es _, _⟩ => es.toList.flatMap fun e => He.refV e.val
  | ⟨.type "property", _, .fields vs, _⟩ => vs.toList.flatMap He.refV
  | _ => []
def nextR (g : Addr → Option Obj) (as : List Addr) : List Addr := as.flatMap fun a => match g a with
  | some o => refsR o
  | none => []
def glA (es : List DictEntry) (x : Str) : List Addr := match es.find? (·.key.isStr x) with
  | some e => He.refV e.val
  | none => []
def glE {α : Type} (g : Addr → Option Obj) (k : List DictEntry → α) : α := match g mainGlobals with
  | some ⟨_, _, .dict ⟨es⟩ _, _⟩ => frEs es k
  | _ => k []
/-- they, what they name, and so on, four times -/
def asM {α : Type} (g : Addr → Option Obj) (xs : List Str) (k : List Addr → α) : α := glE g fun es =>
  frAs (xs.flatMap (glA es)) fun a0 => frAs (nextR g a0) fun a1 => frAs (nextR g a1) fun a2 => frAs (nextR g a2) fun a3 => frAs (nextR g a3) fun a4 => k (mainGlobals :: (a0 ++ (a1 ++ (a2 ++ (a3 ++ a4)))))
theorem asM_eq {α : Type} (g : Addr → Option Obj) (xs : List Str) (k : List Addr → α) : ∃ as, asM g xs k = k as := by
  unfold asM glE
  simp only [frEs_eq, frAs_eq]
  split
  · exact ⟨_, rfl⟩
  · exact ⟨_, rfl⟩
/-! ### the Hook -/
abbrev AlM : Type := Bool × List He.FnV
def obsM (chk : PySem.W.Frag → List Bool) (fn : List FnM) (K : PySem.W.Frag) : AlM := (((chk K).all fun b => b) && fn.all fun d => d.ok K, fn.map fun d => d.obs K)
def valM (fn : List FnM) : AlM := (true, fn.map FnM.val)
def SaysM (chk : PySem.W.Frag → List Bool) (fn : List FnM) (K : PySem.W.Frag) : Prop := obsM chk fn K = valM fn
def runM (xs : List Str) (chk : PySem.W.Frag → List Bool) (fn : List FnM) (g : Addr → Option Obj) : AlM := asM g xs fun as => frK g as fun K => obsM chk fn K
theorem runM_eq {xs : List Str} {chk : PySem.W.Frag → List Bool} {fn : List FnM} {g : Addr → Option Obj} : ∃ as, runM xs chk fn g = obsM chk fn (He.frG g as) := by
  unfold runM
  obtain ⟨as, e⟩ := asM_eq g xs fun as => frK g as fun K => obsM chk fn K
  exact ⟨as, by rw [e, frK_eq]⟩
def hookM (xs : List Str) (chk : PySem.W.Frag → List Bool) (fn : List FnM) : PySem.W.Hook where
  α := AlM
  obs := fun s => runM xs chk fn s.heap.get?
  val := fun _ => valM fn
  says := fun _ h => ∃ K : PySem.W.Frag, K.In h ∧ SaysM chk fn K
  of := fun _ s e => by
    obtain ⟨as, e2⟩ := runM_eq (xs := xs) (chk := chk) (fn := fn) (g := s.heap.get?)
    exact ⟨_, He.frG_in (as := as), e2.symm.trans e⟩
  keeps := fun _ _ _ ⟨K, hK, c⟩ k => ⟨K, PySem.W.Frag.In.keeps hK k, c⟩
def obM (xs : List Str) (chk : PySem.W.Frag → List Bool) (fn : List FnM) (s : PySem.W.SharedT) : AlM := runM xs chk fn (HandSHeadRun.getT s)
theorem obM_eq {xs : List Str} {chk : PySem.W.Frag → List Bool} {fn : List FnM} (s : PySem.W.SharedT) : obM xs chk fn s = (hookM xs chk fn).obs s.abs := by
  have e : HandSHeadRun.getT s = s.abs.heap.get? := funext (HandSHeadRun.getT_eq s)
  unfold obM
  rw [e]
  rfl
section
variable {chk : PySem.W.Frag → List Bool} {fn : List FnM} {K : PySem.W.Frag}
theorem SaysM.fact (c : SaysM chk fn K) (i : Nat) {b : Bool} (h : (chk K)[i]? = some b := by rfl) : b = true := by
  have c1 := (He.ba (show (((chk K).all fun b => b) && fn.all fun d => d.ok K) = true from congrArg (fun z : AlM => z.1) c)).1
  exact List.all_eq_true.mp c1 b (List.mem_of_getElem? h)
theorem SaysM.def_ (c : SaysM chk fn K) (i : Nat) {d : FnM} (h : fn[i]? = some d := by rfl) : ∃ fd, Fun K d.name d.qual d.st (d.adr K) fd := by
  have c2 := (He.ba (show (((chk K).all fun b => b) && fn.all fun d => d.ok K) = true from congrArg (fun z : AlM => z.1) c)).2
  have e : fn.map (fun d => d.obs K) = fn.map FnM.val := congrArg (fun z : AlM => z.2) c
  have e2 : (fn.map fun d => d.obs K)[i]? = (fn.map FnM.val)[i]? := by rw [e]
  rw [List.getElem?_map, List.getElem?_map, h] at e2
  exact FnM.fun_ (Option.some.inj e2) (List.all_eq_true.mp c2 d (List.mem_of_getElem? h))
end
theorem eq_of {a b : Option (Option Value)} (h : He.eqO a b = true) : a = b := He.eqO_ok h
theorem walkE {l : PySem.W.OpenLaw} {q : Program} {loose : List Str} {XP : (Str → Option Value) → Heap → Prop} {YP : World → Heap → Prop} {d : DefRec} {Z : PySem.W.Frag → Prop} (hn : l.most = some 63) (hdf : d.params.defaults = []) (hY : ∀ (w : World) (h : Heap), YP w h → ∃ K : PySem.W.Frag, K.In h ∧ Z K)
    (F : ∀ (w : World) (K : PySem.W.Frag) (mg : Str → Option Value) (fa : Addr) (h : Heap), K.In h → Z K → h.Ns mainGlobals mg → mg d.name = some (.ref fa) →
      ∀ (base : Heap) (s : Shared) (H : Hp) (a : Addr) (ns : List Int), ns.length ≤ 63 → (∀ z ∈ ns, Builtin.Int.intBits z ≤ 1048576) → Env0 l.prog w K mg base callerA [] s H → RdL K H a (ns.map V.int) →
        codeAny (model l.prog w) callerA (.call (.ref fa) ⟨[.ref a], []⟩) (CR (L2.CX l.prog w) [] l.prog w H s (fun v _ => v = .bl true) fun _ _ _ => False) s) :
    PySem.W.WalkO q loose XP YP l.row.toRowW d [] (fun f vs => PySem.call f vs) := by
  refine Att.attach_callB hn hdf fun w s₀ s₁ mg mb fa o pm cd doc a vs ns G Y ho hd hcd hmg hobj hints hlen hbits hg => ?_
  obtain ⟨K, KX, z⟩ := hY w _ Y
  exact law_top KX G.T.g G.T.b G.T.builtins G.T.nolimit hg hobj hints (Nat.le_trans hlen (by decide)) fun base H e0 hS => F w K mg fa _ KX z G.T.g hmg base s₁ H a ns hlen hbits e0 hS
end ML

/-! Mq: plain lemmas about mirror heaps, no mirror of a def in sight -/
namespace ML
open PySem PySem.Spec PyProof.Rows L2
/-- the source stands at k -/
def Src (h : MH) (k : Nat) : Prop := ∃ r m : Int, h[k]? = some (.lst [.int r, .int m]) ∧ 0 ≤ r ∧ 0 ≤ m ∧ m < 2147483648
/-- all but k stays -/
def KG (k : Nat) (h h' : MH) : Prop := h.length ≤ h'.length ∧ ∀ (n : Nat) o, n ≠ k → h[n]? = some o → h'[n]? = some o
theorem KG.refl {k : Nat} {h : MH} : KG k h h := ⟨Nat.le_refl _, fun _ _ _ e => e⟩
theorem KG.trans {k : Nat} {a b c : MH} (p : KG k a b) (q : KG k b c) : KG k a c := ⟨Nat.le_trans p.1 q.1, fun n o hn e => q.2 n o hn (p.2 n o hn e)⟩
theorem KG.set {k : Nat} {h : MH} {o : O} : KG k h (h.set k o) := ⟨by simp, fun n x hn e => by rw [List.getElem?_set_ne (Ne.symm hn)]; exact e⟩
theorem KG.app {k : Nat} {h t : MH} : KG k h (h ++ t) := ⟨by simp, fun n o _ e => by rw [List.getElem?_append_left (List.getElem?_eq_some_iff.mp e).1]; exact e⟩
theorem Src.lt {h : MH} {k : Nat} (S : Src h k) : k < h.length := by
  obtain ⟨r, m, e, _⟩ := S
  exact (List.getElem?_eq_some_iff.mp e).1
theorem Src.app {h t : MH} {k : Nat} (S : Src h k) : Src (h ++ t) k := by
  obtain ⟨r, m, e, q⟩ := S
  exact ⟨r, m, by rw [List.getElem?_append_left (List.getElem?_eq_some_iff.mp e).1]; exact e, q⟩
theorem Src.other {h : MH} {k n : Nat} {o : O} (S : Src h k) (hn : n ≠ k) : Src (h.set n o) k := by
  obtain ⟨r, m, e, q⟩ := S
  exact ⟨r, m, by rw [List.getElem?_set_ne hn]; exact e, q⟩
theorem ix_str {z : Str} {i : Int} {c : Nat} {h : MH} (hz : z.length ≤ 1000000) (h0 : 0 ≤ i) (h1 : z.cps.toList[i.toNat]? = some c) : ixF (.str z) (.int i) h = .ok (.str ⟨#[c]⟩) h := by
  have hl : i.toNat < z.cps.toList.length := (List.getElem?_eq_some_iff.mp h1).1
  have : atI z.cps.toList i = some c := by unfold atI; rw [ixN_ok h0 (by omega)]; exact h1
  unfold ixF
  dsimp only
  rw [if_pos hz, this]
/-- a note: its first sign, then up to seven small letters -/
def NoteT (c : Nat) (z : Str) : Prop := ∃ l : List Nat, z.cps.toList = c :: l ∧ l.length ≤ 7 ∧ ∀ x ∈ l, 97 ≤ x ∧ x ≤ 122
def barred : List Str := ["here", "new", "nothing", "is", "not", "from", "or", "ask", "do", "otherwise"]
/-- what is_name and BARRED let through -/
def GoodN (z : Str) : Prop := 1 ≤ z.length ∧ z.length ≤ 8 ∧ (∀ c ∈ z.cps.toList, 97 ≤ c ∧ c ≤ 122) ∧ z ∉ barred
def RegsOk (l : List Str) : Prop := l.length ≤ 3 ∧ l.Nodup ∧ ∀ z ∈ l, GoodN z
theorem NoteT.ne {c d : Nat} {y z : Str} (p : NoteT c y) (q : NoteT d z) (h : c ≠ d) : y ≠ z := fun e => by
  obtain ⟨l, e1, _⟩ := p
  obtain ⟨m, e2, _⟩ := q
  subst e
  rw [e1] at e2
  cases e2
  exact h rfl
theorem NoteT.not_lit {c : Nat} {y z : Str} (p : NoteT c y) (h : z.cps.toList.head? ≠ some c) : y ≠ z := fun e => by
  obtain ⟨l, e1, _⟩ := p
  subst e
  rw [e1] at h
  exact h rfl
theorem NoteT.good {c : Nat} {y : Str} (p : NoteT c y) (h1 : 97 ≤ c ∧ c ≤ 122) (hb : ∀ b ∈ barred, b.cps.toList.head? ≠ some c) : GoodN y := by
  have p' := p
  obtain ⟨l, e1, e2, e3⟩ := p
  have yl : y.length = l.length + 1 := by
    have := congrArg List.length e1
    simpa [Str.length] using this
  refine ⟨by omega, by omega, fun x hx => ?_, fun hx => p'.not_lit (hb y hx) rfl⟩
  rw [e1] at hx
  rcases List.mem_cons.mp hx with q | q
  · subst q; exact h1
  · exact e3 x q
theorem good_beside : GoodN "beside" := ⟨by decide, by decide, by decide, by decide⟩
theorem good_elder : GoodN "elder" := ⟨by decide, by decide, by decide, by decide⟩
/-- a list of registers that stands in the heap, at b or behind -/
def RegD (h : MH) (b : Nat) (d : D) : Prop := ∃ n l, d = .ref n ∧ b ≤ n ∧ h[n]? = some (.lst (l.map .str)) ∧ RegsOk l
theorem RegD.kg {h h' : MH} {b k : Nat} {d : D} (p : RegD h b d) (g : KG k h h') (hk : k < b) : RegD h' b d := by
  obtain ⟨n, l, e, hn, e1, q⟩ := p
  exact ⟨n, l, e, hn, g.2 _ _ (by omega) e1, q⟩
/-- a display of such lists -/
def Rests (k b : Nat) (e : Env) (rest : AM) (n : Nat) : Prop := ∀ h : MH, b ≤ h.length → Src h k → ∃ ds h', rest e h = .ok ds h' ∧ ds.length = n ∧ (∀ d ∈ ds, RegD h' b d) ∧ Src h' k ∧ KG k h h'
theorem Rests.nil {k b : Nat} {e : Env} : Rests k b e nilA 0 := fun h _ S => ⟨[], h, rfl, rfl, fun _ q => (nomatch q), S, KG.refl⟩
theorem Rests.cons {k b : Nat} {e : Env} {a rest : AM} {l : List Str} {n : Nat} (hb : k < b) (ha : ∀ h, a e h = .ok (l.map .str) h) (r : RegsOk l) (p : Rests k b e rest n) : Rests k b e (consA (onA lstF a) rest) (n + 1) := fun h hl S => by
  have e1 : onA lstF a e h = .ok (.ref h.length) (h ++ [.lst (l.map .str)]) := ev_on (ha h) (lst_new (by rw [List.length_map]; have := r.1; omega))
  obtain ⟨ds, h', e2, e3, e4, S', g⟩ := p (h ++ [.lst (l.map .str)]) (by simp; omega) S.app
  refine ⟨_, h', ev_cons e1 e2, by simp [e3], fun d hd => ?_, S', KG.app.trans g⟩
  rcases List.mem_cons.mp hd with q | q
  · subst q
    exact ⟨_, l, rfl, hl, g.2 _ _ (by omega) last_at', r⟩
  · exact e4 d q
where last_at' {h : MH} {o : O} : (h ++ [o])[h.length]? = some o := by simp
/-- a list of such lists -/
def RegL (h : MH) (b : Nat) (d : D) (n : Nat) : Prop := ∃ r ds, d = .ref r ∧ b ≤ r ∧ h[r]? = some (.lst ds) ∧ ds.length = n ∧ ∀ d ∈ ds, RegD h b d
theorem RegL.kg {h h' : MH} {b k n : Nat} {d : D} (p : RegL h b d n) (g : KG k h h') (hk : k < b) : RegL h' b d n := by
  obtain ⟨r, ds, e, hn, e1, l, q⟩ := p
  exact ⟨r, ds, e, hn, g.2 _ _ (by omega) e1, l, fun d hd => (q d hd).kg g hk⟩
theorem Rests.list {k b n : Nat} {e : Env} {rest : AM} (p : Rests k b e rest n) (hb : k < b) (hn : n ≤ 1000) {h : MH} (hl : b ≤ h.length) (S : Src h k) : ∃ d h', onA lstF rest e h = .ok d h' ∧ RegL h' b d n ∧ Src h' k ∧ KG k h h' := by
  obtain ⟨ds, h1, e1, e2, e3, S1, g1⟩ := p h hl S
  refine ⟨_, _, ev_on e1 (lst_new (by omega)), ⟨_, ds, rfl, by have := g1.1; omega, by simp, e2, fun d hd => (e3 d hd).kg (KG.app (k := k)) hb⟩, S1.app, g1.trans KG.app⟩
theorem RegL.add {k b n m : Nat} {x y : D} {h : MH} (p : RegL h b x n) (q : RegL h b y m) (hb : k < b) (hl : b ≤ h.length) (hn : n + m ≤ 1000) (S : Src h k) : ∃ d h', addF x y h = .ok d h' ∧ RegL h' b d (n + m) ∧ Src h' k ∧ KG k h h' := by
  obtain ⟨r, ds, rfl, r1, r2, r3, r4⟩ := p
  obtain ⟨t, es, rfl, t1, t2, t3, t4⟩ := q
  have e : addF (.ref r) (.ref t) h = .ok (.ref h.length) (h ++ [.lst (ds ++ es)]) := by
    unfold addF lstOf
    dsimp only
    rw [r2, t2]
    dsimp only
    rw [if_pos (by omega)]
  refine ⟨_, _, e, ⟨_, ds ++ es, rfl, hl, by simp, by simp [r3, t3], fun d hd => ?_⟩, S.app, KG.app⟩
  rcases List.mem_append.mp hd with z | z
  · exact (r4 d z).kg (KG.app (k := k)) hb
  · exact (t4 d z).kg (KG.app (k := k)) hb
theorem sum_rep (j n : Nat) : (List.replicate j n).sum = n * j := by
  induction j with
  | zero => simp
  | succ j ih => rw [List.replicate_succ, List.sum_cons, ih, Nat.mul_succ]; omega
theorem RegL.mul {k b n : Nat} {x : D} {j : Int} {h : MH} (p : RegL h b x n) (hb : k < b) (hl : b ≤ h.length) (hn : n ≤ 10) (j1 : -1 ≤ j) (j2 : j ≤ 5) (S : Src h k) : ∃ d h', mulF x (.int j) h = .ok d h' ∧ RegL h' b d (n * j.toNat) ∧ Src h' k ∧ KG k h h' := by
  obtain ⟨r, ds, rfl, r1, r2, r3, r4⟩ := p
  have e : mulF (.ref r) (.int j) h = .ok (.ref h.length) (h ++ [.lst (List.replicate j.toNat ds).flatten]) := by
    unfold mulF lstOf
    dsimp only
    rw [r2]
    dsimp only
    rw [if_pos (by omega)]
  refine ⟨_, _, e, ⟨_, (List.replicate j.toNat ds).flatten, rfl, hl, by rw [List.getElem?_append_right (Nat.le_refl _)]; simp, by rw [List.length_flatten, List.map_replicate, r3]; exact sum_rep j.toNat n, fun d hd => ?_⟩, S.app, KG.app⟩
  obtain ⟨l, hl1, hl2⟩ := List.mem_flatten.mp hd
  obtain ⟨_, z⟩ := List.mem_replicate.mp hl1
  subst z
  exact (r4 d hl2).kg (KG.app (k := k)) hb
theorem RegD.ne {h : MH} {b r : Nat} {ds : List D} {y : D} (p : RegD h b y) (e : h[r]? = some (.lst ds)) (h0 : 0 < ds.length) (q : ∀ d ∈ ds, RegD h b d) : y ≠ .ref r := fun z => by
  obtain ⟨n, l, e1, _, e2, _⟩ := p
  rw [z] at e1
  cases e1
  rw [e] at e2
  cases e2
  cases l with
  | nil => simp at h0
  | cons s l =>
    obtain ⟨_, _, e3, _⟩ := q (.str s) (by simp)
    cases e3
theorem RegD.other {h : MH} {b r : Nat} {ds : List D} {y : D} {o : O} (p : RegD h b y) (e : h[r]? = some (.lst ds)) (h0 : 0 < ds.length) (q : ∀ d ∈ ds, RegD h b d) : RegD (h.set r o) b y := by
  have ne := p.ne e h0 q
  obtain ⟨n, l, e1, h1, e2, h2⟩ := p
  exact ⟨n, l, e1, h1, by rw [List.getElem?_set_ne (fun z => ne (by rw [e1, z]))]; exact e2, h2⟩
/-- what stands ahead of b stays, but k -/
def KB (k b : Nat) (h h' : MH) : Prop := h.length ≤ h'.length ∧ ∀ (n : Nat) o, n < b → n ≠ k → h[n]? = some o → h'[n]? = some o
theorem KG.kb {k b : Nat} {h h' : MH} (g : KG k h h') : KB k b h h' := ⟨g.1, fun n o _ hn e => g.2 n o hn e⟩
theorem KB.trans {k b : Nat} {h1 h2 h3 : MH} (p : KB k b h1 h2) (q : KB k b h2 h3) : KB k b h1 h3 := ⟨Nat.le_trans p.1 q.1, fun n o hb hn e => q.2 n o hb hn (p.2 n o hb hn e)⟩
theorem KB.kg {k : Nat} {h h' : MH} (p : KB k h.length h h') : KG k h h' := ⟨p.1, fun n o hn e => p.2 n o (List.getElem?_eq_some_iff.mp e).1 hn e⟩
/-- x.append(y) -/
theorem RegL.push {k b n : Nat} {r : Nat} {y : D} {h : MH} (p : RegL h b (.ref r) n) (q : RegD h b y) (hb : k < b) (h0 : 0 < n) (hn : n ≤ 1000) (S : Src h k) : ∃ h', appF (.ref r) [y] h = .ok .non h' ∧ RegL h' b (.ref r) (n + 1) ∧ Src h' k ∧ KB k b h h' ∧ ∀ x m, RegL h b x m → x ≠ .ref r → RegL h' b x m := by
  obtain ⟨r', ds, er, r1, r2, r3, r4⟩ := p
  cases er
  have e : appF (.ref r) [y] h = .ok .non (h.set r (.lst (ds ++ [y]))) := by
    unfold appF
    dsimp only
    rw [r2]
    dsimp only
    rw [if_pos (by omega)]
  have d0 : 0 < ds.length := by omega
  refine ⟨_, e, ⟨r, _, rfl, r1, set_get r2, by simp [r3], fun d hd => ?_⟩, S.other (by omega), ⟨by simp, fun n o hn _ e => by rw [List.getElem?_set_ne (by omega)]; exact e⟩, fun x m ⟨t, es, ex, t1, t2, t3, t4⟩ hx => ⟨t, es, ex, t1, by rw [List.getElem?_set_ne (fun z => hx (by rw [ex, z]))]; exact t2, t3, fun d hd => (t4 d hd).other r2 d0 r4⟩⟩
  rcases List.mem_append.mp hd with z | z
  · exact (r4 d z).other r2 d0 r4
  · simp only [List.mem_cons, List.not_mem_nil, or_false] at z
    subst z
    exact q.other r2 d0 r4
theorem RegL.tyD {h : MH} {b n : Nat} {x : D} (p : RegL h b x n) : tyD h x = some "list" := by
  obtain ⟨r, ds, rfl, _, e, _⟩ := p
  unfold ML.tyD
  dsimp only
  rw [e]
theorem regs0 : RegsOk [] := ⟨by simp, List.nodup_nil, fun _ q => (nomatch q)⟩
theorem regs1 {a : Str} (ga : GoodN a) : RegsOk [a] := ⟨by simp, by simp, fun z q => by simp at q; subst q; exact ga⟩
theorem regs2 {a b : Str} (ga : GoodN a) (gb : GoodN b) (h : a ≠ b) : RegsOk [a, b] := ⟨by simp, by simp [h], fun z q => by
  simp at q
  rcases q with q | q <;> subst q
  · exact ga
  · exact gb⟩
theorem regs3 {a b c : Str} (ga : GoodN a) (gb : GoodN b) (gc : GoodN c) (h : a ≠ b) (h2 : a ≠ c) (h3 : b ≠ c) : RegsOk [a, b, c] := ⟨by simp, by simp [h, h2, h3], fun z q => by
  simp at q
  rcases q with q | q | q <;> subst q
  · exact ga
  · exact gb
  · exact gc⟩
theorem RegL.ne {h : MH} {b n m : Nat} {x y : D} (p : RegL h b x n) (q : RegL h b y m) (hn : n ≠ m) : x ≠ y := fun e => by
  obtain ⟨r, ds, e1, _, e2, e3, _⟩ := p
  obtain ⟨t, es, e4, _, e5, e6, _⟩ := q
  subst e
  rw [e1] at e4
  cases e4
  rw [e2] at e5
  cases e5
  omega
def LeftN (l : List Str) (s : Str) : Prop := s = "here" ∨ s = "new" ∨ s ∈ l
def TgtN (l : List Str) (s : Str) : Prop := s = "here" ∨ s ∈ l
def SrcN (l : List Str) (s : Str) : Prop := s = "here" ∨ s = "new" ∨ s = "nothing" ∨ s ∈ l
def TestD (l : List Str) (d : D) : Prop := ∃ a b v, d = .tup [.str a, .str b, .bl v] ∧ LeftN l a ∧ SrcN l b
def StepD (l : List Str) (d : D) : Prop := ∃ a b, d = .tup [.str a, .str b] ∧ TgtN l a ∧ SrcN l b
def StepsD (l : List Str) (d : D) : Prop := ∃ ss, d = .tup ss ∧ ss.length ≤ 4 ∧ ∀ s ∈ ss, StepD l s
/-- a line: tests, then one or two steps; last: no tests -/
def LineD (l : List Str) (last : Bool) (d : D) : Prop := ∃ ts st, d = .tup (.tup ts :: st) ∧ ts.length ≤ 4 ∧ (last = true → ts = []) ∧ (∀ t ∈ ts, TestD l t) ∧ (st.length = 1 ∨ st.length = 2) ∧ ∀ s ∈ st, StepsD l s
/-- a list of texts in the heap, beside the source -/
def StrL (h : MH) (k : Nat) (x : D) (L : List Str) : Prop := ∃ r, x = .ref r ∧ r ≠ k ∧ h[r]? = some (.lst (L.map .str))
theorem StrL.kg {h h' : MH} {k : Nat} {x : D} {L : List Str} (p : StrL h k x L) (g : KG k h h') : StrL h' k x L := by
  obtain ⟨r, e, hn, e1⟩ := p
  exact ⟨r, e, hn, g.2 _ _ hn e1⟩
theorem StrL.new {h : MH} {k : Nat} {L : List Str} (hl : L.length ≤ 1000) (S : Src h k) : ∃ d h', lstF (L.map .str) h = .ok d h' ∧ StrL h' k d L ∧ Src h' k ∧ KG k h h' :=
  ⟨_, _, lst_new (by rw [List.length_map]; omega), ⟨_, rfl, Nat.ne_of_gt S.lt, by simp⟩, S.app, KG.app⟩
theorem StrL.add {h : MH} {k : Nat} {x y : D} {A B : List Str} (p : StrL h k x A) (q : StrL h k y B) (hl : A.length + B.length ≤ 1000) (S : Src h k) : ∃ d h', addF x y h = .ok d h' ∧ StrL h' k d (A ++ B) ∧ Src h' k ∧ KG k h h' := by
  obtain ⟨r, rfl, r1, r2⟩ := p
  obtain ⟨t, rfl, t1, t2⟩ := q
  have e : addF (.ref r) (.ref t) h = .ok (.ref h.length) (h ++ [.lst (A.map .str ++ B.map .str)]) := by
    unfold addF lstOf
    dsimp only
    rw [r2, t2]
    dsimp only
    rw [if_pos (by simp; omega)]
  exact ⟨_, _, e, ⟨_, rfl, Nat.ne_of_gt S.lt, by simp⟩, S.app, KG.app⟩
theorem gt_i {a b : Int} {h : MH} : gtF (.int a) (.int b) h = .ok (.bl (decide (b < a))) h := by unfold gtF ordF; rfl
/-- all but k and f stays -/
def KX (k f : Nat) (h h' : MH) : Prop := h.length ≤ h'.length ∧ ∀ (n : Nat) o, n ≠ k → n ≠ f → h[n]? = some o → h'[n]? = some o
theorem KX.refl {k f : Nat} {h : MH} : KX k f h h := ⟨Nat.le_refl _, fun _ _ _ _ e => e⟩
theorem KX.trans {k f : Nat} {a b c : MH} (p : KX k f a b) (q : KX k f b c) : KX k f a c := ⟨Nat.le_trans p.1 q.1, fun n o h1 h2 e => q.2 n o h1 h2 (p.2 n o h1 h2 e)⟩
theorem KG.kx {k f : Nat} {h h' : MH} (g : KG k h h') : KX k f h h' := ⟨g.1, fun n o h1 _ e => g.2 n o h1 e⟩
theorem KX.set {k f : Nat} {h : MH} {o : O} : KX k f h (h.set f o) := ⟨by simp, fun n x _ hn e => by rw [List.getElem?_set_ne (Ne.symm hn)]; exact e⟩
theorem KX.kg {k f : Nat} {h h1 h' : MH} (g : KG k h h1) (hf : h.length ≤ f) (p : KX k f h1 h') : KG k h h' := ⟨Nat.le_trans g.1 p.1, fun n o hn e => p.2 n o hn (by have := (List.getElem?_eq_some_iff.mp e).1; omega) (g.2 n o hn e)⟩
theorem StrL.kx {h h' : MH} {k f : Nat} {x : D} {L : List Str} (p : StrL h k x L) (g : KX k f h h') (hx : x ≠ .ref f) : StrL h' k x L := by
  obtain ⟨r, e, hn, e1⟩ := p
  exact ⟨r, e, hn, g.2 _ _ hn (fun z => hx (by rw [e, z])) e1⟩
theorem append_i {h : MH} {f : Nat} {ss : List D} {y : D} (e : h[f]? = some (.lst ss)) (hl : ss.length < 1000000) : appF (.ref f) [y] h = .ok .non (h.set f (.lst (ss ++ [y]))) := by
  unfold appF
  dsimp only
  rw [e]
  dsimp only
  rw [if_pos hl]
theorem ty_lst {h : MH} {f : Nat} {ss : List D} (e : h[f]? = some (.lst ss)) : tyD h (.ref f) = some "list" := by
  unfold tyD
  dsimp only
  rw [e]
theorem eq_i {a b : Int} {h : MH} : eqF (.int a) (.int b) h = .ok (.bl (scalEq (.int a) (.int b))) h := rfl
theorem stands1 {h : MH} {n : Nat} {l : List D} (e : h[n]? = some (.lst l)) : IT.ok h [(n, l)] = true := by
  unfold IT.ok stands
  simp only [List.all_cons, List.all_nil, Bool.and_true, e]
  exact sames_refl l
def isOwn (s : Str) : Bool := !(scalEq (.str "beside") (.str s) || (scalEq (.str "elder") (.str s) || false))
theorem nin_i {h : MH} {n : Nat} {s : Str} (e : h[n]? = some (.lst [D.str "beside", D.str "elder"])) : ninF (.str s) (.ref n) h = .ok (.bl (isOwn s)) h := by
  have ed : dctOf h (.ref n) = none := by unfold dctOf; dsimp only; rw [e]
  unfold ninF inT
  dsimp only
  rw [ed]
  unfold memT seqOf
  dsimp only
  rw [e]
  rfl
def ownT : TM := valT (bin ninF (varE 9) (onA lstF (consA (conE (.str "beside")) (consA (conE (.str "elder")) (nilA)))))
theorem own_loop {k r n : Nat} {L : List Str} {e0 : Env} (hn : n ≠ k) (hr : r ≠ n) (hk : r ≠ k) (h9 : e0.length = 10) : ∀ (ss acc : List Str) (h : MH), Src h k → h[r]? = some (.lst (L.map .str)) → h[n]? = some (.lst (acc.map .str)) → acc.length + ss.length ≤ 10 →
    ∃ h', lcLoop [(r, L.map .str)] (gnm 9) ownT (varE 9) n e0 (ss.map .str) h = .ok (.ref n) h' ∧ h'[n]? = some (.lst ((acc ++ ss.filter isOwn).map .str)) ∧ Src h' k ∧ KX k n h h'
  | [], acc, h, S, e1, e2, hl => ⟨h, by rw [List.map_nil]; unfold lcLoop; rw [if_pos (stands1 e1)], by simpa using e2, S, KX.refl⟩
  | s :: ss, acc, h, S, e1, e2, hl => by
    obtain ⟨h1, d1⟩ : ∃ x, x = h ++ [O.lst [D.str "beside", D.str "elder"]] := ⟨_, rfl⟩
    have g1 : KG k h h1 := by rw [d1]; exact KG.app
    have S1 : Src h1 k := by rw [d1]; exact S.app
    have q1 : h1[r]? = some (.lst (L.map .str)) := g1.2 _ _ hk e1
    have q2 : h1[n]? = some (.lst (acc.map .str)) := g1.2 _ _ hn e2
    have tg : gnm 9 (.str s) e0 h = some (e0.set 9 (some (.str s))) := rfl
    have v9 : ∀ {h : MH}, varE 9 (e0.set 9 (some (.str s))) h = .ok (.str s) h := fun {h} => ev_var (by rw [List.getElem?_set_self (by omega)])
    have t : ownT (e0.set 9 (some (.str s))) h = .ok (isOwn s) h1 := by
      unfold ownT
      refine ev_val (ev_bin v9 (ev_on (ev_cons ev_con (ev_cons ev_con ev_nil)) (lst_new (by decide : 2 ≤ 1000000))) ?_)
      rw [d1]
      exact nin_i (by simp)
    rw [List.map_cons]
    unfold lcLoop
    rw [if_pos (stands1 e1), tg]
    dsimp only
    rw [t]
    cases c : isOwn s with
    | false =>
      dsimp only
      obtain ⟨h', e3, e4, S', k'⟩ := own_loop hn hr hk h9 ss acc h1 S1 q1 q2 (by simp only [List.length_cons] at hl; omega)
      refine ⟨h', e3, ?_, S', g1.kx.trans k'⟩
      rw [List.filter_cons_of_neg (by rw [c]; decide)]
      exact e4
    | true =>
      dsimp only
      rw [v9]
      dsimp only
      rw [q2]
      dsimp only
      rw [if_pos (by rw [List.length_map]; simp only [List.length_cons] at hl; omega)]
      have ea : acc.map D.str ++ [D.str s] = (acc ++ [s]).map D.str := by simp
      rw [ea]
      obtain ⟨h', e3, e4, S', k'⟩ := own_loop hn hr hk h9 ss (acc ++ [s]) (h1.set n (.lst ((acc ++ [s]).map .str))) (S1.other hn) (by rw [List.getElem?_set_ne (Ne.symm hr)]; exact q1) (set_get q2) (by simp only [List.length_append, List.length_cons, List.length_nil] at hl ⊢; omega)
      refine ⟨h', e3, ?_, S', (g1.kx.trans KX.set).trans k'⟩
      rw [List.filter_cons_of_pos c]
      simpa using e4
theorem any_strs {h : MH} {s : Str} : ∀ (L : List Str), anyF (fun z => eqv h deep z (.str s)) (L.map D.str) = some (L.any fun y => scalEq (.str y) (.str s))
  | [] => rfl
  | y :: L => by
    rw [List.map_cons]
    unfold anyF
    rw [any_strs L]
    rfl
theorem in_tup {h : MH} {s : Str} {L : List Str} : inF (.str s) (.tup (L.map D.str)) h = .ok (.bl (L.any fun y => scalEq (.str y) (.str s))) h := by
  have ed : dctOf h (.tup (L.map D.str)) = none := rfl
  unfold inF inT
  dsimp only
  rw [ed]
  unfold memT seqOf
  dsimp only
  rw [any_strs]
theorem scal_str {y s : Str} : scalEq (.str y) (.str s) = decide (y = s) := by
  unfold scalEq
  first | rfl | simp
theorem any_mem {L : List Str} {s : Str} (h : s ∈ L) : (L.any fun y => scalEq (.str y) (.str s)) = true := List.any_eq_true.mpr ⟨s, h, by rw [scal_str]; simp⟩
theorem ev_andE {a b : EM} {e : Env} {h h1 : MH} {r : R D} (p : a e h = .ok (.bl true) h1) (q : b e h1 = r) : andE a b e h = r := by unfold andE; rw [p]; exact q
theorem ev_star {a : EM} {rest : AM} {e : Env} {h h1 h2 : MH} {x : D} {k : Bool} {l ys : List D} (p : a e h = .ok x h1) (q : seqOf h1 x = some (k, l)) (r : rest e h1 = .ok ys h2) : starA a rest e h = .ok (l ++ ys) h2 := by
  unfold starA
  rw [p]
  show (match seqOf h1 x with | some (_, l) => (rest e h1).bind fun ys h2 => R.ok (l ++ ys) h2 | none => .bad) = _
  rw [q]
  dsimp only
  rw [r]
  rfl
theorem StrL.seq {h : MH} {k : Nat} {x : D} {L : List Str} (p : StrL h k x L) : seqOf h x = some (false, L.map D.str) := by
  obtain ⟨r, rfl, _, e⟩ := p
  unfold seqOf
  dsimp only
  rw [e]
theorem it_nil {h : MH} : IT.ok h [] = true := rfl
theorem bools_true : ∀ j : Nat, bools (List.replicate j (.bl true)) = some (List.replicate j true)
  | 0 => rfl
  | j + 1 => by
    rw [List.replicate_succ, List.replicate_succ]
    unfold bools
    rw [bools_true j]
theorem all_true {h : MH} {n : Nat} {j : Nat} (e : h[n]? = some (.lst (List.replicate j (.bl true)))) : allF [.ref n] h = .ok (.bl true) h := by
  unfold allF lstOf
  dsimp only
  rw [e]
  dsimp only
  rw [bools_true]
  dsimp only
  have : (List.replicate j true).all (fun b => b) = true := by simp
  rw [this]
theorem lc_all {P : MH → Prop} {elt : EM} {n i : Nat} {e0 : Env} (hP : ∀ h o, P h → P (h.set n o)) : ∀ (ds : List D) (j : Nat) (h : MH), P h → h[n]? = some (.lst (List.replicate j (.bl true))) → j + ds.length < 1000 → (∀ d ∈ ds, ∀ h, P h → elt (e0.set i (some d)) h = .ok (.bl true) h) →
    ∃ h', lcLoop [] (gnm i) yesT elt n e0 ds h = .ok (.ref n) h' ∧ h'[n]? = some (.lst (List.replicate (j + ds.length) (.bl true))) ∧ P h' ∧ h'.length = h.length ∧ ∀ m, m ≠ n → h'[m]? = h[m]?
  | [], j, h, p, e, hl, hd => ⟨h, by unfold lcLoop; rw [if_pos it_nil], by simpa using e, p, rfl, fun _ _ => rfl⟩
  | d :: ds, j, h, p, e, hl, hd => by
    have e1 := hd d List.mem_cons_self h p
    obtain ⟨h', e2, e3, p', l', k'⟩ := lc_all hP ds (j + 1) (h.set n (.lst (List.replicate j (.bl true) ++ [.bl true]))) (hP h _ p) (by rw [set_get e, List.replicate_succ']) (by simp only [List.length_cons] at hl; omega) (fun x hx => hd x (List.mem_cons_of_mem _ hx))
    refine ⟨h', ?_, by rw [e3]; simp only [List.length_cons]; rw [show j + 1 + ds.length = j + (ds.length + 1) by omega], p', by rw [l']; simp, fun m hm => by rw [k' m hm, List.getElem?_set_ne (Ne.symm hm)]⟩
    rw [← e2]
    conv => lhs; unfold lcLoop
    rw [if_pos it_nil]
    have tg : gnm i d e0 h = some (e0.set i (some d)) := rfl
    rw [tg]
    dsimp only [yesT]
    rw [e1]
    dsimp only
    rw [e]
    dsimp only
    rw [if_pos (by rw [List.length_replicate]; simp only [List.length_cons] at hl; omega)]
/-- all stays -/
def GA (h h' : MH) : Prop := h.length ≤ h'.length ∧ ∀ (n : Nat) o, h[n]? = some o → h'[n]? = some o
theorem GA.refl {h : MH} : GA h h := ⟨Nat.le_refl _, fun _ _ e => e⟩
theorem GA.trans {a b c : MH} (p : GA a b) (q : GA b c) : GA a c := ⟨Nat.le_trans p.1 q.1, fun n o e => q.2 n o (p.2 n o e)⟩
theorem GA.app {h t : MH} : GA h (h ++ t) := ⟨by simp, fun n o e => by rw [List.getElem?_append_left (List.getElem?_eq_some_iff.mp e).1]; exact e⟩
theorem GA.kg {k : Nat} {h h' : MH} (g : GA h h') : KG k h h' := ⟨g.1, fun n o _ e => g.2 n o e⟩
/-- names in the heap, at a place ahead of b -/
def NamL (h : MH) (b : Nat) (x : D) (l : List Str) : Prop := ∃ r, x = .ref r ∧ r < b ∧ h[r]? = some (.lst (l.map .str))
theorem NamL.ga {h h' : MH} {b : Nat} {x : D} {l : List Str} (p : NamL h b x l) (g : GA h h') : NamL h' b x l := by
  obtain ⟨r, e, hb, e1⟩ := p
  exact ⟨r, e, hb, g.2 _ _ e1⟩
theorem NamL.up {h : MH} {b b' : Nat} {x : D} {l : List Str} (p : NamL h b x l) (hb : b ≤ b') : NamL h b' x l := by
  obtain ⟨r, e, h1, e1⟩ := p
  exact ⟨r, e, by omega, e1⟩
theorem NamL.str {h : MH} {b : Nat} {x : D} {l : List Str} (p : NamL h b x l) : StrL h b x l := by
  obtain ⟨r, e, h1, e1⟩ := p
  exact ⟨r, e, by omega, e1⟩
/-- all([f(d) for d in ds]) where f leaves the heap alone -/
theorem ev_all {elt : EM} {i b : Nat} {e : Env} {own : List Nat} {it : IM} {ds : List D} {h : MH} {x : D} {l : List Str} (N : NamL h b x l) (hb : b ≤ h.length) (hi : it e h = .ok ⟨ds, []⟩ h) (hl : ds.length < 900) (hd : ∀ d ∈ ds, ∀ h', NamL h' b x l → elt ((wipeM e own).set i (some d)) h' = .ok (.bl true) h') :
    ∃ h', onA allF (consA (lcE own it (gnm i) yesT elt) nilA) e h = .ok (.bl true) h' ∧ GA h h' := by
  obtain ⟨h', e1, e2, p', l', k'⟩ := lc_all (P := fun h' => h.length ≤ h'.length ∧ NamL h' b x l ∧ ∀ m, m < h.length → h'[m]? = h[m]?) (n := h.length) (i := i) (elt := elt) (e0 := wipeM e own) (fun h1 o ⟨p1, ⟨r, er, rb, e⟩, p2⟩ => ⟨by simpa using p1, ⟨r, er, rb, by rw [List.getElem?_set_ne (by omega)]; exact e⟩, fun m hm => by rw [List.getElem?_set_ne (by omega)]; exact p2 m hm⟩) ds 0 (h ++ [O.lst []]) ⟨by simp, N.ga GA.app, fun m hm => List.getElem?_append_left hm⟩ (by simp) (by omega) (fun d hd' h1 p => hd d hd' h1 p.2.1)
  refine ⟨h', ?_, p'.1, fun n o e => by rw [p'.2.2 n (List.getElem?_eq_some_iff.mp e).1]; exact e⟩
  refine ev_on (ev_cons (x := .ref h.length) (h1 := h') ?_ ev_nil) (all_true e2)
  unfold lcE
  rw [hi]
  exact e1
theorem lc_allG {P : MH → Prop} {elt : EM} {n i b : Nat} {e0 : Env} (hP : ∀ h o, P h → P (h.set n o)) (hb : b ≤ n) : ∀ (ds : List D) (j : Nat) (h : MH), P h → h[n]? = some (.lst (List.replicate j (.bl true))) → j + ds.length < 1000 → (∀ d ∈ ds, ∀ h, P h → ∃ h', elt (e0.set i (some d)) h = .ok (.bl true) h' ∧ P h' ∧ GA h h') →
    ∃ h', lcLoop [] (gnm i) yesT elt n e0 ds h = .ok (.ref n) h' ∧ h'[n]? = some (.lst (List.replicate (j + ds.length) (.bl true))) ∧ P h' ∧ h.length ≤ h'.length ∧ ∀ m o, m < b → h[m]? = some o → h'[m]? = some o
  | [], j, h, p, e, hl, hd => ⟨h, by unfold lcLoop; rw [if_pos it_nil], by simpa using e, p, Nat.le_refl _, fun _ _ _ e => e⟩
  | d :: ds, j, h, p, e, hl, hd => by
    obtain ⟨h1, e1, p1, g1⟩ := hd d List.mem_cons_self h p
    have q1 := g1.2 _ _ e
    obtain ⟨h', e2, e3, p', l', k'⟩ := lc_allG hP hb ds (j + 1) (h1.set n (.lst (List.replicate j (.bl true) ++ [.bl true]))) (hP h1 _ p1) (by rw [set_get q1, List.replicate_succ']) (by simp only [List.length_cons] at hl; omega) (fun x hx => hd x (List.mem_cons_of_mem _ hx))
    refine ⟨h', ?_, by rw [e3]; simp only [List.length_cons]; rw [show j + 1 + ds.length = j + (ds.length + 1) by omega], p', Nat.le_trans g1.1 (by simpa using l'), fun m o hm e => k' m o hm (by rw [List.getElem?_set_ne (by omega)]; exact g1.2 _ _ e)⟩
    rw [← e2]
    conv => lhs; unfold lcLoop
    rw [if_pos it_nil]
    have tg : gnm i d e0 h = some (e0.set i (some d)) := rfl
    rw [tg]
    dsimp only [yesT]
    rw [e1]
    dsimp only
    rw [q1]
    dsimp only
    rw [if_pos (by rw [List.length_replicate]; simp only [List.length_cons] at hl; omega)]
/-- all([f(d) for d in ds]) where f makes things -/
theorem ev_allG {elt : EM} {i b : Nat} {e : Env} {own : List Nat} {it : IM} {ds : List D} {h : MH} {x : D} {l : List Str} (N : NamL h b x l) (hb : b ≤ h.length) (hi : it e h = .ok ⟨ds, []⟩ h) (hl : ds.length < 900) (hd : ∀ d ∈ ds, ∀ h', b ≤ h'.length → NamL h' b x l → ∃ h2, elt ((wipeM e own).set i (some d)) h' = .ok (.bl true) h2 ∧ GA h' h2) :
    ∃ h', onA allF (consA (lcE own it (gnm i) yesT elt) nilA) e h = .ok (.bl true) h' ∧ GA h h' := by
  obtain ⟨h', e1, e2, p', l', k'⟩ := lc_allG (P := fun h' => b ≤ h'.length ∧ NamL h' b x l) (n := h.length) (i := i) (elt := elt) (e0 := wipeM e own) (b := h.length) (fun h1 o ⟨p1, ⟨r, er, rb, e⟩⟩ => ⟨by simpa using p1, ⟨r, er, rb, by rw [List.getElem?_set_ne (by omega)]; exact e⟩⟩) (Nat.le_refl _) ds 0 (h ++ [O.lst []]) ⟨by simp; omega, N.ga GA.app⟩ (by simp) (by omega) (fun d hd' h1 p => by
    obtain ⟨h2, e, g⟩ := hd d hd' h1 p.1 p.2
    exact ⟨h2, e, ⟨Nat.le_trans p.1 g.1, p.2.ga g⟩, g⟩)
  refine ⟨h', ?_, Nat.le_trans (by simp) l', fun n o e => k' n o (List.getElem?_eq_some_iff.mp e).1 (GA.app.2 _ _ e)⟩
  refine ev_on (ev_cons (x := .ref h.length) (h1 := h') ?_ ev_nil) (all_true e2)
  unfold lcE
  rw [hi]
  exact e1
theorem i_tup {a : EM} {e : Env} {h : MH} {ds : List D} (p : a e h = .ok (.tup ds) h) : seqI a e h = .ok ⟨ds, []⟩ h := by unfold seqI; rw [p]; rfl
theorem le_T {a b : Int} {h : MH} (p : a ≤ b) : leF (.int a) (.int b) h = .ok (.bl true) h := by unfold leF ordF; dsimp only; rw [decide_eq_true p]
theorem gt_F {a b : Int} {h : MH} (p : ¬ b < a) : gtF (.int a) (.int b) h = .ok (.bl false) h := by rw [gt_i, decide_eq_false p]
theorem ef_nx {np n : Nat} {ds : List D} {b : SM} {h h1 : MH} {e1 : Env} (hl : ds.length = np) (p : b (ds.map some ++ List.replicate (n - ds.length) none) h = .nx e1 h1) : fnM np n b ds h = .ok .non h1 := by unfold fnM; rw [if_pos hl, p]
theorem GA.setB {h h1 : MH} {n : Nat} {o : O} (g : GA h h1) (hn : h.length ≤ n) : GA h (h1.set n o) := ⟨by simpa using g.1, fun m x e => by rw [List.getElem?_set_ne (by have := (List.getElem?_eq_some_iff.mp e).1; omega)]; exact g.2 m x e⟩
theorem lc_allA {srcs : List (Nat × List D)} {elt : EM} {n i : Nat} {e0 : Env} {h0 : MH} (hs : ∀ h, GA h0 h → IT.ok h srcs = true) (hn : h0.length ≤ n) : ∀ (ds : List D) (j : Nat) (h : MH), GA h0 h → h[n]? = some (.lst (List.replicate j (.bl true))) → j + ds.length < 1000 → (∀ d ∈ ds, ∀ h, GA h0 h → ∃ h', elt (e0.set i (some d)) h = .ok (.bl true) h' ∧ GA h h') →
    ∃ h', lcLoop srcs (gnm i) yesT elt n e0 ds h = .ok (.ref n) h' ∧ h'[n]? = some (.lst (List.replicate (j + ds.length) (.bl true))) ∧ GA h0 h'
  | [], j, h, p, e, hl, hd => ⟨h, by unfold lcLoop; rw [if_pos (hs h p)], by simpa using e, p⟩
  | d :: ds, j, h, p, e, hl, hd => by
    obtain ⟨h1, e1, g1⟩ := hd d List.mem_cons_self h p
    have q1 := g1.2 _ _ e
    obtain ⟨h', e2, e3, p'⟩ := lc_allA hs hn ds (j + 1) (h1.set n (.lst (List.replicate j (.bl true) ++ [.bl true]))) ((p.trans g1).setB hn) (by rw [set_get q1, List.replicate_succ']) (by simp only [List.length_cons] at hl; omega) (fun x hx => hd x (List.mem_cons_of_mem _ hx))
    refine ⟨h', ?_, by rw [e3]; simp only [List.length_cons]; rw [show j + 1 + ds.length = j + (ds.length + 1) by omega], p'⟩
    rw [← e2]
    conv => lhs; unfold lcLoop
    rw [if_pos (hs h p)]
    have tg : gnm i d e0 h = some (e0.set i (some d)) := rfl
    rw [tg]
    dsimp only [yesT]
    rw [e1]
    dsimp only
    rw [q1]
    dsimp only
    rw [if_pos (by rw [List.length_replicate]; simp only [List.length_cons] at hl; omega)]
/-- all([f(d) for d in ds]) -/
theorem ev_allA {elt : EM} {i : Nat} {e : Env} {own : List Nat} {it : IM} {ds : List D} {srcs : List (Nat × List D)} {h : MH} (hi : it e h = .ok ⟨ds, srcs⟩ h) (hs : ∀ h1, GA h h1 → IT.ok h1 srcs = true) (hl : ds.length < 900) (hd : ∀ d ∈ ds, ∀ h1, GA h h1 → ∃ h2, elt ((wipeM e own).set i (some d)) h1 = .ok (.bl true) h2 ∧ GA h1 h2) :
    ∃ h', onA allF (consA (lcE own it (gnm i) yesT elt) nilA) e h = .ok (.bl true) h' ∧ GA h h' := by
  obtain ⟨h', e1, e2, p'⟩ := lc_allA (n := h.length) (i := i) (elt := elt) (e0 := wipeM e own) hs (Nat.le_refl _) ds 0 (h ++ [O.lst []]) GA.app (by simp) (by omega) hd
  refine ⟨h', ?_, p'⟩
  refine ev_on (ev_cons (x := .ref h.length) (h1 := h') ?_ ev_nil) (all_true e2)
  unfold lcE
  rw [hi]
  exact e1
theorem ev_sl {a : EM} {lo hi : OM} {e : Env} {h h1 h2 h3 : MH} {x : D} {l u : Option Int} {r : R D} (p : a e h = .ok x h1) (q : lo e h1 = .ok l h2) (k : hi e h2 = .ok u h3) (w : slF x l u h3 = r) : slE a lo hi e h = r := by
  unfold slE
  rw [p]
  show R.bind (lo e h1) _ = r
  rw [q]
  show R.bind (hi e h2) _ = r
  rw [k]
  exact w
theorem ev_noO {e : Env} {h : MH} : noO e h = .ok none h := rfl
theorem ev_someO {a : EM} {e : Env} {h h1 : MH} {i : Int} (p : a e h = .ok (.int i) h1) : someO a e h = .ok (some i) h1 := by unfold someO; rw [p]; rfl
/-! names -/
theorem in_abc {c : Nat} (h1 : 97 ≤ c ∧ c ≤ 122) {h : MH} : inF (.str ⟨#[c]⟩) (.str "abcdefghijklmnopqrstuvwxyz") h = .ok (.bl true) h := by
  have : c ∈ (Str.ofString "abcdefghijklmnopqrstuvwxyz").cps.toList := (by decide +kernel : ∀ c, c < 123 → 97 ≤ c → c ∈ (Str.ofString "abcdefghijklmnopqrstuvwxyz").cps.toList) c (by omega) h1.1
  unfold inF inT
  dsimp only
  show R.ok (D.bl (decide _)) h = _
  rw [decide_eq_true this]
theorem ev_chain {f g : D → D → MH → R D} {a b c : EM} {e : Env} {h h1 h2 h3 h4 : MH} {x y w : D} {r : R D} (p : a e h = .ok x h1) (q : b e h1 = .ok y h2) (k : f x y h2 = .ok (.bl true) h3) (z : c e h3 = .ok w h4) (j : g y w h4 = r) : chainE f g a b c e h = r := by
  unfold chainE
  rw [p]
  show R.bind (b e h1) _ = r
  rw [q]
  show R.bind (f x y h2) _ = r
  rw [k]
  show R.bind (c e h3) _ = r
  rw [z]
  exact j
theorem nin_barred {z : Str} {h : MH} (g : z ∉ barred) : ninF (.str z) (strsD ["here", "new", "nothing", "is", "not", "from", "or", "ask", "do", "otherwise"]) h = .ok (.bl true) h := by
  have e := in_tup (h := h) (s := z) (L := barred)
  have a0 : (barred.any fun y => scalEq (.str y) (.str z)) = false := by
    cases c : barred.any fun y => scalEq (.str y) (.str z) with
    | false => rfl
    | true =>
      obtain ⟨y, hy, q⟩ := List.any_eq_true.mp c
      rw [scal_str] at q
      exact absurd (of_decide_eq_true q ▸ hy) g
  rw [a0] at e
  unfold inF at e
  unfold ninF
  show (match inT h (.str z) (.tup (barred.map D.str)) with | some b => R.ok (D.bl (!b)) h | none => .bad) = _
  cases q : inT h (.str z) (.tup (barred.map D.str)) with
  | none => rw [q] at e; cases e
  | some b =>
    rw [q] at e
    cases e
    rfl
theorem many_nodup {xs : List Str} (nd : xs.Nodup) : ∀ i, i ≤ xs.length → SetM.many xs i = i
  | 0, _ => rfl
  | i + 1, hi => by
    have ih := many_nodup nd i (by omega)
    unfold SetM.many
    have : SetM.seen xs i (xs.getD i Str.empty) = false := by
      unfold SetM.seen
      cases c : (xs.take i).any (· == xs.getD i Str.empty) with
      | false => rfl
      | true =>
        obtain ⟨y, hy, q⟩ := List.any_eq_true.mp c
        obtain ⟨j, hj, ej⟩ := List.mem_iff_getElem.mp hy
        have q := eq_of_beq q
        rw [List.getElem_take] at ej
        rw [List.length_take] at hj
        have e2 : xs.getD i Str.empty = xs[i]'(by omega) := by rw [List.getD_eq_getElem?_getD, List.getElem?_eq_getElem (by omega)]; rfl
        rw [e2] at q
        have := (List.getElem_inj nd).mp (ej.trans q)
        omega
    rw [this, ih]
    rfl
theorem strs_of : ∀ l : List Str, strsOf (l.map D.str) = some l
  | [] => rfl
  | s :: l => by
    rw [List.map_cons]
    unfold strsOf
    rw [strs_of l]
def LinesD (l : List Str) (ls : List D) : Prop := 1 ≤ ls.length ∧ ls.length ≤ 8 ∧ (∀ d ∈ ls, LineD l false d) ∧ ∀ d, ls.getLast? = some d → LineD l true d
theorem es_fld {ci : List Str} {f : Str} {o a : EM} {e : Env} {h h1 h2 h3 : MH} {v x : D} (p : a e h = .ok v h1) (q : o e h1 = .ok x h2) (w : putO ci f x v h2 = some h3) : stFld ci f o a e h = .nx e h3 := by
  unfold stFld ofE
  rw [p]
  dsimp only
  rw [q]
  dsimp only
  rw [w]
theorem putI {ci : List Str} {f c : Str} {n : Nat} {v : D} {h : MH} {fs : List (Str × D)} (e : h[n]? = some (.ins c fs)) (hc : c ∈ ci) (hl : fs.length < 1000) : putO ci f (.ref n) v h = some (h.set n (.ins c (putFD f v fs))) := by
  unfold putO
  dsimp only
  rw [e]
  dsimp only
  rw [if_pos ⟨hc, hl⟩]
/-- a rule in the heap -/
def RuleD (h : MH) (d : D) (l : List Str) (ls : List D) : Prop := ∃ s, d = .ref s ∧ h[s]? = some (.ins "Rule" [("own_names", .tup (l.map .str)), ("rows", .tup ls)])
theorem fa0 {P : D → Prop} : ∀ d ∈ ([] : List D), P d := fun _ h => (nomatch h)
theorem fa1 {P : D → Prop} {x : D} {l : List D} (p : P x) (q : ∀ d ∈ l, P d) : ∀ d ∈ x :: l, P d := fun d h => by
  rcases List.mem_cons.mp h with z | z
  · rw [z]; exact p
  · exact q d z
theorem faA {P : D → Prop} {l m : List D} (p : ∀ d ∈ l, P d) (q : ∀ d ∈ m, P d) : ∀ d ∈ l ++ m, P d := fun d h => by
  rcases List.mem_append.mp h with z | z
  · exact p d z
  · exact q d z
theorem mkT {l : List Str} {a b : Str} {v : Bool} (p : LeftN l a) (q : SrcN l b) : TestD l (.tup [.str a, .str b, .bl v]) := ⟨a, b, v, rfl, p, q⟩
theorem mkS {l : List Str} {a b : Str} (p : TgtN l a) (q : SrcN l b) : StepD l (.tup [.str a, .str b]) := ⟨a, b, rfl, p, q⟩
theorem mkSs {l : List Str} {ss : List D} (h : ss.length ≤ 4) (p : ∀ d ∈ ss, StepD l d) : StepsD l (.tup ss) := ⟨ss, rfl, h, p⟩
theorem mkL1 {l : List Str} {b : Bool} {ts : List D} {s : D} (h : ts.length ≤ 4) (n : b = true → ts = []) (p : ∀ d ∈ ts, TestD l d) (q : StepsD l s) : LineD l b (.tup [.tup ts, s]) := ⟨ts, [s], rfl, h, n, p, .inl rfl, fa1 q fa0⟩
theorem mkL2 {l : List Str} {b : Bool} {ts : List D} {s u : D} (h : ts.length ≤ 4) (n : b = true → ts = []) (p : ∀ d ∈ ts, TestD l d) (q : StepsD l s) (q2 : StepsD l u) : LineD l b (.tup [.tup ts, s, u]) := ⟨ts, [s, u], rfl, h, n, p, .inr rfl, fa1 q (fa1 q2 fa0)⟩
theorem LineD.up {l : List Str} {b : Bool} {d : D} (p : LineD l b d) : LineD l false d := by
  obtain ⟨ts, st, e, h, _, p⟩ := p
  exact ⟨ts, st, e, h, fun z => (nomatch z), p⟩
theorem lh {l : List Str} : LeftN l "here" := .inl rfl
theorem ln {l : List Str} : LeftN l "new" := .inr (.inl rfl)
theorem th {l : List Str} : TgtN l "here" := .inl rfl
theorem sh {l : List Str} : SrcN l "here" := .inl rfl
theorem sn {l : List Str} : SrcN l "new" := .inr (.inl rfl)
theorem so {l : List Str} : SrcN l "nothing" := .inr (.inr (.inl rfl))
theorem LinesD.snoc {l : List Str} {ls : List D} {d : D} (h : ls.length ≤ 7) (p : ∀ d ∈ ls, LineD l false d) (q : LineD l true d) : LinesD l (ls ++ [d]) := ⟨by simp, by simp; omega, faA p (fa1 q.up fa0), fun x hx => by
  rw [List.getLast?_append] at hx
  simp at hx
  rw [← hx]
  exact q⟩
theorem eq_lnil {h : MH} {n m : Nat} {xs : List D} (e : h[n]? = some (.lst xs)) (f : h[m]? = some (.lst [])) : eqF (.ref n) (.ref m) h = .ok (.bl xs.isEmpty) h := by
  unfold eqF eqT eqTop isScal seqOf
  dsimp only
  rw [e, f]
  dsimp only
  rw [if_pos rfl]
  cases xs with
  | nil => rfl
  | cons x xs => rfl
theorem ne_lnil {h : MH} {n m : Nat} {xs : List D} (e : h[n]? = some (.lst xs)) (f : h[m]? = some (.lst [])) : neF (.ref n) (.ref m) h = .ok (.bl !xs.isEmpty) h := by
  unfold neF eqT eqTop isScal seqOf
  dsimp only
  rw [e, f]
  dsimp only
  rw [if_pos rfl]
  cases xs with
  | nil => rfl
  | cons x xs => rfl
theorem in_lst {h : MH} {n : Nat} {s : Str} {L : List Str} (e : h[n]? = some (.lst (L.map .str))) : inF (.str s) (.ref n) h = .ok (.bl (decide (s ∈ L))) h := by
  have ed : dctOf h (.ref n) = none := by unfold dctOf; dsimp only; rw [e]
  unfold inF inT
  dsimp only
  rw [ed]
  unfold memT seqOf
  dsimp only
  rw [e]
  dsimp only
  rw [any_strs]
  dsimp only
  have : (L.any fun y => scalEq (.str y) (.str s)) = decide (s ∈ L) := by
    by_cases c : s ∈ L
    · rw [any_mem c, decide_eq_true c]
    · rw [decide_eq_false c]
      cases z : L.any fun y => scalEq (.str y) (.str s) with
      | false => rfl
      | true =>
        obtain ⟨y, hy, q⟩ := List.any_eq_true.mp z
        rw [scal_str] at q
        exact absurd (of_decide_eq_true q ▸ hy) c
  rw [this]
theorem ne_str {a b : Str} {h : MH} : neF (.str a) (.str b) h = .ok (.bl (!decide (a = b))) h := by
  unfold neF eqT eqTop isScal
  dsimp only
  rw [scal_str]
theorem add_tup {l m : List D} {h : MH} (hl : l.length + m.length ≤ 1000000) : addF (.tup l) (.tup m) h = .ok (.tup (l ++ m)) h := by unfold addF; dsimp only; rw [if_pos hl]
/-- own lines so far, in the heap at n -/
theorem pushL {a : EM} {e : Env} {h : MH} {n : Nat} {ls : List D} {d : D} (v : e[3]? = some (some (.ref n))) (e1 : h[n]? = some (.lst ls)) (hl : ls.length ≤ 7) (p : a e h = .ok d h) : ∃ h', expS (bmE "list" appF (varE 3) (consA a nilA)) e h = .nx e h' ∧ h'[n]? = some (.lst (ls ++ [d])) ∧ h'.length = h.length ∧ ∀ m, m ≠ n → h'[m]? = h[m]? :=
  ⟨_, es_exp (ev_bm (ev_var v) (ty_lst e1) (ev_cons p ev_nil) (append_i e1 (by omega))), set_get e1, by simp, fun m hm => by rw [List.getElem?_set_ne (Ne.symm hm)]⟩
theorem SrcN.own {l : List Str} {s : Str} (h : s ∈ l) : SrcN l s := .inr (.inr (.inr h))
theorem LeftN.own {l : List Str} {s : Str} (h : s ∈ l) : LeftN l s := .inr (.inr h)
theorem TgtN.own {l : List Str} {s : Str} (h : s ∈ l) : TgtN l s := .inr h
theorem tup1 {a : EM} {e : Env} {h : MH} {x : D} (p : a e h = .ok x h) : onA tupF (consA a nilA) e h = .ok (.tup [x]) h := ev_on (ev_cons p ev_nil) (tup_new (by decide : 1 ≤ 1000000))
theorem tup2 {a b : EM} {e : Env} {h : MH} {x y : D} (p : a e h = .ok x h) (q : b e h = .ok y h) : onA tupF (consA a (consA b nilA)) e h = .ok (.tup [x, y]) h := ev_on (ev_cons p (ev_cons q ev_nil)) (tup_new (by decide : 2 ≤ 1000000))
theorem tup3 {a b c : EM} {e : Env} {h : MH} {x y z : D} (p : a e h = .ok x h) (q : b e h = .ok y h) (r : c e h = .ok z h) : onA tupF (consA a (consA b (consA c nilA))) e h = .ok (.tup [x, y, z]) h := ev_on (ev_cons p (ev_cons q (ev_cons r ev_nil))) (tup_new (by decide : 3 ≤ 1000000))
theorem tup0 {e : Env} {h : MH} : onA tupF nilA e h = .ok (.tup []) h := ev_on ev_nil (tup_new (by decide : 0 ≤ 1000000))
theorem isOwn_mem {l : List Str} {s : Str} (h : s ∈ l.filter isOwn) : s ∈ l := (List.mem_filter.mp h).1
theorem neg_i {a : Int} {h : MH} : negF (.int a) h = .ok (.int (-a)) h := rfl
theorem ix_last {h : MH} {n : Nat} {L : List Str} (e : h[n]? = some (.lst (L.map .str))) (hL : L ≠ []) : ∃ s ∈ L, ixF (.ref n) (.int (-1)) h = .ok (.str s) h := by
  have hl : 0 < L.length := List.length_pos_iff.mpr hL
  refine ⟨L[L.length - 1]'(by omega), List.getElem_mem _, ?_⟩
  have a : atI (L.map D.str) (-1) = some (.str (L[L.length - 1]'(by omega))) := by
    have i : ixN (L.map D.str).length (-1) = some (L.length - 1) := by
      unfold ixN
      rw [List.length_map]
      first
        | (rw [if_neg (by decide), if_pos (by omega)]; congr 1; omega)
        | (simp; omega)
    unfold atI
    rw [i]
    simp
  simp [ixF, seqOf, e, a]
theorem ix_first {h : MH} {n : Nat} {L : List Str} (e : h[n]? = some (.lst (L.map .str))) (hL : L ≠ []) : ∃ s ∈ L, ixF (.ref n) (.int 0) h = .ok (.str s) h := by
  cases L with
  | nil => exact absurd rfl hL
  | cons s L => exact ⟨s, List.mem_cons_self, ix_lst e (by decide) rfl⟩
/-- the lines of a rule in the heap -/
def LinL (h : MH) (k b : Nat) (d : D) (l : List Str) : Prop := ∃ n ls, d = .ref n ∧ n ≠ k ∧ b ≤ n ∧ h[n]? = some (.lst ls) ∧ LinesD l ls
theorem LinL.kg {h h' : MH} {k b : Nat} {d : D} {l : List Str} (p : LinL h k b d l) (g : KG k h h') : LinL h' k b d l := by
  obtain ⟨n, ls, e, hn, hb, e1, q⟩ := p
  exact ⟨n, ls, e, hn, hb, g.2 _ _ hn e1, q⟩
theorem eq_iT {a : Int} {h : MH} : eqF (.int a) (.int a) h = .ok (.bl true) h := by rw [eq_i]; unfold scalEq; simp
theorem eq_iF {a b : Int} {h : MH} (n : a ≠ b) : eqF (.int a) (.int b) h = .ok (.bl false) h := by rw [eq_i]; unfold scalEq; simp [n]
theorem cut_to {l : List D} {i : Nat} (hi : i ≤ l.length) : cutD l none (some (i : Int)) = l.take i := by
  unfold cutD
  rw [HT.sIx_nat, HT.sIx_none, Nat.min_eq_left hi]
  simp
theorem cut_from {l : List D} {i : Nat} (hi : i ≤ l.length) : cutD l (some (i : Int)) none = l.drop i := by
  unfold cutD
  rw [HT.sIx_nat, HT.sIx_none, Nat.min_eq_left hi]
  rw [List.take_of_length_le (by simp)]
theorem cut_last {l : List D} (hl : 0 < l.length) : cutD l none (some (-1)) = l.take (l.length - 1) := by
  unfold cutD
  rw [HT.sIx_none]
  have : HT.sIx l.length l.length (some (-1)) = l.length - 1 := by
    show (if (-1 : Int) < 0 then ((-1 : Int) + (l.length : Int)).toNat else min (-1 : Int).toNat l.length) = _
    rw [if_pos (by decide)]
    omega
  rw [this]
  simp
theorem slL {h : MH} {n : Nat} {l : List D} {lo hi : Option Int} (e : h[n]? = some (.lst l)) : slF (.ref n) lo hi h = .ok (.ref h.length) (h ++ [.lst (cutD l lo hi)]) := by
  unfold slF seqOf
  dsimp only
  rw [e]
theorem addL {h : MH} {n m : Nat} {A B : List D} (e : h[n]? = some (.lst A)) (f : h[m]? = some (.lst B)) (hl : A.length + B.length ≤ 1000) : addF (.ref n) (.ref m) h = .ok (.ref h.length) (h ++ [.lst (A ++ B)]) := by
  unfold addF lstOf
  dsimp only
  rw [e, f]
  dsimp only
  rw [if_pos (by omega)]
theorem gl {A B : List D} (h : B ≠ []) : (A ++ B).getLast? = B.getLast? := by
  rw [List.getLast?_append]
  cases q : B.getLast? with
  | none => rw [List.getLast?_eq_none_iff] at q; exact absurd q h
  | some y => rfl
theorem new0 {h h1 : MH} (d : h1 = h ++ [O.lst []]) : lstF [] h = .ok (.ref h.length) h1 := by rw [d]; exact lst_new (by decide : 0 ≤ 1000000)
theorem new1 {h h1 : MH} {w : D} (d : h1 = h ++ [O.lst [w]]) : lstF [w] h = .ok (.ref h.length) h1 := by rw [d]; exact lst_new (by simp)
theorem cut_mem {l : List D} {lo hi : Option Int} {d : D} (h : d ∈ cutD l lo hi) : d ∈ l := by
  unfold cutD at h
  exact List.mem_of_mem_drop (List.mem_of_mem_take h)
theorem cut_len {l : List D} {lo hi : Option Int} : (cutD l lo hi).length ≤ l.length := by
  unfold cutD
  rw [List.length_take, List.length_drop]
  omega
theorem LinesD.bend {l : List Str} {A C M : List D} {L : D} (p : LinesD l (A ++ L :: C)) (h0 : M ≠ []) (hM : ∀ d ∈ M, LineD l false d) (hL : C = [] → ∀ d, M.getLast? = some d → LineD l true d) (hl : A.length + M.length + C.length ≤ 8) : LinesD l (A ++ M ++ C) := by
  obtain ⟨p1, p2, p3, p4⟩ := p
  have hm : 0 < M.length := List.length_pos_iff.mpr h0
  refine ⟨by simp; omega, by simp; omega, faA (faA (fun d hd => p3 d (by simp [hd])) hM) (fun d hd => p3 d (by simp [hd])), fun d hd => ?_⟩
  cases C with
  | nil =>
    rw [List.append_nil, List.getLast?_append] at hd
    cases q : M.getLast? with
    | none => rw [List.getLast?_eq_none_iff] at q; exact absurd q h0
    | some y =>
      rw [q] at hd
      exact hL rfl d (by rw [q]; simpa using hd)
  | cons c C =>
    refine p4 d ?_
    rw [gl (by simp)] at hd
    rw [show A ++ L :: c :: C = (A ++ [L]) ++ (c :: C) by simp, gl (by simp)]
    exact hd
theorem LinesD.at {l : List Str} {A C : List D} {L : D} (p : LinesD l (A ++ L :: C)) : LineD l (decide (C = [])) L := by
  obtain ⟨p1, p2, p3, p4⟩ := p
  by_cases c : C = []
  · rw [decide_eq_true c]
    refine p4 L ?_
    rw [c, List.getLast?_append]
    simp
  · rw [decide_eq_false c]
    exact p3 L (by simp)
/-- front + [..] + rest -/
theorem cat3 {k b : Nat} {h h1 : MH} {e : Env} {as : AM} {third : EM} {f : Nat} {A M C : List D} (v5 : e[5]? = some (some (.ref f))) (ef : h[f]? = some (.lst A)) (fk : f ≠ k) (hb : b ≤ h.length) (kb : k < b) (hl : A.length + M.length + C.length ≤ 100) (p : as e h = .ok M h1) (g : KG k h h1) (S1 : Src h1 k)
    (q : ∀ h1, KG k h h1 → Src h1 k → ∃ c h2, third e h1 = .ok (.ref c) h2 ∧ c ≠ k ∧ h2[c]? = some (.lst C) ∧ Src h2 k ∧ KG k h1 h2) :
    ∃ n h', bin addF (bin addF (varE 5) (onA lstF as)) third e h = .ok (.ref n) h' ∧ n ≠ k ∧ b ≤ n ∧ h'[n]? = some (.lst (A ++ M ++ C)) ∧ Src h' k ∧ KG k h h' := by
  obtain ⟨h2, d2⟩ : ∃ x, x = h1 ++ [O.lst M] := ⟨_, rfl⟩
  have g2 : KG k h1 h2 := by rw [d2]; exact KG.app
  have S2 : Src h2 k := by rw [d2]; exact S1.app
  have q2 : h2[h1.length]? = some (.lst M) := by rw [d2]; simp
  have l1 := g.1
  have l2 := g2.1
  obtain ⟨h3, d3⟩ : ∃ x, x = h2 ++ [O.lst (A ++ M)] := ⟨_, rfl⟩
  have g3 : KG k h2 h3 := by rw [d3]; exact KG.app
  have S3 : Src h3 k := by rw [d3]; exact S2.app
  have q3 : h3[h2.length]? = some (.lst (A ++ M)) := by rw [d3]; simp
  have l3 := g3.1
  obtain ⟨c, h4, e4, ck, q4, S4, g4⟩ := q h3 ((g.trans g2).trans g3) S3
  have l4 := g4.1
  have q3' := g4.2 _ _ (by omega) q3
  refine ⟨h4.length, _, ?_, by omega, by omega, List.getElem?_concat_length, S4.app, (((g.trans g2).trans g3).trans g4).trans KG.app⟩
  exact ev_bin (ev_bin (ev_var v5) (ev_on p ((lst_new (by omega)).trans (by rw [← d2]))) ((addL ((g.trans g2).2 _ _ fk ef) q2 (by omega)).trans (by rw [← d3]))) e4 (addL q3' q4 (by simp; omega))
def troubles : List Str := ["needless", "lost", "revived", "stale", "left"]
/-- a value that is no trouble; not the source -/
def ThD (h : MH) (k : Nat) (d : D) : Prop := d = .non ∨ (∃ b, d = .bl b) ∨ (∃ i, d = .int i) ∨ (∃ z, d = .str z ∧ z ∉ troubles) ∨ d = .tup [.str "lost"] ∨ (∃ n l, d = .ref n ∧ n ≠ k ∧ h[n]? = some (.lst l)) ∨ (∃ n l, d = .ref n ∧ n ≠ k ∧ h[n]? = some (.dct l))
theorem ThD.kg {h h' : MH} {k : Nat} {d : D} (p : ThD h k d) (g : KG k h h') : ThD h' k d := by
  rcases p with p | p | p | p | p | ⟨n, l, e, hn, q⟩ | ⟨n, l, e, hn, q⟩
  · exact .inl p
  · exact .inr (.inl p)
  · exact .inr (.inr (.inl p))
  · exact .inr (.inr (.inr (.inl p)))
  · exact .inr (.inr (.inr (.inr (.inl p))))
  · exact .inr (.inr (.inr (.inr (.inr (.inl ⟨n, l, e, hn, g.2 _ _ hn q⟩)))))
  · exact .inr (.inr (.inr (.inr (.inr (.inr ⟨n, l, e, hn, g.2 _ _ hn q⟩)))))
theorem ThD.same {h : MH} {k : Nat} {d : D} (p : ThD h k d) : eqv h deep d d = some true := by
  rcases p with rfl | ⟨b, rfl⟩ | ⟨i, rfl⟩ | ⟨z, rfl, _⟩ | rfl | ⟨n, l, rfl, _⟩ | ⟨n, l, rfl, _⟩
  · rfl
  · cases b <;> rfl
  · unfold deep eqv idRef eqTop isScal
    simp [scalEq]
  · unfold deep eqv idRef eqTop isScal
    simp [scalEq]
  · rfl
  · unfold deep eqv idRef
    simp
  · unfold deep eqv idRef
    simp
theorem ev_andEF {a b : EM} {e : Env} {h h1 : MH} (p : a e h = .ok (.bl false) h1) : andE a b e h = .ok (.bl false) h1 := by unfold andE; rw [p]; rfl
section
variable {e e1 : Env} {h h1 h2 : MH} {c f : Str} {fs : List (Str × D)} {d : D} {a : EM} {as bs : AM} {m m2 : SM} {xs ys : List D} {r : R D}
theorem es_raise (p : as e h = .ok [d] h1) : raiseS c f as e h = .exc c [(f, d)] e h1 := by unfold raiseS ofA; rw [p]
theorem ef_exc {np n : Nat} {ds : List D} {b : SM} (hl : ds.length = np) (p : b (ds.map some ++ List.replicate (n - ds.length) none) h = .exc c fs e1 h1) : fnM np n b ds h = .exc c fs h1 := by unfold fnM; rw [if_pos hl, p]
theorem es_expX (p : a e h = .exc c fs h1) : expS a e h = .exc c fs e h1 := by unfold expS ofE; rw [p]
theorem es_retX (p : a e h = .exc c fs h1) : retS a e h = .exc c fs e h1 := by unfold retS ofE; rw [p]
theorem es_setXc {i : Nat} (p : a e h = .exc c fs h1) : setS i a e h = .exc c fs e h1 := by unfold setS ofE; rw [p]
theorem es_seqX (p : m e h = .exc c fs e1 h1) : seqS m m2 e h = .exc c fs e1 h1 := by unfold seqS; rw [p]
theorem ev_onK {n j : Nat} {fm : FM} (p : as e h = .ok xs h1) (q : bs e h1 = .ok ys h2) (l1 : xs.length = n) (l2 : ys.length = j) (k : fm (xs ++ ys) h2 = r) : onK n j fm as bs e h = r := by
  unfold onK
  rw [p]
  show R.bind (bs e h1) _ = r
  rw [q]
  show (if xs.length = n ∧ ys.length = j then fm (xs ++ ys) h2 else .bad) = r
  rw [if_pos ⟨l1, l2⟩]
  exact k
end
theorem es_tryT {b : SM} {ct : List (Str × Bool)} {i : Nat} {s : Str → List (Str × D) → SM} {e e1 e2 : Env} {h h1 h2 : MH} {c : Str} {fs : List (Str × D)} (p : b e h = .exc c fs e1 h1) (q : ct.lookup c = some true) (hi : i < e1.length) (k : s c fs (e1.set i none) h1 = .nx e2 h2) : tryAs b ct i s e h = .nx (e2.set i none) h2 := by
  unfold tryAs
  rw [p]
  dsimp only
  rw [q]
  dsimp only
  rw [if_pos hi, k]
theorem dc_loop {n : Nat} {e0 : Env} (h2 : 2 < e0.length) : ∀ (ss : List Str) (acc : List (Key × D)) (h : MH), h[n]? = some (.dct acc) → acc.length + ss.length < 1000 →
    ∃ h', dcLoop [] (gnm 2) yesT (varE 2) (conE .non) n e0 (ss.map .str) h = .ok (.ref n) h' ∧ (∃ acc', h'[n]? = some (.dct acc')) ∧ h'.length = h.length ∧ ∀ m, m ≠ n → h'[m]? = h[m]?
  | [], acc, h, e, hl => ⟨h, by rw [List.map_nil]; unfold dcLoop; rw [if_pos it_nil], ⟨_, e⟩, rfl, fun _ _ => rfl⟩
  | s :: ss, acc, h, e, hl => by
    have pl : (putKD acc (.inr s) .non).length ≤ acc.length + 1 := by
      unfold putKD
      split
      · rw [List.length_map]; omega
      · simp
    obtain ⟨h', e1, q1, l1, k1⟩ := dc_loop h2 ss (putKD acc (.inr s) .non) (h.set n (.dct (putKD acc (.inr s) .non))) (set_get e) (by simp only [List.length_cons] at hl; omega)
    refine ⟨h', ?_, q1, by rw [l1]; simp, fun m hm => by rw [k1 m hm, List.getElem?_set_ne (Ne.symm hm)]⟩
    rw [← e1, List.map_cons]
    conv => lhs; unfold dcLoop
    rw [if_pos it_nil]
    have tg : gnm 2 (D.str s) e0 h = some (e0.set 2 (some (.str s))) := rfl
    have v2 : varE 2 (e0.set 2 (some (.str s))) h = .ok (.str s) h := ev_var (by rw [List.getElem?_set_self h2])
    rw [tg]
    dsimp only [yesT]
    rw [v2]
    dsimp only [keyOf]
    dsimp only [conE]
    rw [e]
    dsimp only
    rw [if_pos (by omega)]
theorem putJ {ci : List Str} {f c : Str} {n : Nat} {v : D} {h : MH} {fs : List (Str × D)} (e : h[n]? = some (.ins c fs)) (hc : c ∈ ci) (hl : fs.length < 1000) : ∃ h', putO ci f (.ref n) v h = some h' ∧ h'[n]? = some (.ins c (putFD f v fs)) ∧ KG n h h' := ⟨_, putI e hc hl, set_get e, KG.set⟩
theorem ne_same {h : MH} {n m : Nat} {d : D} (e : h[n]? = some (.lst [d, .bl true, .bl true])) (f : h[m]? = some (.lst [d, .bl true, .bl true])) (q : eqv h deep d d = some true) : neF (.ref n) (.ref m) h = .ok (.bl false) h := by
  have qt : eqv h deep (.bl true) (.bl true) = some true := rfl
  unfold neF eqT eqTop isScal seqOf
  dsimp only
  rw [e, f]
  dsimp only
  rw [if_pos rfl]
  unfold eqSeq
  rw [if_neg (by simp)]
  unfold eqZ
  rw [q]
  unfold eqZ
  rw [qt]
  unfold eqZ
  rw [qt]
  rfl
theorem RuleD.kg {h h' : MH} {k : Nat} {d : D} {l : List Str} {ls : List D} (p : RuleD h d l ls) (S : Src h k) (g : KG k h h') : RuleD h' d l ls := by
  obtain ⟨s, rfl, e⟩ := p
  refine ⟨s, rfl, g.2 _ _ (fun z => ?_) e⟩
  obtain ⟨r, m, e1, _⟩ := S
  rw [z, e1] at e
  cases e
theorem rev_eq {a b : Str} {h : MH} (p : a.cps.toList.reverse = b.cps.toList) : revF (.str a) h = .ok (.str b) h := by
  have : (⟨a.cps.reverse⟩ : Str) = b := by
    obtain ⟨b⟩ := b
    exact congrArg Str.mk (Array.ext' (by rw [Array.toList_reverse]; exact p))
  unfold revF
  dsimp only
  rw [this]
theorem word_ok {w : Str} {h : MH} (hw : w ∈ ([("lost" : Str), "stale", "left", "revived", "needless"] : List Str)) : w.length ≤ 1000000 ∧ (∃ z, slF (.str w) none (some (-1)) h = .ok (.str z) h ∧ z ∉ troubles) ∧ (∃ z, addF (.str w) (.str "s") h = .ok (.str z) h ∧ z ∉ troubles) ∧ (∃ z, revF (.str w) h = .ok (.str z) h ∧ z ∉ troubles) ∧ ∃ z, ixF (.str w) (.int 0) h = .ok (.str z) h ∧ z ∉ troubles := by
  simp only [List.mem_cons, List.not_mem_nil, or_false] at hw
  rcases hw with z | z | z | z | z <;> subst z
  · exact ⟨by decide, ⟨"los", rfl, by decide⟩, ⟨"losts", rfl, by decide⟩, ⟨"tsol", rev_eq (by decide), by decide⟩, ⟨"l", rfl, by decide⟩⟩
  · exact ⟨by decide, ⟨"stal", rfl, by decide⟩, ⟨"stales", rfl, by decide⟩, ⟨"elats", rev_eq (by decide), by decide⟩, ⟨"s", rfl, by decide⟩⟩
  · exact ⟨by decide, ⟨"lef", rfl, by decide⟩, ⟨"lefts", rfl, by decide⟩, ⟨"tfel", rev_eq (by decide), by decide⟩, ⟨"l", rfl, by decide⟩⟩
  · exact ⟨by decide, ⟨"revive", rfl, by decide⟩, ⟨"reviveds", rfl, by decide⟩, ⟨"deviver", rev_eq (by decide), by decide⟩, ⟨"r", rfl, by decide⟩⟩
  · exact ⟨by decide, ⟨"needles", rfl, by decide⟩, ⟨"needlesss", rfl, by decide⟩, ⟨"sseldeen", rev_eq (by decide), by decide⟩, ⟨"n", rfl, by decide⟩⟩
theorem ThD.str {h : MH} {k : Nat} {z : Str} (p : z ∉ troubles) : ThD h k (.str z) := .inr (.inr (.inr (.inl ⟨z, rfl, p⟩)))
end ML

namespace ML
open PySem PySem.Spec PyProof.Rows L2
abbrev xnames : List Str := ["BadRegisters", "BadLines", "BadLine"]
abbrev N_is_name : List Str := ["value", "letter"]
def b_is_name : SM := retS (andE (onA (isiF "str") (consA (varE 0) (consA (conE (.ty "str")) nilA))) (andE (chainE leF leF (conE (.int 1)) (onA lenF (consA (varE 0) (nilA))) (conE (.int 8))) (onA allF (consA (lcE [1] (seqI (varE 0)) (gnm 1) (yesT) (bin inF (varE 1) (conE (.str "abcdefghijklmnopqrstuvwxyz")))) (nilA)))))
def m_is_name : FM := fnM 1 2 b_is_name
abbrev N_need_registers : List Str := ["value", "name"]
def b_need_registers : SM := seqS (ifS (orT (notT (valT (un (isiT ["list", "tuple"]) (varE 0)))) (valT (bin gtF (onA lenF (consA (varE 0) (nilA))) (conE (.int 3))))) (raiseS "BadRegisters" "value" (consA (varE 0) (nilA))) (passS)) (ifS (orT (notT (valT (onA allF (consA (lcE [1] (seqI (varE 0)) (gnm 1) (yesT) (andE (onA m_is_name (consA (varE 1) (nilA))) (bin ninF (varE 1) (conE (strsD ["here", "new", "nothing", "is", "not", "from", "or", "ask", "do", "otherwise"]))))) (nilA))))) (valT (bin neF (un lensetF (varE 0)) (onA lenF (consA (varE 0) (nilA)))))) (raiseS "BadRegisters" "value" (consA (varE 0) (nilA))) (passS))
def m_need_registers : FM := fnM 1 2 b_need_registers
abbrev N_is_one_of : List Str := ["value", "words"]
def b_is_one_of : SM := retS (andE (onA (isiF "str") (consA (varE 0) (consA (conE (.ty "str")) nilA))) (bin inF (varE 0) (varE 1)))
def m_is_one_of : FM := fnM 2 2 b_is_one_of
abbrev N_is_test : List Str := ["value", "names"]
def b_is_test : SM := seqS (ifS (orT (notT (valT (onA (isiF "tuple") (consA (varE 0) (consA (conE (.ty "tuple")) nilA))))) (orT (valT (bin neF (onA lenF (consA (varE 0) (nilA))) (conE (.int 3)))) (notT (valT (onA (isiF "bool") (consA (bin ixF (varE 0) (conE (.int 2))) (consA (conE (.ty "bool")) nilA))))))) (retS (conE (.bl false))) (passS)) (retS (andE (onA m_is_one_of (consA (bin ixF (varE 0) (conE (.int 0))) (consA (onA tupF (consA (conE (.str "here")) (consA (conE (.str "new")) (starA (varE 1) (nilA))))) (nilA)))) (onA m_is_one_of (consA (bin ixF (varE 0) (conE (.int 1))) (consA (onA tupF (consA (conE (.str "here")) (consA (conE (.str "new")) (consA (conE (.str "nothing")) (starA (varE 1) (nilA)))))) (nilA))))))
def m_is_test : FM := fnM 2 2 b_is_test
abbrev N_is_step : List Str := ["value", "names"]
def b_is_step : SM := seqS (ifS (orT (notT (valT (onA (isiF "tuple") (consA (varE 0) (consA (conE (.ty "tuple")) nilA))))) (valT (bin neF (onA lenF (consA (varE 0) (nilA))) (conE (.int 2))))) (retS (conE (.bl false))) (passS)) (retS (andE (onA m_is_one_of (consA (bin ixF (varE 0) (conE (.int 0))) (consA (onA tupF (consA (conE (.str "here")) (starA (varE 1) (nilA)))) (nilA)))) (onA m_is_one_of (consA (bin ixF (varE 0) (conE (.int 1))) (consA (onA tupF (consA (conE (.str "here")) (consA (conE (.str "new")) (consA (conE (.str "nothing")) (starA (varE 1) (nilA)))))) (nilA))))))
def m_is_step : FM := fnM 2 2 b_is_step
abbrev N_are_steps : List Str := ["value", "names", "step"]
def b_are_steps : SM := retS (andE (onA (isiF "tuple") (consA (varE 0) (consA (conE (.ty "tuple")) nilA))) (andE (bin leF (onA lenF (consA (varE 0) (nilA))) (conE (.int 4))) (onA allF (consA (lcE [2] (seqI (varE 0)) (gnm 2) (yesT) (onA m_is_step (consA (varE 2) (consA (varE 1) (nilA))))) (nilA)))))
def m_are_steps : FM := fnM 2 3 b_are_steps
abbrev N_is_line : List Str := ["value", "names", "tests", "steps", "test"]
def b_is_line : SM := seqS (ifS (orT (notT (valT (onA (isiF "tuple") (consA (varE 0) (consA (conE (.ty "tuple")) nilA))))) (valT (bin ninF (onA lenF (consA (varE 0) (nilA))) (onA tupF (consA (conE (.int 2)) (consA (conE (.int 3)) (nilA))))))) (retS (conE (.bl false))) (passS)) (seqS (setS 2 (bin ixF (varE 0) (conE (.int 0)))) (seqS (ifS (orT (notT (valT (onA (isiF "tuple") (consA (varE 2) (consA (conE (.ty "tuple")) nilA))))) (orT (valT (bin gtF (onA lenF (consA (varE 2) (nilA))) (conE (.int 4)))) (notT (valT (onA allF (consA (lcE [4] (seqI (varE 2)) (gnm 4) (yesT) (onA m_is_test (consA (varE 4) (consA (varE 1) (nilA))))) (nilA))))))) (retS (conE (.bl false))) (passS)) (retS (onA allF (consA (lcE [3] (seqI (slE (varE 0) (someO (conE (.int 1))) (noO))) (gnm 3) (yesT) (onA m_are_steps (consA (varE 3) (consA (varE 1) (nilA))))) (nilA))))))
def m_is_line : FM := fnM 2 5 b_is_line
abbrev N_Rule_init : List Str := ["self", "registers", "lines", "position", "line"]
def b_Rule_init : SM := seqS (expS (onA m_need_registers (consA (varE 1) (nilA)))) (seqS (ifS (orT (notT (valT (un (isiT ["list", "tuple"]) (varE 2)))) (notT (valT (chainE leF leF (conE (.int 1)) (onA lenF (consA (varE 2) (nilA))) (conE (.int 8)))))) (raiseS "BadLines" "value" (consA (varE 2) (nilA))) (passS)) (seqS (forS (enumI2 (consA (varE 2) (nilA))) (gtp [gnm 3, gnm 4]) (ifS (orT (notT (valT (onA m_is_line (consA (varE 4) (consA (varE 1) (nilA)))))) (andT (valT (bin eqF (varE 3) (bin subF (onA lenF (consA (varE 2) (nilA))) (conE (.int 1))))) (valT (bin neF (bin ixF (varE 4) (conE (.int 0))) (onA tupF (nilA)))))) (raiseS "BadLine" "position" (consA (varE 3) (nilA))) (passS))) (seqS (stFld ["Rule"] "own_names" (varE 0) (onA tupleF (consA (varE 1) (nilA)))) (stFld ["Rule"] "rows" (varE 0) (onA tupleF (consA (varE 2) (nilA)))))))
def m_Rule_init : FM := fnM 3 5 b_Rule_init
abbrev N_Rule_eq : List Str := ["self", "other"]
def b_Rule_eq : SM := retS (andE (un (isxF noKinds (tabOf ["Rule", "File"] fun n => decide (n = "Rule")) []) (varE 1)) (andE (bin eqF (un (fldF ["Rule"] [] "own_names") (varE 0)) (un (fldF ["Rule"] [] "own_names") (varE 1))) (bin eqF (un (fldF ["Rule"] [] "rows") (varE 0)) (un (fldF ["Rule"] [] "rows") (varE 1)))))
def m_Rule_eq : FM := fnM 2 2 b_Rule_eq
abbrev N_File_init : List Str := ["self", "rule", "name"]
def b_File_init : SM := seqS (stFld ["File"] "rule" (varE 0) (varE 1)) (seqS (stFld ["File"] "held" (varE 0) (dcE [2] (seqI (onA tupF (consA (conE (.str "here")) (starA (un (fldF ["Rule"] [] "own_names") (varE 1)) (nilA))))) (gnm 2) (yesT) (varE 2) (conE .non))) (seqS (stFld ["File"] "last" (varE 0) (conE .non)) (seqS (stFld ["File"] "mark" (varE 0) (conE (.str "none"))) (seqS (stFld ["File"] "mine" (varE 0) (conE .non)) (stFld ["File"] "is_amid" (varE 0) (conE (.bl false)))))))
def m_File_init : FM := fnM 2 3 b_File_init
abbrev N_File_eq : List Str := ["self", "other", "mine"]
def neX_File_eq : D → D → MH → R D := (eqIF true "Rule" ["Rule", "File"] m_Rule_eq neF)
def b_File_eq : SM := seqS (ifS (orT (notT (valT (un (isxF noKinds (tabOf ["Rule", "File"] fun n => decide (n = "File")) []) (varE 1)))) (valT (bin neX_File_eq (un (fldF ["File"] [] "rule") (varE 0)) (un (fldF ["File"] [] "rule") (varE 1))))) (retS (conE (.bl false))) (passS)) (neverS)
def m_File_eq : FM := fnM 2 3 b_File_eq
abbrev N_law_source : List Str := ["script", "start", "mixed", "cell", "rest"]
def b_law_source : SM := seqS (setS 2 (bin addF (conE (.int 43)) (varE 1))) (seqS (forS (seqI (varE 0)) (gnm 3) (setS 2 (bin addF (bin modF (onA intF (consA (bin powF (onA intF (consA (bin addF (bin mulF (varE 2) (conE (.int 50021))) (onA intF (consA (varE 3) (nilA)))) (nilA))) (conE (.int 3))) (nilA))) (conE (.int 2147483563))) (conE (.int 1))))) (seqS (setS 4 (conE (.int 0))) (seqS (ifS (andT (valT (bin ltF (varE 1) (onA lenF (consA (varE 0) (nilA))))) (valT (bin geF (bin ixF (varE 0) (varE 1)) (bin powF (conE (.int 10)) (conE (.int 18)))))) (setS 4 (bin subF (bin ixF (varE 0) (varE 1)) (bin powF (conE (.int 10)) (conE (.int 18))))) (passS)) (retS (onA lstF (consA (varE 4) (consA (varE 2) (nilA))))))))
def m_law_source : FM := fnM 2 5 b_law_source
abbrev N_law_draw : List Str := ["source", "span", "found"]
def b_law_draw : SM := seqS (ifS (valT (bin geF (bin ixF (varE 0) (conE (.int 0))) (varE 1))) (seqS (setS 2 (bin modF (onA intF (consA (bin ixF (varE 0) (conE (.int 0))) (nilA))) (varE 1))) (seqS (setX (varE 0) (conE (.int 0)) (bin fdivF (bin ixF (varE 0) (conE (.int 0))) (varE 1))) (retS (varE 2)))) (passS)) (seqS (setX (varE 0) (conE (.int 1)) (bin modF (onA intF (consA (bin addF (bin mulF (bin ixF (varE 0) (conE (.int 1))) (conE (.int 69621))) (conE (.int 3571))) (nilA))) (conE (.int 2147483647)))) (retS (bin modF (onA intF (consA (bin fdivF (bin modF (onA intF (consA (bin powF (onA intF (consA (bin ixF (varE 0) (conE (.int 1))) (nilA))) (conE (.int 5))) (nilA))) (conE (.int 1000000007))) (conE (.int 13))) (nilA))) (varE 1))))
def m_law_draw : FM := fnM 2 3 b_law_draw
abbrev N_law_pick : List Str := ["source", "things"]
def b_law_pick : SM := retS (bin ixF (varE 1) (onA m_law_draw (consA (varE 0) (consA (onA lenF (consA (varE 1) (nilA))) (nilA)))))
def m_law_pick : FM := fnM 2 2 b_law_pick
abbrev N_law_mixed : List Str := ["source", "things", "lot", "found"]
def b_law_mixed : SM := seqS (parS [2, 3] (consA (onA listF (consA (varE 1) (nilA))) (consA (onA lstF (nilA)) (nilA)))) (seqS (whileS (valT (bin neF (varE 2) (onA lstF (nilA)))) (expS (bmE "list" appF (varE 3) (consA (bmE "list" popF (varE 2) (consA (onA m_law_draw (consA (varE 0) (consA (onA lenF (consA (varE 2) (nilA))) (nilA)))) (nilA))) (nilA)))) 100) (retS (varE 3)))
def m_law_mixed : FM := fnM 2 4 b_law_mixed
abbrev N_law_steps : List Str := ["source", "lot", "most", "found", "turn", "target"]
def b_law_steps : SM := seqS (setS 3 (onA lstF (nilA))) (seqS (forS (rng1I (consA (onA m_law_draw (consA (varE 0) (consA (bin addF (varE 2) (conE (.int 1))) (nilA)))) (nilA))) (gnm 4) (seqS (setS 5 (onA m_law_pick (consA (varE 0) (consA (bin addF (onA lstF (consA (conE (.str "here")) (nilA))) (onA listF (consA (varE 1) (nilA)))) (nilA))))) (expS (bmE "list" appF (varE 3) (consA (onA tupF (consA (varE 5) (consA (onA m_law_pick (consA (varE 0) (consA (bin addF (onA lstF (consA (conE (.str "new")) (consA (conE (.str "new")) (consA (conE (.str "here")) (consA (conE (.str "nothing")) (nilA)))))) (onA listF (consA (varE 1) (nilA)))) (nilA)))) (nilA)))) (nilA)))))) (retS (onA tupleF (consA (varE 3) (nilA)))))
def m_law_steps : FM := fnM 3 6 b_law_steps
abbrev N_law_tests : List Str := ["source", "lot", "most", "turn", "kind", "found", "one", "other"]
def b_law_tests : SM := seqS (parS [4, 5] (consA (onA m_law_draw (consA (varE 0) (consA (conE (.int 9)) (nilA)))) (consA (onA lstF (nilA)) (nilA)))) (seqS (forS (rng1I (consA (ifE (valT (bin gtF (varE 4) (conE (.int 0)))) (bin addF (conE (.int 1)) (onA m_law_draw (consA (varE 0) (consA (varE 2) (nilA))))) (conE (.int 0))) (nilA))) (gnm 3) (seqS (setS 6 (onA m_law_pick (consA (varE 0) (consA (bin addF (onA lstF (consA (conE (.str "here")) (consA (conE (.str "here")) (consA (conE (.str "new")) (nilA))))) (onA listF (consA (varE 1) (nilA)))) (nilA))))) (seqS (setS 7 (onA m_law_pick (consA (varE 0) (consA (bin addF (onA lstF (consA (conE (.str "new")) (consA (conE (.str "here")) (consA (conE (.str "nothing")) (nilA))))) (onA listF (consA (varE 1) (nilA)))) (nilA))))) (expS (bmE "list" appF (varE 5) (consA (onA tupF (consA (varE 6) (consA (varE 7) (consA (bin gtF (onA m_law_draw (consA (varE 0) (consA (conE (.int 3)) (nilA)))) (conE (.int 0))) (nilA))))) (nilA))))))) (retS (ifE (valT (bin eqF (varE 4) (conE (.int 1)))) (onA tupleF (consA (bin addF (bin mulF (onA lstF (consA (onA tupF (consA (conE (.str "here")) (consA (conE (.str "here")) (consA (conE (.bl true)) (nilA))))) (nilA))) (bin subF (conE (.int 4)) (onA lenF (consA (varE 5) (nilA))))) (varE 5)) (nilA))) (onA tupleF (consA (varE 5) (nilA))))))
def m_law_tests : FM := fnM 3 8 b_law_tests
abbrev N_law_good : List Str := ["source", "note", "lines", "kind"]
def b_law_good : SM := seqS (setS 2 (onA lstF (consA (onA tupF (consA (onA tupF (consA (onA tupF (consA (conE (.str "here")) (consA (varE 1) (consA (conE (.bl true)) (nilA))))) (nilA))) (consA (onA tupF (consA (onA tupF (consA (conE (.str "here")) (consA (conE (.str "new")) (nilA)))) (consA (onA tupF (consA (varE 1) (consA (conE (.str "new")) (nilA)))) (nilA)))) (nilA)))) (consA (onA tupF (consA (onA tupF (consA (onA tupF (consA (conE (.str "here")) (consA (conE (.str "new")) (consA (conE (.bl true)) (nilA))))) (nilA))) (consA (onA tupF (consA (onA tupF (consA (varE 1) (consA (conE (.str "new")) (nilA)))) (nilA))) (nilA)))) (nilA))))) (seqS (expS (bmE "list" appF (varE 2) (consA (onA tupF (consA (onA tupF (consA (onA tupF (consA (conE (.str "new")) (consA (varE 1) (consA (conE (.bl true)) (nilA))))) (nilA))) (consA (onA tupF (nilA)) (nilA)))) (nilA)))) (seqS (setS 3 (onA m_law_draw (consA (varE 0) (consA (conE (.int 5)) (nilA))))) (seqS (ifS (valT (bin eqF (varE 3) (conE (.int 0)))) (expS (bmE "list" popF (varE 2) (consA (onA m_law_draw (consA (varE 0) (consA (conE (.int 3)) (nilA)))) (nilA)))) (passS)) (seqS (ifS (valT (bin eqF (varE 3) (conE (.int 1)))) (setS 2 (onA m_law_mixed (consA (varE 0) (consA (varE 2) (nilA))))) (passS)) (seqS (ifS (valT (bin eqF (varE 3) (conE (.int 2)))) (setX (varE 2) (conE (.int 0)) (onA tupF (consA (bin ixF (bin ixF (varE 2) (conE (.int 0))) (conE (.int 0))) (consA (revE (bin ixF (bin ixF (varE 2) (conE (.int 0))) (conE (.int 1)))) (nilA))))) (passS)) (retS (varE 2)))))))
def m_law_good : FM := fnM 2 4 b_law_good
abbrev N_law_noted_as : List Str := ["word", "names", "lines", "found", "line", "lists", "part", "name", "entry", "one"]
def b_law_noted_as : SM := seqS (setS 3 (onA lstF (nilA))) (seqS (forS (seqI (varE 2)) (gnm 4) (seqS (setS 5 (lcE [6] (seqI (varE 4)) (gnm 6) (yesT) (onA tupleF (consA (lcE [8] (seqI (varE 6)) (gnm 8) (yesT) (onA tupleF (consA (lcE [9] (seqI (varE 8)) (gnm 9) (yesT) (ifE (valT (bin eqF (varE 9) (conE (.str "was")))) (varE 0) (varE 9))) (nilA)))) (nilA))))) (expS (bmE "list" appF (varE 3) (consA (onA tupleF (consA (varE 5) (nilA))) (nilA)))))) (retS (onA tupF (consA (onA tupleF (consA (lcE [7] (seqI (varE 1)) (gnm 7) (yesT) (ifE (valT (bin eqF (varE 7) (conE (.str "was")))) (varE 0) (varE 7))) (nilA))) (consA (onA tupleF (consA (varE 3) (nilA))) (nilA))))))
def m_law_noted_as : FM := fnM 3 10 b_law_noted_as
abbrev N_law_plan : List Str := ["source", "some", "names", "lines", "turn", "ends", "word", "line"]
def b_law_plan : SM := seqS (setS 1 (onA lstF (consA (onA tupF (nilA)) (consA (onA tupF (consA (conE (.str "was")) (nilA))) (consA (onA tupF (consA (conE (.str "was")) (nilA))) (consA (onA tupF (consA (conE (.str "beside")) (nilA))) (consA (onA tupF (consA (conE (.str "was")) (consA (conE (.str "due")) (nilA)))) (consA (onA tupF (consA (conE (.str "beside")) (consA (conE (.str "was")) (nilA)))) (consA (onA tupF (consA (conE (.str "elder")) (consA (conE (.str "was")) (nilA)))) (consA (onA tupF (consA (conE (.str "was")) (consA (conE (.str "elder")) (nilA)))) (nilA))))))))))) (seqS (setS 2 (onA m_law_pick (consA (varE 0) (consA (bin addF (varE 1) (onA lstF (consA (onA tupF (consA (conE (.str "beside")) (consA (conE (.str "elder")) (nilA)))) (consA (onA tupF (consA (conE (.str "due")) (consA (conE (.str "beside")) (consA (conE (.str "was")) (nilA))))) (consA (onA tupF (consA (conE (.str "elder")) (consA (conE (.str "beside")) (consA (conE (.str "was")) (nilA))))) (nilA)))))) (nilA))))) (seqS (setS 3 (onA lstF (nilA))) (seqS (ifS (andT (valT (bin inF (conE (.str "was")) (varE 2))) (valT (bin gtF (onA m_law_draw (consA (varE 0) (consA (conE (.int 3)) (nilA)))) (conE (.int 0))))) (setS 3 (onA m_law_good (consA (varE 0) (consA (conE (.str "was")) (nilA))))) (passS)) (seqS (forS (rng1I (consA (onA m_law_draw (consA (varE 0) (consA (conE (.int 3)) (nilA)))) (nilA))) (gnm 4) (seqS (setS 7 (onA tupF (consA (onA m_law_tests (consA (varE 0) (consA (varE 2) (consA (conE (.int 2)) (nilA))))) (consA (onA m_law_steps (consA (varE 0) (consA (varE 2) (consA (conE (.int 3)) (nilA))))) (nilA))))) (seqS (ifS (valT (bin eqF (onA m_law_draw (consA (varE 0) (consA (conE (.int 4)) (nilA)))) (conE (.int 0)))) (setS 7 (bin addF (varE 7) (onA tupF (consA (onA m_law_steps (consA (varE 0) (consA (varE 2) (consA (conE (.int 2)) (nilA))))) (nilA))))) (passS)) (expS (bmE "list" insF (varE 3) (consA (onA m_law_draw (consA (varE 0) (consA (bin addF (onA lenF (consA (varE 3) (nilA))) (conE (.int 1))) (nilA)))) (consA (varE 7) (nilA)))))))) (seqS (setS 5 (onA lstF (consA (onA tupF (consA (onA tupF (nilA)) (consA (onA m_law_steps (consA (varE 0) (consA (varE 2) (consA (conE (.int 3)) (nilA))))) (nilA)))) (consA (onA tupF (consA (onA tupF (nilA)) (consA (onA tupF (consA (onA tupF (consA (conE (.str "here")) (consA (conE (.str "new")) (nilA)))) (nilA))) (nilA)))) (nilA))))) (seqS (ifS (valT (bin inF (conE (.str "was")) (varE 2))) (setS 5 (bin addF (varE 5) (bin mulF (onA lstF (consA (onA tupF (consA (onA tupF (nilA)) (consA (onA tupF (consA (onA tupF (consA (conE (.str "here")) (consA (conE (.str "new")) (nilA)))) (consA (onA tupF (consA (conE (.str "was")) (consA (conE (.str "new")) (nilA)))) (nilA)))) (consA (onA tupF (consA (onA tupF (consA (conE (.str "was")) (consA (conE (.str "new")) (nilA)))) (nilA))) (nilA))))) (nilA))) (conE (.int 4))))) (passS)) (seqS (ifS (valT (bin inF (conE (.str "beside")) (varE 2))) (setS 5 (bin addF (varE 5) (onA lstF (consA (onA tupF (consA (onA tupF (nilA)) (consA (onA tupF (consA (onA tupF (consA (conE (.str "beside")) (consA (conE (.str "here")) (nilA)))) (consA (onA tupF (consA (conE (.str "here")) (consA (conE (.str "new")) (nilA)))) (nilA)))) (nilA)))) (consA (onA tupF (consA (onA tupF (nilA)) (consA (onA tupF (consA (onA tupF (consA (conE (.str "beside")) (consA (conE (.str "new")) (nilA)))) (nilA))) (nilA)))) (nilA)))))) (passS)) (seqS (setS 6 (onA m_law_pick (consA (varE 0) (consA (onA lstF (consA (conE (.str "was")) (consA (conE (.str "was")) (consA (conE (.str "was")) (consA (conE (.str "last")) (consA (conE (.str "mark")) (consA (conE (.str "mine")) (consA (conE (.str "own")) (consA (conE (.str "take")) (nilA)))))))))) (nilA))))) (retS (onA m_law_noted_as (consA (varE 6) (consA (varE 2) (consA (bin addF (varE 3) (onA lstF (consA (onA m_law_pick (consA (varE 0) (consA (varE 5) (nilA)))) (nilA)))) (nilA))))))))))))))
def m_law_plan : FM := fnM 1 8 b_law_plan
abbrev N_law_rule : List Str := ["plan"]
def b_law_rule : SM := retS (onA (makeF "Rule" m_Rule_init) (consA (onA listF (consA (bin ixF (varE 0) (conE (.int 0))) (nilA))) (consA (onA listF (consA (bin ixF (varE 0) (conE (.int 1))) (nilA))) (nilA))))
def m_law_rule : FM := fnM 1 1 b_law_rule
abbrev N_law_changed : List Str := ["source", "plan", "line", "found", "names", "lines", "kind", "at", "test"]
def b_law_changed : SM := seqS (asgS (gtp [gnm 4, gnm 5]) (varE 1)) (seqS (parS [6, 7] (consA (onA m_law_draw (consA (varE 0) (consA (conE (.int 10)) (nilA)))) (consA (onA m_law_draw (consA (varE 0) (consA (onA lenF (consA (varE 5) (nilA))) (nilA)))) (nilA)))) (seqS (setS 2 (bin ixF (varE 5) (varE 7))) (seqS (ifS (andT (valT (bin eqF (varE 6) (conE (.int 0)))) (valT (bin gtF (onA lenF (consA (varE 4) (nilA))) (conE (.int 1))))) (retS (onA tupF (consA (revE (varE 4)) (consA (varE 5) (nilA))))) (passS)) (seqS (ifS (valT (bin eqF (varE 6) (conE (.int 1)))) (retS (ifE (valT (bin ltF (onA lenF (consA (varE 5) (nilA))) (conE (.int 8)))) (onA tupF (consA (varE 4) (consA (bin addF (onA tupF (consA (onA tupF (consA (onA tupF (consA (onA tupF (consA (conE (.str "new")) (consA (conE (.str "here")) (consA (conE (.bl true)) (nilA))))) (nilA))) (consA (onA tupF (nilA)) (nilA)))) (nilA))) (varE 5)) (nilA)))) (conE .non))) (passS)) (seqS (ifS (valT (bin eqF (varE 6) (conE (.int 2)))) (retS (ifE (valT (bin eqF (onA lenF (consA (varE 2) (nilA))) (conE (.int 2)))) (onA tupF (consA (varE 4) (consA (bin addF (bin addF (slE (varE 5) (noO) (someO (varE 7))) (onA tupF (consA (bin addF (varE 2) (onA tupF (consA (onA tupF (nilA)) (nilA)))) (nilA)))) (slE (varE 5) (someO (bin addF (varE 7) (conE (.int 1)))) (noO))) (nilA)))) (conE .non))) (passS)) (seqS (ifS (andT (valT (bin eqF (varE 6) (conE (.int 3)))) (valT (bin neF (bin ixF (varE 2) (conE (.int 0))) (onA tupF (nilA))))) (seqS (setS 8 (bin ixF (bin ixF (varE 2) (conE (.int 0))) (conE (.int 0)))) (retS (onA tupF (consA (varE 4) (consA (bin addF (bin addF (slE (varE 5) (noO) (someO (varE 7))) (onA tupF (consA (bin addF (onA tupF (consA (bin addF (onA tupF (consA (onA tupF (consA (bin ixF (varE 8) (conE (.int 0))) (consA (bin ixF (varE 8) (conE (.int 1))) (consA (notE (bin ixF (varE 8) (conE (.int 2)))) (nilA))))) (nilA))) (slE (bin ixF (varE 2) (conE (.int 0))) (someO (conE (.int 1))) (noO))) (nilA))) (slE (varE 2) (someO (conE (.int 1))) (noO))) (nilA)))) (slE (varE 5) (someO (bin addF (varE 7) (conE (.int 1)))) (noO))) (nilA)))))) (passS)) (seqS (ifS (andT (valT (bin eqF (varE 6) (conE (.int 4)))) (valT (bin ltF (onA lenF (consA (bin ixF (varE 2) (conE (.int 1))) (nilA))) (conE (.int 4))))) (retS (onA tupF (consA (varE 4) (consA (bin addF (bin addF (slE (varE 5) (noO) (someO (varE 7))) (onA tupF (consA (bin addF (onA tupF (consA (bin ixF (varE 2) (conE (.int 0))) (consA (bin addF (bin ixF (varE 2) (conE (.int 1))) (onA tupF (consA (onA tupF (consA (conE (.str "here")) (consA (conE (.str "here")) (nilA)))) (nilA)))) (nilA)))) (slE (varE 2) (someO (conE (.int 2))) (noO))) (nilA)))) (slE (varE 5) (someO (bin addF (varE 7) (conE (.int 1)))) (noO))) (nilA))))) (passS)) (seqS (ifS (andT (valT (bin eqF (varE 6) (conE (.int 5)))) (valT (bin ltF (onA lenF (consA (varE 4) (nilA))) (conE (.int 3))))) (retS (onA tupF (consA (bin addF (varE 4) (onA tupF (consA (conE (.str "more")) (nilA)))) (consA (varE 5) (nilA))))) (passS)) (seqS (ifS (andT (valT (bin eqF (varE 6) (conE (.int 6)))) (andT (valT (bin ltF (varE 7) (bin subF (onA lenF (consA (varE 5) (nilA))) (conE (.int 2))))) (valT (bin neF (bin ixF (varE 5) (bin addF (varE 7) (conE (.int 1)))) (varE 2))))) (retS (onA tupF (consA (varE 4) (consA (bin addF (bin addF (slE (varE 5) (noO) (someO (varE 7))) (onA tupF (consA (bin ixF (varE 5) (bin addF (varE 7) (conE (.int 1)))) (consA (varE 2) (nilA))))) (slE (varE 5) (someO (bin addF (varE 7) (conE (.int 2)))) (noO))) (nilA))))) (passS)) (seqS (setS 3 (varE 2)) (seqS (ifS (valT (bin eqF (varE 6) (conE (.int 7)))) (setS 3 (bin addF (onA tupF (consA (revE (bin ixF (varE 2) (conE (.int 0)))) (nilA))) (slE (varE 2) (someO (conE (.int 1))) (noO)))) (passS)) (seqS (ifS (valT (bin eqF (varE 6) (conE (.int 8)))) (setS 3 (bin addF (onA tupF (consA (bin ixF (varE 2) (conE (.int 0))) (consA (revE (bin ixF (varE 2) (conE (.int 1)))) (nilA)))) (slE (varE 2) (someO (conE (.int 2))) (noO)))) (passS)) (seqS (ifS (andT (valT (bin eqF (varE 6) (conE (.int 9)))) (andT (valT (bin eqF (onA lenF (consA (varE 2) (nilA))) (conE (.int 3)))) (valT (bin ltF (onA lenF (consA (bin ixF (varE 2) (conE (.int 2))) (nilA))) (conE (.int 4)))))) (setS 3 (bin addF (slE (varE 2) (noO) (someO (conE (.int 2)))) (onA tupF (consA (bin addF (bin ixF (varE 2) (conE (.int 2))) (onA tupF (consA (onA tupF (consA (conE (.str "here")) (consA (conE (.str "here")) (nilA)))) (nilA)))) (nilA))))) (passS)) (retS (ifE (valT (bin neF (varE 3) (varE 2))) (onA tupF (consA (varE 4) (consA (bin addF (bin addF (slE (varE 5) (noO) (someO (varE 7))) (onA tupF (consA (varE 3) (nilA)))) (slE (varE 5) (someO (bin addF (varE 7) (conE (.int 1)))) (noO))) (nilA)))) (conE .non))))))))))))))))
def m_law_changed : FM := fnM 2 9 b_law_changed
abbrev N_law : List Str := ["script", "start", "source", "turn", "plan", "second", "bent", "things", "one", "two", "other", "thing"]
def eqX_law : D → D → MH → R D := (eqIF false "Rule" ["Rule", "File"] m_Rule_eq (eqIF false "File" ["Rule", "File"] m_File_eq (eqBF "Rule" m_Rule_eq (eqBF "File" m_File_eq eqF))))
def neX_law : D → D → MH → R D := (eqIF true "Rule" ["Rule", "File"] m_Rule_eq (eqIF true "File" ["Rule", "File"] m_File_eq neF))
def b_law : SM := seqS (forS (rng1I (consA (onA max2F (consA (conE (.int 1)) (consA (onA min2F (consA (conE (.int 4)) (consA (onA lenF (consA (varE 0) (nilA))) (nilA)))) (nilA)))) (nilA))) (gnm 1) (seqS (setS 2 (onA m_law_source (consA (varE 0) (consA (varE 1) (nilA))))) (forS (rng1I (consA (conE (.int 8)) (nilA))) (gnm 3) (seqS (setS 4 (onA m_law_plan (consA (varE 2) (nilA)))) (seqS (asgS (gtp [gnm 8, gnm 9]) (onA tupF (consA (onA m_law_rule (consA (varE 4) (nilA))) (consA (onA (makeF "Rule" m_Rule_init) (consA (bin ixF (varE 4) (conE (.int 0))) (consA (bin ixF (varE 4) (conE (.int 1))) (nilA)))) (nilA))))) (seqS (ifS (orT (notT (valT (bin eqX_law (varE 8) (varE 9)))) (orT (valT (bin neX_law (varE 8) (varE 9))) (orT (notT (valT (bin eqX_law (varE 9) (varE 8)))) (notT (valT (bin eqX_law (varE 9) (varE 9))))))) (retS (conE (.bl false))) (passS)) (seqS (setS 5 (onA m_law_plan (consA (varE 2) (nilA)))) (seqS (ifS (valT (bin neX_law (bin eqX_law (varE 8) (onA m_law_rule (consA (varE 5) (nilA)))) (bin eqX_law (varE 5) (varE 4)))) (retS (conE (.bl false))) (passS)) (seqS (setS 6 (onA m_law_changed (consA (varE 2) (consA (varE 4) (nilA))))) (seqS (ifS (valT (bin isntNF (varE 6) (conE .non))) (seqS (setS 10 (onA m_law_rule (consA (varE 6) (nilA)))) (ifS (orT (valT (bin eqX_law (varE 8) (varE 10))) (orT (notT (valT (bin neX_law (varE 8) (varE 10)))) (valT (bin eqX_law (varE 10) (varE 8))))) (retS (conE (.bl false))) (passS))) (passS)) (seqS (setS 7 (onA lstF (consA (conE .non) (consA (conE (.int 0)) (consA (conE (.str "")) (consA (varE 4) (consA (bin ixF (varE 4) (conE (.int 0))) (consA (bin ixF (varE 4) (conE (.int 1))) (consA (onA listF (consA (bin ixF (varE 4) (conE (.int 1))) (nilA))) (consA (dct0E) (consA (onA (makeF "File" m_File_init) (consA (varE 8) (nilA))) (consA (conE (.bl true)) (nilA))))))))))))) (ifS (valT (bin neX_law (lcE [11] (seqI (varE 7)) (gnm 11) (orT (valT (bin eqX_law (varE 8) (varE 11))) (valT (bin eqX_law (varE 11) (varE 8)))) (varE 11)) (onA lstF (nilA)))) (retS (conE (.bl false))) (passS))))))))))))) (retS (conE (.bl true)))
end ML

namespace ML
open PySem PySem.Spec PyProof.Rows L2
def top (i : Nat) : Stmt := PySem.Challenge.pw_stillmine_k02_rules_compared.main.body.getD i (.Pass ⟨0, 0, 0, 0⟩)
/-- what the module's names hold -/
structure Txt (P : Program) (w : World) (K : PySem.W.Frag) (mg : Str → Option Value) (base : Heap) : Prop where
  n_all : mg "all" = none
  n_bool : mg "bool" = none
  n_enumerate : mg "enumerate" = none
  n_int : mg "int" = none
  n_isinstance : mg "isinstance" = none
  n_len : mg "len" = none
  n_list : mg "list" = none
  n_max : mg "max" = none
  n_min : mg "min" = none
  n_range : mg "range" = none
  n_set : mg "set" = none
  n_str : mg "str" = none
  n_tuple : mg "tuple" = none
  x_BadRegisters : XcC P w K mg base "BadRegisters" "value"
  x_BadLines : XcC P w K mg base "BadLines" "value"
  x_BadLine : XcC P w K mg base "BadLine" "position"
  m_File : mg "File" = some (.ref (adr mg "File"))
  i_File : IsTab K mg (.ref (adr mg "File")) noKinds (tabOf ["Rule", "File"] fun n => decide (n = "File")) []
  m_Rule : mg "Rule" = some (.ref (adr mg "Rule"))
  i_Rule : IsTab K mg (.ref (adr mg "Rule")) noKinds (tabOf ["Rule", "File"] fun n => decide (n = "Rule")) []
  f_held : FldOk K mg ["File"] [] "held"
  f_is_amid : FldOk K mg ["File"] [] "is_amid"
  f_last : FldOk K mg ["File"] [] "last"
  f_mark : FldOk K mg ["File"] [] "mark"
  f_mine : FldOk K mg ["File"] [] "mine"
  f_own_names : FldOk K mg ["Rule"] [] "own_names"
  f_rows : FldOk K mg ["Rule"] [] "rows"
  f_rule : FldOk K mg ["File"] [] "rule"
  c_BARRED : TupG K mg "BARRED" ["here", "new", "nothing", "is", "not", "from", "or", "ask", "do", "otherwise"]
  c_LETTERS : StrG mg "LETTERS" "abcdefghijklmnopqrstuvwxyz"
  c_MOST_LINES : IntG mg "MOST_LINES" 8
  c_MOST_REGISTERS : IntG mg "MOST_REGISTERS" 3
  c_MOST_STEPS : IntG mg "MOST_STEPS" 4
  c_MOST_TESTS : IntG mg "MOST_TESTS" 4
  c_NONE : StrG mg "NONE" "none"
section
variable {P : Program} {w : World} {K : PySem.W.Frag} {mg : Str → Option Value} {base : Heap}
abbrev s_is_name : Stmt := top 19
theorem sc_is_name : FnScope N_is_name ["value"] (defScope s_is_name) := ⟨rfl, rfl, rfl, by decide +kernel, rfl, by decide +kernel, by decide +kernel⟩
theorem ok_is_name {f : Addr} {fd : FuncData} (F : Fun K "is_name" "is_name" s_is_name f fd) (T : Txt P w K mg base)  : FnOk P w K mg base (L2.CX P w) 1 f fd ["value"] (spM ⟨K, mg⟩ 1 m_is_name) :=
  fn_ok F sc_is_name fun cdv A outer s H E hr tk => by
    have hu := hr.units
    exact ss_one (s_ret (e_and (e_callB call_isi (rf_isi (by decide)) (by rfl) T.n_isinstance bb_isinstance (a_cons (e_var 0 (pv 0)) (a_cons (e_con (v := .ty "str") (pe_bltn (by rfl) T.n_str bb_str rfl) (fun _ _ => by unfold RD; rfl)) a_nil))) (e_and (e_chain op_leM rf_le op_leM rf_le (e_int) (e_callB call_lenM rf_len (by rfl) T.n_len bb_len (a_cons (e_var 0 (pv 0)) (a_nil))) (e_int)) (e_one (e_callB (cr_all rfl) rf_all (by rfl) T.n_all bb_all (a_cons (e_lc (own := [("letter", 1)]) rfl sc_is_name.nd (i_any (e_var 0 (pv 0))) (blkOk_by (N := N_is_name) (sc := defScope s_is_name) (by decide +kernel)) (fun _ _ _ _ _ => g_name 1 sc_is_name.nd rfl (by first | exact Or.inl rfl | exact Or.inr rfl)) (fun _ _ _ _ _ => ts_nil) (fun _ _ _ _ _ => e_cmp (op_inM hu) rf_in (e_var 1 (pv 1)) (e_gstr T.c_LETTERS (by rfl)) (by with_unfolding_all rfl))) (a_nil)))))))
abbrev s_need_registers : Stmt := top 20
theorem sc_need_registers : FnScope N_need_registers ["value"] (defScope s_need_registers) := ⟨rfl, rfl, rfl, by decide +kernel, rfl, by decide +kernel, by decide +kernel⟩
theorem ok_need_registers {f : Addr} {fd : FuncData} (F : Fun K "need_registers" "need_registers" s_need_registers f fd) (T : Txt P w K mg base) (C_is_name : Cal P w K mg base "is_name" 1 m_is_name) : FnOk P w K mg base (L2.CX P w) 3 f fd ["value"] (spM ⟨K, mg⟩ 1 m_need_registers) :=
  fn_ok F sc_need_registers fun cdv A outer s H E hr tk => by
    have hu := hr.units
    exact ss_cons (s_if (PW.pt (w_or (t_not (t_val (e_isi2 (by rfl) T.n_isinstance (e_var 0 (pv 0)) (pe_bltn (by rfl) T.n_list bb_list rfl) (pe_bltn (by rfl) T.n_tuple bb_tuple rfl)))) (w_or1 (t_cmp op_gtM rf_gt (e_callB call_lenM rf_len (by rfl) T.n_len bb_len (a_cons (e_var 0 (pv 0)) (a_nil))) (e_gint T.c_MOST_REGISTERS (by rfl)) (nomark _))))) (ss_one (s_raise tk rfl T.x_BadRegisters (hr.mono (by decide)) (by rfl) (a_cons (e_var 0 (pv 0)) (a_nil)))) (ss_nil)) (ss_one (s_if (PW.pt (w_or (t_not (t_val (e_callB (cr_all rfl) rf_all (by rfl) T.n_all bb_all (a_cons (e_lc (own := [("name", 1)]) rfl sc_need_registers.nd (i_any (e_var 0 (pv 0))) (blkOk_by (N := N_need_registers) (sc := defScope s_need_registers) (by decide +kernel)) (fun _ _ _ _ _ => g_name 1 sc_need_registers.nd rfl (by first | exact Or.inl rfl | exact Or.inr rfl)) (fun _ _ _ _ _ => ts_nil) (fun _ _ _ _ _ => e_and (e_call C_is_name (hr.mono (by decide)) takes_no (by rfl) (a_cons (e_var 1 (pv 1)) (a_nil))) (e_one (e_cmp (op_ninM hu) rf_nin (e_var 1 (pv 1)) (e_gtup T.c_BARRED (by rfl)) (by with_unfolding_all rfl))))) (a_nil))))) (w_or1 (t_cmp (op_neM hu) rf_ne (e_lenset rfl (by rfl) T.n_len (by rfl) T.n_set (e_var 0 (pv 0))) (e_callB call_lenM rf_len (by rfl) T.n_len bb_len (a_cons (e_var 0 (pv 0)) (a_nil))) (nomark _))))) (ss_one (s_raise tk rfl T.x_BadRegisters (hr.mono (by decide)) (by rfl) (a_cons (e_var 0 (pv 0)) (a_nil)))) (ss_nil)))
abbrev s_is_one_of : Stmt := top 21
theorem sc_is_one_of : FnScope N_is_one_of ["value", "words"] (defScope s_is_one_of) := ⟨rfl, rfl, rfl, by decide +kernel, rfl, by decide +kernel, by decide +kernel⟩
theorem ok_is_one_of {f : Addr} {fd : FuncData} (F : Fun K "is_one_of" "is_one_of" s_is_one_of f fd) (T : Txt P w K mg base)  : FnOk P w K mg base (L2.CX P w) 1 f fd ["value", "words"] (spM ⟨K, mg⟩ 2 m_is_one_of) :=
  fn_ok F sc_is_one_of fun cdv A outer s H E hr tk => by
    have hu := hr.units
    exact ss_one (s_ret (e_and (e_callB call_isi (rf_isi (by decide)) (by rfl) T.n_isinstance bb_isinstance (a_cons (e_var 0 (pv 0)) (a_cons (e_con (v := .ty "str") (pe_bltn (by rfl) T.n_str bb_str rfl) (fun _ _ => by unfold RD; rfl)) a_nil))) (e_one (e_cmp (op_inM hu) rf_in (e_var 0 (pv 0)) (e_var 1 (pv 1)) (by with_unfolding_all rfl)))))
abbrev s_is_test : Stmt := top 22
theorem sc_is_test : FnScope N_is_test ["value", "names"] (defScope s_is_test) := ⟨rfl, rfl, rfl, by decide +kernel, rfl, by decide +kernel, by decide +kernel⟩
theorem ok_is_test {f : Addr} {fd : FuncData} (F : Fun K "is_test" "is_test" s_is_test f fd) (T : Txt P w K mg base) (C_is_one_of : Cal P w K mg base "is_one_of" 1 m_is_one_of) : FnOk P w K mg base (L2.CX P w) 2 f fd ["value", "names"] (spM ⟨K, mg⟩ 2 m_is_test) :=
  fn_ok F sc_is_test fun cdv A outer s H E hr tk => by
    have hu := hr.units
    exact ss_cons (s_if (PW.pt (w_or (t_not (t_val (e_callB call_isi (rf_isi (by decide)) (by rfl) T.n_isinstance bb_isinstance (a_cons (e_var 0 (pv 0)) (a_cons (e_con (v := .ty "tuple") (pe_bltn (by rfl) T.n_tuple bb_tuple rfl) (fun _ _ => by unfold RD; rfl)) a_nil))))) (w_or (t_cmp (op_neM hu) rf_ne (e_callB call_lenM rf_len (by rfl) T.n_len bb_len (a_cons (e_var 0 (pv 0)) (a_nil))) (e_int) (nomark _)) (w_or1 (t_not (t_val (e_callB call_isi (rf_isi (by decide)) (by rfl) T.n_isinstance bb_isinstance (a_cons (e_ix hu (e_var 0 (pv 0)) (e_int) (fun _ _ => rfl)) (a_cons (e_con (v := .ty "bool") (pe_bltn (by rfl) T.n_bool bb_bool rfl) (fun _ _ => by unfold RD; rfl)) a_nil))))))))) (ss_one (s_ret (e_bl))) (ss_nil)) (ss_one (s_ret (e_and (e_call C_is_one_of (hr.mono (by decide)) tk (by rfl) (a_cons (e_ix hu (e_var 0 (pv 0)) (e_int) (fun _ _ => rfl)) (a_cons (e_tup (a_cons (e_str) (a_cons (e_str) (a_star (e_var 1 (pv 1)) (a_nil))))) (a_nil)))) (e_one (e_call C_is_one_of (hr.mono (by decide)) tk (by rfl) (a_cons (e_ix hu (e_var 0 (pv 0)) (e_int) (fun _ _ => rfl)) (a_cons (e_tup (a_cons (e_str) (a_cons (e_str) (a_cons (e_str) (a_star (e_var 1 (pv 1)) (a_nil)))))) (a_nil))))))))
abbrev s_is_step : Stmt := top 23
theorem sc_is_step : FnScope N_is_step ["value", "names"] (defScope s_is_step) := ⟨rfl, rfl, rfl, by decide +kernel, rfl, by decide +kernel, by decide +kernel⟩
theorem ok_is_step {f : Addr} {fd : FuncData} (F : Fun K "is_step" "is_step" s_is_step f fd) (T : Txt P w K mg base) (C_is_one_of : Cal P w K mg base "is_one_of" 1 m_is_one_of) : FnOk P w K mg base (L2.CX P w) 2 f fd ["value", "names"] (spM ⟨K, mg⟩ 2 m_is_step) :=
  fn_ok F sc_is_step fun cdv A outer s H E hr tk => by
    have hu := hr.units
    exact ss_cons (s_if (PW.pt (w_or (t_not (t_val (e_callB call_isi (rf_isi (by decide)) (by rfl) T.n_isinstance bb_isinstance (a_cons (e_var 0 (pv 0)) (a_cons (e_con (v := .ty "tuple") (pe_bltn (by rfl) T.n_tuple bb_tuple rfl) (fun _ _ => by unfold RD; rfl)) a_nil))))) (w_or1 (t_cmp (op_neM hu) rf_ne (e_callB call_lenM rf_len (by rfl) T.n_len bb_len (a_cons (e_var 0 (pv 0)) (a_nil))) (e_int) (nomark _))))) (ss_one (s_ret (e_bl))) (ss_nil)) (ss_one (s_ret (e_and (e_call C_is_one_of (hr.mono (by decide)) tk (by rfl) (a_cons (e_ix hu (e_var 0 (pv 0)) (e_int) (fun _ _ => rfl)) (a_cons (e_tup (a_cons (e_str) (a_star (e_var 1 (pv 1)) (a_nil)))) (a_nil)))) (e_one (e_call C_is_one_of (hr.mono (by decide)) tk (by rfl) (a_cons (e_ix hu (e_var 0 (pv 0)) (e_int) (fun _ _ => rfl)) (a_cons (e_tup (a_cons (e_str) (a_cons (e_str) (a_cons (e_str) (a_star (e_var 1 (pv 1)) (a_nil)))))) (a_nil))))))))
abbrev s_are_steps : Stmt := top 24
theorem sc_are_steps : FnScope N_are_steps ["value", "names"] (defScope s_are_steps) := ⟨rfl, rfl, rfl, by decide +kernel, rfl, by decide +kernel, by decide +kernel⟩
theorem ok_are_steps {f : Addr} {fd : FuncData} (F : Fun K "are_steps" "are_steps" s_are_steps f fd) (T : Txt P w K mg base) (C_is_step : Cal P w K mg base "is_step" 2 m_is_step) : FnOk P w K mg base (L2.CX P w) 3 f fd ["value", "names"] (spM ⟨K, mg⟩ 2 m_are_steps) :=
  fn_ok F sc_are_steps fun cdv A outer s H E hr tk => by
    have hu := hr.units
    exact ss_one (s_ret (e_and (e_callB call_isi (rf_isi (by decide)) (by rfl) T.n_isinstance bb_isinstance (a_cons (e_var 0 (pv 0)) (a_cons (e_con (v := .ty "tuple") (pe_bltn (by rfl) T.n_tuple bb_tuple rfl) (fun _ _ => by unfold RD; rfl)) a_nil))) (e_and (e_cmp op_leM rf_le (e_callB call_lenM rf_len (by rfl) T.n_len bb_len (a_cons (e_var 0 (pv 0)) (a_nil))) (e_gint T.c_MOST_STEPS (by rfl)) (nomark _)) (e_one (e_callB (cr_all rfl) rf_all (by rfl) T.n_all bb_all (a_cons (e_lc (own := [("step", 2)]) rfl sc_are_steps.nd (i_any (e_var 0 (pv 0))) (blkOk_by (N := N_are_steps) (sc := defScope s_are_steps) (by decide +kernel)) (fun _ _ _ _ _ => g_name 2 sc_are_steps.nd rfl (by first | exact Or.inl rfl | exact Or.inr rfl)) (fun _ _ _ _ _ => ts_nil) (fun _ _ _ _ _ => e_call C_is_step (hr.mono (by decide)) takes_no (by rfl) (a_cons (e_var 2 (pv 2)) (a_cons (e_var 1 (pv 1)) (a_nil))))) (a_nil)))))))
abbrev s_is_line : Stmt := top 25
theorem sc_is_line : FnScope N_is_line ["value", "names"] (defScope s_is_line) := ⟨rfl, rfl, rfl, by decide +kernel, rfl, by decide +kernel, by decide +kernel⟩
theorem ok_is_line {f : Addr} {fd : FuncData} (F : Fun K "is_line" "is_line" s_is_line f fd) (T : Txt P w K mg base) (C_are_steps : Cal P w K mg base "are_steps" 3 m_are_steps) (C_is_test : Cal P w K mg base "is_test" 2 m_is_test) : FnOk P w K mg base (L2.CX P w) 4 f fd ["value", "names"] (spM ⟨K, mg⟩ 2 m_is_line) :=
  fn_ok F sc_is_line fun cdv A outer s H E hr tk => by
    have hu := hr.units
    exact ss_cons (s_if (PW.pt (w_or (t_not (t_val (e_callB call_isi (rf_isi (by decide)) (by rfl) T.n_isinstance bb_isinstance (a_cons (e_var 0 (pv 0)) (a_cons (e_con (v := .ty "tuple") (pe_bltn (by rfl) T.n_tuple bb_tuple rfl) (fun _ _ => by unfold RD; rfl)) a_nil))))) (w_or1 (t_cmp (op_ninM hu) rf_nin (e_callB call_lenM rf_len (by rfl) T.n_len bb_len (a_cons (e_var 0 (pv 0)) (a_nil))) (e_tup (a_cons (e_int) (a_cons (e_int) (a_nil)))) (by with_unfolding_all rfl))))) (ss_one (s_ret (e_bl))) (ss_nil)) (ss_cons (s_set 2 sc_is_line.nd rfl (by first | exact Or.inl rfl | exact Or.inr rfl) (e_ix hu (e_var 0 (pv 0)) (e_int) (fun _ _ => rfl))) (ss_cons (s_if (PW.pt (w_or (t_not (t_val (e_callB call_isi (rf_isi (by decide)) (by rfl) T.n_isinstance bb_isinstance (a_cons (e_var 2 (pv 2)) (a_cons (e_con (v := .ty "tuple") (pe_bltn (by rfl) T.n_tuple bb_tuple rfl) (fun _ _ => by unfold RD; rfl)) a_nil))))) (w_or (t_cmp op_gtM rf_gt (e_callB call_lenM rf_len (by rfl) T.n_len bb_len (a_cons (e_var 2 (pv 2)) (a_nil))) (e_gint T.c_MOST_TESTS (by rfl)) (nomark _)) (w_or1 (t_not (t_val (e_callB (cr_all rfl) rf_all (by rfl) T.n_all bb_all (a_cons (e_lc (own := [("test", 4)]) rfl sc_is_line.nd (i_any (e_var 2 (pv 2))) (blkOk_by (N := N_is_line) (sc := defScope s_is_line) (by decide +kernel)) (fun _ _ _ _ _ => g_name 4 sc_is_line.nd rfl (by first | exact Or.inl rfl | exact Or.inr rfl)) (fun _ _ _ _ _ => ts_nil) (fun _ _ _ _ _ => e_call C_is_test (hr.mono (by decide)) takes_no (by rfl) (a_cons (e_var 4 (pv 4)) (a_cons (e_var 1 (pv 1)) (a_nil))))) (a_nil))))))))) (ss_one (s_ret (e_bl))) (ss_nil)) (ss_one (s_ret (e_callB (cr_all rfl) rf_all (by rfl) T.n_all bb_all (a_cons (e_lc (own := [("steps", 3)]) rfl sc_is_line.nd (i_any (e_sl (e_var 0 (pv 0)) (o_some (e_int)) (o_no))) (blkOk_by (N := N_is_line) (sc := defScope s_is_line) (by decide +kernel)) (fun _ _ _ _ _ => g_name 3 sc_is_line.nd rfl (by first | exact Or.inl rfl | exact Or.inr rfl)) (fun _ _ _ _ _ => ts_nil) (fun _ _ _ _ _ => e_call C_are_steps (hr.mono (by decide)) takes_no (by rfl) (a_cons (e_var 3 (pv 3)) (a_cons (e_var 1 (pv 1)) (a_nil))))) (a_nil)))))))
abbrev s_Rule_init : Stmt := inClass (top 26) 0
theorem sc_Rule_init : FnScope N_Rule_init ["self", "registers", "lines"] (defScope s_Rule_init) := ⟨rfl, rfl, rfl, by decide +kernel, rfl, by decide +kernel, by decide +kernel⟩
theorem ok_Rule_init {f : Addr} {fd : FuncData} (F : Fun K "__init__" "Rule.__init__" s_Rule_init f fd) (T : Txt P w K mg base) (C_is_line : Cal P w K mg base "is_line" 4 m_is_line) (C_need_registers : Cal P w K mg base "need_registers" 3 m_need_registers) : FnOk P w K mg base (L2.CX P w) 5 f fd ["self", "registers", "lines"] (spM ⟨K, mg⟩ 3 m_Rule_init) :=
  fn_ok F sc_Rule_init fun cdv A outer s H E hr tk => by
    have hu := hr.units
    exact ss_cons (s_expr (e_call C_need_registers (hr.mono (by decide)) tk (by rfl) (a_cons (e_var 1 (pv 1)) (a_nil)))) (ss_cons (s_if (PW.pt (w_or (t_not (t_val (e_isi2 (by rfl) T.n_isinstance (e_var 2 (pv 2)) (pe_bltn (by rfl) T.n_list bb_list rfl) (pe_bltn (by rfl) T.n_tuple bb_tuple rfl)))) (w_or1 (t_not (t_chain op_leM rf_le op_leM rf_le (e_int) (e_callB call_lenM rf_len (by rfl) T.n_len bb_len (a_cons (e_var 2 (pv 2)) (a_nil))) (e_gint T.c_MOST_LINES (by rfl))))))) (ss_one (s_raise tk rfl T.x_BadLines (hr.mono (by decide)) (by rfl) (a_cons (e_var 2 (pv 2)) (a_nil)))) (ss_nil)) (ss_cons (s_for (passes_of rfl) rfl (i_enum2 (by rfl) T.n_enumerate (a_cons (e_var 2 (pv 2)) (a_nil))) (g_tup rfl (gs_cons (g_name 3 sc_Rule_init.nd rfl (by first | exact Or.inl rfl | exact Or.inr rfl)) (gs_cons (g_name 4 sc_Rule_init.nd rfl (by first | exact Or.inl rfl | exact Or.inr rfl)) (gs_nil)))) (ss_one (s_if (PW.pt (w_or (t_not (t_val (e_call C_is_line (hr.mono (by decide)) tk (by rfl) (a_cons (e_var 4 (pv 4)) (a_cons (e_var 1 (pv 1)) (a_nil)))))) (w_or1 (PW.pt (w_and (t_cmp (op_eqM hu) rf_eq (e_var 3 (pv 3)) (e_bin op_sub rf_sub (e_callB call_lenM rf_len (by rfl) T.n_len bb_len (a_cons (e_var 2 (pv 2)) (a_nil))) (e_int)) (nomark _)) (w_and1 (t_cmp (op_neM hu) rf_ne (e_ix hu (e_var 4 (pv 4)) (e_int) (fun _ _ => rfl)) (e_tup (a_nil)) (nomark _)))))))) (ss_one (s_raise tk rfl T.x_BadLine (hr.mono (by decide)) (by rfl) (a_cons (e_var 3 (pv 3)) (a_nil)))) (ss_nil)))) (ss_cons (s_fld T.f_own_names (e_var 0 (pv 0)) (e_callTy call_tuple_of rf_tuple (by rfl) T.n_tuple bb_tuple (a_cons (e_var 1 (pv 1)) (a_nil)))) (ss_one (s_fld T.f_rows (e_var 0 (pv 0)) (e_callTy call_tuple_of rf_tuple (by rfl) T.n_tuple bb_tuple (a_cons (e_var 2 (pv 2)) (a_nil))))))))
abbrev s_Rule_eq : Stmt := inClass (top 26) 6
theorem sc_Rule_eq : FnScope N_Rule_eq ["self", "other"] (defScope s_Rule_eq) := ⟨rfl, rfl, rfl, by decide +kernel, rfl, by decide +kernel, by decide +kernel⟩
theorem ok_Rule_eq {f : Addr} {fd : FuncData} (F : Fun K "__eq__" "Rule.__eq__" s_Rule_eq f fd) (T : Txt P w K mg base)  : FnOk P w K mg base (L2.CX P w) 1 f fd ["self", "other"] (spM ⟨K, mg⟩ 2 m_Rule_eq) :=
  fn_ok F sc_Rule_eq fun cdv A outer s H E hr tk => by
    have hu := hr.units
    exact ss_one (s_ret (e_and (e_isx T.i_Rule (.own _) (by rfl) T.n_isinstance (e_var 1 (pv 1)) (pe_glob (by rfl) T.m_Rule rfl)) (e_and (e_cmp (op_eqM hu) rf_eq (e_fld T.f_own_names (e_var 0 (pv 0))) (e_fld T.f_own_names (e_var 1 (pv 1))) (nomark _)) (e_one (e_cmp (op_eqM hu) rf_eq (e_fld T.f_rows (e_var 0 (pv 0))) (e_fld T.f_rows (e_var 1 (pv 1))) (nomark _))))))
abbrev s_File_init : Stmt := inClass (top 36) 0
theorem sc_File_init : FnScope N_File_init ["self", "rule"] (defScope s_File_init) := ⟨rfl, rfl, rfl, by decide +kernel, rfl, by decide +kernel, by decide +kernel⟩
theorem ok_File_init {f : Addr} {fd : FuncData} (F : Fun K "__init__" "File.__init__" s_File_init f fd) (T : Txt P w K mg base)  : FnOk P w K mg base (L2.CX P w) 1 f fd ["self", "rule"] (spM ⟨K, mg⟩ 2 m_File_init) :=
  fn_ok F sc_File_init fun cdv A outer s H E hr tk => by
    have hu := hr.units
    exact ss_cons (s_fld T.f_rule (e_var 0 (pv 0)) (e_var 1 (pv 1))) (ss_cons (s_fld T.f_held (e_var 0 (pv 0)) (e_dc (own := [("name", 2)]) rfl sc_File_init.nd (i_any (e_tup (a_cons (e_str) (a_star (e_fld T.f_own_names (e_var 1 (pv 1))) (a_nil))))) (blkOk_by (N := N_File_init) (sc := defScope s_File_init) (by decide +kernel)) (fun _ _ _ _ _ => g_name 2 sc_File_init.nd rfl (by first | exact Or.inl rfl | exact Or.inr rfl)) (fun _ _ _ _ _ => ts_nil) (fun _ _ _ _ _ => e_var 2 (pv 2)) (fun _ _ _ _ _ => e_non))) (ss_cons (s_fld T.f_last (e_var 0 (pv 0)) (e_non)) (ss_cons (s_fld T.f_mark (e_var 0 (pv 0)) (e_gstr T.c_NONE (by rfl))) (ss_cons (s_fld T.f_mine (e_var 0 (pv 0)) (e_non)) (ss_one (s_fld T.f_is_amid (e_var 0 (pv 0)) (e_bl)))))))
abbrev s_File_eq : Stmt := inClass (top 36) 6
theorem sc_File_eq : FnScope N_File_eq ["self", "other"] (defScope s_File_eq) := ⟨rfl, rfl, rfl, by decide +kernel, rfl, by decide +kernel, by decide +kernel⟩
theorem ok_File_eq {f : Addr} {fd : FuncData} (F : Fun K "__eq__" "File.__eq__" s_File_eq f fd) (T : Txt P w K mg base) (Q_Rule : EqC P w K mg base "Rule" 1 ["Rule", "File"] m_Rule_eq) : FnOk P w K mg base (L2.CX P w) 3 f fd ["self", "other"] (spM ⟨K, mg⟩ 2 m_File_eq) :=
  fn_ok F sc_File_eq fun cdv A outer s H E hr tk => by
    have hu := hr.units
    exact ss_cons (s_if (PW.pt (w_or (t_not (t_val (e_isx T.i_File (.own _) (by rfl) T.n_isinstance (e_var 1 (pv 1)) (pe_glob (by rfl) T.m_File rfl)))) (w_or1 (t_cmpM (opm_N Q_Rule (hr.mono (by decide)) (opm_ne hu)) (e_fld T.f_rule (e_var 0 (pv 0))) (e_fld T.f_rule (e_var 1 (pv 1))) (nomark _))))) (ss_one (s_ret (e_bl))) (ss_nil)) (ss_never)
abbrev s_law_source : Stmt := top 38
theorem sc_law_source : FnScope N_law_source ["script", "start"] (defScope s_law_source) := ⟨rfl, rfl, rfl, by decide +kernel, rfl, by decide +kernel, by decide +kernel⟩
theorem ok_law_source {f : Addr} {fd : FuncData} (F : Fun K "_law_source" "_law_source" s_law_source f fd) (T : Txt P w K mg base)  : FnOk P w K mg base (L2.CX P w) 1 f fd ["script", "start"] (spM ⟨K, mg⟩ 2 m_law_source) :=
  fn_ok F sc_law_source fun cdv A outer s H E hr tk => by
    have hu := hr.units
    exact ss_cons (s_set 2 sc_law_source.nd rfl (by first | exact Or.inl rfl | exact Or.inr rfl) (e_bin op_addM rf_add (e_int) (e_var 1 (pv 1)))) (ss_cons (s_for (passes_of rfl) rfl (i_any (e_var 0 (pv 0))) (g_name 3 sc_law_source.nd rfl (by first | exact Or.inl rfl | exact Or.inr rfl)) (ss_one (s_set 2 sc_law_source.nd rfl (by first | exact Or.inl rfl | exact Or.inr rfl) (e_bin op_addM rf_add (e_bin op_mod rf_mod (e_callTy call_int1 rf_int (by rfl) T.n_int bb_int (a_cons (e_bin op_powM rf_pow (e_callTy call_int1 rf_int (by rfl) T.n_int bb_int (a_cons (e_bin op_addM rf_add (e_bin (OpR.or op_mulM op_rep) rf_mul (e_var 2 (pv 2)) (e_int)) (e_callTy call_int1 rf_int (by rfl) T.n_int bb_int (a_cons (e_var 3 (pv 3)) (a_nil)))) (a_nil))) (e_int)) (a_nil))) (e_int)) (e_int))))) (ss_cons (s_set 4 sc_law_source.nd rfl (by first | exact Or.inl rfl | exact Or.inr rfl) (e_int)) (ss_cons (s_if (PW.pt (w_and (t_cmp op_ltM rf_lt (e_var 1 (pv 1)) (e_callB call_lenM rf_len (by rfl) T.n_len bb_len (a_cons (e_var 0 (pv 0)) (a_nil))) (nomark _)) (w_and1 (t_cmp op_geM rf_ge (e_ix hu (e_var 0 (pv 0)) (e_var 1 (pv 1)) (fun _ _ => rfl)) (e_bin op_powM rf_pow (e_int) (e_int)) (nomark _))))) (ss_one (s_set 4 sc_law_source.nd rfl (by first | exact Or.inl rfl | exact Or.inr rfl) (e_bin op_sub rf_sub (e_ix hu (e_var 0 (pv 0)) (e_var 1 (pv 1)) (fun _ _ => rfl)) (e_bin op_powM rf_pow (e_int) (e_int))))) (ss_nil)) (ss_one (s_ret (e_lst (a_cons (e_var 4 (pv 4)) (a_cons (e_var 2 (pv 2)) (a_nil)))))))))
abbrev s_law_draw : Stmt := top 39
theorem sc_law_draw : FnScope N_law_draw ["source", "span"] (defScope s_law_draw) := ⟨rfl, rfl, rfl, by decide +kernel, rfl, by decide +kernel, by decide +kernel⟩
theorem ok_law_draw {f : Addr} {fd : FuncData} (F : Fun K "_law_draw" "_law_draw" s_law_draw f fd) (T : Txt P w K mg base)  : FnOk P w K mg base (L2.CX P w) 1 f fd ["source", "span"] (spM ⟨K, mg⟩ 2 m_law_draw) :=
  fn_ok F sc_law_draw fun cdv A outer s H E hr tk => by
    have hu := hr.units
    exact ss_cons (s_if (t_cmp op_geM rf_ge (e_ix hu (e_var 0 (pv 0)) (e_int) (fun _ _ => rfl)) (e_var 1 (pv 1)) (nomark _)) (ss_cons (s_set 2 sc_law_draw.nd rfl (by first | exact Or.inl rfl | exact Or.inr rfl) (e_bin op_mod rf_mod (e_callTy call_int1 rf_int (by rfl) T.n_int bb_int (a_cons (e_ix hu (e_var 0 (pv 0)) (e_int) (fun _ _ => rfl)) (a_nil))) (e_var 1 (pv 1)))) (ss_cons (s_setX hu (e_bin op_fdivW rf_fdiv (e_ix hu (e_var 0 (pv 0)) (e_int) (fun _ _ => rfl)) (e_var 1 (pv 1))) (e_var 0 (pv 0)) (e_int)) (ss_one (s_ret (e_var 2 (pv 2)))))) (ss_nil)) (ss_cons (s_setX hu (e_bin op_mod rf_mod (e_callTy call_int1 rf_int (by rfl) T.n_int bb_int (a_cons (e_bin op_addM rf_add (e_bin (OpR.or op_mulM op_rep) rf_mul (e_ix hu (e_var 0 (pv 0)) (e_int) (fun _ _ => rfl)) (e_int)) (e_int)) (a_nil))) (e_int)) (e_var 0 (pv 0)) (e_int)) (ss_one (s_ret (e_bin op_mod rf_mod (e_callTy call_int1 rf_int (by rfl) T.n_int bb_int (a_cons (e_bin op_fdivW rf_fdiv (e_bin op_mod rf_mod (e_callTy call_int1 rf_int (by rfl) T.n_int bb_int (a_cons (e_bin op_powM rf_pow (e_callTy call_int1 rf_int (by rfl) T.n_int bb_int (a_cons (e_ix hu (e_var 0 (pv 0)) (e_int) (fun _ _ => rfl)) (a_nil))) (e_int)) (a_nil))) (e_int)) (e_int)) (a_nil))) (e_var 1 (pv 1))))))
abbrev s_law_pick : Stmt := top 40
theorem sc_law_pick : FnScope N_law_pick ["source", "things"] (defScope s_law_pick) := ⟨rfl, rfl, rfl, by decide +kernel, rfl, by decide +kernel, by decide +kernel⟩
theorem ok_law_pick {f : Addr} {fd : FuncData} (F : Fun K "_law_pick" "_law_pick" s_law_pick f fd) (T : Txt P w K mg base) (C_law_draw : Cal P w K mg base "_law_draw" 1 m_law_draw) : FnOk P w K mg base (L2.CX P w) 2 f fd ["source", "things"] (spM ⟨K, mg⟩ 2 m_law_pick) :=
  fn_ok F sc_law_pick fun cdv A outer s H E hr tk => by
    have hu := hr.units
    exact ss_one (s_ret (e_ix hu (e_var 1 (pv 1)) (e_call C_law_draw (hr.mono (by decide)) tk (by rfl) (a_cons (e_var 0 (pv 0)) (a_cons (e_callB call_lenM rf_len (by rfl) T.n_len bb_len (a_cons (e_var 1 (pv 1)) (a_nil))) (a_nil)))) (fun _ _ => rfl)))
abbrev s_law_mixed : Stmt := top 41
theorem sc_law_mixed : FnScope N_law_mixed ["source", "things"] (defScope s_law_mixed) := ⟨rfl, rfl, rfl, by decide +kernel, rfl, by decide +kernel, by decide +kernel⟩
theorem ok_law_mixed {f : Addr} {fd : FuncData} (F : Fun K "_law_mixed" "_law_mixed" s_law_mixed f fd) (T : Txt P w K mg base) (C_law_draw : Cal P w K mg base "_law_draw" 1 m_law_draw) : FnOk P w K mg base (L2.CX P w) 2 f fd ["source", "things"] (spM ⟨K, mg⟩ 2 m_law_mixed) :=
  fn_ok F sc_law_mixed fun cdv A outer s H E hr tk => by
    have hu := hr.units
    exact ss_cons (s_par2 2 3 rfl sc_law_mixed.nd rfl rfl (by decide) rfl rfl (a_cons (e_callTy call_list_of rf_list (by rfl) T.n_list bb_list (a_cons (e_var 1 (pv 1)) (a_nil))) (a_cons (e_lst (a_nil)) (a_nil))) rfl) (ss_cons (s_while 100 (passes_of rfl) (t_cmp (op_neM hu) rf_ne (e_var 2 (pv 2)) (e_lst (a_nil)) (nomark _)) (ss_one (s_expr (e_bm PySem.F.plainAttrs_list PySem.F.slot_list_append PySem.F.type_list_append mt_append rf_append (e_var 3 (pv 3)) (a_cons (e_bm PySem.F.plainAttrs_list PySem.F.slot_list_pop PySem.F.type_list_pop mt_popM rf_pop (e_var 2 (pv 2)) (a_cons (e_call C_law_draw (hr.mono (by decide)) tk (by rfl) (a_cons (e_var 0 (pv 0)) (a_cons (e_callB call_lenM rf_len (by rfl) T.n_len bb_len (a_cons (e_var 2 (pv 2)) (a_nil))) (a_nil)))) (a_nil))) (a_nil)))))) (ss_one (s_ret (e_var 3 (pv 3)))))
abbrev s_law_steps : Stmt := top 42
theorem sc_law_steps : FnScope N_law_steps ["source", "lot", "most"] (defScope s_law_steps) := ⟨rfl, rfl, rfl, by decide +kernel, rfl, by decide +kernel, by decide +kernel⟩
theorem ok_law_steps {f : Addr} {fd : FuncData} (F : Fun K "_law_steps" "_law_steps" s_law_steps f fd) (T : Txt P w K mg base) (C_law_draw : Cal P w K mg base "_law_draw" 1 m_law_draw) (C_law_pick : Cal P w K mg base "_law_pick" 2 m_law_pick) : FnOk P w K mg base (L2.CX P w) 3 f fd ["source", "lot", "most"] (spM ⟨K, mg⟩ 3 m_law_steps) :=
  fn_ok F sc_law_steps fun cdv A outer s H E hr tk => by
    have hu := hr.units
    exact ss_cons (s_set 3 sc_law_steps.nd rfl (by first | exact Or.inl rfl | exact Or.inr rfl) (e_lst (a_nil))) (ss_cons (s_for (passes_of rfl) rfl (i_range1 (by rfl) T.n_range (a_cons (e_call C_law_draw (hr.mono (by decide)) tk (by rfl) (a_cons (e_var 0 (pv 0)) (a_cons (e_bin op_addM rf_add (e_var 2 (pv 2)) (e_int)) (a_nil)))) (a_nil))) (g_name 4 sc_law_steps.nd rfl (by first | exact Or.inl rfl | exact Or.inr rfl)) (ss_cons (s_set 5 sc_law_steps.nd rfl (by first | exact Or.inl rfl | exact Or.inr rfl) (e_call C_law_pick (hr.mono (by decide)) tk (by rfl) (a_cons (e_var 0 (pv 0)) (a_cons (e_bin op_addM rf_add (e_lst (a_cons (e_str) (a_nil))) (e_callTy call_list_of rf_list (by rfl) T.n_list bb_list (a_cons (e_var 1 (pv 1)) (a_nil)))) (a_nil))))) (ss_one (s_expr (e_bm PySem.F.plainAttrs_list PySem.F.slot_list_append PySem.F.type_list_append mt_append rf_append (e_var 3 (pv 3)) (a_cons (e_tup (a_cons (e_var 5 (pv 5)) (a_cons (e_call C_law_pick (hr.mono (by decide)) tk (by rfl) (a_cons (e_var 0 (pv 0)) (a_cons (e_bin op_addM rf_add (e_lst (a_cons (e_str) (a_cons (e_str) (a_cons (e_str) (a_cons (e_str) (a_nil)))))) (e_callTy call_list_of rf_list (by rfl) T.n_list bb_list (a_cons (e_var 1 (pv 1)) (a_nil)))) (a_nil)))) (a_nil)))) (a_nil))))))) (ss_one (s_ret (e_callTy call_tuple_of rf_tuple (by rfl) T.n_tuple bb_tuple (a_cons (e_var 3 (pv 3)) (a_nil))))))
abbrev s_law_tests : Stmt := top 43
theorem sc_law_tests : FnScope N_law_tests ["source", "lot", "most"] (defScope s_law_tests) := ⟨rfl, rfl, rfl, by decide +kernel, rfl, by decide +kernel, by decide +kernel⟩
theorem ok_law_tests {f : Addr} {fd : FuncData} (F : Fun K "_law_tests" "_law_tests" s_law_tests f fd) (T : Txt P w K mg base) (C_law_draw : Cal P w K mg base "_law_draw" 1 m_law_draw) (C_law_pick : Cal P w K mg base "_law_pick" 2 m_law_pick) : FnOk P w K mg base (L2.CX P w) 3 f fd ["source", "lot", "most"] (spM ⟨K, mg⟩ 3 m_law_tests) :=
  fn_ok F sc_law_tests fun cdv A outer s H E hr tk => by
    have hu := hr.units
    exact ss_cons (s_par2 4 5 rfl sc_law_tests.nd rfl rfl (by decide) rfl rfl (a_cons (e_call C_law_draw (hr.mono (by decide)) tk (by rfl) (a_cons (e_var 0 (pv 0)) (a_cons (e_int) (a_nil)))) (a_cons (e_lst (a_nil)) (a_nil))) rfl) (ss_cons (s_for (passes_of rfl) rfl (i_range1 (by rfl) T.n_range (a_cons (e_if (t_cmp op_gtM rf_gt (e_var 4 (pv 4)) (e_int) (nomark _)) (e_bin op_addM rf_add (e_int) (e_call C_law_draw (hr.mono (by decide)) tk (by rfl) (a_cons (e_var 0 (pv 0)) (a_cons (e_var 2 (pv 2)) (a_nil))))) (e_int)) (a_nil))) (g_name 3 sc_law_tests.nd rfl (by first | exact Or.inl rfl | exact Or.inr rfl)) (ss_cons (s_set 6 sc_law_tests.nd rfl (by first | exact Or.inl rfl | exact Or.inr rfl) (e_call C_law_pick (hr.mono (by decide)) tk (by rfl) (a_cons (e_var 0 (pv 0)) (a_cons (e_bin op_addM rf_add (e_lst (a_cons (e_str) (a_cons (e_str) (a_cons (e_str) (a_nil))))) (e_callTy call_list_of rf_list (by rfl) T.n_list bb_list (a_cons (e_var 1 (pv 1)) (a_nil)))) (a_nil))))) (ss_cons (s_set 7 sc_law_tests.nd rfl (by first | exact Or.inl rfl | exact Or.inr rfl) (e_call C_law_pick (hr.mono (by decide)) tk (by rfl) (a_cons (e_var 0 (pv 0)) (a_cons (e_bin op_addM rf_add (e_lst (a_cons (e_str) (a_cons (e_str) (a_cons (e_str) (a_nil))))) (e_callTy call_list_of rf_list (by rfl) T.n_list bb_list (a_cons (e_var 1 (pv 1)) (a_nil)))) (a_nil))))) (ss_one (s_expr (e_bm PySem.F.plainAttrs_list PySem.F.slot_list_append PySem.F.type_list_append mt_append rf_append (e_var 5 (pv 5)) (a_cons (e_tup (a_cons (e_var 6 (pv 6)) (a_cons (e_var 7 (pv 7)) (a_cons (e_cmp op_gtM rf_gt (e_call C_law_draw (hr.mono (by decide)) tk (by rfl) (a_cons (e_var 0 (pv 0)) (a_cons (e_int) (a_nil)))) (e_int) (nomark _)) (a_nil))))) (a_nil)))))))) (ss_one (s_ret (e_if (t_cmp (op_eqM hu) rf_eq (e_var 4 (pv 4)) (e_int) (nomark _)) (e_callTy call_tuple_of rf_tuple (by rfl) T.n_tuple bb_tuple (a_cons (e_bin op_addM rf_add (e_bin (OpR.or op_mulM op_rep) rf_mul (e_lst (a_cons (e_tup (a_cons (e_str) (a_cons (e_str) (a_cons (e_bl) (a_nil))))) (a_nil))) (e_bin op_sub rf_sub (e_int) (e_callB call_lenM rf_len (by rfl) T.n_len bb_len (a_cons (e_var 5 (pv 5)) (a_nil))))) (e_var 5 (pv 5))) (a_nil))) (e_callTy call_tuple_of rf_tuple (by rfl) T.n_tuple bb_tuple (a_cons (e_var 5 (pv 5)) (a_nil)))))))
abbrev s_law_good : Stmt := top 44
theorem sc_law_good : FnScope N_law_good ["source", "note"] (defScope s_law_good) := ⟨rfl, rfl, rfl, by decide +kernel, rfl, by decide +kernel, by decide +kernel⟩
theorem ok_law_good {f : Addr} {fd : FuncData} (F : Fun K "_law_good" "_law_good" s_law_good f fd) (T : Txt P w K mg base) (C_law_draw : Cal P w K mg base "_law_draw" 1 m_law_draw) (C_law_mixed : Cal P w K mg base "_law_mixed" 2 m_law_mixed) : FnOk P w K mg base (L2.CX P w) 3 f fd ["source", "note"] (spM ⟨K, mg⟩ 2 m_law_good) :=
  fn_ok F sc_law_good fun cdv A outer s H E hr tk => by
    have hu := hr.units
    exact ss_cons (s_set 2 sc_law_good.nd rfl (by first | exact Or.inl rfl | exact Or.inr rfl) (e_lst (a_cons (e_tup (a_cons (e_tup (a_cons (e_tup (a_cons (e_str) (a_cons (e_var 1 (pv 1)) (a_cons (e_bl) (a_nil))))) (a_nil))) (a_cons (e_tup (a_cons (e_tup (a_cons (e_str) (a_cons (e_str) (a_nil)))) (a_cons (e_tup (a_cons (e_var 1 (pv 1)) (a_cons (e_str) (a_nil)))) (a_nil)))) (a_nil)))) (a_cons (e_tup (a_cons (e_tup (a_cons (e_tup (a_cons (e_str) (a_cons (e_str) (a_cons (e_bl) (a_nil))))) (a_nil))) (a_cons (e_tup (a_cons (e_tup (a_cons (e_var 1 (pv 1)) (a_cons (e_str) (a_nil)))) (a_nil))) (a_nil)))) (a_nil))))) (ss_cons (s_expr (e_bm PySem.F.plainAttrs_list PySem.F.slot_list_append PySem.F.type_list_append mt_append rf_append (e_var 2 (pv 2)) (a_cons (e_tup (a_cons (e_tup (a_cons (e_tup (a_cons (e_str) (a_cons (e_var 1 (pv 1)) (a_cons (e_bl) (a_nil))))) (a_nil))) (a_cons (e_tup (a_nil)) (a_nil)))) (a_nil)))) (ss_cons (s_set 3 sc_law_good.nd rfl (by first | exact Or.inl rfl | exact Or.inr rfl) (e_call C_law_draw (hr.mono (by decide)) tk (by rfl) (a_cons (e_var 0 (pv 0)) (a_cons (e_int) (a_nil))))) (ss_cons (s_if (t_cmp (op_eqM hu) rf_eq (e_var 3 (pv 3)) (e_int) (nomark _)) (ss_one (s_expr (e_bm PySem.F.plainAttrs_list PySem.F.slot_list_pop PySem.F.type_list_pop mt_popM rf_pop (e_var 2 (pv 2)) (a_cons (e_call C_law_draw (hr.mono (by decide)) tk (by rfl) (a_cons (e_var 0 (pv 0)) (a_cons (e_int) (a_nil)))) (a_nil))))) (ss_nil)) (ss_cons (s_if (t_cmp (op_eqM hu) rf_eq (e_var 3 (pv 3)) (e_int) (nomark _)) (ss_one (s_set 2 sc_law_good.nd rfl (by first | exact Or.inl rfl | exact Or.inr rfl) (e_call C_law_mixed (hr.mono (by decide)) tk (by rfl) (a_cons (e_var 0 (pv 0)) (a_cons (e_var 2 (pv 2)) (a_nil)))))) (ss_nil)) (ss_cons (s_if (t_cmp (op_eqM hu) rf_eq (e_var 3 (pv 3)) (e_int) (nomark _)) (ss_one (s_setX hu (e_tup (a_cons (e_ix hu (e_ix hu (e_var 2 (pv 2)) (e_int) (fun _ _ => rfl)) (e_int) (fun _ _ => rfl)) (a_cons (e_rev (e_ix hu (e_ix hu (e_var 2 (pv 2)) (e_int) (fun _ _ => rfl)) (e_int) (fun _ _ => rfl))) (a_nil)))) (e_var 2 (pv 2)) (e_int))) (ss_nil)) (ss_one (s_ret (e_var 2 (pv 2)))))))))
abbrev s_law_noted_as : Stmt := top 45
theorem sc_law_noted_as : FnScope N_law_noted_as ["word", "names", "lines"] (defScope s_law_noted_as) := ⟨rfl, rfl, rfl, by decide +kernel, rfl, by decide +kernel, by decide +kernel⟩
theorem ok_law_noted_as {f : Addr} {fd : FuncData} (F : Fun K "_law_noted_as" "_law_noted_as" s_law_noted_as f fd) (T : Txt P w K mg base)  : FnOk P w K mg base (L2.CX P w) 1 f fd ["word", "names", "lines"] (spM ⟨K, mg⟩ 3 m_law_noted_as) :=
  fn_ok F sc_law_noted_as fun cdv A outer s H E hr tk => by
    have hu := hr.units
    exact ss_cons (s_set 3 sc_law_noted_as.nd rfl (by first | exact Or.inl rfl | exact Or.inr rfl) (e_lst (a_nil))) (ss_cons (s_for (passes_of rfl) rfl (i_any (e_var 2 (pv 2))) (g_name 4 sc_law_noted_as.nd rfl (by first | exact Or.inl rfl | exact Or.inr rfl)) (ss_cons (s_setLc 5 (own := [("part", 6)]) rfl sc_law_noted_as.nd rfl rfl (L2.sw_true rfl rfl rfl rfl) (i_any (e_var 4 (pv 4))) (blkOk_by (N := N_law_noted_as) (sc := defScope s_law_noted_as) (by decide +kernel)) (fun _ _ _ _ _ => g_name 6 sc_law_noted_as.nd rfl (by first | exact Or.inl rfl | exact Or.inr rfl)) (fun _ _ _ _ _ => ts_nil) (fun _ _ _ _ _ => e_callTy call_tuple_of rf_tuple (by rfl) T.n_tuple bb_tuple (a_cons (e_lc (own := [("entry", 8)]) rfl sc_law_noted_as.nd (i_any (e_var 6 (pv 6))) (blkOk_by (by kernel_rfl)) (fun _ _ _ _ _ => g_name 8 sc_law_noted_as.nd rfl (by first | exact Or.inl rfl | exact Or.inr rfl)) (fun _ _ _ _ _ => ts_nil) (fun _ _ _ _ _ => e_callTy call_tuple_of rf_tuple (by rfl) T.n_tuple bb_tuple (a_cons (e_lc (own := [("one", 9)]) rfl sc_law_noted_as.nd (i_any (e_var 8 (pv 8))) (blkOk_by (by kernel_rfl)) (fun _ _ _ _ _ => g_name 9 sc_law_noted_as.nd rfl (by first | exact Or.inl rfl | exact Or.inr rfl)) (fun _ _ _ _ _ => ts_nil) (fun _ _ _ _ _ => e_if (t_cmp (op_eqM hu) rf_eq (e_var 9 (pv 9)) (e_str) (nomark _)) (e_var 0 (pv 0)) (e_var 9 (pv 9)))) (a_nil)))) (a_nil)))) (ss_one (s_expr (e_bm PySem.F.plainAttrs_list PySem.F.slot_list_append PySem.F.type_list_append mt_append rf_append (e_var 3 (pv 3)) (a_cons (e_callTy call_tuple_of rf_tuple (by rfl) T.n_tuple bb_tuple (a_cons (e_var 5 (pv 5)) (a_nil))) (a_nil))))))) (ss_one (s_ret (e_tup (a_cons (e_callTy call_tuple_of rf_tuple (by rfl) T.n_tuple bb_tuple (a_cons (e_lc (own := [("name", 7)]) rfl sc_law_noted_as.nd (i_any (e_var 1 (pv 1))) (blkOk_by (N := N_law_noted_as) (sc := defScope s_law_noted_as) (by decide +kernel)) (fun _ _ _ _ _ => g_name 7 sc_law_noted_as.nd rfl (by first | exact Or.inl rfl | exact Or.inr rfl)) (fun _ _ _ _ _ => ts_nil) (fun _ _ _ _ _ => e_if (t_cmp (op_eqM hu) rf_eq (e_var 7 (pv 7)) (e_str) (nomark _)) (e_var 0 (pv 0)) (e_var 7 (pv 7)))) (a_nil))) (a_cons (e_callTy call_tuple_of rf_tuple (by rfl) T.n_tuple bb_tuple (a_cons (e_var 3 (pv 3)) (a_nil))) (a_nil)))))))
abbrev s_law_plan : Stmt := top 46
theorem sc_law_plan : FnScope N_law_plan ["source"] (defScope s_law_plan) := ⟨rfl, rfl, rfl, by decide +kernel, rfl, by decide +kernel, by decide +kernel⟩
theorem ok_law_plan {f : Addr} {fd : FuncData} (F : Fun K "_law_plan" "_law_plan" s_law_plan f fd) (T : Txt P w K mg base) (C_law_draw : Cal P w K mg base "_law_draw" 1 m_law_draw) (C_law_good : Cal P w K mg base "_law_good" 3 m_law_good) (C_law_noted_as : Cal P w K mg base "_law_noted_as" 1 m_law_noted_as) (C_law_pick : Cal P w K mg base "_law_pick" 2 m_law_pick) (C_law_steps : Cal P w K mg base "_law_steps" 3 m_law_steps) (C_law_tests : Cal P w K mg base "_law_tests" 3 m_law_tests) : FnOk P w K mg base (L2.CX P w) 4 f fd ["source"] (spM ⟨K, mg⟩ 1 m_law_plan) :=
  fn_ok F sc_law_plan fun cdv A outer s H E hr tk => by
    have hu := hr.units
    exact ss_cons (s_set 1 sc_law_plan.nd rfl (by first | exact Or.inl rfl | exact Or.inr rfl) (e_lst (a_cons (e_tup (a_nil)) (a_cons (e_tup (a_cons (e_str) (a_nil))) (a_cons (e_tup (a_cons (e_str) (a_nil))) (a_cons (e_tup (a_cons (e_str) (a_nil))) (a_cons (e_tup (a_cons (e_str) (a_cons (e_str) (a_nil)))) (a_cons (e_tup (a_cons (e_str) (a_cons (e_str) (a_nil)))) (a_cons (e_tup (a_cons (e_str) (a_cons (e_str) (a_nil)))) (a_cons (e_tup (a_cons (e_str) (a_cons (e_str) (a_nil)))) (a_nil))))))))))) (ss_cons (s_set 2 sc_law_plan.nd rfl (by first | exact Or.inl rfl | exact Or.inr rfl) (e_call C_law_pick (hr.mono (by decide)) tk (by rfl) (a_cons (e_var 0 (pv 0)) (a_cons (e_bin op_addM rf_add (e_var 1 (pv 1)) (e_lst (a_cons (e_tup (a_cons (e_str) (a_cons (e_str) (a_nil)))) (a_cons (e_tup (a_cons (e_str) (a_cons (e_str) (a_cons (e_str) (a_nil))))) (a_cons (e_tup (a_cons (e_str) (a_cons (e_str) (a_cons (e_str) (a_nil))))) (a_nil)))))) (a_nil))))) (ss_cons (s_set 3 sc_law_plan.nd rfl (by first | exact Or.inl rfl | exact Or.inr rfl) (e_lst (a_nil))) (ss_cons (s_if (PW.pt (w_and (t_cmp (op_inM hu) rf_in (e_str) (e_var 2 (pv 2)) (by with_unfolding_all rfl)) (w_and1 (t_cmp op_gtM rf_gt (e_call C_law_draw (hr.mono (by decide)) tk (by rfl) (a_cons (e_var 0 (pv 0)) (a_cons (e_int) (a_nil)))) (e_int) (nomark _))))) (ss_one (s_set 3 sc_law_plan.nd rfl (by first | exact Or.inl rfl | exact Or.inr rfl) (e_call C_law_good (hr.mono (by decide)) tk (by rfl) (a_cons (e_var 0 (pv 0)) (a_cons (e_str) (a_nil)))))) (ss_nil)) (ss_cons (s_for (passes_of rfl) rfl (i_range1 (by rfl) T.n_range (a_cons (e_call C_law_draw (hr.mono (by decide)) tk (by rfl) (a_cons (e_var 0 (pv 0)) (a_cons (e_int) (a_nil)))) (a_nil))) (g_name 4 sc_law_plan.nd rfl (by first | exact Or.inl rfl | exact Or.inr rfl)) (ss_cons (s_set 7 sc_law_plan.nd rfl (by first | exact Or.inl rfl | exact Or.inr rfl) (e_tup (a_cons (e_call C_law_tests (hr.mono (by decide)) tk (by rfl) (a_cons (e_var 0 (pv 0)) (a_cons (e_var 2 (pv 2)) (a_cons (e_int) (a_nil))))) (a_cons (e_call C_law_steps (hr.mono (by decide)) tk (by rfl) (a_cons (e_var 0 (pv 0)) (a_cons (e_var 2 (pv 2)) (a_cons (e_int) (a_nil))))) (a_nil))))) (ss_cons (s_if (t_cmp (op_eqM hu) rf_eq (e_call C_law_draw (hr.mono (by decide)) tk (by rfl) (a_cons (e_var 0 (pv 0)) (a_cons (e_int) (a_nil)))) (e_int) (nomark _)) (ss_one (s_set 7 sc_law_plan.nd rfl (by first | exact Or.inl rfl | exact Or.inr rfl) (e_bin op_addM rf_add (e_var 7 (pv 7)) (e_tup (a_cons (e_call C_law_steps (hr.mono (by decide)) tk (by rfl) (a_cons (e_var 0 (pv 0)) (a_cons (e_var 2 (pv 2)) (a_cons (e_int) (a_nil))))) (a_nil)))))) (ss_nil)) (ss_one (s_expr (e_bm PySem.F.plainAttrs_list PySem.F.slot_list_insert PySem.F.type_list_insert mt_insert rf_insert (e_var 3 (pv 3)) (a_cons (e_call C_law_draw (hr.mono (by decide)) tk (by rfl) (a_cons (e_var 0 (pv 0)) (a_cons (e_bin op_addM rf_add (e_callB call_lenM rf_len (by rfl) T.n_len bb_len (a_cons (e_var 3 (pv 3)) (a_nil))) (e_int)) (a_nil)))) (a_cons (e_var 7 (pv 7)) (a_nil))))))))) (ss_cons (s_set 5 sc_law_plan.nd rfl (by first | exact Or.inl rfl | exact Or.inr rfl) (e_lst (a_cons (e_tup (a_cons (e_tup (a_nil)) (a_cons (e_call C_law_steps (hr.mono (by decide)) tk (by rfl) (a_cons (e_var 0 (pv 0)) (a_cons (e_var 2 (pv 2)) (a_cons (e_int) (a_nil))))) (a_nil)))) (a_cons (e_tup (a_cons (e_tup (a_nil)) (a_cons (e_tup (a_cons (e_tup (a_cons (e_str) (a_cons (e_str) (a_nil)))) (a_nil))) (a_nil)))) (a_nil))))) (ss_cons (s_if (t_cmp (op_inM hu) rf_in (e_str) (e_var 2 (pv 2)) (by with_unfolding_all rfl)) (ss_one (s_set 5 sc_law_plan.nd rfl (by first | exact Or.inl rfl | exact Or.inr rfl) (e_bin op_addM rf_add (e_var 5 (pv 5)) (e_bin (OpR.or op_mulM op_rep) rf_mul (e_lst (a_cons (e_tup (a_cons (e_tup (a_nil)) (a_cons (e_tup (a_cons (e_tup (a_cons (e_str) (a_cons (e_str) (a_nil)))) (a_cons (e_tup (a_cons (e_str) (a_cons (e_str) (a_nil)))) (a_nil)))) (a_cons (e_tup (a_cons (e_tup (a_cons (e_str) (a_cons (e_str) (a_nil)))) (a_nil))) (a_nil))))) (a_nil))) (e_int))))) (ss_nil)) (ss_cons (s_if (t_cmp (op_inM hu) rf_in (e_str) (e_var 2 (pv 2)) (by with_unfolding_all rfl)) (ss_one (s_set 5 sc_law_plan.nd rfl (by first | exact Or.inl rfl | exact Or.inr rfl) (e_bin op_addM rf_add (e_var 5 (pv 5)) (e_lst (a_cons (e_tup (a_cons (e_tup (a_nil)) (a_cons (e_tup (a_cons (e_tup (a_cons (e_str) (a_cons (e_str) (a_nil)))) (a_cons (e_tup (a_cons (e_str) (a_cons (e_str) (a_nil)))) (a_nil)))) (a_nil)))) (a_cons (e_tup (a_cons (e_tup (a_nil)) (a_cons (e_tup (a_cons (e_tup (a_cons (e_str) (a_cons (e_str) (a_nil)))) (a_nil))) (a_nil)))) (a_nil))))))) (ss_nil)) (ss_cons (s_set 6 sc_law_plan.nd rfl (by first | exact Or.inl rfl | exact Or.inr rfl) (e_call C_law_pick (hr.mono (by decide)) tk (by rfl) (a_cons (e_var 0 (pv 0)) (a_cons (e_lst (a_cons (e_str) (a_cons (e_str) (a_cons (e_str) (a_cons (e_str) (a_cons (e_str) (a_cons (e_str) (a_cons (e_str) (a_cons (e_str) (a_nil)))))))))) (a_nil))))) (ss_one (s_ret (e_call C_law_noted_as (hr.mono (by decide)) tk (by rfl) (a_cons (e_var 6 (pv 6)) (a_cons (e_var 2 (pv 2)) (a_cons (e_bin op_addM rf_add (e_var 3 (pv 3)) (e_lst (a_cons (e_call C_law_pick (hr.mono (by decide)) tk (by rfl) (a_cons (e_var 0 (pv 0)) (a_cons (e_var 5 (pv 5)) (a_nil)))) (a_nil)))) (a_nil)))))))))))))))
abbrev s_law_rule : Stmt := top 47
theorem sc_law_rule : FnScope N_law_rule ["plan"] (defScope s_law_rule) := ⟨rfl, rfl, rfl, by decide +kernel, rfl, by decide +kernel, by decide +kernel⟩
theorem ok_law_rule {f : Addr} {fd : FuncData} (F : Fun K "_law_rule" "_law_rule" s_law_rule f fd) (T : Txt P w K mg base) (I_Rule : InC P w K mg base "Rule" 5 3 m_Rule_init) : FnOk P w K mg base (L2.CX P w) 7 f fd ["plan"] (spM ⟨K, mg⟩ 1 m_law_rule) :=
  fn_ok F sc_law_rule fun cdv A outer s H E hr tk => by
    have hu := hr.units
    exact ss_one (s_ret (e_make I_Rule (fun ds h hl => by unfold m_Rule_init fnM; rw [if_neg hl]) (hr.mono (by decide)) (by rfl) (a_cons (e_callTy call_list_of rf_list (by rfl) T.n_list bb_list (a_cons (e_ix hu (e_var 0 (pv 0)) (e_int) (fun _ _ => rfl)) (a_nil))) (a_cons (e_callTy call_list_of rf_list (by rfl) T.n_list bb_list (a_cons (e_ix hu (e_var 0 (pv 0)) (e_int) (fun _ _ => rfl)) (a_nil))) (a_nil)))))
abbrev s_law_changed : Stmt := top 48
theorem sc_law_changed : FnScope N_law_changed ["source", "plan"] (defScope s_law_changed) := ⟨rfl, rfl, rfl, by decide +kernel, rfl, by decide +kernel, by decide +kernel⟩
theorem ok_law_changed {f : Addr} {fd : FuncData} (F : Fun K "_law_changed" "_law_changed" s_law_changed f fd) (T : Txt P w K mg base) (C_law_draw : Cal P w K mg base "_law_draw" 1 m_law_draw) : FnOk P w K mg base (L2.CX P w) 2 f fd ["source", "plan"] (spM ⟨K, mg⟩ 2 m_law_changed) :=
  fn_ok F sc_law_changed fun cdv A outer s H E hr tk => by
    have hu := hr.units
    exact ss_cons (s_asg (e_var 1 (pv 1)) (g_tup rfl (gs_cons (g_name 4 sc_law_changed.nd rfl (by first | exact Or.inl rfl | exact Or.inr rfl)) (gs_cons (g_name 5 sc_law_changed.nd rfl (by first | exact Or.inl rfl | exact Or.inr rfl)) (gs_nil))))) (ss_cons (s_par2 6 7 rfl sc_law_changed.nd rfl rfl (by decide) rfl rfl (a_cons (e_call C_law_draw (hr.mono (by decide)) tk (by rfl) (a_cons (e_var 0 (pv 0)) (a_cons (e_int) (a_nil)))) (a_cons (e_call C_law_draw (hr.mono (by decide)) tk (by rfl) (a_cons (e_var 0 (pv 0)) (a_cons (e_callB call_lenM rf_len (by rfl) T.n_len bb_len (a_cons (e_var 5 (pv 5)) (a_nil))) (a_nil)))) (a_nil))) rfl) (ss_cons (s_set 2 sc_law_changed.nd rfl (by first | exact Or.inl rfl | exact Or.inr rfl) (e_ix hu (e_var 5 (pv 5)) (e_var 7 (pv 7)) (fun _ _ => rfl))) (ss_cons (s_if (PW.pt (w_and (t_cmp (op_eqM hu) rf_eq (e_var 6 (pv 6)) (e_int) (nomark _)) (w_and1 (t_cmp op_gtM rf_gt (e_callB call_lenM rf_len (by rfl) T.n_len bb_len (a_cons (e_var 4 (pv 4)) (a_nil))) (e_int) (nomark _))))) (ss_one (s_ret (e_tup (a_cons (e_rev (e_var 4 (pv 4))) (a_cons (e_var 5 (pv 5)) (a_nil)))))) (ss_nil)) (ss_cons (s_if (t_cmp (op_eqM hu) rf_eq (e_var 6 (pv 6)) (e_int) (nomark _)) (ss_one (s_ret (e_if (t_cmp op_ltM rf_lt (e_callB call_lenM rf_len (by rfl) T.n_len bb_len (a_cons (e_var 5 (pv 5)) (a_nil))) (e_int) (nomark _)) (e_tup (a_cons (e_var 4 (pv 4)) (a_cons (e_bin op_addM rf_add (e_tup (a_cons (e_tup (a_cons (e_tup (a_cons (e_tup (a_cons (e_str) (a_cons (e_str) (a_cons (e_bl) (a_nil))))) (a_nil))) (a_cons (e_tup (a_nil)) (a_nil)))) (a_nil))) (e_var 5 (pv 5))) (a_nil)))) (e_non)))) (ss_nil)) (ss_cons (s_if (t_cmp (op_eqM hu) rf_eq (e_var 6 (pv 6)) (e_int) (nomark _)) (ss_one (s_ret (e_if (t_cmp (op_eqM hu) rf_eq (e_callB call_lenM rf_len (by rfl) T.n_len bb_len (a_cons (e_var 2 (pv 2)) (a_nil))) (e_int) (nomark _)) (e_tup (a_cons (e_var 4 (pv 4)) (a_cons (e_bin op_addM rf_add (e_bin op_addM rf_add (e_sl (e_var 5 (pv 5)) (o_no) (o_some (e_var 7 (pv 7)))) (e_tup (a_cons (e_bin op_addM rf_add (e_var 2 (pv 2)) (e_tup (a_cons (e_tup (a_nil)) (a_nil)))) (a_nil)))) (e_sl (e_var 5 (pv 5)) (o_some (e_bin op_addM rf_add (e_var 7 (pv 7)) (e_int))) (o_no))) (a_nil)))) (e_non)))) (ss_nil)) (ss_cons (s_if (PW.pt (w_and (t_cmp (op_eqM hu) rf_eq (e_var 6 (pv 6)) (e_int) (nomark _)) (w_and1 (t_cmp (op_neM hu) rf_ne (e_ix hu (e_var 2 (pv 2)) (e_int) (fun _ _ => rfl)) (e_tup (a_nil)) (nomark _))))) (ss_cons (s_set 8 sc_law_changed.nd rfl (by first | exact Or.inl rfl | exact Or.inr rfl) (e_ix hu (e_ix hu (e_var 2 (pv 2)) (e_int) (fun _ _ => rfl)) (e_int) (fun _ _ => rfl))) (ss_one (s_ret (e_tup (a_cons (e_var 4 (pv 4)) (a_cons (e_bin op_addM rf_add (e_bin op_addM rf_add (e_sl (e_var 5 (pv 5)) (o_no) (o_some (e_var 7 (pv 7)))) (e_tup (a_cons (e_bin op_addM rf_add (e_tup (a_cons (e_bin op_addM rf_add (e_tup (a_cons (e_tup (a_cons (e_ix hu (e_var 8 (pv 8)) (e_int) (fun _ _ => rfl)) (a_cons (e_ix hu (e_var 8 (pv 8)) (e_int) (fun _ _ => rfl)) (a_cons (e_not (e_ix hu (e_var 8 (pv 8)) (e_int) (fun _ _ => rfl))) (a_nil))))) (a_nil))) (e_sl (e_ix hu (e_var 2 (pv 2)) (e_int) (fun _ _ => rfl)) (o_some (e_int)) (o_no))) (a_nil))) (e_sl (e_var 2 (pv 2)) (o_some (e_int)) (o_no))) (a_nil)))) (e_sl (e_var 5 (pv 5)) (o_some (e_bin op_addM rf_add (e_var 7 (pv 7)) (e_int))) (o_no))) (a_nil))))))) (ss_nil)) (ss_cons (s_if (PW.pt (w_and (t_cmp (op_eqM hu) rf_eq (e_var 6 (pv 6)) (e_int) (nomark _)) (w_and1 (t_cmp op_ltM rf_lt (e_callB call_lenM rf_len (by rfl) T.n_len bb_len (a_cons (e_ix hu (e_var 2 (pv 2)) (e_int) (fun _ _ => rfl)) (a_nil))) (e_int) (nomark _))))) (ss_one (s_ret (e_tup (a_cons (e_var 4 (pv 4)) (a_cons (e_bin op_addM rf_add (e_bin op_addM rf_add (e_sl (e_var 5 (pv 5)) (o_no) (o_some (e_var 7 (pv 7)))) (e_tup (a_cons (e_bin op_addM rf_add (e_tup (a_cons (e_ix hu (e_var 2 (pv 2)) (e_int) (fun _ _ => rfl)) (a_cons (e_bin op_addM rf_add (e_ix hu (e_var 2 (pv 2)) (e_int) (fun _ _ => rfl)) (e_tup (a_cons (e_tup (a_cons (e_str) (a_cons (e_str) (a_nil)))) (a_nil)))) (a_nil)))) (e_sl (e_var 2 (pv 2)) (o_some (e_int)) (o_no))) (a_nil)))) (e_sl (e_var 5 (pv 5)) (o_some (e_bin op_addM rf_add (e_var 7 (pv 7)) (e_int))) (o_no))) (a_nil)))))) (ss_nil)) (ss_cons (s_if (PW.pt (w_and (t_cmp (op_eqM hu) rf_eq (e_var 6 (pv 6)) (e_int) (nomark _)) (w_and1 (t_cmp op_ltM rf_lt (e_callB call_lenM rf_len (by rfl) T.n_len bb_len (a_cons (e_var 4 (pv 4)) (a_nil))) (e_int) (nomark _))))) (ss_one (s_ret (e_tup (a_cons (e_bin op_addM rf_add (e_var 4 (pv 4)) (e_tup (a_cons (e_str) (a_nil)))) (a_cons (e_var 5 (pv 5)) (a_nil)))))) (ss_nil)) (ss_cons (s_if (PW.pt (w_and (t_cmp (op_eqM hu) rf_eq (e_var 6 (pv 6)) (e_int) (nomark _)) (w_and (t_cmp op_ltM rf_lt (e_var 7 (pv 7)) (e_bin op_sub rf_sub (e_callB call_lenM rf_len (by rfl) T.n_len bb_len (a_cons (e_var 5 (pv 5)) (a_nil))) (e_int)) (nomark _)) (w_and1 (t_cmp (op_neM hu) rf_ne (e_ix hu (e_var 5 (pv 5)) (e_bin op_addM rf_add (e_var 7 (pv 7)) (e_int)) (fun _ _ => rfl)) (e_var 2 (pv 2)) (nomark _)))))) (ss_one (s_ret (e_tup (a_cons (e_var 4 (pv 4)) (a_cons (e_bin op_addM rf_add (e_bin op_addM rf_add (e_sl (e_var 5 (pv 5)) (o_no) (o_some (e_var 7 (pv 7)))) (e_tup (a_cons (e_ix hu (e_var 5 (pv 5)) (e_bin op_addM rf_add (e_var 7 (pv 7)) (e_int)) (fun _ _ => rfl)) (a_cons (e_var 2 (pv 2)) (a_nil))))) (e_sl (e_var 5 (pv 5)) (o_some (e_bin op_addM rf_add (e_var 7 (pv 7)) (e_int))) (o_no))) (a_nil)))))) (ss_nil)) (ss_cons (s_set 3 sc_law_changed.nd rfl (by first | exact Or.inl rfl | exact Or.inr rfl) (e_var 2 (pv 2))) (ss_cons (s_if (t_cmp (op_eqM hu) rf_eq (e_var 6 (pv 6)) (e_int) (nomark _)) (ss_one (s_set 3 sc_law_changed.nd rfl (by first | exact Or.inl rfl | exact Or.inr rfl) (e_bin op_addM rf_add (e_tup (a_cons (e_rev (e_ix hu (e_var 2 (pv 2)) (e_int) (fun _ _ => rfl))) (a_nil))) (e_sl (e_var 2 (pv 2)) (o_some (e_int)) (o_no))))) (ss_nil)) (ss_cons (s_if (t_cmp (op_eqM hu) rf_eq (e_var 6 (pv 6)) (e_int) (nomark _)) (ss_one (s_set 3 sc_law_changed.nd rfl (by first | exact Or.inl rfl | exact Or.inr rfl) (e_bin op_addM rf_add (e_tup (a_cons (e_ix hu (e_var 2 (pv 2)) (e_int) (fun _ _ => rfl)) (a_cons (e_rev (e_ix hu (e_var 2 (pv 2)) (e_int) (fun _ _ => rfl))) (a_nil)))) (e_sl (e_var 2 (pv 2)) (o_some (e_int)) (o_no))))) (ss_nil)) (ss_cons (s_if (PW.pt (w_and (t_cmp (op_eqM hu) rf_eq (e_var 6 (pv 6)) (e_int) (nomark _)) (w_and (t_cmp (op_eqM hu) rf_eq (e_callB call_lenM rf_len (by rfl) T.n_len bb_len (a_cons (e_var 2 (pv 2)) (a_nil))) (e_int) (nomark _)) (w_and1 (t_cmp op_ltM rf_lt (e_callB call_lenM rf_len (by rfl) T.n_len bb_len (a_cons (e_ix hu (e_var 2 (pv 2)) (e_int) (fun _ _ => rfl)) (a_nil))) (e_int) (nomark _)))))) (ss_one (s_set 3 sc_law_changed.nd rfl (by first | exact Or.inl rfl | exact Or.inr rfl) (e_bin op_addM rf_add (e_sl (e_var 2 (pv 2)) (o_no) (o_some (e_int))) (e_tup (a_cons (e_bin op_addM rf_add (e_ix hu (e_var 2 (pv 2)) (e_int) (fun _ _ => rfl)) (e_tup (a_cons (e_tup (a_cons (e_str) (a_cons (e_str) (a_nil)))) (a_nil)))) (a_nil)))))) (ss_nil)) (ss_one (s_ret (e_if (t_cmp (op_neM hu) rf_ne (e_var 3 (pv 3)) (e_var 2 (pv 2)) (nomark _)) (e_tup (a_cons (e_var 4 (pv 4)) (a_cons (e_bin op_addM rf_add (e_bin op_addM rf_add (e_sl (e_var 5 (pv 5)) (o_no) (o_some (e_var 7 (pv 7)))) (e_tup (a_cons (e_var 3 (pv 3)) (a_nil)))) (e_sl (e_var 5 (pv 5)) (o_some (e_bin op_addM rf_add (e_var 7 (pv 7)) (e_int))) (o_no))) (a_nil)))) (e_non)))))))))))))))))
abbrev s_law : Stmt := top 49
theorem sc_law : FnScope N_law ["script"] (defScope s_law) := ⟨rfl, rfl, rfl, by decide +kernel, rfl, by decide +kernel, by decide +kernel⟩
theorem ok_law {fa : Addr} {cdv : Value} {s : Shared} {H : Hp} {E : XK} (T : Txt P w K mg base) (C_law_changed : Cal P w K mg base "_law_changed" 2 m_law_changed) (C_law_plan : Cal P w K mg base "_law_plan" 4 m_law_plan) (C_law_rule : Cal P w K mg base "_law_rule" 7 m_law_rule) (C_law_source : Cal P w K mg base "_law_source" 1 m_law_source) (I_File : InC P w K mg base "File" 1 2 m_File_init) (I_Rule : InC P w K mg base "Rule" 5 3 m_Rule_init) (Q_Rule : EqC P w K mg base "Rule" 1 ["Rule", "File"] m_Rule_eq) (Q_File : EqC P w K mg base "File" 3 ["Rule", "File"] m_File_eq) (hr : Room 7 (callerA.deeper (envOfC "law" (defScope s_law) s.heap.objs.size fa cdv))) :
    PSs (cxOf (L2.CX P w) P w K mg base N_law "law" (defScope s_law) fa cdv callerA [] s H E) (defBody s_law) (tS ⟨K, mg⟩ (fun cls d _ H => E cls d H) b_law) := by
  have hu := hr.units
  have tk : Takes (cxOf (L2.CX P w) P w K mg base N_law "law" (defScope s_law) fa cdv callerA [] s H E) (fun cls d _ H => E cls d H) := takes_of rfl rfl rfl rfl
  have hgd : (cxOf (L2.CX P w) P w K mg base N_law "law" (defScope s_law) fa cdv callerA [] s H E).A.guards = some [] := rfl
  exact ss_cons (s_for (passes_of rfl) rfl (i_range1 (by rfl) T.n_range (a_cons (e_callB (call_max2 rfl) rf_max2 (by rfl) T.n_max bb_max (a_cons (e_int) (a_cons (e_callB (call_min2 rfl) rf_min2 (by rfl) T.n_min bb_min (a_cons (e_int) (a_cons (e_callB call_lenM rf_len (by rfl) T.n_len bb_len (a_cons (e_var 0 (pv 0)) (a_nil))) (a_nil)))) (a_nil)))) (a_nil))) (g_name 1 sc_law.nd rfl (by first | exact Or.inl rfl | exact Or.inr rfl)) (ss_cons (s_set 2 sc_law.nd rfl (by first | exact Or.inl rfl | exact Or.inr rfl) (e_call C_law_source (hr.mono (by decide)) tk (by rfl) (a_cons (e_var 0 (pv 0)) (a_cons (e_var 1 (pv 1)) (a_nil))))) (ss_one (s_for (passes_of rfl) rfl (i_range1 (by rfl) T.n_range (a_cons (e_int) (a_nil))) (g_name 3 sc_law.nd rfl (by first | exact Or.inl rfl | exact Or.inr rfl)) (ss_cons (s_set 4 sc_law.nd rfl (by first | exact Or.inl rfl | exact Or.inr rfl) (e_call C_law_plan (hr.mono (by decide)) tk (by rfl) (a_cons (e_var 2 (pv 2)) (a_nil)))) (ss_cons (s_asg (e_tup (a_cons (e_call C_law_rule (hr.mono (by decide)) tk (by rfl) (a_cons (e_var 4 (pv 4)) (a_nil))) (a_cons (e_make I_Rule (fun ds h hl => by unfold m_Rule_init fnM; rw [if_neg hl]) (hr.mono (by decide)) (by rfl) (a_cons (e_ix hu (e_var 4 (pv 4)) (e_int) (fun _ _ => rfl)) (a_cons (e_ix hu (e_var 4 (pv 4)) (e_int) (fun _ _ => rfl)) (a_nil)))) (a_nil)))) (g_tup rfl (gs_cons (g_name 8 sc_law.nd rfl (by first | exact Or.inl rfl | exact Or.inr rfl)) (gs_cons (g_name 9 sc_law.nd rfl (by first | exact Or.inl rfl | exact Or.inr rfl)) (gs_nil))))) (ss_cons (s_if (PW.pt (w_or (t_not (t_cmpM (opm_I Q_Rule (hr.mono (by decide)) (opm_I Q_File (hr.mono (by decide)) (opm_B Q_Rule (hr.mono (by decide)) (opm_B Q_File (hr.mono (by decide)) (opm_eq hu))))) (e_var 8 (pv 8)) (e_var 9 (pv 9)) (nomark _))) (w_or (t_cmpM (opm_N Q_Rule (hr.mono (by decide)) (opm_N Q_File (hr.mono (by decide)) (opm_ne hu))) (e_var 8 (pv 8)) (e_var 9 (pv 9)) (nomark _)) (w_or (t_not (t_cmpM (opm_I Q_Rule (hr.mono (by decide)) (opm_I Q_File (hr.mono (by decide)) (opm_B Q_Rule (hr.mono (by decide)) (opm_B Q_File (hr.mono (by decide)) (opm_eq hu))))) (e_var 9 (pv 9)) (e_var 8 (pv 8)) (nomark _))) (w_or1 (t_not (t_cmpM (opm_I Q_Rule (hr.mono (by decide)) (opm_I Q_File (hr.mono (by decide)) (opm_B Q_Rule (hr.mono (by decide)) (opm_B Q_File (hr.mono (by decide)) (opm_eq hu))))) (e_var 9 (pv 9)) (e_var 9 (pv 9)) (nomark _)))))))) (ss_one (s_ret (e_bl))) (ss_nil)) (ss_cons (s_set 5 sc_law.nd rfl (by first | exact Or.inl rfl | exact Or.inr rfl) (e_call C_law_plan (hr.mono (by decide)) tk (by rfl) (a_cons (e_var 2 (pv 2)) (a_nil)))) (ss_cons (s_if (t_cmpM (opm_N Q_Rule (hr.mono (by decide)) (opm_N Q_File (hr.mono (by decide)) (opm_ne hu))) (e_cmpM (opm_I Q_Rule (hr.mono (by decide)) (opm_I Q_File (hr.mono (by decide)) (opm_B Q_Rule (hr.mono (by decide)) (opm_B Q_File (hr.mono (by decide)) (opm_eq hu))))) (e_var 8 (pv 8)) (e_call C_law_rule (hr.mono (by decide)) tk (by rfl) (a_cons (e_var 5 (pv 5)) (a_nil))) (nomark _)) (e_cmpM (opm_I Q_Rule (hr.mono (by decide)) (opm_I Q_File (hr.mono (by decide)) (opm_B Q_Rule (hr.mono (by decide)) (opm_B Q_File (hr.mono (by decide)) (opm_eq hu))))) (e_var 5 (pv 5)) (e_var 4 (pv 4)) (nomark _)) (nomark _)) (ss_one (s_ret (e_bl))) (ss_nil)) (ss_cons (s_set 6 sc_law.nd rfl (by first | exact Or.inl rfl | exact Or.inr rfl) (e_call C_law_changed (hr.mono (by decide)) tk (by rfl) (a_cons (e_var 2 (pv 2)) (a_cons (e_var 4 (pv 4)) (a_nil))))) (ss_cons (s_if (t_cmp op_notN rf_isntN (e_var 6 (pv 6)) (e_non) (nomark _)) (ss_cons (s_set 10 sc_law.nd rfl (by first | exact Or.inl rfl | exact Or.inr rfl) (e_call C_law_rule (hr.mono (by decide)) tk (by rfl) (a_cons (e_var 6 (pv 6)) (a_nil)))) (ss_one (s_if (PW.pt (w_or (t_cmpM (opm_I Q_Rule (hr.mono (by decide)) (opm_I Q_File (hr.mono (by decide)) (opm_B Q_Rule (hr.mono (by decide)) (opm_B Q_File (hr.mono (by decide)) (opm_eq hu))))) (e_var 8 (pv 8)) (e_var 10 (pv 10)) (nomark _)) (w_or (t_not (t_cmpM (opm_N Q_Rule (hr.mono (by decide)) (opm_N Q_File (hr.mono (by decide)) (opm_ne hu))) (e_var 8 (pv 8)) (e_var 10 (pv 10)) (nomark _))) (w_or1 (t_cmpM (opm_I Q_Rule (hr.mono (by decide)) (opm_I Q_File (hr.mono (by decide)) (opm_B Q_Rule (hr.mono (by decide)) (opm_B Q_File (hr.mono (by decide)) (opm_eq hu))))) (e_var 10 (pv 10)) (e_var 8 (pv 8)) (nomark _)))))) (ss_one (s_ret (e_bl))) (ss_nil)))) (ss_nil)) (ss_cons (s_set 7 sc_law.nd rfl (by first | exact Or.inl rfl | exact Or.inr rfl) (e_lst (a_cons (e_non) (a_cons (e_int) (a_cons (e_str) (a_cons (e_var 4 (pv 4)) (a_cons (e_ix hu (e_var 4 (pv 4)) (e_int) (fun _ _ => rfl)) (a_cons (e_ix hu (e_var 4 (pv 4)) (e_int) (fun _ _ => rfl)) (a_cons (e_callTy call_list_of rf_list (by rfl) T.n_list bb_list (a_cons (e_ix hu (e_var 4 (pv 4)) (e_int) (fun _ _ => rfl)) (a_nil))) (a_cons (e_dct0) (a_cons (e_make I_File (fun ds h hl => by unfold m_File_init fnM; rw [if_neg hl]) (hr.mono (by decide)) (by rfl) (a_cons (e_var 8 (pv 8)) (a_nil))) (a_cons (e_bl) (a_nil))))))))))))) (ss_one (s_if (t_cmpM (opm_N Q_Rule (hr.mono (by decide)) (opm_N Q_File (hr.mono (by decide)) (opm_ne hu))) (e_lc (own := [("thing", 11)]) rfl sc_law.nd (i_any (e_var 7 (pv 7))) (blkOk_by (N := N_law) (sc := defScope s_law) (by decide +kernel)) (fun _ _ _ _ _ => g_name 11 sc_law.nd rfl (by first | exact Or.inl rfl | exact Or.inr rfl)) (fun _ _ _ _ _ => ts_one (PW.pt (w_or (t_cmpM (opm_I Q_Rule (hr.mono (by decide)) (opm_I Q_File (hr.mono (by decide)) (opm_B Q_Rule (hr.mono (by decide)) (opm_B Q_File (hr.mono (by decide)) (opm_eq hu))))) (e_var 8 (pv 8)) (e_var 11 (pv 11)) (nomark _)) (w_or1 (t_cmpM (opm_I Q_Rule (hr.mono (by decide)) (opm_I Q_File (hr.mono (by decide)) (opm_B Q_Rule (hr.mono (by decide)) (opm_B Q_File (hr.mono (by decide)) (opm_eq hu))))) (e_var 11 (pv 11)) (e_var 8 (pv 8)) (nomark _)))))) (fun _ _ _ _ _ => e_var 11 (pv 11))) (e_lst (a_nil)) (nomark _)) (ss_one (s_ret (e_bl))) (ss_nil))))))))))))))) (ss_one (s_ret (e_bl)))
end
theorem all_mk {P : Program} {w : World} {K : PySem.W.Frag} {h : Heap} {mg : Str → Option Value} {fa : Addr} (X : K.In h) (G : h.Ns mainGlobals mg) (hfa : mg "law" = some (.ref fa))
    {v_BARRED : Addr} {v_LETTERS : Tok} {v_MOST_LINES : Tok} {v_MOST_REGISTERS : Tok} {v_MOST_STEPS : Tok} {v_MOST_TESTS : Tok} {v_NONE : Tok} {C_BadRegisters f_BadRegisters C_BadLines f_BadLines C_BadLine f_BadLine C_UpgradeError C_Rule C_File f_is_name f_need_registers f_is_one_of f_is_test f_is_step f_are_steps f_is_line f_Rule_init f_Rule_eq f_File_init f_File_eq f_law_source f_law_draw f_law_pick f_law_mixed f_law_steps f_law_tests f_law_good f_law_noted_as f_law_plan f_law_rule f_law_changed f_law : Addr}
    (a_BadRegisters : PySem.W.nsIn K mainGlobals "BadRegisters" = some (some (.ref C_BadRegisters)))
    (i_BadRegisters : PySem.W.findIn K (.ref C_BadRegisters) "__init__" = some (some (.ref f_BadRegisters)))
    (o_BadRegisters : XcO K C_BadRegisters)
    (g_BadRegisters : ∃ fd, Fun K "__init__" "BadRegisters.__init__" (inClass (top 3) 0) f_BadRegisters fd)
    (b_BadRegisters : xcB K C_BadRegisters f_BadRegisters "value" = true)
    (a_BadLines : PySem.W.nsIn K mainGlobals "BadLines" = some (some (.ref C_BadLines)))
    (i_BadLines : PySem.W.findIn K (.ref C_BadLines) "__init__" = some (some (.ref f_BadLines)))
    (o_BadLines : XcO K C_BadLines)
    (g_BadLines : ∃ fd, Fun K "__init__" "BadLines.__init__" (inClass (top 4) 0) f_BadLines fd)
    (b_BadLines : xcB K C_BadLines f_BadLines "value" = true)
    (a_BadLine : PySem.W.nsIn K mainGlobals "BadLine" = some (some (.ref C_BadLine)))
    (i_BadLine : PySem.W.findIn K (.ref C_BadLine) "__init__" = some (some (.ref f_BadLine)))
    (o_BadLine : XcO K C_BadLine)
    (g_BadLine : ∃ fd, Fun K "__init__" "BadLine.__init__" (inClass (top 5) 0) f_BadLine fd)
    (b_BadLine : xcB K C_BadLine f_BadLine "position" = true)
    (a_UpgradeError : PySem.W.nsIn K mainGlobals "UpgradeError" = some (some (.ref C_UpgradeError)))
    (kinds : kindB K [("BadRegisters", C_BadRegisters), ("BadLines", C_BadLines), ("BadLine", C_BadLine)] C_UpgradeError = true)
    (z_all : PySem.W.nsIn K mainGlobals "all" = some none)
    (z_bool : PySem.W.nsIn K mainGlobals "bool" = some none)
    (z_enumerate : PySem.W.nsIn K mainGlobals "enumerate" = some none)
    (z_int : PySem.W.nsIn K mainGlobals "int" = some none)
    (z_isinstance : PySem.W.nsIn K mainGlobals "isinstance" = some none)
    (z_len : PySem.W.nsIn K mainGlobals "len" = some none)
    (z_list : PySem.W.nsIn K mainGlobals "list" = some none)
    (z_max : PySem.W.nsIn K mainGlobals "max" = some none)
    (z_min : PySem.W.nsIn K mainGlobals "min" = some none)
    (z_range : PySem.W.nsIn K mainGlobals "range" = some none)
    (z_set : PySem.W.nsIn K mainGlobals "set" = some none)
    (z_str : PySem.W.nsIn K mainGlobals "str" = some none)
    (z_tuple : PySem.W.nsIn K mainGlobals "tuple" = some none)
    (a_BARRED : PySem.W.nsIn K mainGlobals "BARRED" = some (some (.ref v_BARRED)))
    (t_BARRED : tupB K v_BARRED ["here", "new", "nothing", "is", "not", "from", "or", "ask", "do", "otherwise"] = true)
    (a_LETTERS : PySem.W.nsIn K mainGlobals "LETTERS" = some (some (.str "abcdefghijklmnopqrstuvwxyz" v_LETTERS)))
    (a_MOST_LINES : PySem.W.nsIn K mainGlobals "MOST_LINES" = some (some (.int 8 v_MOST_LINES)))
    (a_MOST_REGISTERS : PySem.W.nsIn K mainGlobals "MOST_REGISTERS" = some (some (.int 3 v_MOST_REGISTERS)))
    (a_MOST_STEPS : PySem.W.nsIn K mainGlobals "MOST_STEPS" = some (some (.int 4 v_MOST_STEPS)))
    (a_MOST_TESTS : PySem.W.nsIn K mainGlobals "MOST_TESTS" = some (some (.int 4 v_MOST_TESTS)))
    (a_NONE : PySem.W.nsIn K mainGlobals "NONE" = some (some (.str "none" v_NONE)))
    (a_Rule : PySem.W.nsIn K mainGlobals "Rule" = some (some (.ref C_Rule)))
    (i_Rule : PySem.W.findIn K (.ref C_Rule) "__init__" = some (some (.ref f_Rule_init)))
    (b_Rule : clsB K C_Rule f_Rule_init ["own_names", "rows"] = true)
    (a_File : PySem.W.nsIn K mainGlobals "File" = some (some (.ref C_File)))
    (i_File : PySem.W.findIn K (.ref C_File) "__init__" = some (some (.ref f_File_init)))
    (b_File : clsB K C_File f_File_init ["rule", "held", "last", "mark", "mine", "is_amid"] = true)
    (e_Rule : eqcB K C_Rule f_Rule_eq ([C_Rule, C_File]) = true)
    (e_File : eqcB K C_File f_File_eq ([C_Rule, C_File]) = true)
    (s_File : isiB K C_File [("Rule", C_Rule), ("File", C_File)] "File" = true)
    (s_Rule : isiB K C_Rule [("Rule", C_Rule), ("File", C_File)] "Rule" = true)
    (a_is_name : PySem.W.nsIn K mainGlobals "is_name" = some (some (.ref f_is_name)))
    (g_is_name : ∃ fd, Fun K "is_name" "is_name" s_is_name f_is_name fd)
    (a_need_registers : PySem.W.nsIn K mainGlobals "need_registers" = some (some (.ref f_need_registers)))
    (g_need_registers : ∃ fd, Fun K "need_registers" "need_registers" s_need_registers f_need_registers fd)
    (a_is_one_of : PySem.W.nsIn K mainGlobals "is_one_of" = some (some (.ref f_is_one_of)))
    (g_is_one_of : ∃ fd, Fun K "is_one_of" "is_one_of" s_is_one_of f_is_one_of fd)
    (a_is_test : PySem.W.nsIn K mainGlobals "is_test" = some (some (.ref f_is_test)))
    (g_is_test : ∃ fd, Fun K "is_test" "is_test" s_is_test f_is_test fd)
    (a_is_step : PySem.W.nsIn K mainGlobals "is_step" = some (some (.ref f_is_step)))
    (g_is_step : ∃ fd, Fun K "is_step" "is_step" s_is_step f_is_step fd)
    (a_are_steps : PySem.W.nsIn K mainGlobals "are_steps" = some (some (.ref f_are_steps)))
    (g_are_steps : ∃ fd, Fun K "are_steps" "are_steps" s_are_steps f_are_steps fd)
    (a_is_line : PySem.W.nsIn K mainGlobals "is_line" = some (some (.ref f_is_line)))
    (g_is_line : ∃ fd, Fun K "is_line" "is_line" s_is_line f_is_line fd)
    (g_Rule_init : ∃ fd, Fun K "__init__" "Rule.__init__" s_Rule_init f_Rule_init fd)
    (g_Rule_eq : ∃ fd, Fun K "__eq__" "Rule.__eq__" s_Rule_eq f_Rule_eq fd)
    (g_File_init : ∃ fd, Fun K "__init__" "File.__init__" s_File_init f_File_init fd)
    (g_File_eq : ∃ fd, Fun K "__eq__" "File.__eq__" s_File_eq f_File_eq fd)
    (a_law_source : PySem.W.nsIn K mainGlobals "_law_source" = some (some (.ref f_law_source)))
    (g_law_source : ∃ fd, Fun K "_law_source" "_law_source" s_law_source f_law_source fd)
    (a_law_draw : PySem.W.nsIn K mainGlobals "_law_draw" = some (some (.ref f_law_draw)))
    (g_law_draw : ∃ fd, Fun K "_law_draw" "_law_draw" s_law_draw f_law_draw fd)
    (a_law_pick : PySem.W.nsIn K mainGlobals "_law_pick" = some (some (.ref f_law_pick)))
    (g_law_pick : ∃ fd, Fun K "_law_pick" "_law_pick" s_law_pick f_law_pick fd)
    (a_law_mixed : PySem.W.nsIn K mainGlobals "_law_mixed" = some (some (.ref f_law_mixed)))
    (g_law_mixed : ∃ fd, Fun K "_law_mixed" "_law_mixed" s_law_mixed f_law_mixed fd)
    (a_law_steps : PySem.W.nsIn K mainGlobals "_law_steps" = some (some (.ref f_law_steps)))
    (g_law_steps : ∃ fd, Fun K "_law_steps" "_law_steps" s_law_steps f_law_steps fd)
    (a_law_tests : PySem.W.nsIn K mainGlobals "_law_tests" = some (some (.ref f_law_tests)))
    (g_law_tests : ∃ fd, Fun K "_law_tests" "_law_tests" s_law_tests f_law_tests fd)
    (a_law_good : PySem.W.nsIn K mainGlobals "_law_good" = some (some (.ref f_law_good)))
    (g_law_good : ∃ fd, Fun K "_law_good" "_law_good" s_law_good f_law_good fd)
    (a_law_noted_as : PySem.W.nsIn K mainGlobals "_law_noted_as" = some (some (.ref f_law_noted_as)))
    (g_law_noted_as : ∃ fd, Fun K "_law_noted_as" "_law_noted_as" s_law_noted_as f_law_noted_as fd)
    (a_law_plan : PySem.W.nsIn K mainGlobals "_law_plan" = some (some (.ref f_law_plan)))
    (g_law_plan : ∃ fd, Fun K "_law_plan" "_law_plan" s_law_plan f_law_plan fd)
    (a_law_rule : PySem.W.nsIn K mainGlobals "_law_rule" = some (some (.ref f_law_rule)))
    (g_law_rule : ∃ fd, Fun K "_law_rule" "_law_rule" s_law_rule f_law_rule fd)
    (a_law_changed : PySem.W.nsIn K mainGlobals "_law_changed" = some (some (.ref f_law_changed)))
    (g_law_changed : ∃ fd, Fun K "_law_changed" "_law_changed" s_law_changed f_law_changed fd)
    (a_law : PySem.W.nsIn K mainGlobals "law" = some (some (.ref f_law)))
    (g_law : ∃ fd, Fun K "law" "law" s_law f_law fd)
    (hm : ∀ ns : List Int, ns.length ≤ 63 → (∀ z ∈ ns, Builtin.Int.intBits z ≤ 1048576) → ∃ h', b_law ([some (.ref 0)] ++ List.replicate (N_law.length - 1) none) (scriptM ns) = .rt (.bl true) h') :
    ∀ (base : Heap) (s : Shared) (H : Hp) (a : Addr) (ns : List Int), ns.length ≤ 63 → (∀ z ∈ ns, Builtin.Int.intBits z ≤ 1048576) → Env0 P w K mg base callerA [] s H → RdL K H a (ns.map V.int) →
        codeAny (model P w) callerA (.call (.ref fa) ⟨[.ref a], []⟩) (CR (L2.CX P w) [] P w H s (fun v _ => v = .bl true) fun _ _ _ => False) s := by
  have e := hfa.symm.trans (PySem.W.mg_of X G a_law)
  cases e
  intro base s H a ns hl hbits e0 hS
  have cs : ∀ p ∈ ([("BadRegisters", C_BadRegisters), ("BadLines", C_BadLines), ("BadLine", C_BadLine)] : List (Str × Addr)), mg p.1 = some (.ref p.2) := by
    simp only [List.forall_mem_cons]
    exact ⟨PySem.W.mg_of X G a_BadRegisters, PySem.W.mg_of X G a_BadLines, PySem.W.mg_of X G a_BadLine, fun _ z => (nomatch z)⟩
  have B_BadRegisters := xcB_ok b_BadRegisters
  have B_BadLines := xcB_ok b_BadLines
  have B_BadLine := xcB_ok b_BadLine
  have xs : ∀ p ∈ ([("BadRegisters", C_BadRegisters), ("BadLines", C_BadLines), ("BadLine", C_BadLine)] : List (Str × Addr)), IsC K p.2 := by
    simp only [List.forall_mem_cons]
    exact ⟨B_BadRegisters.is, B_BadLines.is, B_BadLine.is, fun _ z => (nomatch z)⟩
  have B_Rule := clsB_ok b_Rule
  have B_File := clsB_ok b_File
  have ics : ∀ p ∈ ([("Rule", C_Rule), ("File", C_File)] : List (Str × Addr)), mg p.1 = some (.ref p.2) := by
    simp only [List.forall_mem_cons]
    exact ⟨PySem.W.mg_of X G a_Rule, PySem.W.mg_of X G a_File, fun _ z => (nomatch z)⟩
  have icl : ∀ p ∈ ([("Rule", C_Rule), ("File", C_File)] : List (Str × Addr)), Cls K p.2 := by
    simp only [List.forall_mem_cons]
    exact ⟨B_Rule.cl, B_File.cl, fun _ z => (nomatch z)⟩
  have T : Txt P w K mg base := {
    n_all := PySem.W.mg_none_of X G z_all
    n_bool := PySem.W.mg_none_of X G z_bool
    n_enumerate := PySem.W.mg_none_of X G z_enumerate
    n_int := PySem.W.mg_none_of X G z_int
    n_isinstance := PySem.W.mg_none_of X G z_isinstance
    n_len := PySem.W.mg_none_of X G z_len
    n_list := PySem.W.mg_none_of X G z_list
    n_max := PySem.W.mg_none_of X G z_max
    n_min := PySem.W.mg_none_of X G z_min
    n_range := PySem.W.mg_none_of X G z_range
    n_set := PySem.W.mg_none_of X G z_set
    n_str := PySem.W.mg_none_of X G z_str
    n_tuple := PySem.W.mg_none_of X G z_tuple
    x_BadRegisters := let ⟨_, F⟩ := g_BadRegisters; xc_mk (PySem.W.mg_of X G a_BadRegisters) o_BadRegisters F B_BadRegisters ⟨rfl, rfl, rfl, by decide +kernel, rfl, by decide +kernel, by decide +kernel⟩ rfl (.inl rfl) (.inl rfl) (by decide) (by decide) (fun _ _ _ _ _ _ us hl => match us, hl with | [_, _], _ => rfl) (fun _ _ _ _ _ _ _ _ => rfl)
    x_BadLines := let ⟨_, F⟩ := g_BadLines; xc_mk (PySem.W.mg_of X G a_BadLines) o_BadLines F B_BadLines ⟨rfl, rfl, rfl, by decide +kernel, rfl, by decide +kernel, by decide +kernel⟩ rfl (.inl rfl) (.inl rfl) (by decide) (by decide) (fun _ _ _ _ _ _ us hl => match us, hl with | [_, _], _ => rfl) (fun _ _ _ _ _ _ _ _ => rfl)
    x_BadLine := let ⟨_, F⟩ := g_BadLine; xc_mk (PySem.W.mg_of X G a_BadLine) o_BadLine F B_BadLine ⟨rfl, rfl, rfl, by decide +kernel, rfl, by decide +kernel, by decide +kernel⟩ rfl (.inl rfl) (.inl rfl) (by decide) (by decide) (fun _ _ _ _ _ _ us hl => match us, hl with | [_, _], _ => rfl) (fun _ _ _ _ _ _ _ _ => rfl)
    m_File := adr_of (PySem.W.mg_of X G a_File)
    i_File := by rw [adr_is (PySem.W.mg_of X G a_File)]; exact isTabI ics icl s_File
    m_Rule := adr_of (PySem.W.mg_of X G a_Rule)
    i_Rule := by rw [adr_is (PySem.W.mg_of X G a_Rule)]; exact isTabI ics icl s_Rule
    f_held := fld_mk2 (ci := [("File", C_File)]) (cx := []) (by simp only [List.forall_mem_cons]; exact ⟨PySem.W.mg_of X G a_File, fun _ z => (nomatch z)⟩) (by simp only [List.forall_mem_cons]; exact ⟨⟨B_File.cl, B_File.no "held" (by decide)⟩, fun _ z => (nomatch z)⟩) (fun _ z => (nomatch z)) (fun _ z => (nomatch z))
    f_is_amid := fld_mk2 (ci := [("File", C_File)]) (cx := []) (by simp only [List.forall_mem_cons]; exact ⟨PySem.W.mg_of X G a_File, fun _ z => (nomatch z)⟩) (by simp only [List.forall_mem_cons]; exact ⟨⟨B_File.cl, B_File.no "is_amid" (by decide)⟩, fun _ z => (nomatch z)⟩) (fun _ z => (nomatch z)) (fun _ z => (nomatch z))
    f_last := fld_mk2 (ci := [("File", C_File)]) (cx := []) (by simp only [List.forall_mem_cons]; exact ⟨PySem.W.mg_of X G a_File, fun _ z => (nomatch z)⟩) (by simp only [List.forall_mem_cons]; exact ⟨⟨B_File.cl, B_File.no "last" (by decide)⟩, fun _ z => (nomatch z)⟩) (fun _ z => (nomatch z)) (fun _ z => (nomatch z))
    f_mark := fld_mk2 (ci := [("File", C_File)]) (cx := []) (by simp only [List.forall_mem_cons]; exact ⟨PySem.W.mg_of X G a_File, fun _ z => (nomatch z)⟩) (by simp only [List.forall_mem_cons]; exact ⟨⟨B_File.cl, B_File.no "mark" (by decide)⟩, fun _ z => (nomatch z)⟩) (fun _ z => (nomatch z)) (fun _ z => (nomatch z))
    f_mine := fld_mk2 (ci := [("File", C_File)]) (cx := []) (by simp only [List.forall_mem_cons]; exact ⟨PySem.W.mg_of X G a_File, fun _ z => (nomatch z)⟩) (by simp only [List.forall_mem_cons]; exact ⟨⟨B_File.cl, B_File.no "mine" (by decide)⟩, fun _ z => (nomatch z)⟩) (fun _ z => (nomatch z)) (fun _ z => (nomatch z))
    f_own_names := fld_mk2 (ci := [("Rule", C_Rule)]) (cx := []) (by simp only [List.forall_mem_cons]; exact ⟨PySem.W.mg_of X G a_Rule, fun _ z => (nomatch z)⟩) (by simp only [List.forall_mem_cons]; exact ⟨⟨B_Rule.cl, B_Rule.no "own_names" (by decide)⟩, fun _ z => (nomatch z)⟩) (fun _ z => (nomatch z)) (fun _ z => (nomatch z))
    f_rows := fld_mk2 (ci := [("Rule", C_Rule)]) (cx := []) (by simp only [List.forall_mem_cons]; exact ⟨PySem.W.mg_of X G a_Rule, fun _ z => (nomatch z)⟩) (by simp only [List.forall_mem_cons]; exact ⟨⟨B_Rule.cl, B_Rule.no "rows" (by decide)⟩, fun _ z => (nomatch z)⟩) (fun _ z => (nomatch z)) (fun _ z => (nomatch z))
    f_rule := fld_mk2 (ci := [("File", C_File)]) (cx := []) (by simp only [List.forall_mem_cons]; exact ⟨PySem.W.mg_of X G a_File, fun _ z => (nomatch z)⟩) (by simp only [List.forall_mem_cons]; exact ⟨⟨B_File.cl, B_File.no "rule" (by decide)⟩, fun _ z => (nomatch z)⟩) (fun _ z => (nomatch z)) (fun _ z => (nomatch z))
    c_BARRED := tup_mk (PySem.W.mg_of X G a_BARRED) t_BARRED
    c_LETTERS := str_mk (PySem.W.mg_of X G a_LETTERS)
    c_MOST_LINES := int_mk (PySem.W.mg_of X G a_MOST_LINES)
    c_MOST_REGISTERS := int_mk (PySem.W.mg_of X G a_MOST_REGISTERS)
    c_MOST_STEPS := int_mk (PySem.W.mg_of X G a_MOST_STEPS)
    c_MOST_TESTS := int_mk (PySem.W.mg_of X G a_MOST_TESTS)
    c_NONE := str_mk (PySem.W.mg_of X G a_NONE)
  }
  obtain ⟨_, F_is_name⟩ := g_is_name
  have bi_is_name := F_is_name.binds (ps := ["value"]) fun _ _ _ _ _ _ us hl => match us, hl with | [_], _ => rfl
  have C_is_name : Cal P w K mg base "is_name" 1 m_is_name := cal_mk F_is_name (PySem.W.mg_of X G a_is_name) bi_is_name (ok_is_name F_is_name T ) rfl
  obtain ⟨_, F_need_registers⟩ := g_need_registers
  have bi_need_registers := F_need_registers.binds (ps := ["value"]) fun _ _ _ _ _ _ us hl => match us, hl with | [_], _ => rfl
  have C_need_registers : Cal P w K mg base "need_registers" 3 m_need_registers := cal_mk F_need_registers (PySem.W.mg_of X G a_need_registers) bi_need_registers (ok_need_registers F_need_registers T C_is_name) rfl
  obtain ⟨_, F_is_one_of⟩ := g_is_one_of
  have bi_is_one_of := F_is_one_of.binds (ps := ["value", "words"]) fun _ _ _ _ _ _ us hl => match us, hl with | [_, _], _ => rfl
  have C_is_one_of : Cal P w K mg base "is_one_of" 1 m_is_one_of := cal_mk F_is_one_of (PySem.W.mg_of X G a_is_one_of) bi_is_one_of (ok_is_one_of F_is_one_of T ) rfl
  obtain ⟨_, F_is_test⟩ := g_is_test
  have bi_is_test := F_is_test.binds (ps := ["value", "names"]) fun _ _ _ _ _ _ us hl => match us, hl with | [_, _], _ => rfl
  have C_is_test : Cal P w K mg base "is_test" 2 m_is_test := cal_mk F_is_test (PySem.W.mg_of X G a_is_test) bi_is_test (ok_is_test F_is_test T C_is_one_of) rfl
  obtain ⟨_, F_is_step⟩ := g_is_step
  have bi_is_step := F_is_step.binds (ps := ["value", "names"]) fun _ _ _ _ _ _ us hl => match us, hl with | [_, _], _ => rfl
  have C_is_step : Cal P w K mg base "is_step" 2 m_is_step := cal_mk F_is_step (PySem.W.mg_of X G a_is_step) bi_is_step (ok_is_step F_is_step T C_is_one_of) rfl
  obtain ⟨_, F_are_steps⟩ := g_are_steps
  have bi_are_steps := F_are_steps.binds (ps := ["value", "names"]) fun _ _ _ _ _ _ us hl => match us, hl with | [_, _], _ => rfl
  have C_are_steps : Cal P w K mg base "are_steps" 3 m_are_steps := cal_mk F_are_steps (PySem.W.mg_of X G a_are_steps) bi_are_steps (ok_are_steps F_are_steps T C_is_step) rfl
  obtain ⟨_, F_is_line⟩ := g_is_line
  have bi_is_line := F_is_line.binds (ps := ["value", "names"]) fun _ _ _ _ _ _ us hl => match us, hl with | [_, _], _ => rfl
  have C_is_line : Cal P w K mg base "is_line" 4 m_is_line := cal_mk F_is_line (PySem.W.mg_of X G a_is_line) bi_is_line (ok_is_line F_is_line T C_are_steps C_is_test) rfl
  obtain ⟨_, F_Rule_init⟩ := g_Rule_init
  have bi_Rule_init := F_Rule_init.binds (ps := ["self", "registers", "lines"]) fun _ _ _ _ _ _ us hl => match us, hl with | [_, _, _], _ => rfl
  have I_Rule : InC P w K mg base "Rule" 5 3 m_Rule_init := in_mk (PySem.W.mg_of X G a_Rule) B_Rule.makes bi_Rule_init (ok_Rule_init F_Rule_init T C_is_line C_need_registers) rfl
  obtain ⟨_, F_Rule_eq⟩ := g_Rule_eq
  have bi_Rule_eq := F_Rule_eq.binds (ps := ["self", "other"]) fun _ _ _ _ _ _ us hl => match us, hl with | [_, _], _ => rfl
  have Q_Rule : EqC P w K mg base "Rule" 1 ["Rule", "File"] m_Rule_eq := eqc_mk (cs := [("Rule", C_Rule), ("File", C_File)]) (PySem.W.mg_of X G a_Rule) e_Rule bi_Rule_eq rfl (ok_Rule_eq F_Rule_eq T ) ics
  obtain ⟨_, F_File_init⟩ := g_File_init
  have bi_File_init := F_File_init.binds (ps := ["self", "rule"]) fun _ _ _ _ _ _ us hl => match us, hl with | [_, _], _ => rfl
  have I_File : InC P w K mg base "File" 1 2 m_File_init := in_mk (PySem.W.mg_of X G a_File) B_File.makes bi_File_init (ok_File_init F_File_init T ) rfl
  obtain ⟨_, F_File_eq⟩ := g_File_eq
  have bi_File_eq := F_File_eq.binds (ps := ["self", "other"]) fun _ _ _ _ _ _ us hl => match us, hl with | [_, _], _ => rfl
  have Q_File : EqC P w K mg base "File" 3 ["Rule", "File"] m_File_eq := eqc_mk (cs := [("Rule", C_Rule), ("File", C_File)]) (PySem.W.mg_of X G a_File) e_File bi_File_eq rfl (ok_File_eq F_File_eq T Q_Rule) ics
  obtain ⟨_, F_law_source⟩ := g_law_source
  have bi_law_source := F_law_source.binds (ps := ["script", "start"]) fun _ _ _ _ _ _ us hl => match us, hl with | [_, _], _ => rfl
  have C_law_source : Cal P w K mg base "_law_source" 1 m_law_source := cal_mk F_law_source (PySem.W.mg_of X G a_law_source) bi_law_source (ok_law_source F_law_source T ) rfl
  obtain ⟨_, F_law_draw⟩ := g_law_draw
  have bi_law_draw := F_law_draw.binds (ps := ["source", "span"]) fun _ _ _ _ _ _ us hl => match us, hl with | [_, _], _ => rfl
  have C_law_draw : Cal P w K mg base "_law_draw" 1 m_law_draw := cal_mk F_law_draw (PySem.W.mg_of X G a_law_draw) bi_law_draw (ok_law_draw F_law_draw T ) rfl
  obtain ⟨_, F_law_pick⟩ := g_law_pick
  have bi_law_pick := F_law_pick.binds (ps := ["source", "things"]) fun _ _ _ _ _ _ us hl => match us, hl with | [_, _], _ => rfl
  have C_law_pick : Cal P w K mg base "_law_pick" 2 m_law_pick := cal_mk F_law_pick (PySem.W.mg_of X G a_law_pick) bi_law_pick (ok_law_pick F_law_pick T C_law_draw) rfl
  obtain ⟨_, F_law_mixed⟩ := g_law_mixed
  have bi_law_mixed := F_law_mixed.binds (ps := ["source", "things"]) fun _ _ _ _ _ _ us hl => match us, hl with | [_, _], _ => rfl
  have C_law_mixed : Cal P w K mg base "_law_mixed" 2 m_law_mixed := cal_mk F_law_mixed (PySem.W.mg_of X G a_law_mixed) bi_law_mixed (ok_law_mixed F_law_mixed T C_law_draw) rfl
  obtain ⟨_, F_law_steps⟩ := g_law_steps
  have bi_law_steps := F_law_steps.binds (ps := ["source", "lot", "most"]) fun _ _ _ _ _ _ us hl => match us, hl with | [_, _, _], _ => rfl
  have C_law_steps : Cal P w K mg base "_law_steps" 3 m_law_steps := cal_mk F_law_steps (PySem.W.mg_of X G a_law_steps) bi_law_steps (ok_law_steps F_law_steps T C_law_draw C_law_pick) rfl
  obtain ⟨_, F_law_tests⟩ := g_law_tests
  have bi_law_tests := F_law_tests.binds (ps := ["source", "lot", "most"]) fun _ _ _ _ _ _ us hl => match us, hl with | [_, _, _], _ => rfl
  have C_law_tests : Cal P w K mg base "_law_tests" 3 m_law_tests := cal_mk F_law_tests (PySem.W.mg_of X G a_law_tests) bi_law_tests (ok_law_tests F_law_tests T C_law_draw C_law_pick) rfl
  obtain ⟨_, F_law_good⟩ := g_law_good
  have bi_law_good := F_law_good.binds (ps := ["source", "note"]) fun _ _ _ _ _ _ us hl => match us, hl with | [_, _], _ => rfl
  have C_law_good : Cal P w K mg base "_law_good" 3 m_law_good := cal_mk F_law_good (PySem.W.mg_of X G a_law_good) bi_law_good (ok_law_good F_law_good T C_law_draw C_law_mixed) rfl
  obtain ⟨_, F_law_noted_as⟩ := g_law_noted_as
  have bi_law_noted_as := F_law_noted_as.binds (ps := ["word", "names", "lines"]) fun _ _ _ _ _ _ us hl => match us, hl with | [_, _, _], _ => rfl
  have C_law_noted_as : Cal P w K mg base "_law_noted_as" 1 m_law_noted_as := cal_mk F_law_noted_as (PySem.W.mg_of X G a_law_noted_as) bi_law_noted_as (ok_law_noted_as F_law_noted_as T ) rfl
  obtain ⟨_, F_law_plan⟩ := g_law_plan
  have bi_law_plan := F_law_plan.binds (ps := ["source"]) fun _ _ _ _ _ _ us hl => match us, hl with | [_], _ => rfl
  have C_law_plan : Cal P w K mg base "_law_plan" 4 m_law_plan := cal_mk F_law_plan (PySem.W.mg_of X G a_law_plan) bi_law_plan (ok_law_plan F_law_plan T C_law_draw C_law_good C_law_noted_as C_law_pick C_law_steps C_law_tests) rfl
  obtain ⟨_, F_law_rule⟩ := g_law_rule
  have bi_law_rule := F_law_rule.binds (ps := ["plan"]) fun _ _ _ _ _ _ us hl => match us, hl with | [_], _ => rfl
  have C_law_rule : Cal P w K mg base "_law_rule" 7 m_law_rule := cal_mk F_law_rule (PySem.W.mg_of X G a_law_rule) bi_law_rule (ok_law_rule F_law_rule T I_Rule) rfl
  obtain ⟨_, F_law_changed⟩ := g_law_changed
  have bi_law_changed := F_law_changed.binds (ps := ["source", "plan"]) fun _ _ _ _ _ _ us hl => match us, hl with | [_, _], _ => rfl
  have C_law_changed : Cal P w K mg base "_law_changed" 2 m_law_changed := cal_mk F_law_changed (PySem.W.mg_of X G a_law_changed) bi_law_changed (ok_law_changed F_law_changed T C_law_draw) rfl
  obtain ⟨_, F_law⟩ := g_law
  have bi_law := F_law.binds (ps := ["script"]) fun _ _ _ _ _ _ us hl => match us, hl with | [_], _ => rfl
  exact law_run F_law sc_law (k := 7) ⟨rfl, by decide, by decide⟩ e0 bi_law hS (fun cdv hr => ok_law T C_law_changed C_law_plan C_law_rule C_law_source I_File I_Rule Q_Rule Q_File hr) (hm ns hl hbits)
end ML

namespace ML
open PySem PySem.Spec PyProof.Rows L2
theorem draw {h : MH} {k : Nat} {r m span : Int} (hk : h[k]? = some (.lst [.int r, .int m])) (hr : 0 ≤ r) (hm : 0 ≤ m) (hm2 : m < 2147483648) (hs : 0 < span) (hs2 : span < 1000000) :
    ∃ v r' m', m_law_draw [.ref k, .int span] h = .ok (.int v) (h.set k (.lst [.int r', .int m'])) ∧ 0 ≤ v ∧ v < span ∧ 0 ≤ r' ∧ 0 ≤ m' ∧ m' < 2147483648 := by
  unfold m_law_draw
  have g1 : ∀ {o : O}, (h.set k o)[k]? = some o := fun {o} => set_get hk
  by_cases c : span ≤ r
  · refine ⟨r % span, r / span, m, ?_, Int.emod_nonneg _ (by omega), Int.emod_lt_of_pos _ hs, Int.ediv_nonneg hr (by omega), hm, hm2⟩
    have hl : span.natAbs.log2 < 9000 := Nat.lt_trans (log_lt (k := 20) (by decide) (by omega)) (by decide)
    have a0 := ix0 hk
    have a1 := mod_i (h := h) (k := r) hs
    have a2 := div_i (h := h) (k := r) hs hl
    have a3 := st0 (v := .int (r / span)) hk
    have a4 := ge_T (h := h) c
    refine ef_rt rfl ?_
    unfold b_law_draw
    apply es_seqR
    apply es_ifT
    · repeat' (first | with_reducible exact a0 | with_reducible exact a1 | with_reducible exact a2 | with_reducible exact a3 | with_reducible exact a4 | exact (rfl : List.set _ _ _ = _) | ((with_reducible apply ev_var); exact rfl) | with_reducible exact ev_con | with_reducible exact ev_nil | with_reducible exact es_pass | with_reducible exact int_i | with_reducible exact add_i | with_reducible exact sub_i | with_reducible apply ev_bin | with_reducible apply ev_un | with_reducible apply ev_cons | with_reducible apply ev_on | with_reducible apply ev_val | with_reducible apply ev_not | with_reducible apply es_set' | with_reducible apply es_exp | with_reducible apply es_ret | with_reducible apply es_setX | with_reducible apply es_par2)
    · apply es_seq
      · repeat' (first | with_reducible exact a0 | with_reducible exact a1 | with_reducible exact a2 | with_reducible exact a3 | with_reducible exact a4 | exact (rfl : List.set _ _ _ = _) | ((with_reducible apply ev_var); exact rfl) | with_reducible exact ev_con | with_reducible exact ev_nil | with_reducible exact es_pass | with_reducible exact int_i | with_reducible exact add_i | with_reducible exact sub_i | with_reducible apply ev_bin | with_reducible apply ev_un | with_reducible apply ev_cons | with_reducible apply ev_on | with_reducible apply ev_val | with_reducible apply ev_not | with_reducible apply es_set' | with_reducible apply es_exp | with_reducible apply es_ret | with_reducible apply es_setX | with_reducible apply es_par2)
      · apply es_seq
        · repeat' (first | with_reducible exact a0 | with_reducible exact a1 | with_reducible exact a2 | with_reducible exact a3 | with_reducible exact a4 | exact (rfl : List.set _ _ _ = _) | ((with_reducible apply ev_var); exact rfl) | with_reducible exact ev_con | with_reducible exact ev_nil | with_reducible exact es_pass | with_reducible exact int_i | with_reducible exact add_i | with_reducible exact sub_i | with_reducible apply ev_bin | with_reducible apply ev_un | with_reducible apply ev_cons | with_reducible apply ev_on | with_reducible apply ev_val | with_reducible apply ev_not | with_reducible apply es_set' | with_reducible apply es_exp | with_reducible apply es_ret | with_reducible apply es_setX | with_reducible apply es_par2)
        · repeat' (first | with_reducible exact a0 | with_reducible exact a1 | with_reducible exact a2 | with_reducible exact a3 | with_reducible exact a4 | exact (rfl : List.set _ _ _ = _) | ((with_reducible apply ev_var); exact rfl) | with_reducible exact ev_con | with_reducible exact ev_nil | with_reducible exact es_pass | with_reducible exact int_i | with_reducible exact add_i | with_reducible exact sub_i | with_reducible apply ev_bin | with_reducible apply ev_un | with_reducible apply ev_cons | with_reducible apply ev_on | with_reducible apply ev_val | with_reducible apply ev_not | with_reducible apply es_set' | with_reducible apply es_exp | with_reducible apply es_ret | with_reducible apply es_setX | with_reducible apply es_par2)
  · have hm' : m.natAbs.log2 < 32 := log_lt (by decide) (by omega)
    have h69 : (69621 : Int).natAbs.log2 < 17 := log_lt (by decide) (by decide)
    have h13 : (13 : Int).natAbs.log2 < 9000 := Nat.lt_trans (log_lt (k := 4) (by decide) (by decide)) (by decide)
    have a0 := ix0 hk
    have a9 := ix1 hk
    obtain ⟨m1, a1⟩ : ∃ z, mulF (.int m) (.int 69621) h = .ok (.int z) h := ⟨_, mul_i (by omega)⟩
    obtain ⟨m2, a2⟩ : ∃ z, addF (.int m1) (.int 3571) h = .ok (.int z) h := ⟨_, add_i⟩
    obtain ⟨m', a3, b1, b2⟩ : ∃ z, modF (.int m2) (.int 2147483647) h = .ok (.int z) h ∧ 0 ≤ z ∧ z < 2147483647 := ⟨_, mod_i (by decide), Int.emod_nonneg _ (by decide), Int.emod_lt_of_pos _ (by decide)⟩
    have hq : m'.natAbs.log2 < 32 := log_lt (by decide) (by omega)
    have hp : ((m'.natAbs.log2 + 1 : Nat) : Int) * 5 ≤ 2 ^ 27 := by omega
    obtain ⟨h', eh⟩ : ∃ h', h' = h.set k (.lst [.int r, .int m']) := ⟨_, rfl⟩
    have a4 : stF (.ref k) (.int 1) (.int m') h = some h' := by rw [eh]; exact st1 hk
    have a5 : ixF (.ref k) (.int 1) h' = .ok (.int m') h' := ix1 (by rw [eh]; exact g1)
    obtain ⟨p1, c1⟩ : ∃ z, powF (.int m') (.int 5) h' = .ok (.int z) h' := ⟨_, pow_i (by decide) hp⟩
    obtain ⟨p2, c2⟩ : ∃ z, modF (.int p1) (.int 1000000007) h' = .ok (.int z) h' := ⟨_, mod_i (by decide)⟩
    obtain ⟨p3, c3⟩ : ∃ z, fdivF (.int p2) (.int 13) h' = .ok (.int z) h' := ⟨_, div_i (by decide) h13⟩
    obtain ⟨v, c4, v1, v2⟩ : ∃ z, modF (.int p3) (.int span) h' = .ok (.int z) h' ∧ 0 ≤ z ∧ z < span := ⟨_, mod_i hs, Int.emod_nonneg _ (by omega), Int.emod_lt_of_pos _ hs⟩
    refine ⟨v, r, m', ?_, v1, v2, hr, b1, by omega⟩
    rw [← eh]
    have a6 := ge_F (h := h) c
    refine ef_rt rfl ?_
    unfold b_law_draw
    apply es_seq
    · apply es_ifF
      · repeat' (first | with_reducible exact a0 | with_reducible exact a6 | exact (rfl : List.set _ _ _ = _) | ((with_reducible apply ev_var); exact rfl) | with_reducible exact ev_con | with_reducible exact ev_nil | with_reducible exact es_pass | with_reducible exact int_i | with_reducible exact add_i | with_reducible exact sub_i | with_reducible apply ev_bin | with_reducible apply ev_un | with_reducible apply ev_cons | with_reducible apply ev_on | with_reducible apply ev_val | with_reducible apply ev_not | with_reducible apply es_set' | with_reducible apply es_exp | with_reducible apply es_ret | with_reducible apply es_setX | with_reducible apply es_par2)
      · exact es_pass
    · apply es_seq
      · repeat' (first | with_reducible exact a0 | with_reducible exact a1 | with_reducible exact a2 | with_reducible exact a3 | with_reducible exact a4 | with_reducible exact a5 | with_reducible exact a9 | with_reducible exact c1 | with_reducible exact c2 | with_reducible exact c3 | with_reducible exact c4 | exact (rfl : List.set _ _ _ = _) | ((with_reducible apply ev_var); exact rfl) | with_reducible exact ev_con | with_reducible exact ev_nil | with_reducible exact es_pass | with_reducible exact int_i | with_reducible exact add_i | with_reducible exact sub_i | with_reducible apply ev_bin | with_reducible apply ev_un | with_reducible apply ev_cons | with_reducible apply ev_on | with_reducible apply ev_val | with_reducible apply ev_not | with_reducible apply es_set' | with_reducible apply es_exp | with_reducible apply es_ret | with_reducible apply es_setX | with_reducible apply es_par2)
      · repeat' (first | with_reducible exact a0 | with_reducible exact a1 | with_reducible exact a2 | with_reducible exact a3 | with_reducible exact a4 | with_reducible exact a5 | with_reducible exact a9 | with_reducible exact c1 | with_reducible exact c2 | with_reducible exact c3 | with_reducible exact c4 | exact (rfl : List.set _ _ _ = _) | ((with_reducible apply ev_var); exact rfl) | with_reducible exact ev_con | with_reducible exact ev_nil | with_reducible exact es_pass | with_reducible exact int_i | with_reducible exact add_i | with_reducible exact sub_i | with_reducible apply ev_bin | with_reducible apply ev_un | with_reducible apply ev_cons | with_reducible apply ev_on | with_reducible apply ev_val | with_reducible apply ev_not | with_reducible apply es_set' | with_reducible apply es_exp | with_reducible apply es_ret | with_reducible apply es_setX | with_reducible apply es_par2)
def src_body : SM := setS 2 (bin addF (bin modF (onA intF (consA (bin powF (onA intF (consA (bin addF (bin mulF (varE 2) (conE (.int 50021))) (onA intF (consA (varE 3) (nilA)))) (nilA))) (conE (.int 3))) (nilA))) (conE (.int 2147483563))) (conE (.int 1)))
theorem src_loop {a st : D} {h : MH} : ∀ (ns : List Int) (m : Int) (c : Option D), (∀ z ∈ ns, Builtin.Int.intBits z ≤ 1048576) → 0 ≤ m → m < 2147483648 →
    ∃ m' c', loopS [] (gnm 3) src_body (ns.map .int) [some a, some st, some (.int m), c, none] h = .nx [some a, some st, some (.int m'), c', none] h ∧ 0 ≤ m' ∧ m' < 2147483648
  | [], m, c, _, h0, h1 => ⟨m, c, loop_nil rfl, h0, h1⟩
  | z :: ns, m, c, hb, h0, h1 => by
    have b0 := bits_lt z
    have b1 := hb z List.mem_cons_self
    have hm' : m.natAbs.log2 < 32 := log_lt (by decide) (by omega)
    have h50 : (50021 : Int).natAbs.log2 < 16 := log_lt (by decide) (by decide)
    generalize Builtin.Int.intBits z = b at b0 b1
    obtain ⟨m1, e1, e2⟩ : ∃ z, z = m * 50021 ∧ mulF (.int m) (.int 50021) h = .ok (.int z) h := ⟨_, rfl, mul_i (by omega)⟩
    have k1 : m1.natAbs < 2 ^ 48 := by omega
    obtain ⟨k, k2, k3, k4⟩ : ∃ k, 48 ≤ k ∧ b ≤ k ∧ k ≤ 1048576 := by
      by_cases q : b ≤ 48
      · exact ⟨48, by omega, by omega, by omega⟩
      · exact ⟨b, by omega, by omega, by omega⟩
    have k5 : (m1 + z).natAbs.log2 ≤ k := log_add (pow_up k1 k2) (pow_up b0 k3)
    obtain ⟨m2, e3, e4⟩ : ∃ y, y = m1 + z ∧ addF (.int m1) (.int z) h = .ok (.int y) h := ⟨_, rfl, add_i⟩
    rw [← e3] at k5
    obtain ⟨m3, e5⟩ : ∃ y, powF (.int m2) (.int 3) h = .ok (.int y) h := ⟨_, pow_i (by decide) (by omega)⟩
    obtain ⟨m4, e6, c0, c1⟩ : ∃ y, modF (.int m3) (.int 2147483563) h = .ok (.int y) h ∧ 0 ≤ y ∧ y < 2147483563 := ⟨_, mod_i (by decide), Int.emod_nonneg _ (by decide), Int.emod_lt_of_pos _ (by decide)⟩
    have e7 : addF (.int m4) (.int 1) h = .ok (.int (m4 + 1)) h := add_i
    obtain ⟨m', c', e8, d0, d1⟩ := src_loop (a := a) (st := st) (h := h) ns (m4 + 1) (some (.int z)) (fun y hy => hb y (List.mem_cons_of_mem _ hy)) (by omega) (by omega)
    refine ⟨m', c', ?_, d0, d1⟩
    rw [List.map_cons, ← e8]
    apply loop_cons rfl rfl
    unfold src_body
    repeat' (first | with_reducible exact e2 | with_reducible exact e4 | with_reducible exact e5 | with_reducible exact e6 | with_reducible exact e7 | exact (rfl : List.set _ _ _ = _) | ((with_reducible apply ev_var); exact rfl) | with_reducible exact ev_con | with_reducible exact ev_nil | with_reducible exact es_pass | with_reducible exact int_i | with_reducible exact add_i | with_reducible exact sub_i | with_reducible apply ev_bin | with_reducible apply ev_un | with_reducible apply ev_cons | with_reducible apply ev_on | with_reducible apply ev_val | with_reducible apply ev_not | with_reducible apply es_set' | with_reducible apply es_exp | with_reducible apply es_ret | with_reducible apply es_setX | with_reducible apply es_par2)
theorem source {h : MH} {n : Nat} {ns : List Int} {start : Int} (hn : h[n]? = some (.rdl (ns.map .int))) (hb : ∀ z ∈ ns, Builtin.Int.intBits z ≤ 1048576) (h0 : 0 ≤ start) (h1 : start < 100) :
    ∃ r m, m_law_source [.ref n, .int start] h = .ok (.ref h.length) (h ++ [.lst [.int r, .int m]]) ∧ 0 ≤ r ∧ 0 ≤ m ∧ m < 2147483648 := by
  obtain ⟨m', c', e1, d0, d1⟩ := src_loop (a := .ref n) (st := .int start) (h := h) ns (43 + start) none hb (by omega) (by omega)
  have a0 : addF (.int 43) (.int start) h = .ok (.int (43 + start)) h := add_i
  have a1 := len_rdl hn
  rw [List.length_map] at a1
  obtain ⟨t, ht⟩ : ∃ t : Int, t = 10 ^ (18 : Int).toNat := ⟨_, rfl⟩
  have a2 : powF (.int 10) (.int 18) h = .ok (.int t) h := by rw [ht]; exact pow_i (by decide) (by have := log_lt (z := 10) (k := 4) (by decide) (by decide); omega)
  have fin : ∀ r : Int, lstF [.int r, .int m'] h = .ok (.ref h.length) (h ++ [.lst [.int r, .int m']]) := fun r => lst_new (show 2 ≤ 1000000 by decide)
  have key : ∃ r, ifS (andT (valT (bin ltF (varE 1) (onA lenF (consA (varE 0) (nilA))))) (valT (bin geF (bin ixF (varE 0) (varE 1)) (bin powF (conE (.int 10)) (conE (.int 18)))))) (setS 4 (bin subF (bin ixF (varE 0) (varE 1)) (bin powF (conE (.int 10)) (conE (.int 18))))) (passS)
      [some (.ref n), some (.int start), some (.int m'), c', some (.int 0)] h = .nx [some (.ref n), some (.int start), some (.int m'), c', some (.int r)] h ∧ 0 ≤ r := by
    by_cases c : start < (ns.length : Int)
    · have hs : start.toNat < ns.length := by omega
      have a3 : ixF (.ref n) (.int start) h = .ok (.int ns[start.toNat]) h := ix_rdl hn h0 (by rw [List.getElem?_map, List.getElem?_eq_getElem hs]; rfl)
      have a4 := lt_T (h := h) c
      generalize ns[start.toNat] = y at a3
      by_cases c2 : t ≤ y
      · have a5 := ge_T (h := h) c2
        have a6 : subF (.int y) (.int t) h = .ok (.int (y - t)) h := sub_i
        refine ⟨y - t, ?_, by omega⟩
        apply es_ifT
        · apply ev_andT
          · repeat' (first | with_reducible exact a1 | with_reducible exact a4 | exact (rfl : List.set _ _ _ = _) | ((with_reducible apply ev_var); exact rfl) | with_reducible exact ev_con | with_reducible exact ev_nil | with_reducible exact es_pass | with_reducible exact int_i | with_reducible exact add_i | with_reducible exact sub_i | with_reducible apply ev_bin | with_reducible apply ev_un | with_reducible apply ev_cons | with_reducible apply ev_on | with_reducible apply ev_val | with_reducible apply ev_not | with_reducible apply es_set' | with_reducible apply es_exp | with_reducible apply es_ret | with_reducible apply es_setX | with_reducible apply es_par2)
          · repeat' (first | with_reducible exact a2 | with_reducible exact a3 | with_reducible exact a5 | exact (rfl : List.set _ _ _ = _) | ((with_reducible apply ev_var); exact rfl) | with_reducible exact ev_con | with_reducible exact ev_nil | with_reducible exact es_pass | with_reducible exact int_i | with_reducible exact add_i | with_reducible exact sub_i | with_reducible apply ev_bin | with_reducible apply ev_un | with_reducible apply ev_cons | with_reducible apply ev_on | with_reducible apply ev_val | with_reducible apply ev_not | with_reducible apply es_set' | with_reducible apply es_exp | with_reducible apply es_ret | with_reducible apply es_setX | with_reducible apply es_par2)
        · repeat' (first | with_reducible exact a2 | with_reducible exact a3 | with_reducible exact a6 | exact (rfl : List.set _ _ _ = _) | ((with_reducible apply ev_var); exact rfl) | with_reducible exact ev_con | with_reducible exact ev_nil | with_reducible exact es_pass | with_reducible exact int_i | with_reducible exact add_i | with_reducible exact sub_i | with_reducible apply ev_bin | with_reducible apply ev_un | with_reducible apply ev_cons | with_reducible apply ev_on | with_reducible apply ev_val | with_reducible apply ev_not | with_reducible apply es_set' | with_reducible apply es_exp | with_reducible apply es_ret | with_reducible apply es_setX | with_reducible apply es_par2)
      · have a5 := ge_F (h := h) c2
        refine ⟨0, ?_, by decide⟩
        apply es_ifF
        · apply ev_andT
          · repeat' (first | with_reducible exact a1 | with_reducible exact a4 | exact (rfl : List.set _ _ _ = _) | ((with_reducible apply ev_var); exact rfl) | with_reducible exact ev_con | with_reducible exact ev_nil | with_reducible exact es_pass | with_reducible exact int_i | with_reducible exact add_i | with_reducible exact sub_i | with_reducible apply ev_bin | with_reducible apply ev_un | with_reducible apply ev_cons | with_reducible apply ev_on | with_reducible apply ev_val | with_reducible apply ev_not | with_reducible apply es_set' | with_reducible apply es_exp | with_reducible apply es_ret | with_reducible apply es_setX | with_reducible apply es_par2)
          · repeat' (first | with_reducible exact a2 | with_reducible exact a3 | with_reducible exact a5 | exact (rfl : List.set _ _ _ = _) | ((with_reducible apply ev_var); exact rfl) | with_reducible exact ev_con | with_reducible exact ev_nil | with_reducible exact es_pass | with_reducible exact int_i | with_reducible exact add_i | with_reducible exact sub_i | with_reducible apply ev_bin | with_reducible apply ev_un | with_reducible apply ev_cons | with_reducible apply ev_on | with_reducible apply ev_val | with_reducible apply ev_not | with_reducible apply es_set' | with_reducible apply es_exp | with_reducible apply es_ret | with_reducible apply es_setX | with_reducible apply es_par2)
        · exact es_pass
    · have a4 := lt_F (h := h) c
      refine ⟨0, ?_, by decide⟩
      apply es_ifF
      · apply ev_andF
        repeat' (first | with_reducible exact a1 | with_reducible exact a4 | exact (rfl : List.set _ _ _ = _) | ((with_reducible apply ev_var); exact rfl) | with_reducible exact ev_con | with_reducible exact ev_nil | with_reducible exact es_pass | with_reducible exact int_i | with_reducible exact add_i | with_reducible exact sub_i | with_reducible apply ev_bin | with_reducible apply ev_un | with_reducible apply ev_cons | with_reducible apply ev_on | with_reducible apply ev_val | with_reducible apply ev_not | with_reducible apply es_set' | with_reducible apply es_exp | with_reducible apply es_ret | with_reducible apply es_setX | with_reducible apply es_par2)
      · exact es_pass
  obtain ⟨r, e2, r0⟩ := key
  have fr := fin r
  refine ⟨r, m', ?_, r0, d0, d1⟩
  refine ef_rt rfl ?_
  unfold b_law_source
  apply es_seq
  · repeat' (first | with_reducible exact a0 | exact (rfl : List.set _ _ _ = _) | ((with_reducible apply ev_var); exact rfl) | with_reducible exact ev_con | with_reducible exact ev_nil | with_reducible exact es_pass | with_reducible exact int_i | with_reducible exact add_i | with_reducible exact sub_i | with_reducible apply ev_bin | with_reducible apply ev_un | with_reducible apply ev_cons | with_reducible apply ev_on | with_reducible apply ev_val | with_reducible apply ev_not | with_reducible apply es_set' | with_reducible apply es_exp | with_reducible apply es_ret | with_reducible apply es_setX | with_reducible apply es_par2)
  · apply es_seq
    · apply es_for
      · apply ei_rdl
        · exact ev_var rfl
        · exact hn
      · exact e1
    · apply es_seq
      · repeat' (first | with_reducible exact a0 | exact (rfl : List.set _ _ _ = _) | ((with_reducible apply ev_var); exact rfl) | with_reducible exact ev_con | with_reducible exact ev_nil | with_reducible exact es_pass | with_reducible exact int_i | with_reducible exact add_i | with_reducible exact sub_i | with_reducible apply ev_bin | with_reducible apply ev_un | with_reducible apply ev_cons | with_reducible apply ev_on | with_reducible apply ev_val | with_reducible apply ev_not | with_reducible apply es_set' | with_reducible apply es_exp | with_reducible apply es_ret | with_reducible apply es_setX | with_reducible apply es_par2)
      · apply es_seq
        · exact e2
        · repeat' (first | with_reducible exact fr | exact (rfl : List.set _ _ _ = _) | ((with_reducible apply ev_var); exact rfl) | with_reducible exact ev_con | with_reducible exact ev_nil | with_reducible exact es_pass | with_reducible exact int_i | with_reducible exact add_i | with_reducible exact sub_i | with_reducible apply ev_bin | with_reducible apply ev_un | with_reducible apply ev_cons | with_reducible apply ev_on | with_reducible apply ev_val | with_reducible apply ev_not | with_reducible apply es_set' | with_reducible apply es_exp | with_reducible apply es_ret | with_reducible apply es_setX | with_reducible apply es_par2)
theorem pick {h : MH} {k : Nat} {r m : Int} {x : D} {l : List D} (hk : h[k]? = some (.lst [.int r, .int m])) (hr : 0 ≤ r) (hm : 0 ≤ m) (hm2 : m < 2147483648) (hx : lenF [x] h = .ok (.int l.length) h) (h0 : 0 < l.length) (h1 : l.length < 1000)
    (hi : ∀ (r' m' : Int) (j : Nat) d, l[j]? = some d → ixF x (.int (j : Nat)) (h.set k (.lst [.int r', .int m'])) = .ok d (h.set k (.lst [.int r', .int m']))) :
    ∃ d r' m', m_law_pick [.ref k, x] h = .ok d (h.set k (.lst [.int r', .int m'])) ∧ d ∈ l ∧ 0 ≤ r' ∧ 0 ≤ m' ∧ m' < 2147483648 := by
  obtain ⟨v, r', m', e1, v0, v1, b0, b1, b2⟩ := draw hk hr hm hm2 (span := l.length) (by omega) (by omega)
  have hv : v.toNat < l.length := by omega
  have e2 := hi r' m' v.toNat _ (List.getElem?_eq_getElem hv)
  have ev : ((v.toNat : Nat) : Int) = v := by omega
  rw [ev] at e2
  refine ⟨l[v.toNat], r', m', ?_, List.getElem_mem hv, b0, b1, b2⟩
  refine ef_rt rfl ?_
  unfold b_law_pick
  repeat' (first | with_reducible exact e1 | with_reducible exact e2 | with_reducible exact hx | exact (rfl : List.set _ _ _ = _) | ((with_reducible apply ev_var); exact rfl) | with_reducible exact ev_con | with_reducible exact ev_nil | with_reducible exact es_pass | with_reducible exact int_i | with_reducible exact add_i | with_reducible exact sub_i | with_reducible apply ev_bin | with_reducible apply ev_un | with_reducible apply ev_cons | with_reducible apply ev_on | with_reducible apply ev_val | with_reducible apply ev_not | with_reducible apply es_set' | with_reducible apply es_exp | with_reducible apply es_ret | with_reducible apply es_setX | with_reducible apply es_par2)
end ML

namespace ML
open PySem PySem.Spec PyProof.Rows L2
/-! the rules' own checks; registers and lines as lists or tuples -/
theorem draw2 {h : MH} {k : Nat} {span : Int} (S : Src h k) (hs : 0 < span) (hs2 : span < 1000000) : ∃ v h', m_law_draw [.ref k, .int span] h = .ok (.int v) h' ∧ 0 ≤ v ∧ v < span ∧ Src h' k ∧ KG k h h' ∧ h'.length = h.length := by
  obtain ⟨r, m, e, h0, h1, h2⟩ := S
  obtain ⟨v, r', m', e1, v0, v1, b0, b1, b2⟩ := draw e h0 h1 h2 hs hs2
  exact ⟨v, _, e1, v0, v1, ⟨r', m', set_get e, b0, b1, b2⟩, KG.set, by simp⟩
theorem pick2 {h : MH} {k n : Nat} {l : List D} (S : Src h k) (hn : n ≠ k) (e : h[n]? = some (.lst l)) (h0 : 0 < l.length) (h1 : l.length < 1000) : ∃ d h', m_law_pick [.ref k, .ref n] h = .ok d h' ∧ d ∈ l ∧ Src h' k ∧ KG k h h' ∧ h'.length = h.length := by
  obtain ⟨r, m, e0, a0, a1, a2⟩ := S
  obtain ⟨d, r', m', e1, dl, b0, b1, b2⟩ := pick (x := .ref n) (l := l) e0 a0 a1 a2 (len_lst e) h0 h1 (fun r' m' j d q => ix_lst (KG.set.2 _ _ hn e) (by omega) (by simpa using q))
  exact ⟨d, _, e1, dl, ⟨r', m', set_get e0, b0, b1, b2⟩, KG.set, by simp⟩
theorem StrL.pick {h : MH} {k : Nat} {x : D} {L : List Str} (p : StrL h k x L) (h0 : 0 < L.length) (h1 : L.length < 1000) (S : Src h k) : ∃ s h', m_law_pick [.ref k, x] h = .ok (.str s) h' ∧ s ∈ L ∧ Src h' k ∧ KG k h h' := by
  obtain ⟨r, rfl, r1, r2⟩ := p
  obtain ⟨d, h', e, dl, S', g, _⟩ := pick2 S r1 r2 (by simpa using h0) (by simpa using h1)
  obtain ⟨s, hs, es⟩ := List.mem_map.mp dl
  subst es
  exact ⟨s, h', e, hs, S', g⟩
/-- a list or a tuple with these items -/
def SeqV (h : MH) (x : D) (xs : List D) : Prop := x = .tup xs ∨ ∃ r, x = .ref r ∧ h[r]? = some (.lst xs)
theorem SeqV.ga {h h' : MH} {x : D} {xs : List D} (p : SeqV h x xs) (g : GA h h') : SeqV h' x xs := by
  rcases p with p | ⟨r, e, q⟩
  · exact .inl p
  · exact .inr ⟨r, e, g.2 _ _ q⟩
theorem SeqV.seq {h : MH} {x : D} {xs : List D} (p : SeqV h x xs) : ∃ k, seqOf h x = some (k, xs) := by
  rcases p with p | ⟨r, e, q⟩
  · exact ⟨true, by rw [p]; rfl⟩
  · exact ⟨false, by rw [e]; unfold seqOf; dsimp only; rw [q]⟩
theorem SeqV.len {h : MH} {x : D} {xs : List D} (p : SeqV h x xs) : lenF [x] h = .ok (.int xs.length) h := by
  rcases p with p | ⟨r, e, q⟩
  · rw [p]; exact len_tup
  · rw [e]; exact len_lst q
theorem SeqV.tup {h : MH} {x : D} {xs : List D} (p : SeqV h x xs) : tupleF [x] h = .ok (.tup xs) h := by
  obtain ⟨k, e⟩ := p.seq
  unfold tupleF
  dsimp only
  rw [e]
theorem SeqV.list {h : MH} {x : D} {xs : List D} (p : SeqV h x xs) : listF [x] h = .ok (.ref h.length) (h ++ [.lst xs]) := by
  obtain ⟨k, e⟩ := p.seq
  unfold listF
  dsimp only
  rw [e]
theorem SeqV.isi {h : MH} {x : D} {xs : List D} (p : SeqV h x xs) : isiT ["list", "tuple"] x h = .ok (.bl true) h := by
  rcases p with p | ⟨r, e, q⟩
  · rw [p]; rfl
  · have ty : tyD h (.ref r) = some "list" := by unfold tyD; dsimp only; rw [q]
    rw [e]
    unfold isiT
    rw [ty]
    rfl
theorem SeqV.it {a : EM} {e : Env} {h : MH} {x : D} {xs : List D} (p : SeqV h x xs) (q : a e h = .ok x h) : ∃ srcs, seqI a e h = .ok ⟨xs, srcs⟩ h ∧ ∀ h1, GA h h1 → IT.ok h1 srcs = true := by
  rcases p with p | ⟨r, e1, q1⟩
  · subst p
    exact ⟨[], i_tup q, fun _ _ => it_nil⟩
  · subst e1
    exact ⟨[(r, xs)], ei_lst q q1, fun h1 g => stands1 (g.2 _ _ q1)⟩
theorem SeqV.enum {a : AM} {e : Env} {h : MH} {x : D} {xs : List D} (p : SeqV h x xs) (q : a e h = .ok [x] h) : ∃ srcs, enumI2 a e h = .ok ⟨enumD xs, srcs⟩ h ∧ ∀ h1, GA h h1 → IT.ok h1 srcs = true := by
  rcases p with p | ⟨r, e1, q1⟩
  · subst p
    refine ⟨[], ?_, fun _ _ => it_nil⟩
    unfold enumI2
    rw [q]
    rfl
  · subst e1
    refine ⟨[(r, xs)], ?_, fun h1 g => stands1 (g.2 _ _ q1)⟩
    unfold enumI2
    rw [q]
    show enumF2 [.ref r] h = _
    unfold enumF2 enumF
    dsimp only
    rw [q1]
theorem one_of {s : Str} {L : List Str} {h : MH} (hs : s ∈ L) : m_is_one_of [.str s, .tup (L.map D.str)] h = .ok (.bl true) h := by
  refine ef_rt rfl ?_
  unfold b_is_one_of
  exact es_ret (ev_andE (ev_on (ev_cons (ev_var rfl) (ev_cons ev_con ev_nil)) rfl) (ev_bin (ev_var rfl) (ev_var rfl) (in_tup.trans (by rw [any_mem hs]))))
theorem step_ok {h : MH} {x d : D} {l : List Str} (N : SeqV h x (l.map .str)) (hl : l.length ≤ 3) (p : StepD l d) : m_is_step [d, x] h = .ok (.bl true) h := by
  obtain ⟨a, b, rfl, ha, hb⟩ := p
  obtain ⟨ks, N⟩ := N.seq
  refine ef_rt rfl ?_
  unfold b_is_step
  have t1 : tupF (D.str "here" :: (l.map D.str ++ [])) h = .ok (.tup ((("here" : Str) :: l).map D.str)) h := by
    rw [List.append_nil]
    exact tup_new (by simp; omega)
  have t2 : tupF (D.str "here" :: D.str "new" :: D.str "nothing" :: (l.map D.str ++ [])) h = .ok (.tup ((("here" : Str) :: "new" :: "nothing" :: l).map D.str)) h := by
    rw [List.append_nil]
    exact tup_new (by simp; omega)
  refine es_seq (es_ifF (ev_orF (ev_not (v := true) (ev_val (ev_on (ev_cons (ev_var rfl) (ev_cons ev_con ev_nil)) rfl))) (ev_val (ev_bin (ev_on (ev_cons (ev_var rfl) ev_nil) rfl) ev_con rfl))) es_pass) ?_
  refine es_ret (ev_andE (ev_on (ev_cons (ev_bin (ev_var rfl) ev_con rfl) (ev_cons (ev_on (ev_cons ev_con (ev_star (ev_var rfl) N ev_nil)) t1) ev_nil)) (one_of ?_)) (ev_on (ev_cons (ev_bin (ev_var rfl) ev_con rfl) (ev_cons (ev_on (ev_cons ev_con (ev_cons ev_con (ev_cons ev_con (ev_star (ev_var rfl) N ev_nil)))) t2) ev_nil)) (one_of ?_)))
  · rcases ha with z | z
    · rw [z]; simp
    · simp [z]
  · rcases hb with z | z | z | z
    · rw [z]; simp
    · rw [z]; simp
    · rw [z]; simp
    · simp [z]
theorem test_ok {h : MH} {x d : D} {l : List Str} (N : SeqV h x (l.map .str)) (hl : l.length ≤ 3) (p : TestD l d) : m_is_test [d, x] h = .ok (.bl true) h := by
  obtain ⟨a, b, v, rfl, ha, hb⟩ := p
  obtain ⟨ks, N⟩ := N.seq
  refine ef_rt rfl ?_
  unfold b_is_test
  have t1 : tupF (D.str "here" :: D.str "new" :: (l.map D.str ++ [])) h = .ok (.tup ((("here" : Str) :: "new" :: l).map D.str)) h := by
    rw [List.append_nil]
    exact tup_new (by simp; omega)
  have t2 : tupF (D.str "here" :: D.str "new" :: D.str "nothing" :: (l.map D.str ++ [])) h = .ok (.tup ((("here" : Str) :: "new" :: "nothing" :: l).map D.str)) h := by
    rw [List.append_nil]
    exact tup_new (by simp; omega)
  refine es_seq (es_ifF (ev_orF (ev_not (v := true) (ev_val (ev_on (ev_cons (ev_var rfl) (ev_cons ev_con ev_nil)) rfl))) (ev_orF (ev_val (ev_bin (ev_on (ev_cons (ev_var rfl) ev_nil) rfl) ev_con rfl)) (ev_not (v := true) (ev_val (ev_on (ev_cons (ev_bin (ev_var rfl) ev_con rfl) (ev_cons ev_con ev_nil)) rfl))))) es_pass) ?_
  refine es_ret (ev_andE (ev_on (ev_cons (ev_bin (ev_var rfl) ev_con rfl) (ev_cons (ev_on (ev_cons ev_con (ev_cons ev_con (ev_star (ev_var rfl) N ev_nil))) t1) ev_nil)) (one_of ?_)) (ev_on (ev_cons (ev_bin (ev_var rfl) ev_con rfl) (ev_cons (ev_on (ev_cons ev_con (ev_cons ev_con (ev_cons ev_con (ev_star (ev_var rfl) N ev_nil)))) t2) ev_nil)) (one_of ?_)))
  · rcases ha with z | z | z
    · rw [z]; simp
    · rw [z]; simp
    · simp [z]
  · rcases hb with z | z | z | z
    · rw [z]; simp
    · rw [z]; simp
    · rw [z]; simp
    · simp [z]
theorem are_ok {h : MH} {x d : D} {l : List Str} (N : SeqV h x (l.map .str)) (hl : l.length ≤ 3) (p : StepsD l d) : ∃ h', m_are_steps [d, x] h = .ok (.bl true) h' ∧ GA h h' := by
  obtain ⟨ss, rfl, s4, hs⟩ := p
  obtain ⟨h', e1, g⟩ := ev_allA (elt := onA m_is_step (consA (varE 2) (consA (varE 1) (nilA)))) (i := 2) (e := [some (.tup ss), some x, none]) (own := [2]) (it := seqI (varE 0)) (h := h) (i_tup (ev_var rfl)) (fun _ _ => it_nil) (by omega) (fun d hd h1 g1 => ⟨h1, ev_on (ev_cons (ev_var rfl) (ev_cons (ev_var rfl) ev_nil)) (step_ok (N.ga g1) hl (hs d hd)), GA.refl⟩)
  refine ⟨h', ?_, g⟩
  refine ef_rt rfl ?_
  unfold b_are_steps
  exact es_ret (ev_andE (ev_on (ev_cons (ev_var rfl) (ev_cons ev_con ev_nil)) rfl) (ev_andE (ev_bin (ev_on (ev_cons (ev_var rfl) ev_nil) len_tup) ev_con (le_T (by omega))) e1))
theorem line_ok {h : MH} {x d : D} {l : List Str} {last : Bool} (N : SeqV h x (l.map .str)) (hl : l.length ≤ 3) (p : LineD l last d) : ∃ h', m_is_line [d, x] h = .ok (.bl true) h' ∧ GA h h' := by
  obtain ⟨ts, st, rfl, t4, _, ht, s12, hs⟩ := p
  have hq : (valT (bin ninF (onA lenF (consA (varE 0) (nilA))) (onA tupF (consA (conE (.int 2)) (consA (conE (.int 3)) (nilA)))))) [some (.tup (.tup ts :: st)), some x, none, none, none] h = .ok false h := by
    refine ev_val (ev_bin (ev_on (ev_cons (ev_var rfl) ev_nil) len_tup) (ev_on (ev_cons ev_con (ev_cons ev_con ev_nil)) (tup_new (by decide : 2 ≤ 1000000))) ?_)
    rcases s12 with z | z
    · rw [List.length_cons, z]; rfl
    · rw [List.length_cons, z]; rfl
  obtain ⟨h1, e1, g1⟩ := ev_allA (elt := onA m_is_test (consA (varE 4) (consA (varE 1) (nilA)))) (i := 4) (e := [some (.tup (.tup ts :: st)), some x, some (.tup ts), none, none]) (own := [4]) (it := seqI (varE 2)) (h := h) (i_tup (ev_var rfl)) (fun _ _ => it_nil) (by omega) (fun d hd h1 g => ⟨h1, ev_on (ev_cons (ev_var rfl) (ev_cons (ev_var rfl) ev_nil)) (test_ok (N.ga g) hl (ht d hd)), GA.refl⟩)
  have N1 := N.ga g1
  have i2 : seqI (slE (varE 0) (someO (conE (.int 1))) (noO)) [some (.tup (.tup ts :: st)), some x, some (.tup ts), none, none] h1 = .ok ⟨st, []⟩ h1 := by
    refine i_tup (ev_sl (ev_var rfl) (ev_someO ev_con) ev_noO ?_)
    unfold slF
    dsimp only
    have : cutD (D.tup ts :: st) (some 1) none = st := by
      rcases s12 with z | z
      · match st, z with
        | [a], _ => rfl
      · match st, z with
        | [a, b], _ => rfl
    rw [this]
  obtain ⟨h2, e2, g2⟩ := ev_allA (elt := onA m_are_steps (consA (varE 3) (consA (varE 1) (nilA)))) (i := 3) (own := [3]) i2 (fun _ _ => it_nil) (by omega) (fun d hd h2 g => by
    obtain ⟨h3, e3, g3⟩ := are_ok (N1.ga g) hl (hs d hd)
    exact ⟨h3, ev_on (ev_cons (ev_var rfl) (ev_cons (ev_var rfl) ev_nil)) e3, g3⟩)
  refine ⟨h2, ?_, g1.trans g2⟩
  refine ef_rt rfl ?_
  unfold b_is_line
  refine es_seq (es_ifF (ev_orF (ev_not (v := true) (ev_val (ev_on (ev_cons (ev_var rfl) (ev_cons ev_con ev_nil)) rfl))) hq) es_pass) ?_
  refine es_seq (es_set' (ev_bin (ev_var rfl) ev_con (ix_tup (d := .tup ts) (by decide) rfl)) rfl) ?_
  refine es_seq (es_ifF (ev_orF (ev_not (v := true) (ev_val (ev_on (ev_cons (ev_var rfl) (ev_cons ev_con ev_nil)) rfl))) (ev_orF (ev_val (ev_bin (ev_on (ev_cons (ev_var rfl) ev_nil) len_tup) ev_con (gt_F (by omega)))) (ev_not (v := true) (ev_val e1)))) es_pass) ?_
  exact es_ret e2
theorem name_ok {h : MH} {z : Str} (g : GoodN z) : ∃ h', m_is_name [.str z] h = .ok (.bl true) h' ∧ GA h h' := by
  obtain ⟨l1, l2, hc, _⟩ := g
  have cl : (chars z).length = z.length := by unfold chars; simp [Str.length]
  obtain ⟨h', e1, g1⟩ := ev_allA (elt := bin inF (varE 1) (conE (.str "abcdefghijklmnopqrstuvwxyz"))) (i := 1) (e := [some (.str z), none]) (own := [1]) (it := seqI (varE 0)) (h := h) (ds := chars z) (srcs := []) rfl (fun _ _ => it_nil) (by omega) (fun d hd h1 g => by
    obtain ⟨c, c1, c2⟩ := List.mem_map.mp hd
    subst c2
    exact ⟨h1, ev_bin (ev_var rfl) ev_con (in_abc (hc c c1)), GA.refl⟩)
  refine ⟨h', ?_, g1⟩
  refine ef_rt rfl ?_
  unfold b_is_name
  have ln : lenF [.str z] h = .ok (.int z.length) h := by unfold lenF; dsimp only; rw [if_pos (by omega)]
  exact es_ret (ev_andE (ev_on (ev_cons (ev_var rfl) (ev_cons ev_con ev_nil)) rfl) (ev_andE (ev_chain ev_con (ev_on (ev_cons (ev_var rfl) ev_nil) ln) (le_T (by omega)) ev_con (le_T (by omega))) e1))
theorem ne_ii {i : Int} {h : MH} : neF (.int i) (.int i) h = .ok (.bl false) h := by
  unfold neF eqT eqTop isScal
  dsimp only
  unfold scalEq
  simp
theorem regs_ok {h : MH} {x : D} {l : List Str} (N : SeqV h x (l.map .str)) (g : RegsOk l) : ∃ h', m_need_registers [x] h = .ok .non h' ∧ GA h h' := by
  obtain ⟨l3, nd, hg⟩ := g
  obtain ⟨srcs, hi, hs⟩ := N.it (a := varE 0) (e := [some x, none]) (ev_var rfl)
  obtain ⟨h', e1, g1⟩ := ev_allA (elt := andE (onA m_is_name (consA (varE 1) (nilA))) (bin ninF (varE 1) (conE (strsD ["here", "new", "nothing", "is", "not", "from", "or", "ask", "do", "otherwise"])))) (i := 1) (e := [some x, none]) (own := [1]) (it := seqI (varE 0)) (h := h) hi hs (by simp; omega) (fun d hd h1 g => by
    obtain ⟨z, z1, z2⟩ := List.mem_map.mp hd
    subst z2
    obtain ⟨h2, e2, g2⟩ := name_ok (h := h1) (hg z z1)
    exact ⟨h2, ev_andE (ev_on (ev_cons (ev_var rfl) ev_nil) e2) (ev_bin (ev_var rfl) ev_con (nin_barred (hg z z1).2.2.2)), g2⟩)
  refine ⟨h', ?_, g1⟩
  have N' := N.ga g1
  obtain ⟨ks, sq⟩ := N'.seq
  have i2 : lensetF x h' = .ok (.int l.length) h' := by
    unfold lensetF
    rw [sq]
    dsimp only
    rw [strs_of]
    dsimp only
    rw [if_pos (by omega), many_nodup nd _ (Nat.le_refl _)]
  have ln := N'.len
  rw [List.length_map] at ln
  have ln0 := N.len
  rw [List.length_map] at ln0
  have body : b_need_registers [some x, none] h = .nx [some x, none] h' := by
    unfold b_need_registers
    refine es_seq (es_ifF (ev_orF (ev_not (v := true) (ev_val (ev_un (ev_var rfl) N.isi))) (ev_val (ev_bin (ev_on (ev_cons (ev_var rfl) ev_nil) ln0) ev_con (gt_F (by omega))))) es_pass) ?_
    exact es_ifF (ev_orF (ev_not (v := true) (ev_val e1)) (ev_val (ev_bin (ev_un (ev_var rfl) i2) (ev_on (ev_cons (ev_var rfl) ev_nil) ln) ne_ii))) es_pass
  exact ef_nx rfl body
def init_body : SM := ifS (orT (notT (valT (onA m_is_line (consA (varE 4) (consA (varE 1) (nilA)))))) (andT (valT (bin eqF (varE 3) (bin subF (onA lenF (consA (varE 2) (nilA))) (conE (.int 1))))) (valT (bin neF (bin ixF (varE 4) (conE (.int 0))) (onA tupF (nilA)))))) (raiseS "BadLine" "position" (consA (varE 3) (nilA))) (passS)
theorem init_loop {x y self : D} {l : List Str} {ls : List D} {srcs : List (Nat × List D)} {h0 : MH} (N : SeqV h0 x (l.map .str)) (hl : l.length ≤ 3) (L : SeqV h0 y ls) (hs : ∀ h1, GA h0 h1 → IT.ok h1 srcs = true) : ∀ (ds : List D) (i0 : Nat) (e3 e4 : Option D) (h : MH), GA h0 h → (∀ j d, ds[j]? = some d → LineD l (decide (i0 + j + 1 = ls.length)) d) →
    ∃ e3' e4' h', loopS srcs (gtp [gnm 3, gnm 4]) init_body ((ds.zipIdx i0).map fun p => .tup [.int (p.2 : Nat), p.1]) [some self, some x, some y, e3, e4] h = .nx [some self, some x, some y, e3', e4'] h' ∧ GA h h'
  | [], i0, e3, e4, h, g, hd => ⟨e3, e4, h, loop_nil (hs _ g), GA.refl⟩
  | d :: ds, i0, e3, e4, h, g, hd => by
    have ld := hd 0 d rfl
    obtain ⟨h1, e1, g1⟩ := line_ok (N.ga g) hl ld
    obtain ⟨e3', e4', h', e2, g2⟩ := init_loop N hl L hs ds (i0 + 1) (some (.int (i0 : Nat))) (some d) h1 (g.trans g1) (fun j d' q => by
      have := hd (j + 1) d' (by simpa using q)
      rw [show i0 + 1 + j + 1 = i0 + (j + 1) + 1 by omega]
      exact this)
    refine ⟨e3', e4', h', ?_, g1.trans g2⟩
    rw [List.zipIdx_cons, List.map_cons, ← e2]
    apply loop_cons (hs _ g) rfl
    have ln := (L.ga (g.trans g1)).len
    unfold init_body
    refine es_ifF (ev_orF (ev_not (v := true) (ev_val (ev_on (ev_cons (ev_var rfl) (ev_cons (ev_var rfl) ev_nil)) e1))) ?_) es_pass
    by_cases c : i0 + 0 + 1 = ls.length
    · rw [decide_eq_true c] at ld
      obtain ⟨ts, st, rfl, _, tn, _⟩ := ld
      have := tn rfl
      subst this
      refine ev_andT (ev_val (v := true) (ev_bin (ev_var rfl) (ev_bin (ev_on (ev_cons (ev_var rfl) ev_nil) ln) ev_con sub_i) (eq_i.trans ?_))) (ev_val (ev_bin (ev_bin (ev_var rfl) ev_con (ix_tup (d := .tup []) (by decide) rfl)) (ev_on ev_nil (tup_new (by decide : 0 ≤ 1000000))) rfl))
      have : scalEq (.int (i0 : Nat)) (.int ((ls.length : Nat) - 1)) = true := by unfold scalEq; simp; omega
      rw [this]
    · refine ev_andF (ev_val (ev_bin (ev_var rfl) (ev_bin (ev_on (ev_cons (ev_var rfl) ev_nil) ln) ev_con sub_i) (eq_i.trans ?_)))
      have : scalEq (.int (i0 : Nat)) (.int ((ls.length : Nat) - 1)) = false := by unfold scalEq; simp; omega
      rw [this]
theorem init_ok {h : MH} {s : Nat} {x y : D} {l : List Str} {ls : List D} (es : h[s]? = some (.ins "Rule" [])) (N : SeqV h x (l.map .str)) (M : SeqV h y ls) (g : RegsOk l) (L : LinesD l ls) :
    ∃ h', m_Rule_init [.ref s, x, y] h = .ok .non h' ∧ h'[s]? = some (.ins "Rule" [("own_names", .tup (l.map .str)), ("rows", .tup ls)]) ∧ KG s h h' := by
  obtain ⟨L1, L8, LA, LL⟩ := L
  obtain ⟨h1, e1, g1⟩ := regs_ok N g
  have M1 := M.ga g1
  obtain ⟨srcs, en, hs⟩ := M1.enum (a := consA (varE 2) (nilA)) (e := [some (.ref s), some x, some y, none, none]) (ev_cons (ev_var rfl) ev_nil)
  obtain ⟨e3, e4, h2, e2, g2⟩ := init_loop (self := .ref s) (N.ga g1) g.1 M1 hs ls 0 none none h1 GA.refl (fun j d hj => by
    have hm := List.mem_of_getElem? hj
    by_cases c : 0 + j + 1 = ls.length
    · rw [decide_eq_true c]
      refine LL d ?_
      rw [List.getLast?_eq_getElem?, ← hj]
      congr 1
      omega
    · rw [decide_eq_false c]
      exact LA d hm)
  have s2 := (g1.trans g2).2 _ _ es
  have p1 := putI (ci := ["Rule"]) (f := "own_names") (v := .tup (l.map .str)) s2 (by simp) (show (0 : Nat) < 1000 by decide)
  obtain ⟨h3, d3⟩ : ∃ x, x = h2.set s (.ins "Rule" (putFD "own_names" (.tup (l.map .str)) [])) := ⟨_, rfl⟩
  rw [← d3] at p1
  have s3 : h3[s]? = some (.ins "Rule" [("own_names", .tup (l.map .str))]) := by rw [d3, set_get s2]; rfl
  have M3 : SeqV h3 y ls := by
    rcases M1.ga g2 with p | ⟨r, e, q⟩
    · exact .inl p
    · refine .inr ⟨r, e, ?_⟩
      rw [d3, List.getElem?_set_ne (fun z => by rw [z, q] at s2; cases s2)]
      exact q
  have p2 := putI (ci := ["Rule"]) (f := "rows") (v := .tup ls) s3 (by simp) (show (1 : Nat) < 1000 by decide)
  refine ⟨_, ?_, set_get s3, ((g1.trans g2).kg.trans (by rw [d3]; exact KG.set)).trans KG.set⟩
  refine ef_nx (e1 := [some (.ref s), some x, some y, e3, e4]) rfl ?_
  unfold b_Rule_init
  refine es_seq (es_exp (ev_on (ev_cons (ev_var rfl) ev_nil) e1)) ?_
  refine es_seq (es_ifF (ev_orF (ev_not (v := true) (ev_val (ev_un (ev_var rfl) M1.isi))) (ev_not (v := true) (ev_val (ev_chain ev_con (ev_on (ev_cons (ev_var rfl) ev_nil) M1.len) (le_T (by omega)) ev_con (le_T (by omega)))))) es_pass) ?_
  refine es_seq (es_for en e2) ?_
  refine es_seq (es_fld (ev_on (ev_cons (ev_var rfl) ev_nil) ((N.ga (g1.trans g2)).tup)) (ev_var rfl) p1) ?_
  exact es_fld (ev_on (ev_cons (ev_var rfl) ev_nil) M3.tup) (ev_var rfl) p2
/-- Rule(x, y) -/
theorem make_ok {h : MH} {x y : D} {l : List Str} {ls : List D} (N : SeqV h x (l.map .str)) (M : SeqV h y ls) (g : RegsOk l) (L : LinesD l ls) :
    ∃ h', makeF "Rule" m_Rule_init [x, y] h = .ok (.ref h.length) h' ∧ RuleD h' (.ref h.length) l ls ∧ GA h h' := by
  obtain ⟨h4, e4, s4, g4⟩ := init_ok (h := h ++ [O.ins "Rule" []]) (s := h.length) (by simp) (N.ga GA.app) (M.ga GA.app) g L
  refine ⟨h4, ?_, ⟨_, rfl, s4⟩, Nat.le_trans GA.app.1 g4.1, fun m o e => g4.2 m o (by have := (List.getElem?_eq_some_iff.mp e).1; omega) (GA.app.2 m o e)⟩
  unfold makeF
  rw [e4]
end ML

namespace ML
open PySem PySem.Spec PyProof.Rows L2
/-! mixed, steps, tests, good -/
theorem KB.refl {k b : Nat} {h : MH} : KB k b h h := ⟨Nat.le_refl _, fun _ _ _ _ e => e⟩
theorem KB.set {k b n : Nat} {h : MH} {o : O} (hn : b ≤ n) : KB k b h (h.set n o) := ⟨by simp, fun m x hm _ e => by rw [List.getElem?_set_ne (by omega)]; exact e⟩
theorem idx_ok {v : Int} {n : Nat} (h0 : 0 ≤ v) (h1 : v < n) : seqIndex? v n = some v.toNat := by
  unfold seqIndex?
  first
    | (rw [if_neg (by omega), if_pos (by omega)])
    | (simp; omega)
    | (split <;> simp_all <;> omega)
theorem pop_i {h : MH} {n : Nat} {l : List D} {v : Int} (e : h[n]? = some (.lst l)) (h0 : 0 ≤ v) (h1 : v < l.length) (h2 : l.length < 1000) : popF (.ref n) [.int v] h = .ok (l[v.toNat]'(by omega)) (h.set n (.lst (l.eraseIdx v.toNat))) := by
  unfold popF
  dsimp only
  rw [e]
  dsimp only
  rw [if_pos ⟨by omega, by omega⟩, idx_ok h0 h1]
  dsimp only
  rw [List.getElem?_eq_getElem (by omega)]
theorem ins_i {h : MH} {n : Nat} {l : List D} {v : Int} {y : D} (e : h[n]? = some (.lst l)) (h0 : 0 ≤ v) (h1 : v < 1000) (h2 : l.length < 1000) : insF (.ref n) [.int v, y] h = .ok .non (h.set n (.lst (l.take v.toNat ++ [y] ++ l.drop v.toNat))) := by
  unfold insF
  dsimp only
  rw [e]
  dsimp only
  rw [if_pos ⟨by omega, h0, by omega⟩]
theorem ew_F {t : TM} {b : SM} {n : Nat} {e : Env} {h h1 : MH} (p : t e h = .ok false h1) : whileS t b (n + 1) e h = .nx e h1 := by unfold whileS ofT; rw [p]; rfl
theorem ew_T {t : TM} {b : SM} {n : Nat} {e e2 : Env} {h h1 h2 : MH} {s : S} (p : t e h = .ok true h1) (q : b e h1 = .nx e2 h2) (r : whileS t b n e2 h2 = s) : whileS t b (n + 1) e h = s := by
  unfold whileS ofT
  rw [p]
  dsimp only
  rw [if_pos rfl, q]
  exact r
def mixT : TM := valT (bin neF (varE 2) (onA lstF (nilA)))
def mixB : SM := expS (bmE "list" appF (varE 3) (consA (bmE "list" popF (varE 2) (consA (onA m_law_draw (consA (varE 0) (consA (onA lenF (consA (varE 2) (nilA))) (nilA)))) (nilA))) (nilA)))
theorem mixed_loop {k a b B : Nat} {x1 : Option D} (ak : a ≠ k) (bk : b ≠ k) (ab : a ≠ b) (Ba : B ≤ a) (Bb : B ≤ b) : ∀ (fuel : Nat) (lot acc : List D) (h : MH), Src h k → h[a]? = some (.lst lot) → h[b]? = some (.lst acc) → B ≤ h.length → lot.length < fuel → lot.length + acc.length ≤ 900 →
    ∃ h' acc', whileS mixT mixB fuel [some (.ref k), x1, some (.ref a), some (.ref b)] h = .nx [some (.ref k), x1, some (.ref a), some (.ref b)] h' ∧ h'[b]? = some (.lst acc') ∧ (∀ d ∈ acc', d ∈ acc ∨ d ∈ lot) ∧ acc'.length = acc.length + lot.length ∧ Src h' k ∧ KB k B h h'
  | 0, lot, acc, h, S, ea, eb, hB, hf, hl => absurd hf (by omega)
  | fuel + 1, lot, acc, h, S, ea, eb, hB, hf, hl => by
    obtain ⟨h1, d1⟩ : ∃ x, x = h ++ [O.lst []] := ⟨_, rfl⟩
    have g1 : GA h h1 := by rw [d1]; exact GA.app
    have S1 : Src h1 k := by rw [d1]; exact S.app
    have q1 : h1[h.length]? = some (.lst []) := by rw [d1]; simp
    have ea1 := g1.2 _ _ ea
    have eb1 := g1.2 _ _ eb
    have cond : mixT [some (.ref k), x1, some (.ref a), some (.ref b)] h = .ok (!lot.isEmpty) h1 := ev_val (ev_bin (ev_var rfl) (ev_on ev_nil (new0 d1)) (ne_lnil ea1 q1))
    cases lot with
    | nil => exact ⟨h1, acc, ew_F cond, eb1, fun d hd => .inl hd, by simp, S1, g1.kg.kb⟩
    | cons x lot0 =>
      obtain ⟨lot, dl⟩ : ∃ l, l = x :: lot0 := ⟨_, rfl⟩
      rw [← dl] at ea ea1 hf hl cond
      have l0 : 0 < lot.length := by rw [dl]; simp
      have cond : mixT [some (.ref k), x1, some (.ref a), some (.ref b)] h = .ok true h1 := by rw [cond, dl]; rfl
      obtain ⟨v, h2, e2, v0, v1, S2, g2, n2⟩ := draw2 (span := (lot.length : Int)) S1 (by omega) (by omega)
      have ea2 := g2.2 _ _ ak ea1
      have eb2 := g2.2 _ _ bk eb1
      have e3 := pop_i ea2 v0 v1 (by omega)
      obtain ⟨h3, d3⟩ : ∃ x, x = h2.set a (.lst (lot.eraseIdx v.toNat)) := ⟨_, rfl⟩
      rw [← d3] at e3
      have ea3 : h3[a]? = some (.lst (lot.eraseIdx v.toNat)) := by rw [d3]; exact set_get ea2
      have eb3 : h3[b]? = some (.lst acc) := by rw [d3, List.getElem?_set_ne ab]; exact eb2
      have S3 : Src h3 k := by rw [d3]; exact S2.other ak
      have e4 := append_i (y := lot[v.toNat]'(by omega)) eb3 (by omega)
      obtain ⟨h4, d4⟩ : ∃ x, x = h3.set b (.lst (acc ++ [lot[v.toNat]'(by omega)])) := ⟨_, rfl⟩
      rw [← d4] at e4
      have ea4 : h4[a]? = some (.lst (lot.eraseIdx v.toNat)) := by rw [d4, List.getElem?_set_ne (Ne.symm ab)]; exact ea3
      have eb4 : h4[b]? = some (.lst (acc ++ [lot[v.toNat]'(by omega)])) := by rw [d4]; exact set_get eb3
      have S4 : Src h4 k := by rw [d4]; exact S3.other bk
      have le : (lot.eraseIdx v.toNat).length = lot.length - 1 := List.length_eraseIdx_of_lt (by omega)
      have kb3 : KB k B h2 h3 := by rw [d3]; exact KB.set Ba
      have kb4 : KB k B h3 h4 := by rw [d4]; exact KB.set Bb
      have kb : KB k B h h4 := ((g1.kg.trans g2).kb.trans kb3).trans kb4
      obtain ⟨h', acc', e5, q5, m5, l5, S5, k5⟩ := mixed_loop (x1 := x1) ak bk ab Ba Bb fuel (lot.eraseIdx v.toNat) (acc ++ [lot[v.toNat]'(by omega)]) h4 S4 ea4 eb4 (Nat.le_trans hB kb.1) (by rw [le]; omega) (by rw [le]; simp only [List.length_append, List.length_cons, List.length_nil]; omega)
      refine ⟨h', acc', ew_T cond ?_ e5, q5, fun d hd => ?_, by rw [l5, le, ← dl]; simp only [List.length_append, List.length_cons, List.length_nil]; omega, S5, kb.trans k5⟩
      · unfold mixB
        exact es_exp (ev_bm (ev_var rfl) (ty_lst eb1) (ev_cons (ev_bm (ev_var rfl) (ty_lst ea1) (ev_cons (ev_on (ev_cons (ev_var rfl) (ev_cons (ev_on (ev_cons (ev_var rfl) ev_nil) (len_lst ea1)) ev_nil)) e2) ev_nil) e3) ev_nil) e4)
      · rw [← dl]
        rcases m5 d hd with z | z
        · rcases List.mem_append.mp z with z | z
          · exact .inl z
          · simp only [List.mem_cons, List.not_mem_nil, or_false] at z
            rw [z]
            exact .inr (List.getElem_mem _)
        · exact .inr (List.mem_of_mem_eraseIdx z)
theorem mixed {h : MH} {k : Nat} {x : D} {ls : List D} (S : Src h k) (M : SeqV h x ls) (hl : ls.length ≤ 90) : ∃ n h' ls', m_law_mixed [.ref k, x] h = .ok (.ref n) h' ∧ h'[n]? = some (.lst ls') ∧ (∀ d ∈ ls', d ∈ ls) ∧ ls'.length = ls.length ∧ h.length ≤ n ∧ Src h' k ∧ KG k h h' := by
  have hk := S.lt
  obtain ⟨h1, d1⟩ : ∃ x, x = h ++ [O.lst ls] := ⟨_, rfl⟩
  have g1 : GA h h1 := by rw [d1]; exact GA.app
  have S1 : Src h1 k := by rw [d1]; exact S.app
  have q1 : h1[h.length]? = some (.lst ls) := by rw [d1]; simp
  obtain ⟨h2, d2⟩ : ∃ x, x = h1 ++ [O.lst []] := ⟨_, rfl⟩
  have g2 : GA h1 h2 := by rw [d2]; exact GA.app
  have S2 : Src h2 k := by rw [d2]; exact S1.app
  have q2 : h2[h1.length]? = some (.lst []) := by rw [d2]; simp
  have l1 : h1.length = h.length + 1 := by rw [d1]; simp
  have l2 : h2.length = h1.length + 1 := by rw [d2]; simp
  obtain ⟨h', acc', e3, q3, m3, n3, S3, k3⟩ := mixed_loop (k := k) (a := h.length) (b := h1.length) (B := h.length) (x1 := some x) (by omega) (by omega) (by omega) (Nat.le_refl _) (by omega) 100 ls [] h2 S2 (g2.2 _ _ q1) q2 (by omega) (by omega) (by simp; omega)
  refine ⟨h1.length, h', acc', ?_, q3, fun d hd => (m3 d hd).elim (fun z => nomatch z) id, by rw [n3]; simp, by omega, S3, ((g1.trans g2).kg.kb.trans k3).kg⟩
  have lc := M.list
  rw [← d1] at lc
  refine ef_rt rfl ?_
  unfold b_law_mixed
  refine es_seq (es_par2 (ev_cons (ev_on (ev_cons (ev_var rfl) ev_nil) lc) (ev_cons (ev_on ev_nil (new0 d2)) ev_nil))) ?_
  exact es_seq e3 (es_ret (ev_var rfl))
/-! steps -/
theorem names_list {h : MH} {k : Nat} {l : List Str} (S : Src h k) : ∃ d h', listF [.tup (l.map .str)] h = .ok d h' ∧ StrL h' k d l ∧ Src h' k ∧ KG k h h' :=
  ⟨_, _, rfl, ⟨_, rfl, Nat.ne_of_gt S.lt, by simp⟩, S.app, KG.app⟩
/-- pick(source, [..] + list(names)) -/
theorem pickN {h : MH} {k : Nat} {l L : List Str} (S : Src h k) (hL : L.length ≤ 100) (hl : l.length ≤ 3) (h0 : 0 < L.length) {e : Env} {as : AM} {i j : Nat} (hi : e[i]? = some (some (.tup (l.map .str)))) (hj : e[j]? = some (some (.ref k))) (ha : ∀ h, as e h = .ok (L.map .str) h) :
    ∃ s h', onA m_law_pick (consA (varE j) (consA (bin addF (onA lstF as) (onA listF (consA (varE i) (nilA)))) (nilA))) e h = .ok (.str s) h' ∧ (s ∈ L ∨ s ∈ l) ∧ Src h' k ∧ KG k h h' := by
  obtain ⟨d1, h1, e1, L1, S1, g1⟩ := StrL.new (L := L) (by omega) S
  obtain ⟨d2, h2, e2, L2, S2, g2⟩ := names_list (l := l) S1
  obtain ⟨d3, h3, e3, L3, S3, g3⟩ := (L1.kg g2).add L2 (by omega) S2
  obtain ⟨s, h4, e4, ms, S4, g4⟩ := L3.pick (by simp; omega) (by simp; omega) S3
  exact ⟨s, h4, ev_on (ev_cons (ev_var hj) (ev_cons (ev_bin (ev_on (ha _) e1) (ev_on (ev_cons (ev_var hi) ev_nil) e2) e3) ev_nil)) e4, List.mem_append.mp ms, S4, ((g1.trans g2).trans g3).trans g4⟩
theorem strs1 {e : Env} {h : MH} {a : Str} : consA (conE (.str a)) nilA e h = R.ok ([a].map D.str) h := ev_cons ev_con ev_nil
theorem strs3 {e : Env} {h : MH} {a b c : Str} : consA (conE (.str a)) (consA (conE (.str b)) (consA (conE (.str c)) nilA)) e h = R.ok ([a, b, c].map D.str) h := ev_cons ev_con (ev_cons ev_con (ev_cons ev_con ev_nil))
theorem strs4 {e : Env} {h : MH} {a b c d : Str} : consA (conE (.str a)) (consA (conE (.str b)) (consA (conE (.str c)) (consA (conE (.str d)) nilA))) e h = R.ok ([a, b, c, d].map D.str) h := ev_cons ev_con (ev_cons ev_con (ev_cons ev_con (ev_cons ev_con ev_nil)))
def steps_body : SM := seqS (setS 5 (onA m_law_pick (consA (varE 0) (consA (bin addF (onA lstF (consA (conE (.str "here")) (nilA))) (onA listF (consA (varE 1) (nilA)))) (nilA))))) (expS (bmE "list" appF (varE 3) (consA (onA tupF (consA (varE 5) (consA (onA m_law_pick (consA (varE 0) (consA (bin addF (onA lstF (consA (conE (.str "new")) (consA (conE (.str "new")) (consA (conE (.str "here")) (consA (conE (.str "nothing")) (nilA)))))) (onA listF (consA (varE 1) (nilA)))) (nilA)))) (nilA)))) (nilA))))
theorem steps_loop {k f : Nat} {l : List Str} {x2 : Option D} (hf : f ≠ k) (hl : l.length ≤ 3) : ∀ (ds ss : List D) (t y : Option D) (h : MH), Src h k → h[f]? = some (.lst ss) → (∀ s ∈ ss, StepD l s) → ss.length + ds.length ≤ 4 →
    ∃ ss' t' y' h', loopS [] (gnm 4) steps_body ds [some (.ref k), some (.tup (l.map .str)), x2, some (.ref f), t, y] h = .nx [some (.ref k), some (.tup (l.map .str)), x2, some (.ref f), t', y'] h' ∧ h'[f]? = some (.lst ss') ∧ (∀ s ∈ ss', StepD l s) ∧ ss'.length ≤ ss.length + ds.length ∧ Src h' k ∧ KX k f h h'
  | [], ss, t, y, h, S, e, hs, hn => ⟨ss, t, y, h, loop_nil rfl, e, hs, by simp, S, KX.refl⟩
  | d :: ds, ss, t, y, h, S, e, hs, hn => by
    obtain ⟨a, h1, e1, ma, S1, g1⟩ := pickN (l := l) (L := ["here"]) (e := [some (.ref k), some (.tup (l.map .str)), x2, some (.ref f), some d, y]) (i := 1) (j := 0) S (by simp) hl (by simp) rfl rfl (fun _ => strs1)
    obtain ⟨b, h2, e2, mb, S2, g2⟩ := pickN (l := l) (L := ["new", "new", "here", "nothing"]) (e := [some (.ref k), some (.tup (l.map .str)), x2, some (.ref f), some d, some (.str a)]) (i := 1) (j := 0) S1 (by simp) hl (by simp) rfl rfl (fun _ => strs4)
    have f1 := g1.2 _ _ hf e
    have f2 := g2.2 _ _ hf f1
    have e3 := append_i (y := .tup [.str a, .str b]) f2 (by simp only [List.length_cons] at hn; omega)
    have k3 : KX k f h2 (h2.set f (.lst (ss ++ [.tup [.str a, .str b]]))) := KX.set
    have st : StepD l (.tup [.str a, .str b]) := by
      refine mkS ?_ ?_
      · rcases ma with z | z
        · simp only [List.mem_cons, List.not_mem_nil, or_false] at z
          exact .inl z
        · exact .inr z
      · rcases mb with z | z
        · simp only [List.mem_cons, List.not_mem_nil, or_false] at z
          rcases z with z | z | z | z
          · exact .inr (.inl z)
          · exact .inr (.inl z)
          · exact .inl z
          · exact .inr (.inr (.inl z))
        · exact .inr (.inr (.inr z))
    obtain ⟨ss', t', y', h', e4, q1, q2, q3, S', k4⟩ := steps_loop (x2 := x2) hf hl ds (ss ++ [.tup [.str a, .str b]]) (some d) (some (.str a)) _ (S2.other hf) (set_get f2) (faA hs (fa1 st fa0)) (by simp only [List.length_append, List.length_cons, List.length_nil] at hn ⊢; omega)
    refine ⟨ss', t', y', h', ?_, q1, q2, by simp only [List.length_append, List.length_cons, List.length_nil] at q3 ⊢; omega, S', ((g1.trans g2).kx.trans k3).trans k4⟩
    rw [← e4]
    apply loop_cons rfl rfl
    unfold steps_body
    refine es_seq (es_set' e1 rfl) ?_
    exact es_exp (ev_bm (ev_var rfl) (ty_lst f1) (ev_cons (ev_on (ev_cons (ev_var rfl) (ev_cons e2 ev_nil)) (tup_new (by decide : 2 ≤ 1000000))) ev_nil) e3)
theorem steps {h : MH} {k : Nat} {l : List Str} {most : Int} (S : Src h k) (hl : l.length ≤ 3) (m0 : 0 ≤ most) (m1 : most ≤ 4) : ∃ d h', m_law_steps [.ref k, .tup (l.map .str), .int most] h = .ok d h' ∧ StepsD l d ∧ Src h' k ∧ KG k h h' := by
  have hk := S.lt
  obtain ⟨v, h2, e2, v0, v1, S2, g2, n2⟩ := draw2 (span := most + 1) (S.app (t := [O.lst []])) (by omega) (by omega)
  have g1 : KG k h (h ++ [O.lst []]) := KG.app
  have e3 : h2[h.length]? = some (.lst []) := g2.2 _ _ (by omega) (by simp)
  obtain ⟨ss', t', y', h', e9, q1, q2, q3, S', k9⟩ := steps_loop (f := h.length) (l := l) (x2 := some (.int most)) (by omega) hl (rangeD 0 v.toNat) [] none none h2 S2 e3 fa0 (by unfold rangeD; simp; omega)
  refine ⟨.tup ss', h', ?_, ⟨ss', rfl, by unfold rangeD at q3; simp at q3; omega, q2⟩, S', KX.kg (g1.trans g2) (Nat.le_refl _) k9⟩
  refine ef_rt rfl ?_
  unfold b_law_steps
  refine es_seq (es_set' (ev_on ev_nil (lst_new (by decide : 0 ≤ 1000000))) rfl) ?_
  refine es_seq (es_for (ei_rng (ev_cons (ev_on (ev_cons (ev_var rfl) (ev_cons (ev_bin (ev_var rfl) ev_con add_i) ev_nil)) e2) ev_nil) (by omega)) e9) ?_
  exact es_ret (ev_on (ev_cons (ev_var rfl) ev_nil) (by unfold tupleF seqOf; dsimp only; rw [q1]))
/-! tests -/
def TestsD (l : List Str) (d : D) : Prop := ∃ ts, d = .tup ts ∧ ts.length ≤ 4 ∧ ∀ t ∈ ts, TestD l t
def tests_body : SM := seqS (setS 6 (onA m_law_pick (consA (varE 0) (consA (bin addF (onA lstF (consA (conE (.str "here")) (consA (conE (.str "here")) (consA (conE (.str "new")) (nilA))))) (onA listF (consA (varE 1) (nilA)))) (nilA))))) (seqS (setS 7 (onA m_law_pick (consA (varE 0) (consA (bin addF (onA lstF (consA (conE (.str "new")) (consA (conE (.str "here")) (consA (conE (.str "nothing")) (nilA))))) (onA listF (consA (varE 1) (nilA)))) (nilA))))) (expS (bmE "list" appF (varE 5) (consA (onA tupF (consA (varE 6) (consA (varE 7) (consA (bin gtF (onA m_law_draw (consA (varE 0) (consA (conE (.int 3)) (nilA)))) (conE (.int 0))) (nilA))))) (nilA)))))
theorem tests_loop {k f : Nat} {l : List Str} {x2 x4 : Option D} (hf : f ≠ k) (hl : l.length ≤ 3) : ∀ (ds ts : List D) (t y z : Option D) (h : MH), Src h k → h[f]? = some (.lst ts) → (∀ s ∈ ts, TestD l s) → ts.length + ds.length ≤ 4 →
    ∃ ts' t' y' z' h', loopS [] (gnm 3) tests_body ds [some (.ref k), some (.tup (l.map .str)), x2, t, x4, some (.ref f), y, z] h = .nx [some (.ref k), some (.tup (l.map .str)), x2, t', x4, some (.ref f), y', z'] h' ∧ h'[f]? = some (.lst ts') ∧ (∀ s ∈ ts', TestD l s) ∧ ts'.length ≤ ts.length + ds.length ∧ Src h' k ∧ KX k f h h'
  | [], ts, t, y, z, h, S, e, hs, hn => ⟨ts, t, y, z, h, loop_nil rfl, e, hs, by simp, S, KX.refl⟩
  | d :: ds, ts, t, y, z, h, S, e, hs, hn => by
    obtain ⟨a, h1, e1, ma, S1, g1⟩ := pickN (l := l) (L := ["here", "here", "new"]) (e := [some (.ref k), some (.tup (l.map .str)), x2, some d, x4, some (.ref f), y, z]) (i := 1) (j := 0) S (by simp) hl (by simp) rfl rfl (fun _ => strs3)
    obtain ⟨b, h2, e2, mb, S2, g2⟩ := pickN (l := l) (L := ["new", "here", "nothing"]) (e := [some (.ref k), some (.tup (l.map .str)), x2, some d, x4, some (.ref f), some (.str a), z]) (i := 1) (j := 0) S1 (by simp) hl (by simp) rfl rfl (fun _ => strs3)
    obtain ⟨v, h3, e3, v0, v1, S3, g3, _⟩ := draw2 (span := 3) S2 (by decide) (by decide)
    have f1 := g1.2 _ _ hf e
    have f2 := g2.2 _ _ hf f1
    have f3 := g3.2 _ _ hf f2
    have e4 := append_i (y := .tup [.str a, .str b, .bl (decide (0 < v))]) f3 (by simp only [List.length_cons] at hn; omega)
    have k4 : KX k f h3 (h3.set f (.lst (ts ++ [.tup [.str a, .str b, .bl (decide (0 < v))]]))) := KX.set
    have st : TestD l (.tup [.str a, .str b, .bl (decide (0 < v))]) := by
      refine mkT ?_ ?_
      · rcases ma with z | z
        · simp only [List.mem_cons, List.not_mem_nil, or_false] at z
          rcases z with z | z | z
          · exact .inl z
          · exact .inl z
          · exact .inr (.inl z)
        · exact .inr (.inr z)
      · rcases mb with z | z
        · simp only [List.mem_cons, List.not_mem_nil, or_false] at z
          rcases z with z | z | z
          · exact .inr (.inl z)
          · exact .inl z
          · exact .inr (.inr (.inl z))
        · exact .inr (.inr (.inr z))
    obtain ⟨ts', t', y', z', h', e5, q1, q2, q3, S', k5⟩ := tests_loop (x2 := x2) (x4 := x4) hf hl ds (ts ++ [.tup [.str a, .str b, .bl (decide (0 < v))]]) (some d) (some (.str a)) (some (.str b)) _ (S3.other hf) (set_get f3) (faA hs (fa1 st fa0)) (by simp only [List.length_append, List.length_cons, List.length_nil] at hn ⊢; omega)
    refine ⟨ts', t', y', z', h', ?_, q1, q2, by simp only [List.length_append, List.length_cons, List.length_nil] at q3 ⊢; omega, S', (((g1.trans g2).trans g3).kx.trans k4).trans k5⟩
    rw [← e5]
    apply loop_cons rfl rfl
    unfold tests_body
    refine es_seq (es_set' e1 rfl) ?_
    refine es_seq (es_set' e2 rfl) ?_
    exact es_exp (ev_bm (ev_var rfl) (ty_lst f2) (ev_cons (ev_on (ev_cons (ev_var rfl) (ev_cons (ev_var rfl) (ev_cons (ev_bin (ev_on (ev_cons (ev_var rfl) (ev_cons ev_con ev_nil)) e3) ev_con gt_i) ev_nil))) (tup_new (by decide : 3 ≤ 1000000))) ev_nil) e4)
theorem tests {h : MH} {k : Nat} {l : List Str} (S : Src h k) (hl : l.length ≤ 3) : ∃ d h', m_law_tests [.ref k, .tup (l.map .str), .int 2] h = .ok d h' ∧ TestsD l d ∧ Src h' k ∧ KG k h h' := by
  obtain ⟨v, h1, e1, v0, v1, S1, g1, n1⟩ := draw2 (span := 9) S (by decide) (by decide)
  have hk := S1.lt
  obtain ⟨h2, d2⟩ : ∃ x, x = h1 ++ [O.lst []] := ⟨_, rfl⟩
  have g2 : KG k h1 h2 := by rw [d2]; exact KG.app
  have S2 : Src h2 k := by rw [d2]; exact S1.app
  have q2 : h2[h1.length]? = some (.lst []) := by rw [d2]; simp
  have many : ∃ w h3, ifE (valT (bin gtF (varE 4) (conE (.int 0)))) (bin addF (conE (.int 1)) (onA m_law_draw (consA (varE 0) (consA (varE 2) (nilA))))) (conE (.int 0)) [some (.ref k), some (.tup (l.map .str)), some (.int 2), none, some (.int v), some (.ref h1.length), none, none] h2 = .ok (.int w) h3 ∧ 0 ≤ w ∧ w ≤ 2 ∧ Src h3 k ∧ KG k h2 h3 := by
    by_cases c : 0 < v
    · obtain ⟨w, h3, e3, w0, w1, S3, g3, _⟩ := draw2 (span := 2) S2 (by decide) (by decide)
      exact ⟨1 + w, h3, ev_ifT (ev_val (ev_bin (ev_var rfl) ev_con (gt_i.trans (by rw [decide_eq_true c])))) (ev_bin ev_con (ev_on (ev_cons (ev_var rfl) (ev_cons (ev_var rfl) ev_nil)) e3) add_i), by omega, by omega, S3, g3⟩
    · exact ⟨0, h2, ev_ifF (ev_val (ev_bin (ev_var rfl) ev_con (gt_i.trans (by rw [decide_eq_false c])))) ev_con, by omega, by omega, S2, KG.refl⟩
  obtain ⟨w, h3, e3, w0, w1, S3, g3⟩ := many
  have q3 := g3.2 _ _ (by omega) q2
  obtain ⟨ts, t', y', z', h4, e4, q4, m4, n4, S4, k4⟩ := tests_loop (k := k) (f := h1.length) (l := l) (x2 := some (.int 2)) (x4 := some (.int v)) (by omega) hl (rangeD 0 w.toNat) [] none none none h3 S3 q3 fa0 (by unfold rangeD; simp; omega)
  have n4 : ts.length ≤ 2 := by unfold rangeD at n4; simp at n4; omega
  have g4 : KG k h h4 := KX.kg ((g1.trans g2).trans g3) (by have := g1.1; omega) k4
  have start : ∀ {m : SM} {s : ML.S}, m [some (.ref k), some (.tup (l.map .str)), some (.int 2), t', some (.int v), some (.ref h1.length), y', z'] h4 = s → (seqS (parS [4, 5] (consA (onA m_law_draw (consA (varE 0) (consA (conE (.int 9)) (nilA)))) (consA (onA lstF (nilA)) (nilA)))) (seqS (forS (rng1I (consA (ifE (valT (bin gtF (varE 4) (conE (.int 0)))) (bin addF (conE (.int 1)) (onA m_law_draw (consA (varE 0) (consA (varE 2) (nilA))))) (conE (.int 0))) (nilA))) (gnm 3) tests_body) m)) [some (.ref k), some (.tup (l.map .str)), some (.int 2), none, none, none, none, none] h = s := fun {m s} p => by
    refine es_seq (es_par2 (ev_cons (ev_on (ev_cons (ev_var rfl) (ev_cons ev_con ev_nil)) e1) (ev_cons (ev_on ev_nil (new0 d2)) ev_nil))) ?_
    exact es_seq (es_for (ei_rng (ev_cons e3 ev_nil) (by omega)) e4) p
  have tup : ∀ {n : Nat} {h : MH} {us : List D}, h[n]? = some (.lst us) → tupleF [.ref n] h = .ok (.tup us) h := fun e => by unfold tupleF seqOf; dsimp only; rw [e]
  by_cases c : v = 1
  · subst c
    obtain ⟨h5, d5⟩ : ∃ x, x = h4 ++ [O.lst [.tup [.str "here", .str "here", .bl true]]] := ⟨_, rfl⟩
    have g5 : KG k h4 h5 := by rw [d5]; exact KG.app
    have q5 : h5[h4.length]? = some (.lst [.tup [.str "here", .str "here", .bl true]]) := by rw [d5]; simp
    have S5 : Src h5 k := by rw [d5]; exact S4.app
    have q5' := g5.2 _ _ (by omega) q4
    obtain ⟨R, dR⟩ : ∃ R, R = (List.replicate (4 - (ts.length : Int)).toNat [D.tup [.str "here", .str "here", .bl true]]).flatten := ⟨_, rfl⟩
    have lR : R.length = 4 - ts.length := by rw [dR]; simp <;> omega
    have mR : ∀ d ∈ R, TestD l d := fun d hd => by
      rw [dR] at hd
      obtain ⟨u, hu1, hu2⟩ := List.mem_flatten.mp hd
      obtain ⟨_, z⟩ := List.mem_replicate.mp hu1
      subst z
      simp only [List.mem_cons, List.not_mem_nil, or_false] at hu2
      subst hu2
      exact mkT lh sh
    obtain ⟨h6, d6⟩ : ∃ x, x = h5 ++ [O.lst R] := ⟨_, rfl⟩
    have g6 : KG k h5 h6 := by rw [d6]; exact KG.app
    have q6 : h6[h5.length]? = some (.lst R) := by rw [d6]; simp
    have S6 : Src h6 k := by rw [d6]; exact S5.app
    have e6 : mulF (.ref h4.length) (.int (4 - (ts.length : Int))) h5 = .ok (.ref h5.length) h6 := by
      unfold mulF lstOf
      dsimp only
      rw [q5]
      dsimp only
      rw [if_pos (by simp; omega), d6, dR]
    have q6' := g6.2 _ _ (by omega) q5'
    have e7 := addL q6 q6' (by omega)
    refine ⟨.tup (R ++ ts), h6 ++ [.lst (R ++ ts)], ?_, ⟨_, rfl, by simp; omega, faA mR m4⟩, S6.app, ((g4.trans g5).trans g6).trans KG.app⟩
    refine ef_rt rfl ?_
    unfold b_law_tests
    refine start (es_ret (ev_ifT (ev_val (ev_bin (ev_var rfl) ev_con eq_iT)) (ev_on (ev_cons (ev_bin (ev_bin (ev_on (ev_cons (tup3 ev_con ev_con ev_con) ev_nil) (new1 d5)) (ev_bin ev_con (ev_on (ev_cons (ev_var rfl) ev_nil) (len_lst q5')) sub_i) e6) (ev_var rfl) e7) ev_nil) (tup List.getElem?_concat_length))))
  · refine ⟨.tup ts, h4, ?_, ⟨ts, rfl, by omega, m4⟩, S4, g4⟩
    refine ef_rt rfl ?_
    unfold b_law_tests
    exact start (es_ret (ev_ifF (ev_val (ev_bin (ev_var rfl) ev_con (eq_iF c))) (ev_on (ev_cons (ev_var rfl) ev_nil) (tup q4))))
end ML

namespace ML
open PySem PySem.Spec PyProof.Rows L2
/-! good, noted_as -/
theorem sS {l : List Str} {s : Str} (h : s ∈ l) : SrcN l s := .inr (.inr (.inr h))
theorem good {h : MH} {k : Nat} {l : List Str} (S : Src h k) (hw : ("was" : Str) ∈ l) : ∃ n ls h', m_law_good [.ref k, .str "was"] h = .ok (.ref n) h' ∧ h'[n]? = some (.lst ls) ∧ (∀ d ∈ ls, LineD l false d) ∧ ls.length ≤ 3 ∧ h.length ≤ n ∧ Src h' k ∧ KG k h h' := by
  have hk := S.lt
  obtain ⟨t1, dt1⟩ : ∃ x, x = D.tup [.tup [.tup [.str "here", .str "was", .bl true]], .tup [.tup [.str "here", .str "new"], .tup [.str "was", .str "new"]]] := ⟨_, rfl⟩
  obtain ⟨t2, dt2⟩ : ∃ x, x = D.tup [.tup [.tup [.str "here", .str "new", .bl true]], .tup [.tup [.str "was", .str "new"]]] := ⟨_, rfl⟩
  obtain ⟨t3, dt3⟩ : ∃ x, x = D.tup [.tup [.tup [.str "new", .str "was", .bl true]], .tup []] := ⟨_, rfl⟩
  have L1 : LineD l false t1 := by rw [dt1]; exact mkL1 (by simp) (fun z => (nomatch z)) (fa1 (mkT lh (sS hw)) fa0) (mkSs (by simp) (fa1 (mkS th sn) (fa1 (mkS (.inr hw) sn) fa0)))
  have L2 : LineD l false t2 := by rw [dt2]; exact mkL1 (by simp) (fun z => (nomatch z)) (fa1 (mkT lh sn) fa0) (mkSs (by simp) (fa1 (mkS (.inr hw) sn) fa0))
  have L3 : LineD l false t3 := by rw [dt3]; exact mkL1 (by simp) (fun z => (nomatch z)) (fa1 (mkT ln (sS hw)) fa0) (mkSs (by simp) fa0)
  obtain ⟨n, dn⟩ : ∃ n, n = h.length := ⟨_, rfl⟩
  obtain ⟨h1, d1⟩ : ∃ x, x = h ++ [O.lst [t1, t2]] := ⟨_, rfl⟩
  have g1 : KG k h h1 := by rw [d1]; exact KG.app
  have S1 : Src h1 k := by rw [d1]; exact S.app
  have q1 : h1[n]? = some (.lst [t1, t2]) := by rw [d1, dn]; simp
  have e1 : lstF [t1, t2] h = .ok (.ref n) h1 := by rw [d1, dn]; exact lst_new (by simp)
  have nk : n ≠ k := by omega
  obtain ⟨h2, d2⟩ : ∃ x, x = h1.set n (.lst [t1, t2, t3]) := ⟨_, rfl⟩
  have e2 : appF (.ref n) [t3] h1 = .ok .non h2 := by rw [d2]; exact append_i q1 (by simp)
  have q2 : h2[n]? = some (.lst [t1, t2, t3]) := by rw [d2]; exact set_get q1
  have S2 : Src h2 k := by rw [d2]; exact S1.other nk
  have k2 : KG k h h2 := ((g1.kb (b := h.length)).trans (by rw [d2]; exact KB.set (by omega))).kg
  obtain ⟨v, h3, e3, v0, v1, S3, g3, n3⟩ := draw2 (span := 5) S2 (by decide) (by decide)
  have q3 := g3.2 _ _ nk q2
  have lh3 : h.length ≤ h3.length := (k2.trans g3).1
  -- pop
  have A : ∃ h4 ls, ifS (valT (bin eqF (varE 3) (conE (.int 0)))) (expS (bmE "list" popF (varE 2) (consA (onA m_law_draw (consA (varE 0) (consA (conE (.int 3)) (nilA)))) (nilA)))) (passS) [some (.ref k), some (.str "was"), some (.ref n), some (.int v)] h3 = .nx [some (.ref k), some (.str "was"), some (.ref n), some (.int v)] h4 ∧ h4[n]? = some (.lst ls) ∧ (∀ d ∈ ls, LineD l false d) ∧ ls.length ≤ 3 ∧ (v ≠ 0 → ls = [t1, t2, t3]) ∧ Src h4 k ∧ KG k h h4 := by
    by_cases c : v = 0
    · subst c
      obtain ⟨w, h4, e4, w0, w1, S4, g4, _⟩ := draw2 (span := 3) S3 (by decide) (by decide)
      have q4 := g4.2 _ _ nk q3
      have e5 := pop_i q4 w0 (by simpa using w1) (by simp)
      refine ⟨_, _, es_ifT (ev_val (ev_bin (ev_var rfl) ev_con eq_iT)) (es_exp (ev_bm (ev_var rfl) (ty_lst q3) (ev_cons (ev_on (ev_cons (ev_var rfl) (ev_cons ev_con ev_nil)) e4) ev_nil) e5)), set_get q4, fun d hd => fa1 L1 (fa1 L2 (fa1 L3 fa0)) d (List.mem_of_mem_eraseIdx hd), Nat.le_trans (List.length_eraseIdx_le _ _) (by simp), fun z => absurd rfl z, S4.other nk, (((k2.trans g3).trans g4).kb.trans (KB.set (by omega))).kg⟩
    · exact ⟨h3, _, es_ifF (ev_val (ev_bin (ev_var rfl) ev_con (eq_iF c))) es_pass, q3, fa1 L1 (fa1 L2 (fa1 L3 fa0)), by simp, fun _ => rfl, S3, k2.trans g3⟩
  obtain ⟨h4, ls4, e4, q4, m4, l4, z4, S4, k4⟩ := A
  have B : ∃ n' h5 ls, ifS (valT (bin eqF (varE 3) (conE (.int 1)))) (setS 2 (onA m_law_mixed (consA (varE 0) (consA (varE 2) (nilA))))) (passS) [some (.ref k), some (.str "was"), some (.ref n), some (.int v)] h4 = .nx [some (.ref k), some (.str "was"), some (.ref n'), some (.int v)] h5 ∧ h5[n']? = some (.lst ls) ∧ (∀ d ∈ ls, LineD l false d) ∧ ls.length ≤ 3 ∧ (v = 2 → ls = [t1, t2, t3]) ∧ h.length ≤ n' ∧ n' ≠ k ∧ Src h5 k ∧ KG k h h5 := by
    by_cases c : v = 1
    · subst c
      obtain ⟨n', h5, ls', e5, q5, m5, l5, b5, S5, g5⟩ := mixed S4 (.inr ⟨n, rfl, q4⟩) (by omega)
      have := k4.1
      exact ⟨n', h5, ls', es_ifT (ev_val (ev_bin (ev_var rfl) ev_con eq_iT)) (es_set' (ev_on (ev_cons (ev_var rfl) (ev_cons (ev_var rfl) ev_nil)) e5) rfl), q5, fun d hd => m4 d (m5 d hd), by omega, fun z => absurd z (by decide), by omega, by omega, S5, k4.trans g5⟩
    · exact ⟨n, h4, ls4, es_ifF (ev_val (ev_bin (ev_var rfl) ev_con (eq_iF c))) es_pass, q4, m4, l4, fun z => z4 (by omega), by omega, nk, S4, k4⟩
  obtain ⟨n', h5, ls5, e5, q5, m5, l5, z5, b5, nk5, S5, k5⟩ := B
  have C : ∃ h6 ls, ifS (valT (bin eqF (varE 3) (conE (.int 2)))) (setX (varE 2) (conE (.int 0)) (onA tupF (consA (bin ixF (bin ixF (varE 2) (conE (.int 0))) (conE (.int 0))) (consA (revE (bin ixF (bin ixF (varE 2) (conE (.int 0))) (conE (.int 1)))) (nilA))))) (passS) [some (.ref k), some (.str "was"), some (.ref n'), some (.int v)] h5 = .nx [some (.ref k), some (.str "was"), some (.ref n'), some (.int v)] h6 ∧ h6[n']? = some (.lst ls) ∧ (∀ d ∈ ls, LineD l false d) ∧ ls.length ≤ 3 ∧ Src h6 k ∧ KG k h h6 := by
    by_cases c : v = 2
    · have := z5 c
      subst this c
      obtain ⟨t1', dt1'⟩ : ∃ x, x = D.tup [.tup [.tup [.str "here", .str "was", .bl true]], .tup [.tup [.str "was", .str "new"], .tup [.str "here", .str "new"]]] := ⟨_, rfl⟩
      have L1' : LineD l false t1' := by rw [dt1']; exact mkL1 (by simp) (fun z => (nomatch z)) (fa1 (mkT lh (sS hw)) fa0) (mkSs (by simp) (fa1 (mkS (.inr hw) sn) (fa1 (mkS th sn) fa0)))
      have i0 : ∀ {e : Env} (he : e[2]? = some (some (.ref n'))), bin ixF (varE 2) (conE (.int 0)) e h5 = .ok t1 h5 := fun he => ev_bin (ev_var he) ev_con (ix_lst q5 (by decide) rfl)
      have st : stF (.ref n') (.int 0) t1' h5 = some (h5.set n' (.lst [t1', t2, t3])) := by simp [stF, q5, ixN]
      refine ⟨_, [t1', t2, t3], es_ifT (ev_val (ev_bin (ev_var rfl) ev_con eq_iT)) (es_setX (z := t1') (x := .ref n') (y := .int 0) ?_ (ev_var rfl) ev_con st), set_get q5, fa1 L1' (fa1 L2 (fa1 L3 fa0)), by simp, S5.other nk5, ((k5.kb (b := h.length)).trans (KB.set b5)).kg⟩
      rw [dt1'] 
      refine tup2 (ev_bin (i0 rfl) ev_con ?_) ?_
      · rw [dt1]; exact ix_tup (by decide) rfl
      · have i1 : bin ixF (bin ixF (varE 2) (conE (.int 0))) (conE (.int 1)) [some (.ref k), some (.str "was"), some (.ref n'), some (.int 2)] h5 = .ok (.tup [.tup [.str "here", .str "new"], .tup [.str "was", .str "new"]]) h5 := ev_bin (i0 rfl) ev_con (by rw [dt1]; exact ix_tup (by decide) rfl)
        unfold revE
        rw [i1]
        rfl
    · exact ⟨h5, ls5, es_ifF (ev_val (ev_bin (ev_var rfl) ev_con (eq_iF c))) es_pass, q5, m5, l5, S5, k5⟩
  obtain ⟨h6, ls6, e6, q6, m6, l6, S6, k6⟩ := C
  refine ⟨n', ls6, h6, ?_, q6, m6, l6, b5, S6, k6⟩
  refine ef_rt rfl ?_
  unfold b_law_good
  refine es_seq (es_set' (ev_on (ev_cons (h1 := h) (x := t1) ?_ (ev_cons (h1 := h) (x := t2) ?_ ev_nil)) e1) rfl) ?_
  · rw [dt1]; exact tup2 (tup1 (tup3 ev_con (ev_var rfl) ev_con)) (tup2 (tup2 ev_con ev_con) (tup2 (ev_var rfl) ev_con))
  · rw [dt2]; exact tup2 (tup1 (tup3 ev_con ev_con ev_con)) (tup1 (tup2 (ev_var rfl) ev_con))
  refine es_seq (es_exp (ev_bm (ev_var rfl) (ty_lst q1) (ev_cons (h1 := h1) (x := t3) ?_ ev_nil) e2)) ?_
  · rw [dt3]; exact tup2 (tup1 (tup3 ev_con (ev_var rfl) ev_con)) tup0
  refine es_seq (es_set' (ev_on (ev_cons (ev_var rfl) (ev_cons ev_con ev_nil)) e3) rfl) ?_
  refine es_seq e4 (es_seq e5 (es_seq e6 (es_ret (ev_var rfl))))
/-! comprehensions that map -/
theorem lc_mapA {srcs : List (Nat × List D)} {elt : EM} {n i : Nat} {e0 : Env} {h0 : MH} {f : D → D} (hs : ∀ h, GA h0 h → IT.ok h srcs = true) (hn : h0.length ≤ n) : ∀ (ds acc : List D) (h : MH), GA h0 h → h[n]? = some (.lst acc) → acc.length + ds.length < 1000 → (∀ d ∈ ds, ∀ h, GA h0 h → ∃ h', elt (e0.set i (some d)) h = .ok (f d) h' ∧ GA h h') →
    ∃ h', lcLoop srcs (gnm i) yesT elt n e0 ds h = .ok (.ref n) h' ∧ h'[n]? = some (.lst (acc ++ ds.map f)) ∧ GA h0 h'
  | [], acc, h, p, e, hl, hd => ⟨h, by unfold lcLoop; rw [if_pos (hs h p)], by simpa using e, p⟩
  | d :: ds, acc, h, p, e, hl, hd => by
    obtain ⟨h1, e1, g1⟩ := hd d List.mem_cons_self h p
    have q1 := g1.2 _ _ e
    obtain ⟨h', e2, e3, p'⟩ := lc_mapA hs hn ds (acc ++ [f d]) (h1.set n (.lst (acc ++ [f d]))) ((p.trans g1).setB hn) (set_get q1) (by simp only [List.length_append, List.length_cons, List.length_nil] at hl ⊢; omega) (fun x hx => hd x (List.mem_cons_of_mem _ hx))
    refine ⟨h', ?_, by rw [e3]; simp, p'⟩
    rw [← e2]
    conv => lhs; unfold lcLoop
    rw [if_pos (hs h p)]
    have tg : gnm i d e0 h = some (e0.set i (some d)) := rfl
    rw [tg]
    dsimp only [yesT]
    rw [e1]
    dsimp only
    rw [q1]
    dsimp only
    rw [if_pos (by simp only [List.length_cons] at hl; omega)]
theorem ev_mapL {elt : EM} {i : Nat} {e : Env} {own : List Nat} {it : IM} {ds : List D} {srcs : List (Nat × List D)} {h : MH} {f : D → D} (hi : it e h = .ok ⟨ds, srcs⟩ h) (hs : ∀ h1, GA h h1 → IT.ok h1 srcs = true) (hl : ds.length < 900) (hd : ∀ d ∈ ds, ∀ h1, GA h h1 → ∃ h2, elt ((wipeM e own).set i (some d)) h1 = .ok (f d) h2 ∧ GA h1 h2) :
    ∃ h', lcE own it (gnm i) yesT elt e h = .ok (.ref h.length) h' ∧ h'[h.length]? = some (.lst (ds.map f)) ∧ GA h h' := by
  obtain ⟨h', e1, e2, p'⟩ := lc_mapA (n := h.length) (i := i) (elt := elt) (e0 := wipeM e own) (f := f) hs (Nat.le_refl _) ds [] (h ++ [O.lst []]) GA.app (by simp) (by simp; omega) hd
  refine ⟨h', ?_, by simpa using e2, p'⟩
  unfold lcE
  rw [hi]
  exact e1
theorem ev_mapT {elt : EM} {i : Nat} {e : Env} {own : List Nat} {it : IM} {ds : List D} {srcs : List (Nat × List D)} {h : MH} {f : D → D} (hi : it e h = .ok ⟨ds, srcs⟩ h) (hs : ∀ h1, GA h h1 → IT.ok h1 srcs = true) (hl : ds.length < 900) (hd : ∀ d ∈ ds, ∀ h1, GA h h1 → ∃ h2, elt ((wipeM e own).set i (some d)) h1 = .ok (f d) h2 ∧ GA h1 h2) :
    ∃ h', onA tupleF (consA (lcE own it (gnm i) yesT elt) nilA) e h = .ok (.tup (ds.map f)) h' ∧ GA h h' := by
  obtain ⟨h', e1, e2, g⟩ := ev_mapL (own := own) hi hs hl hd
  exact ⟨h', ev_on (ev_cons e1 ev_nil) (by unfold tupleF seqOf; dsimp only; rw [e2]), g⟩
/-! another word for the note -/
def subS (w s : Str) : Str := if s = "was" then w else s
def subD (w : Str) : D → D
  | .str s => .str (subS w s)
  | d => d
def subE (w : Str) : D → D
  | .tup xs => .tup (xs.map (subD w))
  | d => d
def subP (w : Str) : D → D
  | .tup xs => .tup (xs.map (subE w))
  | d => d
def subL (w : Str) : D → D
  | .tup xs => .tup (xs.map (subP w))
  | d => d
theorem sub_mem {w s : Str} {l : List Str} (h : s ∈ l) : subS w s ∈ l.map (subS w) := List.mem_map.mpr ⟨s, h, rfl⟩
theorem sub_no {w s : Str} (h : s ≠ "was") : subS w s = s := by unfold subS; rw [if_neg h]
theorem LeftN.sub {w s : Str} {l : List Str} (p : LeftN l s) : LeftN (l.map (subS w)) (subS w s) := by
  rcases p with z | z | z
  · rw [z, sub_no (by decide)]; exact .inl rfl
  · rw [z, sub_no (by decide)]; exact .inr (.inl rfl)
  · exact .inr (.inr (sub_mem z))
theorem TgtN.sub {w s : Str} {l : List Str} (p : TgtN l s) : TgtN (l.map (subS w)) (subS w s) := by
  rcases p with z | z
  · rw [z, sub_no (by decide)]; exact .inl rfl
  · exact .inr (sub_mem z)
theorem SrcN.sub {w s : Str} {l : List Str} (p : SrcN l s) : SrcN (l.map (subS w)) (subS w s) := by
  rcases p with z | z | z | z
  · rw [z, sub_no (by decide)]; exact .inl rfl
  · rw [z, sub_no (by decide)]; exact .inr (.inl rfl)
  · rw [z, sub_no (by decide)]; exact .inr (.inr (.inl rfl))
  · exact .inr (.inr (.inr (sub_mem z)))
theorem TestD.sub {w : Str} {l : List Str} {d : D} (p : TestD l d) : TestD (l.map (subS w)) (subE w d) := by
  obtain ⟨a, b, v, rfl, p1, p2⟩ := p
  exact ⟨_, _, v, rfl, p1.sub, p2.sub⟩
theorem StepD.sub {w : Str} {l : List Str} {d : D} (p : StepD l d) : StepD (l.map (subS w)) (subE w d) := by
  obtain ⟨a, b, rfl, p1, p2⟩ := p
  exact ⟨_, _, rfl, p1.sub, p2.sub⟩
theorem StepsD.sub {w : Str} {l : List Str} {d : D} (p : StepsD l d) : StepsD (l.map (subS w)) (subP w d) := by
  obtain ⟨ss, rfl, h, p⟩ := p
  refine ⟨_, rfl, by simpa using h, fun s hs => ?_⟩
  obtain ⟨t, ht, e⟩ := List.mem_map.mp hs
  rw [← e]
  exact (p t ht).sub
theorem LineD.sub {w : Str} {l : List Str} {b : Bool} {d : D} (p : LineD l b d) : LineD (l.map (subS w)) b (subL w d) := by
  obtain ⟨ts, st, rfl, h, n, pt, hl, ps⟩ := p
  refine ⟨ts.map (subE w), st.map (subP w), rfl, by simpa using h, fun z => by rw [n z]; rfl, fun t ht => ?_, by simpa using hl, fun s hs => ?_⟩
  · obtain ⟨t', h', e⟩ := List.mem_map.mp ht
    rw [← e]
    exact (pt t' h').sub
  · obtain ⟨t', h', e⟩ := List.mem_map.mp hs
    rw [← e]
    exact (ps t' h').sub
theorem LinesD.sub {w : Str} {l : List Str} {ls : List D} (p : LinesD l ls) : LinesD (l.map (subS w)) (ls.map (subL w)) := by
  obtain ⟨p1, p2, p3, p4⟩ := p
  refine ⟨by simpa using p1, by simpa using p2, fun d hd => ?_, fun d hd => ?_⟩
  · obtain ⟨t, ht, e⟩ := List.mem_map.mp hd
    rw [← e]
    exact (p3 t ht).sub
  · rw [List.getLast?_map] at hd
    cases q : ls.getLast? with
    | none => rw [q] at hd; cases hd
    | some t =>
      rw [q] at hd
      have e : subL w t = d := by simpa using hd
      rw [← e]
      exact (p4 t q).sub
theorem map_sub {w : Str} {l : List Str} : (l.map D.str).map (subD w) = (l.map (subS w)).map D.str := by simp [List.map_map, Function.comp_def, subD]
/-- a plain entry: texts and bools -/
def EntD (d : D) : Prop := ∃ xs, d = .tup xs ∧ xs.length ≤ 100 ∧ ∀ x ∈ xs, (∃ s, x = .str s) ∨ ∃ b, x = .bl b
theorem sub_elt {w : Str} {x : D} {e : Env} {h : MH} {i : Nat} (hx : (∃ s, x = .str s) ∨ ∃ b, x = .bl b) (h0 : e[0]? = some (some (.str w))) (hi : e[i]? = some (some x)) : ifE (valT (bin eqF (varE i) (conE (.str "was")))) (varE 0) (varE i) e h = .ok (subD w x) h := by
  rcases hx with ⟨s, rfl⟩ | ⟨b, rfl⟩
  · have q : eqF (.str s) (.str "was") h = .ok (.bl (decide (s = "was"))) h := by
      unfold eqF eqT eqTop isScal
      dsimp only
      rw [scal_str]
    by_cases c : s = "was"
    · rw [decide_eq_true c] at q
      have : subD w (.str s) = .str w := by show D.str (subS w s) = _; unfold subS; rw [if_pos c]
      rw [this]
      exact ev_ifT (ev_val (ev_bin (ev_var hi) ev_con q)) (ev_var h0)
    · rw [decide_eq_false c] at q
      have : subD w (.str s) = .str s := by show D.str (subS w s) = _; unfold subS; rw [if_neg c]
      rw [this]
      exact ev_ifF (ev_val (ev_bin (ev_var hi) ev_con q)) (ev_var hi)
  · exact ev_ifF (ev_val (ev_bin (ev_var hi) ev_con (by rfl))) (ev_var hi)
def PartD (d : D) : Prop := ∃ es, d = .tup es ∧ es.length ≤ 100 ∧ ∀ x ∈ es, EntD x
def PlD (d : D) : Prop := ∃ ps, d = .tup ps ∧ ps.length ≤ 100 ∧ ∀ x ∈ ps, PartD x
theorem TestD.ent {l : List Str} {d : D} (p : TestD l d) : EntD d := by
  obtain ⟨a, b, v, rfl, _⟩ := p
  exact ⟨_, rfl, by simp, fa1 (.inl ⟨_, rfl⟩) (fa1 (.inl ⟨_, rfl⟩) (fa1 (.inr ⟨_, rfl⟩) fa0))⟩
theorem StepD.ent {l : List Str} {d : D} (p : StepD l d) : EntD d := by
  obtain ⟨a, b, rfl, _⟩ := p
  exact ⟨_, rfl, by simp, fa1 (.inl ⟨_, rfl⟩) (fa1 (.inl ⟨_, rfl⟩) fa0)⟩
theorem LineD.pl {l : List Str} {b : Bool} {d : D} (p : LineD l b d) : PlD d := by
  obtain ⟨ts, st, rfl, h, n, pt, hl, ps⟩ := p
  refine ⟨_, rfl, by simp; omega, fa1 ⟨ts, rfl, by omega, fun t ht => (pt t ht).ent⟩ fun s hs => ?_⟩
  obtain ⟨ss, rfl, h4, p4⟩ := ps s hs
  exact ⟨ss, rfl, by omega, fun t ht => (p4 t ht).ent⟩
def noted_body : SM := seqS (setS 5 (lcE [6] (seqI (varE 4)) (gnm 6) (yesT) (onA tupleF (consA (lcE [8] (seqI (varE 6)) (gnm 8) (yesT) (onA tupleF (consA (lcE [9] (seqI (varE 8)) (gnm 9) (yesT) (ifE (valT (bin eqF (varE 9) (conE (.str "was")))) (varE 0) (varE 9))) (nilA)))) (nilA))))) (expS (bmE "list" appF (varE 3) (consA (onA tupleF (consA (varE 5) (nilA))) (nilA))))
theorem noted_line {w : Str} {d x1 : D} {x2 x3 x5 : Option D} {h : MH} (p : PlD d) : ∃ h', lcE [6] (seqI (varE 4)) (gnm 6) (yesT) (onA tupleF (consA (lcE [8] (seqI (varE 6)) (gnm 8) (yesT) (onA tupleF (consA (lcE [9] (seqI (varE 8)) (gnm 9) (yesT) (ifE (valT (bin eqF (varE 9) (conE (.str "was")))) (varE 0) (varE 9))) (nilA)))) (nilA))) [some (.str w), some x1, x2, x3, some d, x5, none, none, none, none] h = .ok (.ref h.length) h' ∧ (∃ ps, subL w d = .tup ps ∧ h'[h.length]? = some (.lst ps)) ∧ GA h h' := by
  obtain ⟨ps, rfl, hp, pp⟩ := p
  obtain ⟨h', e, q, g⟩ := ev_mapL (own := [6]) (i := 6) (it := seqI (varE 4)) (f := subP w) (elt := onA tupleF (consA (lcE [8] (seqI (varE 6)) (gnm 8) (yesT) (onA tupleF (consA (lcE [9] (seqI (varE 8)) (gnm 9) (yesT) (ifE (valT (bin eqF (varE 9) (conE (.str "was")))) (varE 0) (varE 9))) (nilA)))) (nilA))) (e := [some (.str w), some x1, x2, x3, some (.tup ps), x5, none, none, none, none]) (h := h) (i_tup (ev_var rfl)) (fun _ _ => it_nil) (by omega) (fun d hd h1 g1 => by
    obtain ⟨es, rfl, he, pe⟩ := pp d hd
    obtain ⟨h2, e2, g2⟩ := ev_mapT (own := [8]) (i := 8) (it := seqI (varE 6)) (f := subE w) (elt := onA tupleF (consA (lcE [9] (seqI (varE 8)) (gnm 9) (yesT) (ifE (valT (bin eqF (varE 9) (conE (.str "was")))) (varE 0) (varE 9))) (nilA))) (e := [some (.str w), some x1, x2, x3, some (.tup ps), x5, some (.tup es), none, none, none]) (h := h1) (i_tup (ev_var rfl)) (fun _ _ => it_nil) (by omega) (fun d hd h3 g3 => by
      obtain ⟨xs, rfl, hx, px⟩ := pe d hd
      obtain ⟨h4, e4, g4⟩ := ev_mapT (own := [9]) (i := 9) (it := seqI (varE 8)) (f := subD w) (elt := ifE (valT (bin eqF (varE 9) (conE (.str "was")))) (varE 0) (varE 9)) (e := [some (.str w), some x1, x2, x3, some (.tup ps), x5, some (.tup es), none, some (.tup xs), none]) (h := h3) (i_tup (ev_var rfl)) (fun _ _ => it_nil) (by omega) (fun d hd h5 g5 => ⟨h5, sub_elt (px d hd) rfl rfl, GA.refl⟩)
      exact ⟨h4, e4, g4⟩)
    exact ⟨h2, e2, g2⟩)
  exact ⟨h', e, ⟨_, rfl, q⟩, g⟩
end ML

namespace ML
open PySem PySem.Spec PyProof.Rows L2
/-! noted_as, plan -/
theorem noted_loop {w : Str} {x1 : D} {n f : Nat} {ls : List D} (nf : n ≠ f) : ∀ (ds acc : List D) (t y : Option D) (h : MH), h[n]? = some (.lst ls) → h[f]? = some (.lst acc) → (∀ d ∈ ds, PlD d) → acc.length + ds.length ≤ 100 →
    ∃ t' y' h', loopS [(n, ls)] (gnm 4) noted_body ds [some (.str w), some x1, some (.ref n), some (.ref f), t, y, none, none, none, none] h = .nx [some (.str w), some x1, some (.ref n), some (.ref f), t', y', none, none, none, none] h' ∧ h'[f]? = some (.lst (acc ++ ds.map (subL w))) ∧ KG f h h'
  | [], acc, t, y, h, en, ef, hd, hl => ⟨t, y, h, loop_nil (stands1 en), by simpa using ef, KG.refl⟩
  | d :: ds, acc, t, y, h, en, ef, hd, hl => by
    obtain ⟨h1, e1, ⟨ps, p1, q1⟩, g1⟩ := noted_line (w := w) (x1 := x1) (x2 := some (.ref n)) (x3 := some (.ref f)) (x5 := y) (h := h) (hd d List.mem_cons_self)
    have ef1 := g1.2 _ _ ef
    have en1 := g1.2 _ _ en
    have e2 : tupleF [.ref h.length] h1 = .ok (subL w d) h1 := by unfold tupleF seqOf; dsimp only; rw [q1, p1]
    have e3 := append_i (y := subL w d) ef1 (by simp only [List.length_cons] at hl; omega)
    obtain ⟨t', y', h', e4, q4, k4⟩ := noted_loop (w := w) (x1 := x1) (ls := ls) nf ds (acc ++ [subL w d]) (some d) (some (.ref h.length)) (h1.set f (.lst (acc ++ [subL w d]))) (by rw [List.getElem?_set_ne (Ne.symm nf)]; exact en1) (set_get ef1) (fun x hx => hd x (List.mem_cons_of_mem _ hx)) (by simp only [List.length_append, List.length_cons, List.length_nil] at hl ⊢; omega)
    refine ⟨t', y', h', ?_, by rw [q4]; simp, (g1.kg.trans KG.set).trans k4⟩
    rw [← e4]
    apply loop_cons (stands1 en) rfl
    unfold noted_body
    refine es_seq (es_set' e1 rfl) ?_
    exact es_exp (ev_bm (ev_var rfl) (ty_lst ef1) (ev_cons (ev_on (ev_cons (ev_var rfl) ev_nil) e2) ev_nil) e3)
theorem noted {h : MH} {w : Str} {l : List Str} {n : Nat} {ls : List D} (en : h[n]? = some (.lst ls)) (hp : ∀ d ∈ ls, PlD d) (hl : l.length ≤ 100) (hls : ls.length ≤ 90) :
    ∃ h', m_law_noted_as [.str w, .tup (l.map .str), .ref n] h = .ok (.tup [.tup ((l.map (subS w)).map .str), .tup (ls.map (subL w))]) h' ∧ GA h h' := by
  have hn := (List.getElem?_eq_some_iff.mp en).1
  obtain ⟨h1, d1⟩ : ∃ x, x = h ++ [O.lst []] := ⟨_, rfl⟩
  have g1 : GA h h1 := by rw [d1]; exact GA.app
  have q1 : h1[h.length]? = some (.lst []) := by rw [d1]; simp
  obtain ⟨t', y', h2, e2, q2, k2⟩ := noted_loop (w := w) (x1 := .tup (l.map .str)) (f := h.length) (n := n) (by omega) ls [] none none h1 (g1.2 _ _ en) q1 hp (by simp; omega)
  have g2 : GA h h2 := ⟨Nat.le_trans g1.1 k2.1, fun m o e => k2.2 m o (by have := (List.getElem?_eq_some_iff.mp e).1; omega) (g1.2 _ _ e)⟩
  obtain ⟨h3, e3, g3⟩ := ev_mapT (own := [7]) (i := 7) (it := seqI (varE 1)) (f := subD w) (elt := ifE (valT (bin eqF (varE 7) (conE (.str "was")))) (varE 0) (varE 7)) (e := [some (.str w), some (.tup (l.map .str)), some (.ref n), some (.ref h.length), t', y', none, none, none, none]) (h := h2) (i_tup (ev_var rfl)) (fun _ _ => it_nil) (by simp; omega) (fun d hd h5 g5 => by
    obtain ⟨s, _, e⟩ := List.mem_map.mp hd
    subst e
    exact ⟨h5, sub_elt (.inl ⟨_, rfl⟩) rfl rfl, GA.refl⟩)
  rw [map_sub] at e3
  rw [List.nil_append] at q2
  refine ⟨h3, ?_, g2.trans g3⟩
  have q3 := g3.2 _ _ q2
  refine ef_rt rfl ?_
  unfold b_law_noted_as
  refine es_seq (es_set' (ev_on ev_nil (new0 d1)) rfl) ?_
  refine es_seq (es_for (ei_lst (ev_var rfl) (g1.2 _ _ en)) e2) ?_
  exact es_ret (ev_on (ev_cons e3 (ev_cons (ev_on (ev_cons (ev_var rfl) ev_nil) (by unfold tupleF seqOf; dsimp only; rw [q3])) ev_nil)) (tup_new (by decide : 2 ≤ 1000000)))
theorem any_dec {s : Str} {L : List Str} : (L.any fun y => scalEq (.str y) (.str s)) = decide (s ∈ L) := by
  by_cases c : s ∈ L
  · rw [any_mem c, decide_eq_true c]
  · rw [decide_eq_false c]
    cases z : L.any fun y => scalEq (.str y) (.str s) with
    | false => rfl
    | true =>
      obtain ⟨y, hy, q⟩ := List.any_eq_true.mp z
      rw [scal_str] at q
      exact absurd (of_decide_eq_true q ▸ hy) c
theorem in_tupD {h : MH} {s : Str} {L : List Str} : inF (.str s) (.tup (L.map D.str)) h = .ok (.bl (decide (s ∈ L))) h := by rw [in_tup, any_dec]
def bases : List (List Str) := [[], ["was"], ["was"], ["beside"], ["was", "due"], ["beside", "was"], ["elder", "was"], ["was", "elder"], ["beside", "elder"], ["due", "beside", "was"], ["elder", "beside", "was"]]
def words : List Str := ["was", "was", "was", "last", "mark", "mine", "own", "take"]
theorem bases_ok : ∀ l ∈ bases, ∀ w ∈ words, RegsOk (l.map (subS w)) ∧ ∀ z ∈ l.map (subS w), z ≠ "more" := by
  unfold RegsOk GoodN
  decide +kernel
theorem bases_len : ∀ l ∈ bases, l.length ≤ 3 := by decide
/-- lines so far -/
def LnsL (h : MH) (n : Nat) (l : List Str) (m : Nat) : Prop := ∃ ls, h[n]? = some (.lst ls) ∧ ls.length ≤ m ∧ ∀ d ∈ ls, LineD l false d
def plan_body : SM := seqS (setS 7 (onA tupF (consA (onA m_law_tests (consA (varE 0) (consA (varE 2) (consA (conE (.int 2)) (nilA))))) (consA (onA m_law_steps (consA (varE 0) (consA (varE 2) (consA (conE (.int 3)) (nilA))))) (nilA))))) (seqS (ifS (valT (bin eqF (onA m_law_draw (consA (varE 0) (consA (conE (.int 4)) (nilA)))) (conE (.int 0)))) (setS 7 (bin addF (varE 7) (onA tupF (consA (onA m_law_steps (consA (varE 0) (consA (varE 2) (consA (conE (.int 2)) (nilA))))) (nilA))))) (passS)) (expS (bmE "list" insF (varE 3) (consA (onA m_law_draw (consA (varE 0) (consA (bin addF (onA lenF (consA (varE 3) (nilA))) (conE (.int 1))) (nilA)))) (consA (varE 7) (nilA))))))
theorem plan_loop {k n : Nat} {l : List Str} {x1 x5 x6 : Option D} (nk : n ≠ k) (hl : l.length ≤ 3) : ∀ (ds : List D) (m : Nat) (t y : Option D) (h : MH), Src h k → LnsL h n l m → m + ds.length ≤ 20 →
    ∃ t' y' h', loopS [] (gnm 4) plan_body ds [some (.ref k), x1, some (.tup (l.map .str)), some (.ref n), t, x5, x6, y] h = .nx [some (.ref k), x1, some (.tup (l.map .str)), some (.ref n), t', x5, x6, y'] h' ∧ LnsL h' n l (m + ds.length) ∧ Src h' k ∧ KX k n h h'
  | [], m, t, y, h, S, L, hm => ⟨t, y, h, loop_nil rfl, L, S, KX.refl⟩
  | d :: ds, m, t, y, h, S, L, hm => by
    obtain ⟨ls, en, hls, pls⟩ := L
    obtain ⟨dt, h1, e1, ⟨ts, rfl, t4, pt⟩, S1, g1⟩ := tests S hl
    obtain ⟨s1, h2, e2, p2, S2, g2⟩ := steps (most := 3) S1 hl (by decide) (by decide)
    obtain ⟨c, h3, e3, c0, c1, S3, g3, _⟩ := draw2 (span := 4) S2 (by decide) (by decide)
    have A : ∃ L h4, ifS (valT (bin eqF (onA m_law_draw (consA (varE 0) (consA (conE (.int 4)) (nilA)))) (conE (.int 0)))) (setS 7 (bin addF (varE 7) (onA tupF (consA (onA m_law_steps (consA (varE 0) (consA (varE 2) (consA (conE (.int 2)) (nilA))))) (nilA))))) (passS) [some (.ref k), x1, some (.tup (l.map .str)), some (.ref n), some d, x5, x6, some (.tup [.tup ts, s1])] h2 = .nx [some (.ref k), x1, some (.tup (l.map .str)), some (.ref n), some d, x5, x6, some L] h4 ∧ LineD l false L ∧ Src h4 k ∧ KG k h3 h4 := by
      by_cases z : c = 0
      · subst z
        obtain ⟨s2, h4, e4, p4, S4, g4⟩ := steps (most := 2) S3 hl (by decide) (by decide)
        exact ⟨_, h4, es_ifT (ev_val (ev_bin (ev_on (ev_cons (ev_var rfl) (ev_cons ev_con ev_nil)) e3) ev_con eq_iT)) (es_set' (ev_bin (ev_var rfl) (ev_on (ev_cons (ev_on (ev_cons (ev_var rfl) (ev_cons (ev_var rfl) (ev_cons ev_con ev_nil))) e4) ev_nil) (tup_new (by decide : 1 ≤ 1000000))) (add_tup (by simp))) rfl), mkL2 t4 (fun z => (nomatch z)) pt p2 p4, S4, g4⟩
      · exact ⟨_, h3, es_ifF (ev_val (ev_bin (ev_on (ev_cons (ev_var rfl) (ev_cons ev_con ev_nil)) e3) ev_con (eq_iF z))) es_pass, mkL1 t4 (fun z => (nomatch z)) pt p2, S3, KG.refl⟩
    obtain ⟨L, h4, e4, PL, S4, g4⟩ := A
    have kk := ((g1.trans g2).trans g3).trans g4
    have en4 := kk.2 _ _ nk en
    obtain ⟨v, h5, e5, v0, v1, S5, g5, _⟩ := draw2 (span := (ls.length : Int) + 1) S4 (by omega) (by omega)
    have en5 := g5.2 _ _ nk en4
    have e6 := ins_i (y := L) en5 v0 (by omega) (by omega)
    obtain ⟨t', y', h', e7, L7, S7, k7⟩ := plan_loop (x1 := x1) (x5 := x5) (x6 := x6) nk hl ds (m + 1) (some d) (some L) (h5.set n (.lst (ls.take v.toNat ++ [L] ++ ls.drop v.toNat))) (S5.other nk) ⟨_, set_get en5, by simp; omega, faA (faA (fun d hd => pls d (List.mem_of_mem_take hd)) (fa1 PL fa0)) (fun d hd => pls d (List.mem_of_mem_drop hd))⟩ (by simp only [List.length_cons] at hm; omega)
    refine ⟨t', y', h', ?_, by simp only [List.length_cons]; rw [show m + (ds.length + 1) = m + 1 + ds.length by omega]; exact L7, S7, ((kk.trans g5).kx.trans KX.set).trans k7⟩
    rw [← e7]
    apply loop_cons rfl rfl
    unfold plan_body
    refine es_seq (es_set' (ev_on (ev_cons (ev_on (ev_cons (ev_var rfl) (ev_cons (ev_var rfl) (ev_cons ev_con ev_nil))) e1) (ev_cons (ev_on (ev_cons (ev_var rfl) (ev_cons (ev_var rfl) (ev_cons ev_con ev_nil))) e2) ev_nil)) (tup_new (by decide : 2 ≤ 1000000))) rfl) ?_
    refine es_seq e4 ?_
    exact es_exp (ev_bm (ev_var rfl) (ty_lst en4) (ev_cons (ev_on (ev_cons (ev_var rfl) (ev_cons (ev_bin (ev_on (ev_cons (ev_var rfl) ev_nil) (len_lst en4)) ev_con add_i) ev_nil)) e5) (ev_cons (ev_var rfl) ev_nil)) e6)
end ML

namespace ML
open PySem PySem.Spec PyProof.Rows L2
/-! a drawn plan -/
/-- the ends that a plan may have -/
def EndsL (h : MH) (x : D) (k b : Nat) (l : List Str) (m : Nat) : Prop := ∃ n es, x = .ref n ∧ n ≠ k ∧ b ≤ n ∧ h[n]? = some (.lst es) ∧ 0 < es.length ∧ es.length ≤ m ∧ ∀ d ∈ es, LineD l true d
theorem EndsL.kg {h h' : MH} {x : D} {k b m : Nat} {l : List Str} (p : EndsL h x k b l m) (g : KG k h h') : EndsL h' x k b l m := by
  obtain ⟨n, es, e, nk, hb, q, r⟩ := p
  exact ⟨n, es, e, nk, hb, g.2 _ _ nk q, r⟩
theorem ends_add {h : MH} {x : D} {k b m : Nat} {l : List Str} (p : EndsL h x k b l m) (hb : k < b) (hl : b ≤ h.length) {es : List D} {y : Nat} (ey : h[y]? = some (.lst es)) (he : ∀ d ∈ es, LineD l true d) (hm : m + es.length ≤ 100) : ∃ d, addF x (.ref y) h = .ok d (h ++ [.lst ((match x with | .ref n => (match h[n]? with | some (.lst us) => us | _ => []) | _ => []) ++ es)]) ∧ EndsL (h ++ [.lst ((match x with | .ref n => (match h[n]? with | some (.lst us) => us | _ => []) | _ => []) ++ es)]) d k b l (m + es.length) := by
  obtain ⟨n, us, rfl, nk, nb, q, u0, u1, pu⟩ := p
  have e := addL q ey (by omega)
  dsimp only
  rw [q]
  dsimp only
  exact ⟨_, e, h.length, us ++ es, rfl, by omega, hl, List.getElem?_concat_length, by simp; omega, by simp; omega, faA pu he⟩
theorem plan {h : MH} {k : Nat} (S : Src h k) : ∃ l ls h', m_law_plan [.ref k] h = .ok (.tup [.tup (l.map .str), .tup ls]) h' ∧ RegsOk l ∧ (∀ z ∈ l, z ≠ "more") ∧ LinesD l ls ∧ Src h' k ∧ KG k h h' := by
  have hk := S.lt
  -- names
  obtain ⟨L1, dL1⟩ : ∃ x, x = ([[], ["was"], ["was"], ["beside"], ["was", "due"], ["beside", "was"], ["elder", "was"], ["was", "elder"]] : List (List Str)).map fun l => D.tup (l.map .str) := ⟨_, rfl⟩
  obtain ⟨L2, dL2⟩ : ∃ x, x = ([["beside", "elder"], ["due", "beside", "was"], ["elder", "beside", "was"]] : List (List Str)).map fun l => D.tup (l.map .str) := ⟨_, rfl⟩
  obtain ⟨h1, d1⟩ : ∃ x, x = h ++ [O.lst L1] := ⟨_, rfl⟩
  have g1 : KG k h h1 := by rw [d1]; exact KG.app
  have S1 : Src h1 k := by rw [d1]; exact S.app
  have q1 : h1[h.length]? = some (.lst L1) := by rw [d1]; simp
  have ll1 : L1.length = 8 := by rw [dL1]; rfl
  have ll2 : L2.length = 3 := by rw [dL2]; rfl
  have e1 : lstF L1 h = .ok (.ref h.length) h1 := by rw [d1]; exact lst_new (by omega)
  obtain ⟨h2, d2⟩ : ∃ x, x = h1 ++ [O.lst L2] := ⟨_, rfl⟩
  have g2 : KG k h1 h2 := by rw [d2]; exact KG.app
  have S2 : Src h2 k := by rw [d2]; exact S1.app
  have q2 : h2[h1.length]? = some (.lst L2) := by rw [d2]; simp
  have e2 : lstF L2 h1 = .ok (.ref h1.length) h2 := by rw [d2]; exact lst_new (by omega)
  have b1 := g1.1
  have b2 := g2.1
  obtain ⟨h3, d3⟩ : ∃ x, x = h2 ++ [O.lst (L1 ++ L2)] := ⟨_, rfl⟩
  have g3 : KG k h2 h3 := by rw [d3]; exact KG.app
  have S3 : Src h3 k := by rw [d3]; exact S2.app
  have q3 : h3[h2.length]? = some (.lst (L1 ++ L2)) := by rw [d3]; simp
  have e3 : addF (.ref h.length) (.ref h1.length) h2 = .ok (.ref h2.length) h3 := by rw [d3]; exact addL (g2.2 _ _ (by omega) q1) q2 (by omega)
  obtain ⟨dn, h4, e4, mn, S4, g4, _⟩ := pick2 S3 (by omega) q3 (by simp; omega) (by simp; omega)
  obtain ⟨l, lb, rfl⟩ : ∃ l ∈ bases, dn = .tup (l.map .str) := by
    have : L1 ++ L2 = bases.map fun l => D.tup (l.map .str) := by rw [dL1, dL2]; rfl
    rw [this] at mn
    obtain ⟨l, h1, h2⟩ := List.mem_map.mp mn
    exact ⟨l, h1, h2.symm⟩
  have l3 := bases_len l lb
  -- lines
  obtain ⟨h5, d5⟩ : ∃ x, x = h4 ++ [O.lst []] := ⟨_, rfl⟩
  have g5 : KG k h4 h5 := by rw [d5]; exact KG.app
  have S5 : Src h5 k := by rw [d5]; exact S4.app
  have q5 : h5[h4.length]? = some (.lst []) := by rw [d5]; simp
  have b3 := g3.1
  have b4 := g4.1
  have b5 := g5.1
  have A : ∃ n h6, ifS (andT (valT (bin inF (conE (.str "was")) (varE 2))) (valT (bin gtF (onA m_law_draw (consA (varE 0) (consA (conE (.int 3)) (nilA)))) (conE (.int 0))))) (setS 3 (onA m_law_good (consA (varE 0) (consA (conE (.str "was")) (nilA))))) (passS) [some (.ref k), some (.ref h.length), some (.tup (l.map .str)), some (.ref h4.length), none, none, none, none] h5 = .nx [some (.ref k), some (.ref h.length), some (.tup (l.map .str)), some (.ref n), none, none, none, none] h6 ∧ h.length ≤ n ∧ LnsL h6 n l 3 ∧ Src h6 k ∧ KG k h5 h6 := by
    by_cases c : ("was" : Str) ∈ l
    · obtain ⟨v, h6, e6, v0, v1, S6, g6, _⟩ := draw2 (span := 3) S5 (by decide) (by decide)
      by_cases c2 : 0 < v
      · obtain ⟨n, ls, h7, e7, q7, m7, n7, bn, S7, g7⟩ := good S6 c
        have := g6.1
        exact ⟨n, h7, es_ifT (ev_andT (ev_val (ev_bin ev_con (ev_var rfl) (in_tupD.trans (by rw [decide_eq_true c])))) (ev_val (ev_bin (ev_on (ev_cons (ev_var rfl) (ev_cons ev_con ev_nil)) e6) ev_con (gt_i.trans (by rw [decide_eq_true c2]))))) (es_set' (ev_on (ev_cons (ev_var rfl) (ev_cons ev_con ev_nil)) e7) rfl), by omega, ⟨ls, q7, n7, m7⟩, S7, g6.trans g7⟩
      · exact ⟨h4.length, h6, es_ifF (ev_andT (ev_val (ev_bin ev_con (ev_var rfl) (in_tupD.trans (by rw [decide_eq_true c])))) (ev_val (ev_bin (ev_on (ev_cons (ev_var rfl) (ev_cons ev_con ev_nil)) e6) ev_con (gt_i.trans (by rw [decide_eq_false c2]))))) es_pass, by omega, ⟨[], g6.2 _ _ (by omega) q5, by simp, fa0⟩, S6, g6⟩
    · exact ⟨h4.length, h5, es_ifF (ev_andF (ev_val (ev_bin ev_con (ev_var rfl) (in_tupD.trans (by rw [decide_eq_false c]))))) es_pass, by omega, ⟨[], q5, by simp, fa0⟩, S5, KG.refl⟩
  obtain ⟨n, h6, e6, bn, L6, S6, g6⟩ := A
  obtain ⟨v, h7, e7, v0, v1, S7, g7, _⟩ := draw2 (span := 3) S6 (by decide) (by decide)
  have L7 : LnsL h7 n l 3 := by
    obtain ⟨ls, q, r⟩ := L6
    exact ⟨ls, g7.2 _ _ (by omega) q, r⟩
  obtain ⟨t', y', h8, e8, L8, S8, k8⟩ := plan_loop (k := k) (n := n) (l := l) (x1 := some (.ref h.length)) (x5 := none) (x6 := none) (by omega) l3 (rangeD 0 v.toNat) 3 none none h7 S7 L7 (by unfold rangeD; simp; omega)
  have b7 := ((((((g1.trans g2).trans g3).trans g4).trans g5).trans g6).trans g7)
  have G8 : KG k h h8 := KX.kg b7 bn k8
  obtain ⟨ls, q8, n8, p8⟩ := L8
  have n8 : ls.length ≤ 6 := by unfold rangeD at n8; simp at n8; omega
  -- ends
  obtain ⟨s1, h9, e9, p9, S9, g9⟩ := steps (most := 3) S8 l3 (by decide) (by decide)
  have b8 := G8.1
  have b9 := g9.1
  obtain ⟨h10, d10⟩ : ∃ x, x = h9 ++ [O.lst [.tup [.tup [], s1], .tup [.tup [], .tup [.tup [.str "here", .str "new"]]]]] := ⟨_, rfl⟩
  have g10 : KG k h9 h10 := by rw [d10]; exact KG.app
  have S10 : Src h10 k := by rw [d10]; exact S9.app
  have b10 := g10.1
  have E10 : EndsL h10 (.ref h9.length) k h.length l 2 := ⟨_, _, rfl, by omega, by omega, by rw [d10]; exact List.getElem?_concat_length, by simp, by simp, fa1 (mkL1 (by simp) (fun _ => rfl) fa0 p9) (fa1 (mkL1 (by simp) (fun _ => rfl) fa0 (mkSs (by simp) (fa1 (mkS th sn) fa0))) fa0)⟩
  have e10 : lstF [.tup [.tup [], s1], .tup [.tup [], .tup [.tup [.str "here", .str "new"]]]] h9 = .ok (.ref h9.length) h10 := by rw [d10]; exact lst_new (by simp)
  have B : ∃ x h11, ifS (valT (bin inF (conE (.str "was")) (varE 2))) (setS 5 (bin addF (varE 5) (bin mulF (onA lstF (consA (onA tupF (consA (onA tupF (nilA)) (consA (onA tupF (consA (onA tupF (consA (conE (.str "here")) (consA (conE (.str "new")) (nilA)))) (consA (onA tupF (consA (conE (.str "was")) (consA (conE (.str "new")) (nilA)))) (nilA)))) (consA (onA tupF (consA (onA tupF (consA (conE (.str "was")) (consA (conE (.str "new")) (nilA)))) (nilA))) (nilA))))) (nilA))) (conE (.int 4))))) (passS) [some (.ref k), some (.ref h.length), some (.tup (l.map .str)), some (.ref n), t', some (.ref h9.length), none, y'] h10 = .nx [some (.ref k), some (.ref h.length), some (.tup (l.map .str)), some (.ref n), t', some x, none, y'] h11 ∧ EndsL h11 x k h.length l 6 ∧ Src h11 k ∧ KG k h10 h11 := by
    by_cases c : ("was" : Str) ∈ l
    · obtain ⟨t, dt⟩ : ∃ t, t = D.tup [.tup [], .tup [.tup [.str "here", .str "new"], .tup [.str "was", .str "new"]], .tup [.tup [.str "was", .str "new"]]] := ⟨_, rfl⟩
      have pt : LineD l true t := by rw [dt]; exact mkL2 (by simp) (fun _ => rfl) fa0 (mkSs (by simp) (fa1 (mkS th sn) (fa1 (mkS (.inr c) sn) fa0))) (mkSs (by simp) (fa1 (mkS (.inr c) sn) fa0))
      obtain ⟨h11, d11⟩ : ∃ x, x = h10 ++ [O.lst [t]] := ⟨_, rfl⟩
      have g11 : KG k h10 h11 := by rw [d11]; exact KG.app
      have S11 : Src h11 k := by rw [d11]; exact S10.app
      have q11 : h11[h10.length]? = some (.lst [t]) := by rw [d11]; simp
      have b11 := g11.1
      obtain ⟨h12, d12⟩ : ∃ x, x = h11 ++ [O.lst [t, t, t, t]] := ⟨_, rfl⟩
      have g12 : KG k h11 h12 := by rw [d12]; exact KG.app
      have S12 : Src h12 k := by rw [d12]; exact S11.app
      have q12 : h12[h11.length]? = some (.lst [t, t, t, t]) := by rw [d12]; simp
      have b12 := g12.1
      have e12 : mulF (.ref h10.length) (.int 4) h11 = .ok (.ref h11.length) h12 := by
        unfold mulF lstOf
        dsimp only
        rw [q11]
        dsimp only
        rw [if_pos (by simp), d12]
        rfl
      obtain ⟨x, e13, E13⟩ := ends_add ((E10.kg g11).kg g12) hk (by omega) q12 (fa1 pt (fa1 pt (fa1 pt (fa1 pt fa0)))) (by simp)
      refine ⟨x, _, es_ifT (ev_val (ev_bin ev_con (ev_var rfl) (in_tupD.trans (by rw [decide_eq_true c])))) (es_set' (ev_bin (ev_var rfl) (ev_bin (ev_on (ev_cons (x := t) (h1 := h10) ?_ ev_nil) (new1 d11)) ev_con e12) e13) rfl), E13, S12.app, (g11.trans g12).trans KG.app⟩
      rw [dt]
      exact tup3 tup0 (tup2 (tup2 ev_con ev_con) (tup2 ev_con ev_con)) (tup1 (tup2 ev_con ev_con))
    · refine ⟨.ref h9.length, h10, es_ifF (ev_val (ev_bin ev_con (ev_var rfl) (in_tupD.trans (by rw [decide_eq_false c])))) es_pass, ?_, S10, KG.refl⟩
      obtain ⟨n, es, a1, a2, a3, a4, a5, a6, a7⟩ := E10
      exact ⟨n, es, a1, a2, a3, a4, a5, by omega, a7⟩
  obtain ⟨x, h11, e11, E11, S11, g11⟩ := B
  have b11 := g11.1
  have C : ∃ x' h12, ifS (valT (bin inF (conE (.str "beside")) (varE 2))) (setS 5 (bin addF (varE 5) (onA lstF (consA (onA tupF (consA (onA tupF (nilA)) (consA (onA tupF (consA (onA tupF (consA (conE (.str "beside")) (consA (conE (.str "here")) (nilA)))) (consA (onA tupF (consA (conE (.str "here")) (consA (conE (.str "new")) (nilA)))) (nilA)))) (nilA)))) (consA (onA tupF (consA (onA tupF (nilA)) (consA (onA tupF (consA (onA tupF (consA (conE (.str "beside")) (consA (conE (.str "new")) (nilA)))) (nilA))) (nilA)))) (nilA)))))) (passS) [some (.ref k), some (.ref h.length), some (.tup (l.map .str)), some (.ref n), t', some x, none, y'] h11 = .nx [some (.ref k), some (.ref h.length), some (.tup (l.map .str)), some (.ref n), t', some x', none, y'] h12 ∧ EndsL h12 x' k h.length l 8 ∧ Src h12 k ∧ KG k h11 h12 := by
    by_cases c : ("beside" : Str) ∈ l
    · obtain ⟨t, dt⟩ : ∃ t, t = D.tup [.tup [], .tup [.tup [.str "beside", .str "here"], .tup [.str "here", .str "new"]]] := ⟨_, rfl⟩
      obtain ⟨u, du⟩ : ∃ t, t = D.tup [.tup [], .tup [.tup [.str "beside", .str "new"]]] := ⟨_, rfl⟩
      have pt : LineD l true t := by rw [dt]; exact mkL1 (by simp) (fun _ => rfl) fa0 (mkSs (by simp) (fa1 (mkS (.inr c) sh) (fa1 (mkS th sn) fa0)))
      have pu : LineD l true u := by rw [du]; exact mkL1 (by simp) (fun _ => rfl) fa0 (mkSs (by simp) (fa1 (mkS (.inr c) sn) fa0))
      obtain ⟨h12, d12⟩ : ∃ x, x = h11 ++ [O.lst [t, u]] := ⟨_, rfl⟩
      have g12 : KG k h11 h12 := by rw [d12]; exact KG.app
      have S12 : Src h12 k := by rw [d12]; exact S11.app
      have q12 : h12[h11.length]? = some (.lst [t, u]) := by rw [d12]; simp
      have b12 := g12.1
      have e12 : lstF [t, u] h11 = .ok (.ref h11.length) h12 := by rw [d12]; exact lst_new (by simp)
      obtain ⟨x', e13, E13⟩ := ends_add (E11.kg g12) hk (by omega) q12 (fa1 pt (fa1 pu fa0)) (by simp)
      refine ⟨x', _, es_ifT (ev_val (ev_bin ev_con (ev_var rfl) (in_tupD.trans (by rw [decide_eq_true c])))) (es_set' (ev_bin (ev_var rfl) (ev_on (ev_cons (x := t) (h1 := h11) ?_ (ev_cons (x := u) (h1 := h11) ?_ ev_nil)) e12) e13) rfl), E13, S12.app, g12.trans KG.app⟩
      · rw [dt]
        exact tup2 tup0 (tup2 (tup2 ev_con ev_con) (tup2 ev_con ev_con))
      · rw [du]
        exact tup2 tup0 (tup1 (tup2 ev_con ev_con))
    · refine ⟨x, h11, es_ifF (ev_val (ev_bin ev_con (ev_var rfl) (in_tupD.trans (by rw [decide_eq_false c])))) es_pass, ?_, S11, KG.refl⟩
      obtain ⟨n, es, a1, a2, a3, a4, a5, a6, a7⟩ := E11
      exact ⟨n, es, a1, a2, a3, a4, a5, by omega, a7⟩
  obtain ⟨x', h12, e12, E12, S12, g12⟩ := C
  -- word
  obtain ⟨dw, h13, e13, W13, S13, g13⟩ := StrL.new (L := ["was", "was", "was", "last", "mark", "mine", "own", "take"]) (by simp) S12
  obtain ⟨w, h14, e14, mw, S14, g14⟩ := W13.pick (by simp) (by simp) S13
  obtain ⟨en, es, rfl, nk, nb, qe, e0, e1', pe⟩ := (E12.kg g13).kg g14
  obtain ⟨L, h15, e15, mL, S15, g15, _⟩ := pick2 S14 nk qe e0 (by omega)
  have PL := pe L mL
  obtain ⟨h16, d16⟩ : ∃ x, x = h15 ++ [O.lst [L]] := ⟨_, rfl⟩
  have g16 : KG k h15 h16 := by rw [d16]; exact KG.app
  have S16 : Src h16 k := by rw [d16]; exact S15.app
  have q16 : h16[h15.length]? = some (.lst [L]) := by rw [d16]; simp
  have kk := ((((((g9.trans g10).trans g11).trans g12).trans g13).trans g14).trans g15).trans g16
  have qn := kk.2 _ _ (by omega) q8
  have e17 := addL qn q16 (by simp; omega)
  have b16 := (G8.trans kk).1
  have LD : LinesD l (ls ++ [L]) := LinesD.snoc (by omega) p8 PL
  obtain ⟨h18, e18, g18⟩ := noted (h := h16 ++ [.lst (ls ++ [L])]) (w := w) (l := l) (n := h16.length) (ls := ls ++ [L]) List.getElem?_concat_length (fun d hd => (LD.2.2.1 d hd).pl) (by omega) (by simp; omega)
  have RO := bases_ok l lb w mw
  have S18 : Src h18 k := by
    obtain ⟨r, m, e, q⟩ := S16.app (t := [O.lst (ls ++ [L])])
    exact ⟨r, m, g18.2 _ _ e, q⟩
  refine ⟨l.map (subS w), (ls ++ [L]).map (subL w), h18, ?_, RO.1, RO.2, LD.sub, S18, (((G8.trans kk).trans KG.app).trans g18.kg)⟩
  refine ef_rt rfl ?_
  unfold b_law_plan
  have t0 : ∀ {e : Env} {h : MH}, onA tupF nilA e h = .ok (.tup (([] : List Str).map .str)) h := tup0
  refine es_seq (es_set' (ev_on (ev_cons tup0 (ev_cons (tup1 ev_con) (ev_cons (tup1 ev_con) (ev_cons (tup1 ev_con) (ev_cons (tup2 ev_con ev_con) (ev_cons (tup2 ev_con ev_con) (ev_cons (tup2 ev_con ev_con) (ev_cons (tup2 ev_con ev_con) ev_nil)))))))) (by rw [dL1] at e1; exact e1)) rfl) ?_
  refine es_seq (es_set' (ev_on (ev_cons (ev_var rfl) (ev_cons (ev_bin (ev_var rfl) (ev_on (ev_cons (tup2 ev_con ev_con) (ev_cons (tup3 ev_con ev_con ev_con) (ev_cons (tup3 ev_con ev_con ev_con) ev_nil))) (by rw [dL2] at e2; exact e2)) e3) ev_nil)) e4) rfl) ?_
  refine es_seq (es_set' (ev_on ev_nil (new0 d5)) rfl) ?_
  refine es_seq e6 ?_
  refine es_seq (es_for (ei_rng (ev_cons (ev_on (ev_cons (ev_var rfl) (ev_cons ev_con ev_nil)) e7) ev_nil) (by omega)) e8) ?_
  refine es_seq (es_set' (ev_on (ev_cons (ev_on (ev_cons tup0 (ev_cons (ev_on (ev_cons (ev_var rfl) (ev_cons (ev_var rfl) (ev_cons ev_con ev_nil))) e9) ev_nil)) (tup_new (by decide : 2 ≤ 1000000))) (ev_cons (tup2 tup0 (tup1 (tup2 ev_con ev_con))) ev_nil)) e10) rfl) ?_
  refine es_seq e11 ?_
  refine es_seq e12 ?_
  refine es_seq (es_set' (ev_on (ev_cons (ev_var rfl) (ev_cons (ev_on (ev_cons ev_con (ev_cons ev_con (ev_cons ev_con (ev_cons ev_con (ev_cons ev_con (ev_cons ev_con (ev_cons ev_con (ev_cons ev_con ev_nil)))))))) e13) ev_nil)) e14) rfl) ?_
  exact es_ret (ev_on (ev_cons (ev_var rfl) (ev_cons (ev_var rfl) (ev_cons (ev_bin (ev_var rfl) (ev_on (ev_cons (ev_on (ev_cons (ev_var rfl) (ev_cons (ev_var rfl) ev_nil)) e15) ev_nil) (new1 d16)) e17) ev_nil))) e18)
end ML

namespace ML
open PySem PySem.Spec PyProof.Rows L2
/-! == of plain tuples; == of rules -/
def ScD (d : D) : Prop := (∃ s, d = .str s) ∨ ∃ b, d = .bl b
def PDn : Nat → D → Prop
  | 0, d => ScD d
  | n + 1, d => ScD d ∨ ∃ l, d = .tup l ∧ ∀ x ∈ l, PDn n x
theorem PDn.sc {d : D} (p : ScD d) : ∀ n, PDn n d
  | 0 => p
  | _ + 1 => .inl p
theorem PDn.up : ∀ {n : Nat} {d : D}, PDn n d → PDn (n + 1) d
  | 0, d, p => .inl p
  | n + 1, d, p => by
    rcases p with p | ⟨l, e, p⟩
    · exact .inl p
    · exact .inr ⟨l, e, fun x hx => (p x hx).up⟩
theorem PDn.le {n m : Nat} {d : D} (p : PDn n d) (h : n ≤ m) : PDn m d := by
  induction h with
  | refl => exact p
  | step _ ih => exact ih.up
theorem ScD.scal {d : D} (p : ScD d) : isScal d = true := by
  rcases p with ⟨s, rfl⟩ | ⟨b, rfl⟩ <;> rfl
theorem ScD.same {x y : D} (p : ScD x) (q : ScD y) : scalEq x y = D.same x y := by
  rcases p with ⟨s, rfl⟩ | ⟨b, rfl⟩
  · rcases q with ⟨t, rfl⟩ | ⟨c, rfl⟩
    · rw [scal_str]
      unfold D.same
      rfl
    · rfl
  · rcases q with ⟨t, rfl⟩ | ⟨c, rfl⟩
    · rfl
    · unfold scalEq D.same
      rfl
theorem ScD.noref {d y : D} (p : ScD d) : idRef d y = false := by
  rcases p with ⟨s, rfl⟩ | ⟨b, rfl⟩ <;> rfl
theorem ScD.tup {d : D} {l : List D} (p : ScD d) : D.same d (.tup l) = false ∧ D.same (.tup l) d = false := by
  rcases p with ⟨s, rfl⟩ | ⟨b, rfl⟩ <;> exact ⟨rfl, rfl⟩
theorem eqZ_sames {f : D → D → Option Bool} : ∀ (l k : List D), (∀ x ∈ l, ∀ y ∈ k, f x y = some (D.same x y)) → ∃ b, eqZ f l k = some b ∧ (b && (l.length == k.length)) = D.sames l k
  | [], [], _ => ⟨true, rfl, rfl⟩
  | [], y :: k, _ => ⟨true, rfl, rfl⟩
  | x :: l, [], _ => ⟨true, rfl, rfl⟩
  | x :: l, y :: k, h => by
    obtain ⟨b, e1, e2⟩ := eqZ_sames l k fun a ha c hc => h a (List.mem_cons_of_mem _ ha) c (List.mem_cons_of_mem _ hc)
    refine ⟨D.same x y && b, ?_, ?_⟩
    · unfold eqZ
      rw [h x List.mem_cons_self y List.mem_cons_self]
      dsimp only
      rw [e1]
    · have : D.sames (x :: l) (y :: k) = (D.same x y && D.sames l k) := by rw [D.sames]
      rw [this, ← e2]
      simp [Bool.and_assoc]
theorem eqTop_pd {h : MH} {f : D → D → Option Bool} {n : Nat} {x y : D} (px : PDn n x) (py : PDn n y) (hf : ∀ m a b, n = m + 1 → PDn m a → PDn m b → f a b = some (D.same a b)) : eqTop h f x y = some (D.same x y) := by
  have base : ∀ {x y : D}, ScD x → ScD y → eqTop h f x y = some (D.same x y) := fun {x y} p q => by
    unfold eqTop
    rw [p.scal, q.scal]
    dsimp only
    rw [p.same q]
  cases n with
  | zero => exact base px py
  | succ n =>
    rcases px with px | ⟨l, rfl, px⟩
    · rcases py with py | ⟨k, rfl, py⟩
      · exact base px py
      · unfold eqTop
        rw [px.scal]
        rw [px.tup.1]
        rfl
    · rcases py with py | ⟨k, rfl, py⟩
      · unfold eqTop
        rw [py.scal]
        rw [py.tup.2]
        rfl
      · obtain ⟨b, e1, e2⟩ := eqZ_sames (f := f) l k fun a ha c hc => hf n a c rfl (px a ha) (py c hc)
        have : D.same (.tup l) (.tup k) = D.sames l k := by rw [D.same]
        rw [this, ← e2]
        unfold eqTop isScal seqOf
        dsimp only
        rw [if_pos rfl]
        unfold eqSeq
        rw [if_neg (by simp), e1]
theorem PDn.noref {n : Nat} {d y : D} (p : PDn n d) : idRef d y = false := by
  cases n with
  | zero => exact ScD.noref p
  | succ n =>
    rcases p with p | ⟨l, rfl, _⟩
    · exact p.noref
    · rfl
theorem eqv_pd {h : MH} : ∀ (n m : Nat) (x y : D), PDn n x → PDn n y → n < m → eqv h m x y = some (D.same x y)
  | n, 0, x, y, _, _, hm => absurd hm (by omega)
  | n, m + 1, x, y, px, py, hm => by
    unfold eqv
    rw [px.noref]
    rw [if_neg (by simp)]
    exact eqTop_pd px py fun k a b e pa pb => eqv_pd k m a b pa pb (by omega)
theorem eqF_pd {h : MH} {n : Nat} {x y : D} (px : PDn n x) (py : PDn n y) (hn : n ≤ 11) : eqF x y h = .ok (.bl (D.same x y)) h := by
  unfold eqF eqT
  rw [eqTop_pd px py fun k a b e pa pb => eqv_pd k deep a b pa pb (by unfold deep; omega)]
theorem neF_pd {h : MH} {n : Nat} {x y : D} (px : PDn n x) (py : PDn n y) (hn : n ≤ 11) : neF x y h = .ok (.bl (!D.same x y)) h := by
  unfold neF eqT
  rw [eqTop_pd px py fun k a b e pa pb => eqv_pd k deep a b pa pb (by unfold deep; omega)]
theorem same_dec {x y : D} : D.same x y = true ↔ x = y := ⟨same_eq, fun e => e ▸ same_refl x⟩
theorem same_ne {x y : D} (h : x ≠ y) : D.same x y = false := by
  cases c : D.same x y with
  | false => rfl
  | true => exact absurd (same_eq c) h
theorem EntD.pd {d : D} (p : EntD d) : PDn 1 d := by
  obtain ⟨xs, rfl, _, p⟩ := p
  exact .inr ⟨xs, rfl, fun x hx => p x hx⟩
theorem PartD.pd {d : D} (p : PartD d) : PDn 2 d := by
  obtain ⟨xs, rfl, _, p⟩ := p
  exact .inr ⟨xs, rfl, fun x hx => (p x hx).pd⟩
theorem PlD.pd {d : D} (p : PlD d) : PDn 3 d := by
  obtain ⟨xs, rfl, _, p⟩ := p
  exact .inr ⟨xs, rfl, fun x hx => (p x hx).pd⟩
theorem LinesD.pd {l : List Str} {ls : List D} (p : LinesD l ls) : PDn 4 (.tup ls) := .inr ⟨ls, rfl, fun x hx => (p.2.2.1 x hx).pl.pd⟩
theorem names_pd {l : List Str} : PDn 1 (.tup (l.map .str)) := .inr ⟨_, rfl, fun x hx => by
  obtain ⟨s, _, e⟩ := List.mem_map.mp hx
  exact .inl ⟨s, e.symm⟩⟩
def planD (l : List Str) (ls : List D) : D := .tup [.tup (l.map .str), .tup ls]
theorem plan_pd {l : List Str} {ls : List D} (p : LinesD l ls) : PDn 5 (planD l ls) := .inr ⟨_, rfl, fa1 (names_pd.le (by decide)) (fa1 p.pd fa0)⟩
theorem plan_same {l l' : List Str} {ls ls' : List D} : D.same (planD l ls) (planD l' ls') = (D.same (.tup (l.map .str)) (.tup (l'.map .str)) && D.same (.tup ls) (.tup ls')) := by
  unfold planD
  rw [D.same, D.sames, D.sames, D.sames]
  simp
/-! rules -/
theorem law_rule {h : MH} {l : List Str} {ls : List D} (g : RegsOk l) (L : LinesD l ls) : ∃ s h', m_law_rule [planD l ls] h = .ok (.ref s) h' ∧ RuleD h' (.ref s) l ls ∧ h.length ≤ s ∧ GA h h' := by
  obtain ⟨h1, d1⟩ : ∃ x, x = h ++ [O.lst (l.map .str)] := ⟨_, rfl⟩
  obtain ⟨h2, d2⟩ : ∃ x, x = h1 ++ [O.lst ls] := ⟨_, rfl⟩
  have g1 : GA h h1 := by rw [d1]; exact GA.app
  have g2 : GA h1 h2 := by rw [d2]; exact GA.app
  have r1 : h1[h.length]? = some (.lst (l.map .str)) := by rw [d1]; simp
  have q2 : h2[h1.length]? = some (.lst ls) := by rw [d2]; simp
  obtain ⟨h3, e3, R3, g3⟩ := make_ok (.inr ⟨_, rfl, g2.2 _ _ r1⟩) (.inr ⟨_, rfl, q2⟩) g L
  refine ⟨_, h3, ?_, R3, by have := g1.1; have := g2.1; omega, (g1.trans g2).trans g3⟩
  refine ef_rt rfl ?_
  unfold b_law_rule planD
  have l1 : listF [.tup (l.map .str)] h = .ok (.ref h.length) h1 := by rw [d1]; rfl
  have l2 : listF [.tup ls] h1 = .ok (.ref h1.length) h2 := by rw [d2]; rfl
  exact es_ret (ev_on (ev_cons (ev_on (ev_cons (ev_bin (ev_var rfl) ev_con (ix_tup (d := .tup (l.map .str)) (by decide) rfl)) ev_nil) l1) (ev_cons (ev_on (ev_cons (ev_bin (ev_var rfl) ev_con (ix_tup (d := .tup ls) (by decide) rfl)) ev_nil) l2) ev_nil)) e3)
theorem RuleD.ga {h h' : MH} {d : D} {l : List Str} {ls : List D} (p : RuleD h d l ls) (g : GA h h') : RuleD h' d l ls := by
  obtain ⟨s, e, q⟩ := p
  exact ⟨s, e, g.2 _ _ q⟩
theorem RuleD.ins {h : MH} {d : D} {l : List Str} {ls : List D} (p : RuleD h d l ls) : insOf h d = some (Str.ofString "Rule") := by
  obtain ⟨s, rfl, q⟩ := p
  unfold insOf
  dsimp only
  rw [q]
theorem RuleD.ty {h : MH} {d : D} {l : List Str} {ls : List D} (p : RuleD h d l ls) : tyD h d = none := by
  obtain ⟨s, rfl, q⟩ := p
  unfold tyD
  dsimp only
  rw [q]
theorem ins_is {h : MH} {d : D} {c c' : Str} (ht : tyD h d = none) (hc : insOf h d = some c) : isxF noKinds (tabOf ["Rule", "File"] fun n => decide (n = c')) [] d h = (match (tabOf ["Rule", "File"] fun n => decide (n = c')).lookup c with | some r => R.ok (D.bl r) h | none => .bad) := by
  unfold isxF
  rw [ht]
  dsimp only
  cases d <;> first | (cases hc; done) | skip
  rename_i n
  dsimp only
  unfold insOf at hc
  dsimp only at hc
  split at hc
  · rename_i c2 fs hn
    cases hc
    rw [hn] <;> rfl
  · cases hc
theorem ty_is {h : MH} {d : D} {T : String} {c' : Str} (ht : tyD h d = some T) (hT : T ∈ kinds) : isxF noKinds (tabOf ["Rule", "File"] fun n => decide (n = c')) [] d h = .ok (.bl false) h := by
  unfold isxF
  rw [ht]
  dsimp only
  have : ∀ T ∈ kinds, noKinds.lookup T = some false := by decide
  rw [this T hT]
theorem fld_own {h : MH} {d : D} {l : List Str} {ls : List D} (p : RuleD h d l ls) : fldF ["Rule"] [] "own_names" d h = .ok (.tup (l.map .str)) h ∧ fldF ["Rule"] [] "rows" d h = .ok (.tup ls) h := by
  obtain ⟨s, rfl, q⟩ := p
  unfold fldF
  dsimp only
  rw [q]
  exact ⟨rfl, rfl⟩
theorem rule_eq {h : MH} {x y : D} {l l' : List Str} {ls ls' : List D} (p : RuleD h x l ls) (q : RuleD h y l' ls') (L : LinesD l ls) (L' : LinesD l' ls') : m_Rule_eq [x, y] h = .ok (.bl (D.same (planD l ls) (planD l' ls'))) h := by
  have i1 := (ins_is (c' := "Rule") q.ty q.ins)
  have i2 : isxF noKinds (tabOf ["Rule", "File"] fun n => decide (n = "Rule")) [] y h = .ok (.bl true) h := i1
  have o := eqF_pd (h := h) (names_pd (l := l)) (names_pd (l := l')) (by decide)
  have r := eqF_pd (h := h) L.pd L'.pd (by decide)
  refine ef_rt rfl ?_
  unfold b_Rule_eq
  rw [plan_same]
  refine es_ret (ev_andE (ev_un (ev_var rfl) i2) ?_)
  cases c : D.same (.tup (l.map .str)) (.tup (l'.map .str)) with
  | true =>
    rw [c] at o
    exact ev_andE (ev_bin (ev_un (ev_var rfl) (fld_own p).1) (ev_un (ev_var rfl) (fld_own q).1) o) (ev_bin (ev_un (ev_var rfl) (fld_own p).2) (ev_un (ev_var rfl) (fld_own q).2) (by rw [Bool.true_and]; exact r))
  | false =>
    rw [c] at o
    exact ev_andEF (ev_bin (ev_un (ev_var rfl) (fld_own p).1) (ev_un (ev_var rfl) (fld_own q).1) o)
/-- y is of a built-in kind -/
def KindD (h : MH) (y : D) : Prop := ∃ T, tyD h y = some T ∧ T ∈ kinds
theorem rule_eq_kind {h : MH} {x y : D} (q : KindD h y) : m_Rule_eq [x, y] h = .ok (.bl false) h := by
  obtain ⟨T, t1, t2⟩ := q
  refine ef_rt rfl ?_
  unfold b_Rule_eq
  exact es_ret (ev_andEF (ev_un (ev_var rfl) (ty_is t1 t2)))
/-- a file -/
def FileD (h : MH) (y : D) : Prop := tyD h y = none ∧ insOf h y = some (Str.ofString "File")
theorem rule_eq_file {h : MH} {x y : D} (q : FileD h y) : m_Rule_eq [x, y] h = .ok (.bl false) h := by
  have i2 : isxF noKinds (tabOf ["Rule", "File"] fun n => decide (n = "Rule")) [] y h = .ok (.bl false) h := ins_is q.1 q.2
  refine ef_rt rfl ?_
  unfold b_Rule_eq
  exact es_ret (ev_andEF (ev_un (ev_var rfl) i2))
theorem file_eq_rule {h : MH} {x y : D} {l : List Str} {ls : List D} (p : RuleD h y l ls) : m_File_eq [x, y] h = .ok (.bl false) h := by
  have i2 : isxF noKinds (tabOf ["Rule", "File"] fun n => decide (n = "File")) [] y h = .ok (.bl false) h := ins_is p.ty p.ins
  refine ef_rt rfl ?_
  unfold b_File_eq
  exact es_seqR (es_ifT (ev_orT (ev_not (v := false) (ev_val (ev_un (ev_var rfl) i2)))) (es_ret ev_con))
/-! the law's == and != -/
theorem RuleD.oth {h : MH} {d : D} {l : List Str} {ls : List D} (p : RuleD h d l ls) : othOk ["Rule", "File"] h d = true := by
  unfold othOk
  rw [p.ins]
  simp
theorem KindD.oth {h : MH} {d : D} {cs : List Str} (p : KindD h d) : othOk cs h d = true := by
  obtain ⟨T, t, _⟩ := p
  unfold othOk
  rw [t]
  rfl
theorem FileD.oth {h : MH} {d : D} (p : FileD h d) : othOk ["Rule", "File"] h d = true := by
  unfold othOk
  rw [p.2]
  simp
theorem KindD.ins {h : MH} {d : D} (p : KindD h d) : insOf h d = none := by
  obtain ⟨T, t, _⟩ := p
  cases d <;> first | rfl | skip
  rename_i n
  unfold tyD at t
  unfold insOf
  dsimp only at t ⊢
  split at t
  · rename_i q; rw [q]
  · rename_i q; rw [q]
  · rename_i q; rw [q]
  · cases t
theorem eqX_rule {h : MH} {x y : D} {l : List Str} {ls : List D} {b : Bool} (p : RuleD h x l ls) (ho : othOk ["Rule", "File"] h y = true) (e : m_Rule_eq [x, y] h = .ok (.bl b) h) : eqX_law x y h = .ok (.bl b) h ∧ neX_law x y h = .ok (.bl (!b)) h := by
  unfold eqX_law neX_law eqIF
  rw [if_pos p.ins, if_pos ho, if_pos p.ins, if_pos ho, e]
  exact ⟨rfl, rfl⟩
theorem eqX_kind {h : MH} {x y : D} {l : List Str} {ls : List D} {b : Bool} (p : KindD h x) (q : RuleD h y l ls) (e : m_Rule_eq [y, x] h = .ok (.bl b) h) : eqX_law x y h = .ok (.bl b) h := by
  unfold eqX_law eqIF eqBF
  obtain ⟨T, t, _⟩ := id p
  rw [if_neg (by rw [p.ins]; simp), if_neg (by rw [p.ins]; simp), if_pos ⟨q.ins, by rw [t]; rfl⟩, e]
  rfl
theorem eqX_file {h : MH} {x y : D} {l : List Str} {ls : List D} {b : Bool} (p : FileD h x) (q : RuleD h y l ls) (e : m_File_eq [x, y] h = .ok (.bl b) h) : eqX_law x y h = .ok (.bl b) h := by
  unfold eqX_law eqIF
  rw [if_neg (by rw [p.2]; decide), if_pos p.2, if_pos q.oth, e]
  rfl
theorem eqX_plain {h : MH} {x y : D} (p : insOf h x = none) (q : insOf h y = none) : eqX_law x y h = eqF x y h ∧ neX_law x y h = neF x y h := by
  unfold eqX_law neX_law eqIF eqBF
  rw [p, q]
  exact ⟨rfl, rfl⟩
end ML

namespace ML
open PySem PySem.Spec PyProof.Rows L2
/-! a rule with one thing changed -/
theorem LineD.memb {l l' : List Str} {b : Bool} {d : D} (p : LineD l b d) (h : ∀ s ∈ l, s ∈ l') : LineD l' b d := by
  obtain ⟨ts, st, e, t4, n, pt, hl, ps⟩ := p
  refine ⟨ts, st, e, t4, n, fun t ht => ?_, hl, fun s hs => ?_⟩
  · obtain ⟨a, b, v, e, p1, p2⟩ := pt t ht
    exact ⟨a, b, v, e, p1.imp id fun z => z.imp id (h a), p2.imp id fun z => z.imp id fun z => z.imp id (h b)⟩
  · obtain ⟨ss, e, h4, p4⟩ := ps s hs
    refine ⟨ss, e, h4, fun x hx => ?_⟩
    obtain ⟨a, b, e, p1, p2⟩ := p4 x hx
    exact ⟨a, b, e, p1.imp id (h a), p2.imp id fun z => z.imp id fun z => z.imp id (h b)⟩
theorem LinesD.memb {l l' : List Str} {ls : List D} (p : LinesD l ls) (h : ∀ s ∈ l, s ∈ l') : LinesD l' ls := ⟨p.1, p.2.1, fun d hd => (p.2.2.1 d hd).memb h, fun d hd => (p.2.2.2 d hd).memb h⟩
theorem cut_toT {l : List D} {i : Nat} {h : MH} (hi : i ≤ l.length) : slF (.tup l) none (some (i : Int)) h = .ok (.tup (l.take i)) h := by unfold slF; dsimp only; rw [cut_to hi]
theorem cut_fromT {l : List D} {i : Nat} {h : MH} (hi : i ≤ l.length) : slF (.tup l) (some (i : Int)) none h = .ok (.tup (l.drop i)) h := by unfold slF; dsimp only; rw [cut_from hi]
/-- what _law_changed answers -/
def ChD (d : D) (l : List Str) (ls : List D) : Prop := d = .non ∨ ∃ l' ls', d = planD l' ls' ∧ RegsOk l' ∧ LinesD l' ls' ∧ D.same (planD l ls) (planD l' ls') = false
theorem strmap_inj : ∀ {a b : List Str}, a.map D.str = b.map D.str → a = b
  | [], [], _ => rfl
  | [], _ :: _, h => by cases h
  | _ :: _, [], h => by cases h
  | x :: a, y :: b, h => by
    rw [List.map_cons, List.map_cons] at h
    injection h with h1 h2
    injection h1 with h1
    rw [h1, strmap_inj h2]
theorem ch_names {l l' : List Str} {ls : List D} (h : l ≠ l') (g : RegsOk l') (L : LinesD l' ls) : ChD (planD l' ls) l ls := .inr ⟨l', ls, rfl, g, L, same_ne fun e => h (by
  unfold planD at e
  injection e with e
  injection e with e1 e2
  injection e1 with e1
  exact strmap_inj e1)⟩
theorem ch_lines {l : List Str} {ls ls' : List D} (h : ls ≠ ls') (g : RegsOk l) (L : LinesD l ls') : ChD (planD l ls') l ls := .inr ⟨l, ls', rfl, g, L, same_ne fun e => h (by
  unfold planD at e
  injection e with e
  injection e with e1 e2
  injection e2 with e2 e3
  injection e2 with e2)⟩
theorem rev_ne {l : List Str} (nd : l.Nodup) (h : 1 < l.length) : l ≠ l.reverse := fun e => by
  match l, h, nd, e with
  | x :: y :: r, _, nd, e =>
    have h1 : (x :: y :: r).reverse.head? = (x :: y :: r).getLast? := List.head?_reverse
    rw [← e] at h1
    have h2 : (x :: y :: r).getLast? = (y :: r).getLast? := List.getLast?_cons_cons
    rw [h2] at h1
    have h3 : (y :: r).getLast? = some x := h1.symm
    have : x ∈ y :: r := List.mem_of_getLast? h3
    exact (List.nodup_cons.mp nd).1 this
theorem changed {h : MH} {k : Nat} {l : List Str} {ls : List D} (S : Src h k) (g : RegsOk l) (hm : ∀ z ∈ l, z ≠ "more") (L : LinesD l ls) : ∃ d h', m_law_changed [.ref k, planD l ls] h = .ok d h' ∧ ChD d l ls ∧ Src h' k ∧ KG k h h' := by
  have L1 := L.1
  have L8 := L.2.1
  obtain ⟨kind, h1, e1, kd0, kd1, S1, g1, _⟩ := draw2 (span := 10) S (by decide) (by decide)
  obtain ⟨at_, h2, e2, at0, at1, S2, g2, _⟩ := draw2 (span := (ls.length : Int)) S1 (by omega) (by omega)
  obtain ⟨a, rfl⟩ : ∃ a : Nat, at_ = (a : Int) := ⟨at_.toNat, by omega⟩
  have ha : a < ls.length := by omega
  obtain ⟨A, dA⟩ : ∃ x, x = ls.take a := ⟨_, rfl⟩
  obtain ⟨C, dC⟩ : ∃ x, x = ls.drop (a + 1) := ⟨_, rfl⟩
  obtain ⟨M, dM⟩ : ∃ x, x = ls[a] := ⟨_, rfl⟩
  have split : ls = A ++ M :: C := by rw [dA, dM, dC, List.getElem_cons_drop, List.take_append_drop]
  have la : A.length = a := by rw [dA, List.length_take]; omega
  have len : A.length + 1 + C.length = ls.length := by rw [split]; simp; omega
  have LS : LinesD l (A ++ M :: C) := split ▸ L
  have LM : LineD l (decide (C = [])) M := LS.at
  obtain ⟨ts, st, dMs, t4, tn, ht, s12, hs⟩ := id LM
  obtain ⟨ss, st', ds1, ds2, ss4, hss, hst⟩ : ∃ ss st', st = .tup ss :: st' ∧ st'.length ≤ 1 ∧ ss.length ≤ 4 ∧ (∀ d ∈ ss, StepD l d) ∧ ∀ s ∈ st', StepsD l s := by
    cases st with
    | nil => rcases s12 with z | z <;> cases z
    | cons s st' =>
      obtain ⟨ss, rfl, a1, a2⟩ := hs s (by simp)
      exact ⟨ss, st', rfl, by simp only [List.length_cons] at s12; omega, a1, a2, fun s z => hs s (by simp [z])⟩
  subst ds1
  obtain ⟨e, de⟩ : ∃ e : Option D → Option D → Env, e = fun x3 x8 => [some (.ref k), some (planD l ls), some M, x3, some (.tup (l.map .str)), some (.tup ls), some (.int kind), some (.int (a : Int)), x8] := ⟨_, rfl⟩
  have v2 : ∀ {x3 x8 h}, varE 2 (e x3 x8) h = .ok M h := fun {x3 x8 h} => by rw [de]; rfl
  have v4 : ∀ {x3 x8 h}, varE 4 (e x3 x8) h = .ok (.tup (l.map .str)) h := fun {x3 x8 h} => by rw [de]; rfl
  have v5 : ∀ {x3 x8 h}, varE 5 (e x3 x8) h = .ok (.tup ls) h := fun {x3 x8 h} => by rw [de]; rfl
  have v6 : ∀ {x3 x8 h}, varE 6 (e x3 x8) h = .ok (.int kind) h := fun {x3 x8 h} => by rw [de]; rfl
  have v7 : ∀ {x3 x8 h}, varE 7 (e x3 x8) h = .ok (.int (a : Int)) h := fun {x3 x8 h} => by rw [de]; rfl
  have v3 : ∀ {y x8 h}, varE 3 (e (some y) x8) h = .ok y h := fun {y x8 h} => by rw [de]; rfl
  have v8 : ∀ {x3 y h}, varE 8 (e x3 (some y)) h = .ok y h := fun {x3 y h} => by rw [de]; rfl
  have s3 : ∀ {x3 x8 y}, (e x3 x8).set 3 (some y) = e (some y) x8 := fun {x3 x8 y} => by rw [de]; rfl
  have s8 : ∀ {x3 x8 y}, (e x3 x8).set 8 (some y) = e x3 (some y) := fun {x3 x8 y} => by rw [de]; rfl
  have no : ∀ {c : Int} {m : SM} {x3 x8 h}, kind ≠ c → ifS (valT (bin eqF (varE 6) (conE (.int c)))) m passS (e x3 x8) h = .nx (e x3 x8) h := fun z => es_ifF (ev_val (ev_bin v6 ev_con (eq_iF z))) es_pass
  have no2 : ∀ {c : Int} {t : TM} {m : SM} {x3 x8 h}, kind ≠ c → ifS (andT (valT (bin eqF (varE 6) (conE (.int c)))) t) m passS (e x3 x8) h = .nx (e x3 x8) h := fun z => es_ifF (ev_andF (ev_val (ev_bin v6 ev_con (eq_iF z)))) es_pass
  have yes : ∀ {c : Int} {x3 x8 h}, kind = c → valT (bin eqF (varE 6) (conE (.int c))) (e x3 x8) h = .ok true h := fun z => ev_val (ev_bin v6 ev_con (by rw [z]; exact eq_iT))
  -- pieces
  have i0 : ∀ {x3 x8 h}, bin ixF (varE 2) (conE (.int 0)) (e x3 x8) h = .ok (.tup ts) h := fun {x3 x8 h} => ev_bin v2 ev_con (by rw [dMs]; exact ix_tup (by decide) rfl)
  have i1 : ∀ {x3 x8 h}, bin ixF (varE 2) (conE (.int 1)) (e x3 x8) h = .ok (.tup ss) h := fun {x3 x8 h} => ev_bin v2 ev_con (by rw [dMs]; exact ix_tup (by decide) rfl)
  have f1 : ∀ {x3 x8 h}, slE (varE 2) (someO (conE (.int 1))) (noO) (e x3 x8) h = .ok (.tup (.tup ss :: st')) h := fun {x3 x8 h} => ev_sl v2 (ev_someO ev_con) ev_noO (by rw [dMs, show (1 : Int) = ((1 : Nat) : Int) by rfl, cut_fromT (by simp)]; rfl)
  have f2 : ∀ {x3 x8 h}, slE (varE 2) (someO (conE (.int 2))) (noO) (e x3 x8) h = .ok (.tup st') h := fun {x3 x8 h} => ev_sl v2 (ev_someO ev_con) ev_noO (by rw [dMs, show (2 : Int) = ((2 : Nat) : Int) by rfl, cut_fromT (by simp)]; rfl)
  have lM : ∀ {x3 x8 h}, onA lenF (consA (varE 2) (nilA)) (e x3 x8) h = .ok (.int ((2 + st'.length : Nat) : Int)) h := fun {x3 x8 h} => ev_on (ev_cons v2 ev_nil) (by rw [dMs, len_tup]; simp; omega)
  have lLs : ∀ {x3 x8 h}, onA lenF (consA (varE 5) (nilA)) (e x3 x8) h = .ok (.int (ls.length : Int)) h := fun {x3 x8 h} => ev_on (ev_cons v5 ev_nil) len_tup
  have lN : ∀ {x3 x8 h}, onA lenF (consA (varE 4) (nilA)) (e x3 x8) h = .ok (.int (l.length : Int)) h := fun {x3 x8 h} => ev_on (ev_cons v4 ev_nil) (by rw [len_tup, List.length_map])
  have front : ∀ {x3 x8 h}, slE (varE 5) (noO) (someO (varE 7)) (e x3 x8) h = .ok (.tup A) h := fun {x3 x8 h} => ev_sl v5 ev_noO (ev_someO v7) (by rw [cut_toT (by omega), dA])
  have rest : ∀ {x3 x8 h}, slE (varE 5) (someO (bin addF (varE 7) (conE (.int 1)))) (noO) (e x3 x8) h = .ok (.tup C) h := fun {x3 x8 h} => ev_sl v5 (ev_someO (ev_bin v7 ev_con add_i)) ev_noO (by rw [show (a : Int) + 1 = ((a + 1 : Nat) : Int) by omega, cut_fromT (by omega), dC])
  -- one line in the place of M
  have one : ∀ {x : EM} {M' : D} {x3 x8}, x (e x3 x8) h2 = .ok M' h2 → onA tupF (consA (varE 4) (consA (bin addF (bin addF (slE (varE 5) (noO) (someO (varE 7))) (onA tupF (consA x (nilA)))) (slE (varE 5) (someO (bin addF (varE 7) (conE (.int 1)))) (noO))) (nilA))) (e x3 x8) h2 = .ok (planD l (A ++ [M'] ++ C)) h2 := fun {x M' x3 x8} p => tup2 v4 (ev_bin (ev_bin front (tup1 p) (add_tup (by simp; omega))) rest (add_tup (by simp; omega)))
  have isM : ∀ {M' : D}, M' ≠ M → (∀ b, LineD l b M → LineD l b M') → ChD (planD l (A ++ [M'] ++ C)) l ls := fun {M'} ne q => by
    refine ch_lines (fun z => ne ?_) g (LS.bend (by simp) (fa1 (q _ LM).up fa0) (fun z d hd => ?_) (by simp; omega))
    · rw [split, List.append_assoc] at z
      have := List.append_cancel_left z
      simp at this
      exact this.symm
    · rw [decide_eq_true z] at LM
      simp at hd
      rw [← hd]
      exact q _ LM
  have GG := g1.trans g2
  have fin : ∀ {d : D} {x3 x8}, seqS (ifS (andT (valT (bin eqF (varE 6) (conE (.int 0)))) (valT (bin gtF (onA lenF (consA (varE 4) (nilA))) (conE (.int 1))))) (retS (onA tupF (consA (revE (varE 4)) (consA (varE 5) (nilA))))) (passS)) x3 (e none none) h2 = .rt d x8 → True := fun _ => trivial
  have start : ∀ {m : SM} {d : D}, m (e none none) h2 = .rt d h2 → b_law_changed = seqS (asgS (gtp [gnm 4, gnm 5]) (varE 1)) (seqS (parS [6, 7] (consA (onA m_law_draw (consA (varE 0) (consA (conE (.int 10)) (nilA)))) (consA (onA m_law_draw (consA (varE 0) (consA (onA lenF (consA (varE 5) (nilA))) (nilA)))) (nilA)))) (seqS (setS 2 (bin ixF (varE 5) (varE 7))) m)) → m_law_changed [.ref k, planD l ls] h = .ok d h2 := fun {m d} p q => by
    refine ef_rt rfl ?_
    rw [q]
    refine es_seq (e1 := [some (.ref k), some (planD l ls), none, none, some (.tup (l.map .str)), some (.tup ls), none, none, none]) (h1 := h) rfl ?_
    refine es_seq (es_par2 (ev_cons (ev_on (ev_cons (ev_var rfl) (ev_cons ev_con ev_nil)) e1) (ev_cons (ev_on (ev_cons (ev_var rfl) (ev_cons (ev_on (ev_cons (ev_var rfl) ev_nil) len_tup) ev_nil)) e2) ev_nil))) ?_
    refine es_seq (es_set' (d := M) (e1 := e none none) (ev_bin (ev_var rfl) (ev_var rfl) (ix_tup (by omega) (by rw [Int.toNat_natCast, List.getElem?_eq_getElem ha, dM]))) (by rw [de]; rfl)) p
  suffices H : ∃ d, ChD d l ls ∧ m_law_changed [.ref k, planD l ls] h = .ok d h2 by
    obtain ⟨d, c, e⟩ := H
    exact ⟨d, h2, e, c, S2, GG⟩
  -- 0
  by_cases k0 : kind = 0 ∧ 1 < l.length
  · obtain ⟨z, hl⟩ := k0
    obtain ⟨g1, g2, g3⟩ := g
    refine ⟨planD l.reverse ls, ch_names (rev_ne g2 hl) ⟨by simpa using g1, List.pairwise_reverse.mpr (g2.imp fun h => Ne.symm h), fun z hz => g3 z (by simpa using hz)⟩ (L.memb fun s hs => by simpa using hs), start ?_ rfl⟩
    refine es_seqR (es_ifT (ev_andT (yes z) (ev_val (ev_bin lN ev_con (gt_i.trans (by rw [decide_eq_true (by omega)]))))) (es_ret ?_))
    refine tup2 ?_ v5
    unfold revE
    rw [v4]
    show R.ok (D.tup (l.map D.str).reverse) h2 = _
    rw [List.map_reverse]
  have n0 : ∀ {m : SM}, ifS (andT (valT (bin eqF (varE 6) (conE (.int 0)))) (valT (bin gtF (onA lenF (consA (varE 4) (nilA))) (conE (.int 1))))) m (passS) (e none none) h2 = .nx (e none none) h2 := fun {m} => by
    by_cases z : kind = 0
    · exact es_ifF (ev_andT (yes z) (ev_val (ev_bin lN ev_con (gt_F (fun w => k0 ⟨z, by omega⟩))))) es_pass
    · exact no2 z
  -- 1
  by_cases k1 : kind = 1
  · by_cases c : ls.length < 8
    · obtain ⟨N, dN⟩ : ∃ x, x = D.tup [.tup [.tup [.str "new", .str "here", .bl true]], .tup []] := ⟨_, rfl⟩
      have pN : LineD l false N := by rw [dN]; exact mkL1 (by simp) (fun z => (nomatch z)) (fa1 (mkT ln sh) fa0) (mkSs (by simp) fa0)
      refine ⟨planD l (N :: ls), ch_lines (fun z => by have := congrArg List.length z; simp at this) g ⟨by simp, by simp; omega, fa1 pN L.2.2.1, fun d hd => L.2.2.2 d (by rw [show N :: ls = [N] ++ ls from rfl, gl (by rw [split]; simp)] at hd; exact hd)⟩, start (es_seq n0 (es_seqR (es_ifT (yes k1) (es_ret (ev_ifT (ev_val (ev_bin lLs ev_con (lt_T (by omega)))) (tup2 v4 (ev_bin (tup1 ?_) v5 (add_tup (by simp; omega))))))))) rfl⟩
      rw [dN]
      exact tup2 (tup1 (tup3 ev_con ev_con ev_con)) tup0
    · exact ⟨.non, .inl rfl, start (es_seq n0 (es_seqR (es_ifT (yes k1) (es_ret (ev_ifF (ev_val (ev_bin lLs ev_con (lt_F (by omega)))) ev_con))))) rfl⟩
  -- 2
  by_cases k2 : kind = 2
  · by_cases c : st' = []
    · refine ⟨_, isM (M' := .tup (.tup ts :: .tup ss :: st' ++ [.tup []])) (fun z => by rw [dMs, c] at z; injection z with z; have := congrArg List.length z; simp at this) (fun b z => ?_), start (es_seq n0 (es_seq (no k1) (es_seqR (es_ifT (yes k2) (es_ret (ev_ifT (ev_val (ev_bin lM ev_con ?_)) (one (ev_bin v2 (tup1 tup0) (by rw [dMs]; exact add_tup (by simp; omega))))))))) ) rfl⟩
      · obtain ⟨ts', st2, z1, z2, z3, z4, z5, z6⟩ := z
        rw [dMs] at z1
        cases z1
        exact ⟨ts, _, rfl, z2, z3, z4, by rw [c]; simp, fa1 (mkSs ss4 hss) (faA hst (fa1 (mkSs (by simp) fa0) fa0))⟩
      · rw [c]; exact eq_iT
    · refine ⟨.non, .inl rfl, start (es_seq n0 (es_seq (no k1) (es_seqR (es_ifT (yes k2) (es_ret (ev_ifF (ev_val (ev_bin lM ev_con (eq_iF ?_))) ev_con)))))) rfl⟩
      have : 0 < st'.length := List.length_pos_iff.mpr c
      omega
  -- 3
  by_cases k3 : kind = 3 ∧ ts ≠ []
  · obtain ⟨z, hts⟩ := k3
    obtain ⟨t0, ts0, rfl⟩ : ∃ t0 ts0, ts = t0 :: ts0 := by
      cases ts with
      | nil => exact absurd rfl hts
      | cons t0 ts0 => exact ⟨t0, ts0, rfl⟩
    obtain ⟨x, y, v, rfl, p1, p2⟩ := ht t0 (by simp)
    have cne : C ≠ [] := fun c => by
      rw [decide_eq_true c] at tn
      exact absurd (tn rfl) (by simp)
    have nb : decide (C = []) = false := decide_eq_false cne
    have ne : valT (bin neF (bin ixF (varE 2) (conE (.int 0))) (onA tupF (nilA))) (e none none) h2 = .ok true h2 := ev_val (ev_bin i0 tup0 ((neF_pd (n := 3) ((PartD.pd ⟨_, rfl, by omega, fun t h => (ht t h).ent⟩).up) (.inr ⟨[], rfl, fa0⟩) (by decide)).trans (by rw [same_ne (by simp)]; rfl)))
    refine ⟨_, isM (M' := .tup ([.tup ([.tup [.str x, .str y, .bl (!v)]] ++ ts0)] ++ (.tup ss :: st'))) (fun z => by rw [dMs] at z; simp at z) (fun b z => ?_), start (es_seq n0 (es_seq (no k1) (es_seq (no k2) (es_seqR (es_ifT (ev_andT (yes z) ne) (es_seq (es_set' (ev_bin i0 ev_con (ix_tup (d := .tup [.str x, .str y, .bl v]) (by decide) rfl)) s8) (es_ret (one (ev_bin (tup1 (ev_bin (tup1 (tup3 (ev_bin v8 ev_con (ix_tup (d := .str x) (by decide) rfl)) (ev_bin v8 ev_con (ix_tup (d := .str y) (by decide) rfl)) ?_)) (ev_sl i0 (ev_someO ev_con) ev_noO (by rw [show (1 : Int) = ((1 : Nat) : Int) by rfl, cut_fromT (by simp)]; rfl)) (add_tup (by simp; simp at t4; omega)))) f1 (add_tup (by simp; omega))))))))))) rfl⟩
    · obtain ⟨ts', st2, z1, z2, z3, z4, z5, z6⟩ := z
      rw [dMs] at z1
      cases z1
      refine ⟨_, _, rfl, by simpa using z2, fun w => ?_, fa1 (mkT p1 p2) (fun t h => z4 t (List.mem_cons_of_mem _ h)), z5, z6⟩
      exact absurd (z3 w) (by simp)
    · unfold notE
      rw [show bin ixF (varE 8) (conE (.int 2)) (e none (some (.tup [.str x, .str y, .bl v]))) h2 = R.ok (.bl v) h2 from ev_bin v8 ev_con (ix_tup (by decide) rfl)]
      rfl
  have n3 : ∀ {m : SM}, ifS (andT (valT (bin eqF (varE 6) (conE (.int 3)))) (valT (bin neF (bin ixF (varE 2) (conE (.int 0))) (onA tupF (nilA))))) m (passS) (e none none) h2 = .nx (e none none) h2 := fun {m} => by
    by_cases z : kind = 3
    · have hts : ts = [] := Decidable.byContradiction fun w => k3 ⟨z, w⟩
      exact es_ifF (ev_andT (yes z) (ev_val (ev_bin i0 tup0 (by rw [hts]; rfl)))) es_pass
    · exact no2 z
  -- 4
  have l1s : ∀ {x3 x8 h}, onA lenF (consA (bin ixF (varE 2) (conE (.int 1))) (nilA)) (e x3 x8) h = .ok (.int (ss.length : Int)) h := fun {x3 x8 h} => ev_on (ev_cons i1 ev_nil) len_tup
  by_cases k4 : kind = 4 ∧ ss.length < 4
  · obtain ⟨z, hl⟩ := k4
    refine ⟨_, isM (M' := .tup ([.tup ts, .tup (ss ++ [.tup [.str "here", .str "here"]])] ++ st')) (fun z => by rw [dMs] at z; simp at z) (fun b z => ?_), start (es_seq n0 (es_seq (no k1) (es_seq (no k2) (es_seq n3 (es_seqR (es_ifT (ev_andT (yes z) (ev_val (ev_bin l1s ev_con (lt_T (by omega))))) (es_ret (one (ev_bin (tup2 i0 (ev_bin i1 (tup1 (tup2 ev_con ev_con)) (add_tup (by simp; omega)))) f2 (add_tup (by simp; omega))))))))))) rfl⟩
    obtain ⟨ts', st2, z1, z2, z3, z4, z5, z6⟩ := z
    rw [dMs] at z1
    cases z1
    exact ⟨ts, _, rfl, z2, z3, z4, by simpa using z5, fa1 (mkSs (by simp; omega) (faA hss (fa1 (mkS th sh) fa0))) hst⟩
  have n4 : ∀ {m : SM}, ifS (andT (valT (bin eqF (varE 6) (conE (.int 4)))) (valT (bin ltF (onA lenF (consA (bin ixF (varE 2) (conE (.int 1))) (nilA))) (conE (.int 4))))) m (passS) (e none none) h2 = .nx (e none none) h2 := fun {m} => by
    by_cases z : kind = 4
    · exact es_ifF (ev_andT (yes z) (ev_val (ev_bin l1s ev_con (lt_F (fun w => k4 ⟨z, by omega⟩))))) es_pass
    · exact no2 z
  -- 5
  by_cases k5 : kind = 5 ∧ l.length < 3
  · obtain ⟨z, hl⟩ := k5
    have nm : ("more" : Str) ∉ l := fun h => hm _ h rfl
    have g' : RegsOk (l ++ [("more" : Str)]) := by
      obtain ⟨g1, g2, g3⟩ := g
      refine ⟨by simp; omega, ?_, fun s hs => ?_⟩
      · rw [List.nodup_append]
        refine ⟨g2, by simp, fun a ha b hb => ?_⟩
        simp only [List.mem_cons, List.not_mem_nil, or_false] at hb
        subst hb
        exact fun e => nm (e ▸ ha)
      · rcases List.mem_append.mp hs with z | z
        · exact g3 s z
        · simp only [List.mem_cons, List.not_mem_nil, or_false] at z
          subst z
          exact ⟨by decide, by decide, by decide, by decide⟩
    refine ⟨planD (l ++ [("more" : Str)]) ls, ch_names (fun z => by have := congrArg List.length z; simp at this) g' (L.memb fun s hs => by simp [hs]), start (es_seq n0 (es_seq (no k1) (es_seq (no k2) (es_seq n3 (es_seq n4 (es_seqR (es_ifT (ev_andT (yes z) (ev_val (ev_bin lN ev_con (lt_T (by omega))))) (es_ret ?_)))))))) rfl⟩
    have := tup2 (e := e none none) (h := h2) (ev_bin v4 (tup1 (ev_con (d := .str "more"))) (add_tup (by simp; omega))) v5
    unfold planD
    rw [List.map_append]
    exact this
  have n5 : ∀ {m : SM}, ifS (andT (valT (bin eqF (varE 6) (conE (.int 5)))) (valT (bin ltF (onA lenF (consA (varE 4) (nilA))) (conE (.int 3))))) m (passS) (e none none) h2 = .nx (e none none) h2 := fun {m} => by
    by_cases z : kind = 5
    · exact es_ifF (ev_andT (yes z) (ev_val (ev_bin lN ev_con (lt_F (fun w => k5 ⟨z, by omega⟩))))) es_pass
    · exact no2 z
  -- 6
  have lt6 : ∀ {x3 x8 h}, valT (bin ltF (varE 7) (bin subF (onA lenF (consA (varE 5) (nilA))) (conE (.int 2)))) (e x3 x8) h = .ok (decide ((a : Int) < (ls.length : Int) - 2)) h := fun {x3 x8 h} => by
    refine ev_val (ev_bin v7 (ev_bin lLs ev_con sub_i) ?_)
    unfold ltF ordF
    rfl
  have n6 : (∃ d, ChD d l ls ∧ ifS (andT (valT (bin eqF (varE 6) (conE (.int 6)))) (andT (valT (bin ltF (varE 7) (bin subF (onA lenF (consA (varE 5) (nilA))) (conE (.int 2))))) (valT (bin neF (bin ixF (varE 5) (bin addF (varE 7) (conE (.int 1)))) (varE 2))))) (retS (onA tupF (consA (varE 4) (consA (bin addF (bin addF (slE (varE 5) (noO) (someO (varE 7))) (onA tupF (consA (bin ixF (varE 5) (bin addF (varE 7) (conE (.int 1)))) (consA (varE 2) (nilA))))) (slE (varE 5) (someO (bin addF (varE 7) (conE (.int 2)))) (noO))) (nilA))))) (passS) (e none none) h2 = .rt d h2) ∨ ifS (andT (valT (bin eqF (varE 6) (conE (.int 6)))) (andT (valT (bin ltF (varE 7) (bin subF (onA lenF (consA (varE 5) (nilA))) (conE (.int 2))))) (valT (bin neF (bin ixF (varE 5) (bin addF (varE 7) (conE (.int 1)))) (varE 2))))) (retS (onA tupF (consA (varE 4) (consA (bin addF (bin addF (slE (varE 5) (noO) (someO (varE 7))) (onA tupF (consA (bin ixF (varE 5) (bin addF (varE 7) (conE (.int 1)))) (consA (varE 2) (nilA))))) (slE (varE 5) (someO (bin addF (varE 7) (conE (.int 2)))) (noO))) (nilA))))) (passS) (e none none) h2 = .nx (e none none) h2 := by
    by_cases z : kind = 6
    · by_cases c : (a : Int) < (ls.length : Int) - 2
      · obtain ⟨c0, c1, C', rfl⟩ : ∃ c0 c1 C', C = c0 :: c1 :: C' := by
          match C, (show 2 ≤ C.length by omega) with
          | c0 :: c1 :: C', _ => exact ⟨c0, c1, C', rfl⟩
        have at1 : ls[a + 1]? = some c0 := by rw [split, List.getElem?_append_right (by omega), la]; simp
        have ix1' : ∀ {x3 x8 h}, bin ixF (varE 5) (bin addF (varE 7) (conE (.int 1))) (e x3 x8) h = .ok c0 h := fun {x3 x8 h} => ev_bin v5 (ev_bin v7 ev_con add_i) (ix_tup (by omega) (by rw [show ((a : Int) + 1).toNat = a + 1 by omega]; exact at1))
        have pc0 : LineD l false c0 := LS.2.2.1 c0 (by simp)
        have pM : LineD l false M := LM.up
        have q := neF_pd (h := h2) pc0.pl.pd pM.pl.pd (by decide)
        by_cases w : c0 = M
        · refine .inr (es_ifF (ev_andT (yes z) (ev_andT (lt6.trans (by rw [decide_eq_true c])) (ev_val (ev_bin ix1' v2 (q.trans (by rw [w, same_refl]; rfl)))))) es_pass)
        · refine .inl ⟨planD l (A ++ [c0, M] ++ (c1 :: C')), ch_lines (fun y => w ?_) g ?_, es_ifT (ev_andT (yes z) (ev_andT (lt6.trans (by rw [decide_eq_true c])) (ev_val (ev_bin ix1' v2 (q.trans (by rw [same_ne w]; rfl)))))) (es_ret (tup2 v4 (ev_bin (ev_bin front (tup2 ix1' v2) (add_tup (by simp; omega))) (ev_sl v5 (ev_someO (ev_bin v7 ev_con add_i)) ev_noO (by rw [show (a : Int) + 2 = ((a + 2 : Nat) : Int) by omega, cut_fromT (by omega)])) ?_)))⟩
          · rw [split, List.append_assoc] at y
            have := List.append_cancel_left y
            simp at this
            exact this.1.symm
          · obtain ⟨p1, p2, p3, p4⟩ := LS
            refine ⟨by simp; omega, by simp at p2 ⊢; omega, faA (faA (fun d hd => p3 d (by simp [hd])) (fa1 pc0 (fa1 pM fa0))) (fun d hd => p3 d (by simp only [List.mem_append, List.mem_cons] at hd ⊢; rcases hd with z | z <;> simp [z])), fun d hd => p4 d ?_⟩
            rw [gl (by simp)] at hd
            rw [show A ++ M :: c0 :: c1 :: C' = (A ++ [M, c0]) ++ (c1 :: C') by simp, gl (by simp)]
            exact hd
          · have : ls.drop (a + 2) = c1 :: C' := by
              rw [split, List.drop_append, la]
              simp
              omega
            rw [this]
            exact add_tup (by simp only [List.length_append, List.length_cons, List.length_nil] at *; omega)
      · exact .inr (es_ifF (ev_andT (yes z) (ev_andF (lt6.trans (by rw [decide_eq_false c])))) es_pass)
    · exact .inr (no2 z)
  rcases n6 with ⟨d, cd, n6⟩ | n6
  · exact ⟨d, cd, start (es_seq n0 (es_seq (no k1) (es_seq (no k2) (es_seq n3 (es_seq n4 (es_seq n5 (es_seqR n6))))))) rfl⟩
  -- found
  have last : ∀ {M' : D}, (∀ b, LineD l b M → LineD l b M') → ∃ d, ChD d l ls ∧ retS (ifE (valT (bin neF (varE 3) (varE 2))) (onA tupF (consA (varE 4) (consA (bin addF (bin addF (slE (varE 5) (noO) (someO (varE 7))) (onA tupF (consA (varE 3) (nilA)))) (slE (varE 5) (someO (bin addF (varE 7) (conE (.int 1)))) (noO))) (nilA)))) (conE .non)) (e (some M') none) h2 = .rt d h2 := fun {M'} q => by
    have qq := neF_pd (h := h2) (q _ LM).pl.pd LM.pl.pd (by decide)
    by_cases w : M' = M
    · exact ⟨.non, .inl rfl, es_ret (ev_ifF (ev_val (ev_bin v3 v2 (qq.trans (by rw [w, same_refl]; rfl)))) ev_con)⟩
    · exact ⟨_, isM w q, es_ret (ev_ifT (ev_val (ev_bin v3 v2 (qq.trans (by rw [same_ne w]; rfl)))) (one v3))⟩
  have go : ∀ {M' : D}, (∀ b, LineD l b M → LineD l b M') → (∀ {m : SM} {d : D}, m (e (some M') none) h2 = .rt d h2 → seqS (setS 3 (varE 2)) (seqS (ifS (valT (bin eqF (varE 6) (conE (.int 7)))) (setS 3 (bin addF (onA tupF (consA (revE (bin ixF (varE 2) (conE (.int 0)))) (nilA))) (slE (varE 2) (someO (conE (.int 1))) (noO)))) (passS)) (seqS (ifS (valT (bin eqF (varE 6) (conE (.int 8)))) (setS 3 (bin addF (onA tupF (consA (bin ixF (varE 2) (conE (.int 0))) (consA (revE (bin ixF (varE 2) (conE (.int 1)))) (nilA)))) (slE (varE 2) (someO (conE (.int 2))) (noO)))) (passS)) (seqS (ifS (andT (valT (bin eqF (varE 6) (conE (.int 9)))) (andT (valT (bin eqF (onA lenF (consA (varE 2) (nilA))) (conE (.int 3)))) (valT (bin ltF (onA lenF (consA (bin ixF (varE 2) (conE (.int 2))) (nilA))) (conE (.int 4)))))) (setS 3 (bin addF (slE (varE 2) (noO) (someO (conE (.int 2)))) (onA tupF (consA (bin addF (bin ixF (varE 2) (conE (.int 2))) (onA tupF (consA (onA tupF (consA (conE (.str "here")) (consA (conE (.str "here")) (nilA)))) (nilA)))) (nilA))))) (passS)) m))) (e none none) h2 = .rt d h2) → ∃ d, ChD d l ls ∧ m_law_changed [.ref k, planD l ls] h = .ok d h2 := fun {M'} q r => by
    obtain ⟨d, cd, ed⟩ := last q
    exact ⟨d, cd, start (es_seq n0 (es_seq (no k1) (es_seq (no k2) (es_seq n3 (es_seq n4 (es_seq n5 (es_seq n6 (r ed)))))))) rfl⟩
  have st3 : setS 3 (varE 2) (e none none) h2 = .nx (e (some M) none) h2 := es_set' v2 s3
  have chg : ∀ {ts' ss' : List D}, ts'.length = ts.length → (∀ d ∈ ts', TestD l d) → ss'.length ≤ 4 → (∀ d ∈ ss', StepD l d) → ∀ b, LineD l b M → LineD l b (.tup (.tup ts' :: .tup ss' :: st')) := fun {ts' ss'} p0 p1 p q b z => by
    obtain ⟨ts2, st2, z1, z2, z3, z4, z5, z6⟩ := z
    rw [dMs] at z1
    cases z1
    refine ⟨ts', .tup ss' :: st', rfl, by omega, fun w => ?_, p1, by simpa using z5, fa1 (mkSs p q) hst⟩
    have := z3 w
    rw [this] at p0
    exact List.eq_nil_of_length_eq_zero p0
  by_cases k7 : kind = 7
  · refine go (M' := .tup (.tup ts.reverse :: .tup ss :: st')) (chg (by simp) (fun d hd => ht d (by simpa using hd)) ss4 hss) fun {m d} p => es_seq st3 (es_seq (es_ifT (yes k7) (es_set' (ev_bin (tup1 ?_) f1 (add_tup (by simp; omega))) s3)) (es_seq (no (by omega)) (es_seq (no2 (by omega)) p)))
    unfold revE
    rw [i0]
    rfl
  by_cases k8 : kind = 8
  · refine go (M' := .tup (.tup ts :: .tup ss.reverse :: st')) (chg rfl ht (by simpa using ss4) (fun d hd => hss d (by simpa using hd))) fun {m d} p => es_seq st3 (es_seq (no k7) (es_seq (es_ifT (yes k8) (es_set' (ev_bin (tup2 i0 ?_) f2 (add_tup (by simp; omega))) s3)) (es_seq (no2 (by omega)) p)))
    unfold revE
    rw [i1]
    rfl
  by_cases k9 : kind = 9
  · cases st' with
    | nil => exact go (M' := M) (fun _ z => z) fun {m d} p => es_seq st3 (es_seq (no k7) (es_seq (no k8) (es_seq (es_ifF (ev_andT (yes k9) (ev_andF (ev_val (ev_bin lM ev_con (eq_iF (by simp)))))) es_pass) p)))
    | cons s2 st2 =>
      have e2 : st2 = [] := List.eq_nil_of_length_eq_zero (by simp only [List.length_cons] at ds2; omega)
      subst e2
      obtain ⟨us, rfl, u4, pu⟩ := hst s2 (by simp)
      have i2 : ∀ {x3 x8 h}, bin ixF (varE 2) (conE (.int 2)) (e x3 x8) h = .ok (.tup us) h := fun {x3 x8 h} => ev_bin v2 ev_con (by rw [dMs]; exact ix_tup (by decide) rfl)
      have t2 : ∀ {x3 x8 h}, slE (varE 2) (noO) (someO (conE (.int 2))) (e x3 x8) h = .ok (.tup [.tup ts, .tup ss]) h := fun {x3 x8 h} => ev_sl v2 ev_noO (ev_someO ev_con) (by rw [dMs, show (2 : Int) = ((2 : Nat) : Int) by rfl, cut_toT (by simp)]; rfl)
      have c3 : ∀ {x3 x8 h}, valT (bin eqF (onA lenF (consA (varE 2) (nilA))) (conE (.int 3))) (e x3 x8) h = .ok true h := fun {x3 x8 h} => ev_val (ev_bin lM ev_con eq_iT)
      by_cases c : us.length < 4
      · refine go (M' := .tup ([.tup ts, .tup ss] ++ [.tup (us ++ [.tup [.str "here", .str "here"]])])) (fun b z => ?_) fun {m d} p => es_seq st3 (es_seq (no k7) (es_seq (no k8) (es_seq (es_ifT (ev_andT (yes k9) (ev_andT c3 (ev_val (ev_bin (ev_on (ev_cons i2 ev_nil) len_tup) ev_con (lt_T (by omega)))))) (es_set' (ev_bin t2 (tup1 (ev_bin i2 (tup1 (tup2 ev_con ev_con)) (add_tup (by simp; omega)))) (add_tup (by simp))) s3)) p)))
        obtain ⟨ts2, st2, z1, z2, z3, z4, z5, z6⟩ := z
        rw [dMs] at z1
        cases z1
        exact mkL2 z2 z3 z4 (mkSs ss4 hss) (mkSs (by simp; omega) (faA pu (fa1 (mkS th sh) fa0)))
      · exact go (M' := M) (fun _ z => z) fun {m d} p => es_seq st3 (es_seq (no k7) (es_seq (no k8) (es_seq (es_ifF (ev_andT (yes k9) (ev_andT c3 (ev_val (ev_bin (ev_on (ev_cons i2 ev_nil) len_tup) ev_con (lt_F (by omega)))))) es_pass) p)))
  exact go (M' := M) (fun _ z => z) fun {m d} p => es_seq st3 (es_seq (no k7) (es_seq (no k8) (es_seq (no2 k9) p)))
end ML

namespace ML
open PySem PySem.Spec PyProof.Rows L2
/-! the law of rules compared, as plain Lean -/
theorem file_ok {h : MH} {f s : Nat} {l : List Str} {ls : List D} (ef : h[f]? = some (.ins "File" [])) (R : RuleD h (.ref s) l ls) (hl : l.length ≤ 100) : ∃ h', m_File_init [.ref f, .ref s] h = .ok .non h' ∧ KG f h h' ∧ ∃ fs, h'[f]? = some (.ins "File" fs) := by
  obtain ⟨_, rfl', es⟩ := R
  cases rfl'
  have fs : s ≠ f := fun z => by rw [z, ef] at es; cases es
  have p1 := putI (ci := ["File"]) (f := "rule") (v := .ref s) ef (by simp) (show (0 : Nat) < 1000 by decide)
  obtain ⟨h1, d1⟩ : ∃ x, x = h.set f (.ins "File" (putFD "rule" (.ref s) [])) := ⟨_, rfl⟩
  rw [← d1] at p1
  have g1 : KG f h h1 := by rw [d1]; exact KG.set
  have f1 : h1[f]? = some (.ins "File" [("rule", .ref s)]) := by rw [d1, set_get ef]; rfl
  have s1 := g1.2 _ _ fs es
  have fl := (List.getElem?_eq_some_iff.mp f1).1
  obtain ⟨h2, e2, _, l2, k2⟩ := dc_loop (n := h1.length) (e0 := [some (.ref f), some (.ref s), none]) (by simp) ("here" :: l) [] (h1 ++ [O.dct []]) (by simp) (by simp; omega)
  have g2 : KG f h1 h2 := ⟨by rw [l2]; simp, fun m o hm e => by
    have := (List.getElem?_eq_some_iff.mp e).1
    rw [k2 m (by omega), List.getElem?_append_left this]
    exact e⟩
  have f2 : h2[f]? = some (.ins "File" [("rule", .ref s)]) := by rw [k2 f (by omega), List.getElem?_append_left fl]; exact f1
  have own : fldF ["Rule"] [] "own_names" (.ref s) h1 = .ok (.tup (l.map .str)) h1 := by
    unfold fldF
    dsimp only
    rw [s1]
    rfl
  have tl : tupF (D.str "here" :: (l.map D.str ++ [])) h1 = .ok (.tup ((("here" : Str) :: l).map D.str)) h1 := by
    rw [List.append_nil]
    exact tup_new (by simp; omega)
  have dc : dcE [2] (seqI (onA tupF (consA (conE (.str "here")) (starA (un (fldF ["Rule"] [] "own_names") (varE 1)) (nilA))))) (gnm 2) (yesT) (varE 2) (conE .non) [some (.ref f), some (.ref s), none] h1 = .ok (.ref h1.length) h2 := by
    unfold dcE
    rw [i_tup (ev_on (ev_cons ev_con (ev_star (k := true) (ev_un (ev_var rfl) own) rfl ev_nil)) tl)]
    exact e2
  obtain ⟨h3, p2, f3, g3⟩ := putJ (ci := ["File"]) (f := "held") (v := .ref h1.length) f2 (by simp) (show (1 : Nat) < 1000 by decide)
  obtain ⟨h4, p3, f4, g4⟩ := putJ (ci := ["File"]) (f := "last") (v := .non) f3 (by simp) (show (2 : Nat) < 1000 by decide)
  obtain ⟨h5, p4, f5, g5⟩ := putJ (ci := ["File"]) (f := "mark") (v := .str "none") f4 (by simp) (show (3 : Nat) < 1000 by decide)
  obtain ⟨h6, p5, f6, g6⟩ := putJ (ci := ["File"]) (f := "mine") (v := .non) f5 (by simp) (show (4 : Nat) < 1000 by decide)
  obtain ⟨h7, p6, f7, g7⟩ := putJ (ci := ["File"]) (f := "is_amid") (v := .bl false) f6 (by simp) (show (5 : Nat) < 1000 by decide)
  refine ⟨h7, ef_nx (e1 := [some (.ref f), some (.ref s), none]) rfl ?_, (((((g1.trans g2).trans g3).trans g4).trans g5).trans g6).trans g7, _, f7⟩
  unfold b_File_init
  refine es_seq (es_fld (ev_var rfl) (ev_var rfl) p1) ?_
  refine es_seq (es_fld dc (ev_var rfl) p2) ?_
  refine es_seq (es_fld ev_con (ev_var rfl) p3) ?_
  refine es_seq (es_fld ev_con (ev_var rfl) p4) ?_
  refine es_seq (es_fld ev_con (ev_var rfl) p5) ?_
  exact es_fld ev_con (ev_var rfl) p6

theorem es_asg {g : GM} {a : EM} {e e1 : Env} {h h1 : MH} {d : D} (p : a e h = .ok d h1) (q : g d e h1 = some e1) : asgS g a e h = .nx e1 h1 := by
  unfold asgS ofE
  rw [p]
  dsimp only
  rw [q]
theorem lc_none {srcs : List (Nat × List D)} {elt : EM} {tst : TM} {n i : Nat} {e0 : Env} {h : MH} (hs : IT.ok h srcs = true) : ∀ ds : List D, (∀ d ∈ ds, tst (e0.set i (some d)) h = .ok false h) → lcLoop srcs (gnm i) tst elt n e0 ds h = .ok (.ref n) h
  | [], _ => by unfold lcLoop; rw [if_pos hs]
  | d :: ds, hd => by
    unfold lcLoop
    rw [if_pos hs]
    have tg : gnm i d e0 h = some (e0.set i (some d)) := rfl
    rw [tg]
    dsimp only
    rw [hd d List.mem_cons_self]
    exact lc_none hs ds fun x hx => hd x (List.mem_cons_of_mem _ hx)
theorem same_comm {x y : D} : D.same x y = D.same y x := by
  cases c : D.same x y with
  | true => rw [same_eq c, same_refl]
  | false =>
    cases d : D.same y x with
    | false => rfl
    | true => rw [same_eq d, same_refl] at c; cases c
theorem bl_ne {a : Bool} {h : MH} : neX_law (.bl a) (.bl a) h = .ok (.bl false) h := by
  rw [(eqX_plain rfl rfl).2]
  cases a <;> rfl
def ThingD (h : MH) (d : D) : Prop := KindD h d ∨ FileD h d
theorem thing_eq {h : MH} {x d : D} {l : List Str} {ls : List D} (R : RuleD h x l ls) (p : ThingD h d) : eqX_law x d h = .ok (.bl false) h ∧ eqX_law d x h = .ok (.bl false) h := by
  rcases p with p | p
  · exact ⟨(eqX_rule R p.oth (rule_eq_kind p)).1, eqX_kind p R (rule_eq_kind p)⟩
  · exact ⟨(eqX_rule R p.oth (rule_eq_file p)).1, eqX_file p R (file_eq_rule R)⟩
def TURN : SM := seqS (setS 4 (onA m_law_plan (consA (varE 2) (nilA)))) (seqS (asgS (gtp [gnm 8, gnm 9]) (onA tupF (consA (onA m_law_rule (consA (varE 4) (nilA))) (consA (onA (makeF "Rule" m_Rule_init) (consA (bin ixF (varE 4) (conE (.int 0))) (consA (bin ixF (varE 4) (conE (.int 1))) (nilA)))) (nilA))))) (seqS (ifS (orT (notT (valT (bin eqX_law (varE 8) (varE 9)))) (orT (valT (bin neX_law (varE 8) (varE 9))) (orT (notT (valT (bin eqX_law (varE 9) (varE 8)))) (notT (valT (bin eqX_law (varE 9) (varE 9))))))) (retS (conE (.bl false))) (passS)) (seqS (setS 5 (onA m_law_plan (consA (varE 2) (nilA)))) (seqS (ifS (valT (bin neX_law (bin eqX_law (varE 8) (onA m_law_rule (consA (varE 5) (nilA)))) (bin eqX_law (varE 5) (varE 4)))) (retS (conE (.bl false))) (passS)) (seqS (setS 6 (onA m_law_changed (consA (varE 2) (consA (varE 4) (nilA))))) (seqS (ifS (valT (bin isntNF (varE 6) (conE .non))) (seqS (setS 10 (onA m_law_rule (consA (varE 6) (nilA)))) (ifS (orT (valT (bin eqX_law (varE 8) (varE 10))) (orT (notT (valT (bin neX_law (varE 8) (varE 10)))) (valT (bin eqX_law (varE 10) (varE 8))))) (retS (conE (.bl false))) (passS))) (passS)) (seqS (setS 7 (onA lstF (consA (conE .non) (consA (conE (.int 0)) (consA (conE (.str "")) (consA (varE 4) (consA (bin ixF (varE 4) (conE (.int 0))) (consA (bin ixF (varE 4) (conE (.int 1))) (consA (onA listF (consA (bin ixF (varE 4) (conE (.int 1))) (nilA))) (consA (dct0E) (consA (onA (makeF "File" m_File_init) (consA (varE 8) (nilA))) (consA (conE (.bl true)) (nilA))))))))))))) (ifS (valT (bin neX_law (lcE [11] (seqI (varE 7)) (gnm 11) (orT (valT (bin eqX_law (varE 8) (varE 11))) (valT (bin eqX_law (varE 11) (varE 8)))) (varE 11)) (onA lstF (nilA)))) (retS (conE (.bl false))) (passS)))))))))
theorem turn_ok {h : MH} {k : Nat} {a0 a1 x3 x4 x5 x6 x7 x8 x9 x10 x11 : Option D} (S : Src h k) :
    ∃ y4 y5 y6 y7 y8 y9 y10 h', TURN [a0, a1, some (.ref k), x3, x4, x5, x6, x7, x8, x9, x10, x11] h = .nx [a0, a1, some (.ref k), x3, y4, y5, y6, y7, y8, y9, y10, x11] h' ∧ Src h' k ∧ KG k h h' := by
  obtain ⟨l, ls, h1, e1, RO, RM, L, S1, g1⟩ := plan S
  obtain ⟨s1, h2, e2, R2, b2, g2⟩ := law_rule (h := h1) RO L
  obtain ⟨h3, e3, T3, g3⟩ := make_ok (h := h2) (x := .tup (l.map .str)) (y := .tup ls) (.inl rfl) (.inl rfl) RO L
  have O3 := R2.ga g3
  have eq12 := eqX_rule O3 T3.oth (rule_eq O3 T3 L L)
  have eq21 := eqX_rule T3 O3.oth (rule_eq T3 O3 L L)
  have eq22 := eqX_rule T3 T3.oth (rule_eq T3 T3 L L)
  rw [same_refl] at eq12 eq21 eq22
  have S3 : Src h3 k := by
    obtain ⟨r, m, e, q⟩ := S1
    exact ⟨r, m, (g2.trans g3).2 _ _ e, q⟩
  obtain ⟨l', ls', h4, e4, RO', RM', L', S4, g4⟩ := plan S3
  obtain ⟨s5, h5, e5, R5, b5, g5⟩ := law_rule (h := h4) RO' L'
  have O4 := O3.kg S3 g4
  have O5 := O4.ga g5
  have eq5 := (eqX_rule O5 R5.oth (rule_eq O5 R5 L L')).1
  have eqp : eqX_law (planD l' ls') (planD l ls) h5 = .ok (.bl (D.same (planD l ls) (planD l' ls'))) h5 := by
    rw [(eqX_plain rfl rfl).1, eqF_pd (plan_pd L') (plan_pd L) (by decide), same_comm]
  have S5 : Src h5 k := by
    obtain ⟨r, m, e, q⟩ := S4
    exact ⟨r, m, g5.2 _ _ e, q⟩
  obtain ⟨d6, h6, e6, C6, S6, g6⟩ := changed S5 RO RM L
  have O6 := O5.kg S5 g6
  have Q : ∃ y10 h7, ifS (valT (bin isntNF (varE 6) (conE .non))) (seqS (setS 10 (onA m_law_rule (consA (varE 6) (nilA)))) (ifS (orT (valT (bin eqX_law (varE 8) (varE 10))) (orT (notT (valT (bin neX_law (varE 8) (varE 10)))) (valT (bin eqX_law (varE 10) (varE 8))))) (retS (conE (.bl false))) (passS))) (passS) [a0, a1, some (.ref k), x3, some (planD l ls), some (planD l' ls'), some d6, x7, some (.ref s1), some (.ref h2.length), x10, x11] h6 = .nx [a0, a1, some (.ref k), x3, some (planD l ls), some (planD l' ls'), some d6, x7, some (.ref s1), some (.ref h2.length), y10, x11] h7 ∧ GA h6 h7 := by
    rcases C6 with rfl | ⟨lc, lsc, rfl, ROc, Lc, ne⟩
    · exact ⟨x10, h6, es_ifF (ev_val (ev_bin (ev_var rfl) ev_con rfl)) es_pass, GA.refl⟩
    · obtain ⟨s7, h7, e7, R7, b7, g7⟩ := law_rule (h := h6) ROc Lc
      have O7 := O6.ga g7
      have q1 := eqX_rule O7 R7.oth (rule_eq O7 R7 L Lc)
      have q2 := eqX_rule R7 O7.oth (rule_eq R7 O7 Lc L)
      rw [ne] at q1
      rw [same_comm, ne] at q2
      refine ⟨some (.ref s7), h7, es_ifT (ev_val (ev_bin (ev_var rfl) ev_con rfl)) (es_seq (es_set' (ev_on (ev_cons (ev_var rfl) ev_nil) e7) rfl) ?_), g7⟩
      exact es_ifF (ev_orF (ev_val (ev_bin (ev_var rfl) (ev_var rfl) q1.1)) (ev_orF (ev_not (v := true) (ev_val (ev_bin (ev_var rfl) (ev_var rfl) q1.2))) (ev_val (ev_bin (ev_var rfl) (ev_var rfl) q2.1)))) es_pass
  obtain ⟨y10, h7, e7, g7⟩ := Q
  have O7 := O6.ga g7
  have S7 : Src h7 k := by
    obtain ⟨r, m, e, q⟩ := S6
    exact ⟨r, m, g7.2 _ _ e, q⟩
  -- things
  obtain ⟨h8, d8⟩ : ∃ x, x = h7 ++ [O.lst ls] := ⟨_, rfl⟩
  have g8 : GA h7 h8 := by rw [d8]; exact GA.app
  have q8 : h8[h7.length]? = some (.lst ls) := by rw [d8]; simp
  have new8 : listF [.tup ls] h7 = .ok (.ref h7.length) h8 := by rw [d8]; rfl
  obtain ⟨h9, d9⟩ : ∃ x, x = h8 ++ [O.dct []] := ⟨_, rfl⟩
  have g9 : GA h8 h9 := by rw [d9]; exact GA.app
  have q9 : h9[h8.length]? = some (.dct []) := by rw [d9]; simp
  have new9 : ∀ {e : Env}, dct0E e h8 = .ok (.ref h8.length) h9 := fun {e} => by rw [d9]; rfl
  obtain ⟨h10, d10⟩ : ∃ x, x = h9 ++ [O.ins "File" []] := ⟨_, rfl⟩
  have g10 : GA h9 h10 := by rw [d10]; exact GA.app
  have f10 : h10[h9.length]? = some (.ins "File" []) := by rw [d10]; simp
  have l8 : h8.length = h7.length + 1 := by rw [d8]; simp
  have l9 : h9.length = h8.length + 1 := by rw [d9]; simp
  have O10 := ((O7.ga g8).ga g9).ga g10
  obtain ⟨h11, e11, g11, i11⟩ := file_ok f10 O10 (by have := RO.1; omega)
  have gf : GA h9 h11 := ⟨Nat.le_trans g10.1 g11.1, fun m o e => g11.2 m o (by have := (List.getElem?_eq_some_iff.mp e).1; omega) (g10.2 _ _ e)⟩
  have new11 : makeF "File" m_File_init [.ref s1] h9 = .ok (.ref h9.length) h11 := by
    unfold makeF
    rw [← d10, e11]
  obtain ⟨T, dT⟩ : ∃ x : List D, x = [.non, .int 0, .str "", planD l ls, .tup (l.map .str), .tup ls, .ref h7.length, .ref h8.length, .ref h9.length, .bl true] := ⟨_, rfl⟩
  obtain ⟨h12, d12⟩ : ∃ x, x = h11 ++ [O.lst T] := ⟨_, rfl⟩
  have g12 : GA h11 h12 := by rw [d12]; exact GA.app
  have q12 : h12[h11.length]? = some (.lst T) := by rw [d12]; simp
  have new12 : lstF T h11 = .ok (.ref h11.length) h12 := by rw [d12]; exact lst_new (by rw [dT]; simp)
  obtain ⟨h13, d13⟩ : ∃ x, x = h12 ++ [O.lst []] := ⟨_, rfl⟩
  have g13 : GA h12 h13 := by rw [d13]; exact GA.app
  have q13 : h13[h12.length]? = some (.lst []) := by rw [d13]; simp
  obtain ⟨h14, d14⟩ : ∃ x, x = h13 ++ [O.lst []] := ⟨_, rfl⟩
  have g14 : GA h13 h14 := by rw [d14]; exact GA.app
  have q14 : h14[h13.length]? = some (.lst []) := by rw [d14]; simp
  have G : GA h7 h13 := ((((g8.trans g9).trans gf).trans g12).trans g13)
  have O13 := O7.ga G
  have T13 : ∀ d ∈ T, ThingD h13 d := by
    rw [dT]
    have kd : ∀ {d : D} (T : String), tyD h13 d = some T → T ∈ kinds → ThingD h13 d := fun T a b => .inl ⟨T, a, b⟩
    refine fa1 (kd "NoneType" rfl (by decide)) (fa1 (kd "int" rfl (by decide)) (fa1 (kd "str" rfl (by decide)) (fa1 (kd "tuple" rfl (by decide)) (fa1 (kd "tuple" rfl (by decide)) (fa1 (kd "tuple" rfl (by decide)) (fa1 (kd "list" ?_ (by decide)) (fa1 (kd "dict" ?_ (by decide)) (fa1 ?_ (fa1 (kd "bool" rfl (by decide)) fa0)))))))))
    · have := (((g9.trans gf).trans g12).trans g13).2 _ _ q8
      unfold tyD
      dsimp only
      rw [this]
    · have := ((gf.trans g12).trans g13).2 _ _ q9
      unfold tyD
      dsimp only
      rw [this]
    · obtain ⟨fs, i11⟩ := i11
      have := (g12.trans g13).2 _ _ i11
      refine .inr ⟨?_, ?_⟩
      · unfold tyD
        dsimp only
        rw [this]
      · unfold insOf
        dsimp only
        rw [this]
  have K : KG k h h14 := ((((((g1.trans (g2.trans g3).kg).trans g4).trans g5.kg).trans g6).trans g7.kg).trans G.kg).trans g14.kg
  refine ⟨some (planD l ls), some (planD l' ls'), some d6, some (.ref h11.length), some (.ref s1), some (.ref h2.length), y10, h14, ?_, ?_, K⟩
  · unfold TURN
    refine es_seq (es_set' (d := planD l ls) (ev_on (ev_cons (ev_var rfl) ev_nil) e1) rfl) ?_
    refine es_seq (es_asg (ev_on (ev_cons (ev_on (ev_cons (ev_var rfl) ev_nil) e2) (ev_cons (ev_on (ev_cons (ev_bin (ev_var rfl) ev_con (ix_tup (d := .tup (l.map .str)) (by decide) rfl)) (ev_cons (ev_bin (ev_var rfl) ev_con (ix_tup (d := .tup ls) (by decide) rfl)) ev_nil)) e3) ev_nil)) (tup_new (by decide : 2 ≤ 1000000))) rfl) ?_
    refine es_seq (es_ifF (ev_orF (ev_not (v := true) (ev_val (ev_bin (ev_var rfl) (ev_var rfl) eq12.1))) (ev_orF (ev_val (ev_bin (ev_var rfl) (ev_var rfl) eq12.2)) (ev_orF (ev_not (v := true) (ev_val (ev_bin (ev_var rfl) (ev_var rfl) eq21.1))) (ev_not (v := true) (ev_val (ev_bin (ev_var rfl) (ev_var rfl) eq22.1)))))) es_pass) ?_
    refine es_seq (es_set' (d := planD l' ls') (ev_on (ev_cons (ev_var rfl) ev_nil) e4) rfl) ?_
    refine es_seq (es_ifF (ev_val (ev_bin (ev_bin (ev_var rfl) (ev_on (ev_cons (ev_var rfl) ev_nil) e5) eq5) (ev_bin (ev_var rfl) (ev_var rfl) eqp) bl_ne)) es_pass) ?_
    refine es_seq (es_set' (ev_on (ev_cons (ev_var rfl) (ev_cons (ev_var rfl) ev_nil)) e6) rfl) ?_
    refine es_seq e7 ?_
    rw [dT] at new12
    refine es_seq (es_set' (ev_on (ev_cons ev_con (ev_cons ev_con (ev_cons ev_con (ev_cons (ev_var rfl) (ev_cons (ev_bin (ev_var rfl) ev_con (ix_tup (d := .tup (l.map .str)) (by decide) rfl)) (ev_cons (ev_bin (ev_var rfl) ev_con (ix_tup (d := .tup ls) (by decide) rfl)) (ev_cons (ev_on (ev_cons (ev_bin (ev_var rfl) ev_con (ix_tup (d := .tup ls) (by decide) rfl)) ev_nil) new8) (ev_cons new9 (ev_cons (ev_on (ev_cons (ev_var rfl) ev_nil) new11) (ev_cons ev_con ev_nil)))))))))) new12) rfl) ?_
    have lc : lcE [11] (seqI (varE 7)) (gnm 11) (orT (valT (bin eqX_law (varE 8) (varE 11))) (valT (bin eqX_law (varE 11) (varE 8)))) (varE 11) [a0, a1, some (.ref k), x3, some (planD l ls), some (planD l' ls'), some d6, some (.ref h11.length), some (.ref s1), some (.ref h2.length), y10, x11] h12 = .ok (.ref h12.length) h13 := by
      unfold lcE
      rw [ei_lst (ev_var rfl) q12]
      show lcLoop _ _ _ _ _ _ T _ = _
      rw [← d13]
      refine lc_none (stands1 (g13.2 _ _ q12)) T fun d hd => ?_
      have := thing_eq O13 (T13 d hd)
      exact ev_orF (ev_val (ev_bin (ev_var rfl) (ev_var rfl) this.1)) (ev_val (ev_bin (ev_var rfl) (ev_var rfl) this.2))
    have ne14 : neX_law (.ref h12.length) (.ref h13.length) h14 = .ok (.bl false) h14 := by
      have i1 : insOf h14 (.ref h12.length) = none := by unfold insOf; dsimp only; rw [g14.2 _ _ q13]
      have i2 : insOf h14 (.ref h13.length) = none := by unfold insOf; dsimp only; rw [q14]
      rw [(eqX_plain i1 i2).2, ne_lnil (g14.2 _ _ q13) q14]
      rfl
    exact es_ifF (ev_val (ev_bin lc (ev_on ev_nil (new0 d14)) ne14)) es_pass
  · obtain ⟨r, m, e, q⟩ := S7
    exact ⟨r, m, (G.trans g14).2 _ _ e, q⟩
theorem turns {k : Nat} {a0 a1 x11 : Option D} : ∀ (ds : List D) (x3 x4 x5 x6 x7 x8 x9 x10 : Option D) (h : MH), Src h k →
    ∃ y3 y4 y5 y6 y7 y8 y9 y10 h', loopS [] (gnm 3) TURN ds [a0, a1, some (.ref k), x3, x4, x5, x6, x7, x8, x9, x10, x11] h = .nx [a0, a1, some (.ref k), y3, y4, y5, y6, y7, y8, y9, y10, x11] h' ∧ KG k h h'
  | [], x3, x4, x5, x6, x7, x8, x9, x10, h, S => ⟨_, _, _, _, _, _, _, _, h, loop_nil rfl, KG.refl⟩
  | d :: ds, x3, x4, x5, x6, x7, x8, x9, x10, h, S => by
    obtain ⟨y4, y5, y6, y7, y8, y9, y10, h1, e1, S1, g1⟩ := turn_ok (a0 := a0) (a1 := a1) (x3 := some d) (x4 := x4) (x5 := x5) (x6 := x6) (x7 := x7) (x8 := x8) (x9 := x9) (x10 := x10) (x11 := x11) S
    obtain ⟨z3, z4, z5, z6, z7, z8, z9, z10, h2, e2, g2⟩ := turns ds (some d) y4 y5 y6 y7 y8 y9 y10 h1 S1
    exact ⟨z3, z4, z5, z6, z7, z8, z9, z10, h2, (loop_cons rfl rfl e1).trans e2, g1.trans g2⟩
def START : SM := seqS (setS 2 (onA m_law_source (consA (varE 0) (consA (varE 1) (nilA))))) (forS (rng1I (consA (conE (.int 8)) (nilA))) (gnm 3) TURN)
theorem starts {ns : List Int} {x11 : Option D} (hb : ∀ z ∈ ns, Builtin.Int.intBits z ≤ 1048576) : ∀ (ds : List D) (x1 x2 x3 x4 x5 x6 x7 x8 x9 x10 : Option D) (h : MH), (∀ d ∈ ds, ∃ i : Int, d = .int i ∧ 0 ≤ i ∧ i < 100) → h[0]? = some (.rdl (ns.map .int)) → ∃ e' h', loopS [] (gnm 1) START ds [some (.ref 0), x1, x2, x3, x4, x5, x6, x7, x8, x9, x10, x11] h = .nx e' h'
  | [], _, _, _, _, _, _, _, _, _, _, h, _, _ => ⟨_, h, loop_nil rfl⟩
  | d :: ds, x1, x2, x3, x4, x5, x6, x7, x8, x9, x10, h, hd, e0 => by
    obtain ⟨i, rfl, i0, i1⟩ := hd d List.mem_cons_self
    obtain ⟨r, m, e1, r0, m0, m1⟩ := source (start := i) e0 hb i0 i1
    have h0 := (List.getElem?_eq_some_iff.mp e0).1
    have S1 : Src (h ++ [O.lst [.int r, .int m]]) h.length := ⟨r, m, by simp, r0, m0, m1⟩
    obtain ⟨y3, y4, y5, y6, y7, y8, y9, y10, h2, e2, g2⟩ := turns (a0 := some (.ref 0)) (a1 := some (.int i)) (x11 := x11) (rangeD 0 (8 : Int).toNat) x3 x4 x5 x6 x7 x8 x9 x10 _ S1
    have e3 : START [some (.ref 0), some (.int i), x2, x3, x4, x5, x6, x7, x8, x9, x10, x11] h = .nx [some (.ref 0), some (.int i), some (.ref h.length), y3, y4, y5, y6, y7, y8, y9, y10, x11] h2 := by
      unfold START
      refine es_seq (es_set' (ev_on (ev_cons (ev_var rfl) (ev_cons (ev_var rfl) ev_nil)) e1) rfl) ?_
      exact es_for (ei_rng (ev_cons ev_con ev_nil) (by decide)) e2
    have q2 : h2[0]? = some (.rdl (ns.map .int)) := g2.2 _ _ (by omega) (GA.app.2 _ _ e0)
    obtain ⟨e', h', e4⟩ := starts (x11 := x11) hb ds (some (.int i)) (some (.ref h.length)) y3 y4 y5 y6 y7 y8 y9 y10 h2 (fun x hx => hd x (List.mem_cons_of_mem _ hx)) q2
    exact ⟨e', h', (loop_cons rfl rfl e3).trans e4⟩
theorem law_true : ∀ ns : List Int, ns.length ≤ 63 → (∀ z ∈ ns, Builtin.Int.intBits z ≤ 1048576) → ∃ h', b_law ([some (.ref 0)] ++ List.replicate (N_law.length - 1) none) (scriptM ns) = .rt (.bl true) h' := by
  intro ns hl hb
  have h0 : (scriptM ns)[0]? = some (.rdl (ns.map .int)) := rfl
  have a1 := len_rdl h0
  rw [List.length_map] at a1
  obtain ⟨y, a2, y1⟩ : ∃ y : Int, min2F [.int 4, .int (ns.length : Nat)] (scriptM ns) = .ok (.int y) (scriptM ns) ∧ y ≤ 4 := ⟨_, rfl, by split <;> omega⟩
  obtain ⟨z, a3, z0, z1⟩ : ∃ z : Int, max2F [.int 1, .int y] (scriptM ns) = .ok (.int z) (scriptM ns) ∧ 0 ≤ z ∧ z ≤ 4 := ⟨_, rfl, by split <;> omega, by split <;> omega⟩
  obtain ⟨e', h', p⟩ := starts hb (rangeD 0 z.toNat) none none none none none none none none none none (scriptM ns) (fun d hd => by
    unfold rangeD at hd
    obtain ⟨i, hi, ei⟩ := List.mem_map.mp hd
    have := List.mem_range.mp hi
    exact ⟨_, ei.symm, by omega, by omega⟩) h0
  refine ⟨h', ?_⟩
  have w : b_law = seqS (forS (rng1I (consA (onA max2F (consA (conE (.int 1)) (consA (onA min2F (consA (conE (.int 4)) (consA (onA lenF (consA (varE 0) (nilA))) (nilA)))) (nilA)))) (nilA))) (gnm 1) START) (retS (conE (.bl true))) := rfl
  rw [w]
  refine es_seq (es_for (ei_rng (ev_cons (ev_on (ev_cons ev_con (ev_cons (ev_on (ev_cons ev_con (ev_cons (ev_on (ev_cons (ev_var rfl) ev_nil) a1) ev_nil)) a2) ev_nil)) a3) ev_nil) ⟨by omega, by omega⟩) p) (es_ret ev_con)
end ML

namespace ML
open PySem PySem.Spec PyProof.Rows L2
abbrev hR : PySem.W.OpenRow := PySem.W.OpenLaw.row PySem.Challenge.rw_stillmine_k02_rules_compared
abbrev hV : Program := PySem.W.view hR.prog [49]
def hn0 : List Str := [Str.ofString "_wall", Str.ofString "UpgradeError", Str.ofString "BadRegisters", Str.ofString "BadLines", Str.ofString "BadLine", Str.ofString "BadContent", Str.ofString "Unanswered", Str.ofString "BadAnswer", Str.ofString "BadStop", Str.ofString "NoPlace", Str.ofString "LETTERS", Str.ofString "BARRED", Str.ofString "PLACES", Str.ofString "MOST_REGISTERS", Str.ofString "MOST_LINES", Str.ofString "MOST_TESTS", Str.ofString "MOST_STEPS", Str.ofString "is_name", Str.ofString "need_registers", Str.ofString "is_one_of", Str.ofString "is_test", Str.ofString "is_step", Str.ofString "are_steps", Str.ofString "is_line", Str.ofString "Rule", Str.ofString "ANSWERS", Str.ofString "NONE", Str.ofString "OWN", Str.ofString "FREE", Str.ofString "is_content"]
def hn1 : List Str := [Str.ofString "is_whole_number", Str.ofString "taken_line", Str.ofString "done_steps", Str.ofString "File", Str.ofString "_law_source", Str.ofString "_law_draw", Str.ofString "_law_pick", Str.ofString "_law_mixed", Str.ofString "_law_steps", Str.ofString "_law_tests", Str.ofString "_law_good", Str.ofString "_law_noted_as", Str.ofString "_law_plan", Str.ofString "_law_rule", Str.ofString "_law_changed"]
def hnames : List Str := hn0 ++ (hn1)
def hx0 : List Str := [Str.ofString "BadRegisters", Str.ofString "BadLines", Str.ofString "BadLine", Str.ofString "UpgradeError", Str.ofString "Rule", Str.ofString "File", Str.ofString "is_name", Str.ofString "need_registers", Str.ofString "is_one_of", Str.ofString "is_test", Str.ofString "is_step", Str.ofString "are_steps", Str.ofString "is_line", Str.ofString "_law_source", Str.ofString "_law_draw", Str.ofString "_law_pick", Str.ofString "_law_mixed", Str.ofString "_law_steps", Str.ofString "_law_tests", Str.ofString "_law_good", Str.ofString "_law_noted_as", Str.ofString "_law_plan", Str.ofString "_law_rule", Str.ofString "_law_changed", Str.ofString "law", Str.ofString "BARRED"]
def hxs : List Str := hx0
abbrev hd_BadRegisters : FnM := ⟨fun K => (He.ma K (He.ga K "BadRegisters") "__init__"), "__init__", "BadRegisters.__init__", (inClass (top 3) 0)⟩
abbrev hd_BadLines : FnM := ⟨fun K => (He.ma K (He.ga K "BadLines") "__init__"), "__init__", "BadLines.__init__", (inClass (top 4) 0)⟩
abbrev hd_BadLine : FnM := ⟨fun K => (He.ma K (He.ga K "BadLine") "__init__"), "__init__", "BadLine.__init__", (inClass (top 5) 0)⟩
abbrev hd_is_name : FnM := ⟨fun K => (He.ga K "is_name"), "is_name", "is_name", s_is_name⟩
abbrev hd_need_registers : FnM := ⟨fun K => (He.ga K "need_registers"), "need_registers", "need_registers", s_need_registers⟩
abbrev hd_is_one_of : FnM := ⟨fun K => (He.ga K "is_one_of"), "is_one_of", "is_one_of", s_is_one_of⟩
abbrev hd_is_test : FnM := ⟨fun K => (He.ga K "is_test"), "is_test", "is_test", s_is_test⟩
abbrev hd_is_step : FnM := ⟨fun K => (He.ga K "is_step"), "is_step", "is_step", s_is_step⟩
abbrev hd_are_steps : FnM := ⟨fun K => (He.ga K "are_steps"), "are_steps", "are_steps", s_are_steps⟩
abbrev hd_is_line : FnM := ⟨fun K => (He.ga K "is_line"), "is_line", "is_line", s_is_line⟩
abbrev hd_Rule_init : FnM := ⟨fun K => (He.ma K (He.ga K "Rule") "__init__"), "__init__", "Rule.__init__", s_Rule_init⟩
abbrev hd_Rule_eq : FnM := ⟨fun K => (He.ma K (He.ga K "Rule") "__eq__"), "__eq__", "Rule.__eq__", s_Rule_eq⟩
abbrev hd_File_init : FnM := ⟨fun K => (He.ma K (He.ga K "File") "__init__"), "__init__", "File.__init__", s_File_init⟩
abbrev hd_File_eq : FnM := ⟨fun K => (He.ma K (He.ga K "File") "__eq__"), "__eq__", "File.__eq__", s_File_eq⟩
abbrev hd_law_source : FnM := ⟨fun K => (He.ga K "_law_source"), "_law_source", "_law_source", s_law_source⟩
abbrev hd_law_draw : FnM := ⟨fun K => (He.ga K "_law_draw"), "_law_draw", "_law_draw", s_law_draw⟩
abbrev hd_law_pick : FnM := ⟨fun K => (He.ga K "_law_pick"), "_law_pick", "_law_pick", s_law_pick⟩
abbrev hd_law_mixed : FnM := ⟨fun K => (He.ga K "_law_mixed"), "_law_mixed", "_law_mixed", s_law_mixed⟩
abbrev hd_law_steps : FnM := ⟨fun K => (He.ga K "_law_steps"), "_law_steps", "_law_steps", s_law_steps⟩
abbrev hd_law_tests : FnM := ⟨fun K => (He.ga K "_law_tests"), "_law_tests", "_law_tests", s_law_tests⟩
abbrev hd_law_good : FnM := ⟨fun K => (He.ga K "_law_good"), "_law_good", "_law_good", s_law_good⟩
abbrev hd_law_noted_as : FnM := ⟨fun K => (He.ga K "_law_noted_as"), "_law_noted_as", "_law_noted_as", s_law_noted_as⟩
abbrev hd_law_plan : FnM := ⟨fun K => (He.ga K "_law_plan"), "_law_plan", "_law_plan", s_law_plan⟩
abbrev hd_law_rule : FnM := ⟨fun K => (He.ga K "_law_rule"), "_law_rule", "_law_rule", s_law_rule⟩
abbrev hd_law_changed : FnM := ⟨fun K => (He.ga K "_law_changed"), "_law_changed", "_law_changed", s_law_changed⟩
abbrev hd_law : FnM := ⟨fun K => (He.ga K "law"), "law", "law", s_law⟩
def hfn : List FnM := [hd_BadRegisters, hd_BadLines, hd_BadLine, hd_is_name, hd_need_registers, hd_is_one_of, hd_is_test, hd_is_step, hd_are_steps, hd_is_line, hd_Rule_init, hd_Rule_eq, hd_File_init, hd_File_eq, hd_law_source, hd_law_draw, hd_law_pick, hd_law_mixed, hd_law_steps, hd_law_tests, hd_law_good, hd_law_noted_as, hd_law_plan, hd_law_rule, hd_law_changed, hd_law]
def hchk (K : PySem.W.Frag) : List Bool := [
  He.eqO (PySem.W.nsIn K mainGlobals "BadRegisters") (some (some (.ref (He.ga K "BadRegisters")))),
  He.eqO (PySem.W.findIn K (.ref (He.ga K "BadRegisters")) "__init__") (some (some (.ref (He.ma K (He.ga K "BadRegisters") "__init__")))),
  xcoB K (He.ga K "BadRegisters"),
  xcB K (He.ga K "BadRegisters") (He.ma K (He.ga K "BadRegisters") "__init__") "value",
  He.eqO (PySem.W.nsIn K mainGlobals "BadLines") (some (some (.ref (He.ga K "BadLines")))),
  He.eqO (PySem.W.findIn K (.ref (He.ga K "BadLines")) "__init__") (some (some (.ref (He.ma K (He.ga K "BadLines") "__init__")))),
  xcoB K (He.ga K "BadLines"),
  xcB K (He.ga K "BadLines") (He.ma K (He.ga K "BadLines") "__init__") "value",
  He.eqO (PySem.W.nsIn K mainGlobals "BadLine") (some (some (.ref (He.ga K "BadLine")))),
  He.eqO (PySem.W.findIn K (.ref (He.ga K "BadLine")) "__init__") (some (some (.ref (He.ma K (He.ga K "BadLine") "__init__")))),
  xcoB K (He.ga K "BadLine"),
  xcB K (He.ga K "BadLine") (He.ma K (He.ga K "BadLine") "__init__") "position",
  He.eqO (PySem.W.nsIn K mainGlobals "UpgradeError") (some (some (.ref (He.ga K "UpgradeError")))),
  kindB K [("BadRegisters", (He.ga K "BadRegisters")), ("BadLines", (He.ga K "BadLines")), ("BadLine", (He.ga K "BadLine"))] (He.ga K "UpgradeError"),
  He.eqO (PySem.W.nsIn K mainGlobals "all") (some none),
  He.eqO (PySem.W.nsIn K mainGlobals "bool") (some none),
  He.eqO (PySem.W.nsIn K mainGlobals "enumerate") (some none),
  He.eqO (PySem.W.nsIn K mainGlobals "int") (some none),
  He.eqO (PySem.W.nsIn K mainGlobals "isinstance") (some none),
  He.eqO (PySem.W.nsIn K mainGlobals "len") (some none),
  He.eqO (PySem.W.nsIn K mainGlobals "list") (some none),
  He.eqO (PySem.W.nsIn K mainGlobals "max") (some none),
  He.eqO (PySem.W.nsIn K mainGlobals "min") (some none),
  He.eqO (PySem.W.nsIn K mainGlobals "range") (some none),
  He.eqO (PySem.W.nsIn K mainGlobals "set") (some none),
  He.eqO (PySem.W.nsIn K mainGlobals "str") (some none),
  He.eqO (PySem.W.nsIn K mainGlobals "tuple") (some none),
  He.eqO (PySem.W.nsIn K mainGlobals "BARRED") (some (some (.ref (He.ga K "BARRED")))),
  tupB K (He.ga K "BARRED") ["here", "new", "nothing", "is", "not", "from", "or", "ask", "do", "otherwise"],
  strB K "LETTERS" "abcdefghijklmnopqrstuvwxyz",
  intB K "MOST_LINES" 8,
  intB K "MOST_REGISTERS" 3,
  intB K "MOST_STEPS" 4,
  intB K "MOST_TESTS" 4,
  strB K "NONE" "none",
  He.eqO (PySem.W.nsIn K mainGlobals "Rule") (some (some (.ref (He.ga K "Rule")))),
  He.eqO (PySem.W.findIn K (.ref (He.ga K "Rule")) "__init__") (some (some (.ref (He.ma K (He.ga K "Rule") "__init__")))),
  clsB K (He.ga K "Rule") (He.ma K (He.ga K "Rule") "__init__") ["own_names", "rows"],
  He.eqO (PySem.W.nsIn K mainGlobals "File") (some (some (.ref (He.ga K "File")))),
  He.eqO (PySem.W.findIn K (.ref (He.ga K "File")) "__init__") (some (some (.ref (He.ma K (He.ga K "File") "__init__")))),
  clsB K (He.ga K "File") (He.ma K (He.ga K "File") "__init__") ["rule", "held", "last", "mark", "mine", "is_amid"],
  eqcB K (He.ga K "Rule") (He.ma K (He.ga K "Rule") "__eq__") ([(He.ga K "Rule"), (He.ga K "File")]),
  eqcB K (He.ga K "File") (He.ma K (He.ga K "File") "__eq__") ([(He.ga K "Rule"), (He.ga K "File")]),
  isiB K (He.ga K "File") [("Rule", (He.ga K "Rule")), ("File", (He.ga K "File"))] "File",
  isiB K (He.ga K "Rule") [("Rule", (He.ga K "Rule")), ("File", (He.ga K "File"))] "Rule",
  He.eqO (PySem.W.nsIn K mainGlobals "is_name") (some (some (.ref (He.ga K "is_name")))),
  He.eqO (PySem.W.nsIn K mainGlobals "need_registers") (some (some (.ref (He.ga K "need_registers")))),
  He.eqO (PySem.W.nsIn K mainGlobals "is_one_of") (some (some (.ref (He.ga K "is_one_of")))),
  He.eqO (PySem.W.nsIn K mainGlobals "is_test") (some (some (.ref (He.ga K "is_test")))),
  He.eqO (PySem.W.nsIn K mainGlobals "is_step") (some (some (.ref (He.ga K "is_step")))),
  He.eqO (PySem.W.nsIn K mainGlobals "are_steps") (some (some (.ref (He.ga K "are_steps")))),
  He.eqO (PySem.W.nsIn K mainGlobals "is_line") (some (some (.ref (He.ga K "is_line")))),
  He.eqO (PySem.W.nsIn K mainGlobals "_law_source") (some (some (.ref (He.ga K "_law_source")))),
  He.eqO (PySem.W.nsIn K mainGlobals "_law_draw") (some (some (.ref (He.ga K "_law_draw")))),
  He.eqO (PySem.W.nsIn K mainGlobals "_law_pick") (some (some (.ref (He.ga K "_law_pick")))),
  He.eqO (PySem.W.nsIn K mainGlobals "_law_mixed") (some (some (.ref (He.ga K "_law_mixed")))),
  He.eqO (PySem.W.nsIn K mainGlobals "_law_steps") (some (some (.ref (He.ga K "_law_steps")))),
  He.eqO (PySem.W.nsIn K mainGlobals "_law_tests") (some (some (.ref (He.ga K "_law_tests")))),
  He.eqO (PySem.W.nsIn K mainGlobals "_law_good") (some (some (.ref (He.ga K "_law_good")))),
  He.eqO (PySem.W.nsIn K mainGlobals "_law_noted_as") (some (some (.ref (He.ga K "_law_noted_as")))),
  He.eqO (PySem.W.nsIn K mainGlobals "_law_plan") (some (some (.ref (He.ga K "_law_plan")))),
  He.eqO (PySem.W.nsIn K mainGlobals "_law_rule") (some (some (.ref (He.ga K "_law_rule")))),
  He.eqO (PySem.W.nsIn K mainGlobals "_law_changed") (some (some (.ref (He.ga K "_law_changed")))),
  He.eqO (PySem.W.nsIn K mainGlobals "law") (some (some (.ref (He.ga K "law"))))]
set_option maxHeartbeats 0 in
theorem h_run (w : World) : HandSHeadRun.RunEq hR hV (hookM hxs hchk hfn) (obM hxs hchk hfn) 9000 hnames w := by
  intro os
  kernel_rfl
theorem h_all {P : Program} {w : World} {K : PySem.W.Frag} {h : Heap} {mg : Str → Option Value} {fa : Addr} (KX : K.In h) (c : SaysM hchk hfn K) (G : h.Ns mainGlobals mg) (hfa : mg "law" = some (.ref fa)) :
    ∀ (base : Heap) (s : Shared) (H : Hp) (a : Addr) (ns : List Int), ns.length ≤ 63 → (∀ z ∈ ns, Builtin.Int.intBits z ≤ 1048576) → Env0 P w K mg base callerA [] s H → RdL K H a (ns.map V.int) →
        codeAny (model P w) callerA (.call (.ref fa) ⟨[.ref a], []⟩) (CR (L2.CX P w) [] P w H s (fun v _ => v = .bl true) fun _ _ _ => False) s :=
  all_mk KX G hfa (C_BadRegisters := (He.ga K "BadRegisters")) (C_BadLines := (He.ga K "BadLines")) (C_BadLine := (He.ga K "BadLine")) (f_BadRegisters := (He.ma K (He.ga K "BadRegisters") "__init__")) (f_BadLines := (He.ma K (He.ga K "BadLines") "__init__")) (f_BadLine := (He.ma K (He.ga K "BadLine") "__init__")) (C_UpgradeError := (He.ga K "UpgradeError")) (C_Rule := (He.ga K "Rule")) (C_File := (He.ga K "File")) (f_is_name := (He.ga K "is_name")) (f_need_registers := (He.ga K "need_registers")) (f_is_one_of := (He.ga K "is_one_of")) (f_is_test := (He.ga K "is_test")) (f_is_step := (He.ga K "is_step")) (f_are_steps := (He.ga K "are_steps")) (f_is_line := (He.ga K "is_line")) (f_Rule_init := (He.ma K (He.ga K "Rule") "__init__")) (f_Rule_eq := (He.ma K (He.ga K "Rule") "__eq__")) (f_File_init := (He.ma K (He.ga K "File") "__init__")) (f_File_eq := (He.ma K (He.ga K "File") "__eq__")) (f_law_source := (He.ga K "_law_source")) (f_law_draw := (He.ga K "_law_draw")) (f_law_pick := (He.ga K "_law_pick")) (f_law_mixed := (He.ga K "_law_mixed")) (f_law_steps := (He.ga K "_law_steps")) (f_law_tests := (He.ga K "_law_tests")) (f_law_good := (He.ga K "_law_good")) (f_law_noted_as := (He.ga K "_law_noted_as")) (f_law_plan := (He.ga K "_law_plan")) (f_law_rule := (He.ga K "_law_rule")) (f_law_changed := (He.ga K "_law_changed")) (f_law := (He.ga K "law")) (v_BARRED := (He.ga K "BARRED")) (v_LETTERS := (tokS K "LETTERS")) (v_MOST_LINES := (tokI K "MOST_LINES")) (v_MOST_REGISTERS := (tokI K "MOST_REGISTERS")) (v_MOST_STEPS := (tokI K "MOST_STEPS")) (v_MOST_TESTS := (tokI K "MOST_TESTS")) (v_NONE := (tokS K "NONE"))
    (eq_of (c.fact 0 rfl))
    (eq_of (c.fact 1 rfl))
    (xco_of (c.fact 2 rfl))
    (c.def_ 0 (d := hd_BadRegisters) rfl)
    (c.fact 3 rfl)
    (eq_of (c.fact 4 rfl))
    (eq_of (c.fact 5 rfl))
    (xco_of (c.fact 6 rfl))
    (c.def_ 1 (d := hd_BadLines) rfl)
    (c.fact 7 rfl)
    (eq_of (c.fact 8 rfl))
    (eq_of (c.fact 9 rfl))
    (xco_of (c.fact 10 rfl))
    (c.def_ 2 (d := hd_BadLine) rfl)
    (c.fact 11 rfl)
    (eq_of (c.fact 12 rfl))
    (c.fact 13 rfl)
    (eq_of (c.fact 14 rfl))
    (eq_of (c.fact 15 rfl))
    (eq_of (c.fact 16 rfl))
    (eq_of (c.fact 17 rfl))
    (eq_of (c.fact 18 rfl))
    (eq_of (c.fact 19 rfl))
    (eq_of (c.fact 20 rfl))
    (eq_of (c.fact 21 rfl))
    (eq_of (c.fact 22 rfl))
    (eq_of (c.fact 23 rfl))
    (eq_of (c.fact 24 rfl))
    (eq_of (c.fact 25 rfl))
    (eq_of (c.fact 26 rfl))
    (eq_of (c.fact 27 rfl))
    (c.fact 28 rfl)
    (str_of (c.fact 29 rfl))
    (int_of (c.fact 30 rfl))
    (int_of (c.fact 31 rfl))
    (int_of (c.fact 32 rfl))
    (int_of (c.fact 33 rfl))
    (str_of (c.fact 34 rfl))
    (eq_of (c.fact 35 rfl))
    (eq_of (c.fact 36 rfl))
    (c.fact 37 rfl)
    (eq_of (c.fact 38 rfl))
    (eq_of (c.fact 39 rfl))
    (c.fact 40 rfl)
    (c.fact 41 rfl)
    (c.fact 42 rfl)
    (c.fact 43 rfl)
    (c.fact 44 rfl)
    (eq_of (c.fact 45 rfl))
    (c.def_ 3 (d := hd_is_name) rfl)
    (eq_of (c.fact 46 rfl))
    (c.def_ 4 (d := hd_need_registers) rfl)
    (eq_of (c.fact 47 rfl))
    (c.def_ 5 (d := hd_is_one_of) rfl)
    (eq_of (c.fact 48 rfl))
    (c.def_ 6 (d := hd_is_test) rfl)
    (eq_of (c.fact 49 rfl))
    (c.def_ 7 (d := hd_is_step) rfl)
    (eq_of (c.fact 50 rfl))
    (c.def_ 8 (d := hd_are_steps) rfl)
    (eq_of (c.fact 51 rfl))
    (c.def_ 9 (d := hd_is_line) rfl)
    (c.def_ 10 (d := hd_Rule_init) rfl)
    (c.def_ 11 (d := hd_Rule_eq) rfl)
    (c.def_ 12 (d := hd_File_init) rfl)
    (c.def_ 13 (d := hd_File_eq) rfl)
    (eq_of (c.fact 52 rfl))
    (c.def_ 14 (d := hd_law_source) rfl)
    (eq_of (c.fact 53 rfl))
    (c.def_ 15 (d := hd_law_draw) rfl)
    (eq_of (c.fact 54 rfl))
    (c.def_ 16 (d := hd_law_pick) rfl)
    (eq_of (c.fact 55 rfl))
    (c.def_ 17 (d := hd_law_mixed) rfl)
    (eq_of (c.fact 56 rfl))
    (c.def_ 18 (d := hd_law_steps) rfl)
    (eq_of (c.fact 57 rfl))
    (c.def_ 19 (d := hd_law_tests) rfl)
    (eq_of (c.fact 58 rfl))
    (c.def_ 20 (d := hd_law_good) rfl)
    (eq_of (c.fact 59 rfl))
    (c.def_ 21 (d := hd_law_noted_as) rfl)
    (eq_of (c.fact 60 rfl))
    (c.def_ 22 (d := hd_law_plan) rfl)
    (eq_of (c.fact 61 rfl))
    (c.def_ 23 (d := hd_law_rule) rfl)
    (eq_of (c.fact 62 rfl))
    (c.def_ 24 (d := hd_law_changed) rfl)
    (eq_of (c.fact 63 rfl))
    (c.def_ 25 (d := hd_law) rfl)
    law_true
end ML
open PySem PySem.W PyProof.Rows in
set_option maxRecDepth 100000 in
set_option maxHeartbeats 0 in
theorem PySem.Challenge.cw_stillmine_k02_rules_compared_holds : PySem.Challenge.rw_stillmine_k02_rules_compared.Holds := by
  w_on; o_law
  refine HandSHeadRun.head_any (r := OpenLaw.row PySem.Challenge.rw_stillmine_k02_rules_compared) (q := view (OpenLaw.row PySem.Challenge.rw_stillmine_k02_rules_compared).prog [49]) (H := ML.hookM ML.hxs ML.hchk ML.hfn) (ob := ML.obM ML.hxs ML.hchk ML.hfn) (M := 9000) (loose := ML.hnames) (d := HandSHeadRun.topDef (OpenLaw.row PySem.Challenge.rw_stillmine_k02_rules_compared).prog 49) (kwd := []) ML.obM_eq
    (by kernel_rfl) (fun s => by kernel_rfl) ML.h_run (by kernel_rfl) (by kernel_rfl) (by kernel_rfl) (by rfl) (by first | assumption | decide +kernel) (by decide +kernel) ⟨rfl, rfl, rfl, rfl, rfl, by decide +kernel⟩ ?hw ?hc
  case hw => w_witness2
  case hc =>
    refine ML.walkE (l := PySem.Challenge.rw_stillmine_k02_rules_compared) (Z := ML.SaysM ML.hchk ML.hfn) rfl (by kernel_rfl) (fun w h Y => Y) ?F
    intro w K mg fa h KX c G hmg0
    have hmg : mg ("law" : PySem.Str) = some (.ref fa) := by
      have e : (HandSHeadRun.topDef (OpenLaw.row PySem.Challenge.rw_stillmine_k02_rules_compared).prog 49).name = ("law" : PySem.Str) := by kernel_rfl
      rw [← e]
      exact hmg0
    exact ML.h_all KX c G hmg
#print axioms PySem.Challenge.cw_stillmine_k02_rules_compared_holds
