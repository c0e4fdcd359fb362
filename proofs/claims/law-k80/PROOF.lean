import PyProof.Rows.All
import Wide.All
import OpenK.AllK
import Wide.FinOn
import HandS.ForMost
import HandS.ForExc
import HandS.IsInst
import HandS.Wide
import HandS.SetKeys
import HandS.ExcInit
import HandS.Defaults
import HandS.Property
import HandS.Deep
import HandS.FStr
import HandS.TryMany
import HandS.Zip
import HandS.CallSlots
import KE.KDictCopyH
import HandS.Walk
import HandS.Style
import HandS.TupAny
import HandS.RevTup
import HandS.Small
import HandS.More
import KE.KExcIs
import HandS.ExcField
import HandS.EndBits
import PyProof.ReprRoads
import HandS.Star
import HandS.DictComp
import HandS.Strs
import PyProof.Rows.StrRev
import KE.GoesEnum
import HandS.OwnEq
import HandS.SlotsOwn
import PyProof.InstNe
import PyProof.EqKinds
import PyProof.FactsAll.dict
import HandS.TupMul
import HandS.HeadHook1
import HandS.NoneIn
import PyProof.StrBlock2
import KE.KEqNest
import HandS.MakeKwOnly
import HandS.Conv
import KE.KDictSum
import KE.GoesMore
import HandS.Text
import KE.KDictDisplayH
import KE.KDictList
import KE.KDictZip
import KE.SortData
import HandS.ExcValue
import HandS.Set
import HandS.SetFor
import KE.KDictPairs
import KE.SortKeyHeap
import PyProof.Rows.CallKwBuiltin
import HandS.CallLocal
import KE.KStateDown
import HandS.Head0
import HandS.Head1
import HandS.Head2
import PySem.Challenge.RW_stillmine_k80_texts_of_rules
import KE.KeyNested
set_option Elab.async false
set_option linter.all false
set_option maxRecDepth 100000
set_option maxHeartbeats 4000000
namespace ML
open PySem PySem.Spec PyProof.Rows L2
/-- a mirror value: tuples stand as they are; ref n: the n-th object of the mirror heap; glb x: what the module's name x holds (a class, a def) -/
inductive D where
  | non | bl (b : Bool) | int (i : Int) | str (s : Str) | ty (n : String)
  | tup (l : List D) | ref (n : Nat) | glb (x : Str)
/-- a mirror object -/
inductive O where
  | lst (l : List D) | rdl (l : List D) | dct (kvs : List (Key × D)) | ins (c : Str) (fs : List (Str × D)) | xc (c : Str) (fs : List (Str × D)) | gone | ndc (kvs : List (Leaf × D)) | nkd (kvs : List (D × D))
abbrev MH := List O
abbrev Env := List (Option D)
inductive R (α : Type) where
  | ok (a : α) (h : MH) | exc (c : Str) (fs : List (Str × D)) (h : MH) | bad
inductive S where
  | nx (e : Env) (h : MH) | rt (d : D) (h : MH) | bk (e : Env) (h : MH) | ct (e : Env) (h : MH) | exc (c : Str) (fs : List (Str × D)) (e : Env) (h : MH) | bad
abbrev EM := Env → MH → R D
abbrev TM := Env → MH → R Bool
abbrev AM := Env → MH → R (List D)
abbrev SM := Env → MH → S
abbrev FM := List D → MH → R D
def R.bind {α β : Type} (r : R α) (f : α → MH → R β) : R β := match r with
  | .ok a h => f a h
  | .exc c fs h => .exc c fs h
  | .bad => .bad
structure Gd where
  K : PySem.W.Frag
  mg : Str → Option Value
  P : Program
  w : World
abbrev gd (X : Cx) : Gd := ⟨X.K, X.mg, X.prog, X.w⟩
/-- a dict with keys None, ints, texts -/
def ndO (P : Program) (w : World) (a : Addr) (kvs : List (Leaf × V)) : HO := .ext fun h => kvs.length ≤ sizeLine ∧ (a == sysModules) = false ∧ (kvs.map (·.1)).head? = some Leaf.none ∧ ∃ vs, KV kvs vs ∧ h.DictOf (leafKind P w) a vs
mutual
def nkD : D → NestedKey
  | .non => .none
  | .bl b => .num (if b = true then 1 else 0)
  | .int i => .num i
  | .str s => .text s
  | .ty _ => .none
  | .tup l => .tup (nkDs l)
  | .ref _ => .none
  | .glb _ => .none
def nkDs : List D → List NestedKey
  | [] => []
  | d :: l => nkD d :: nkDs l
end
def nkOk : Nat → D → Bool
  | 0, _ => false
  | n + 1, d => match d with
    | .non => true
    | .bl _ => true
    | .int _ => true
    | .str _ => true
    | .tup l => l.all (nkOk n)
    | _ => false
/-- what can be a key of such a dict -/
def nkey (d : D) : Bool := match d with
  | .tup _ => nkOk 5 d
  | _ => false
def nkO (P : Program) (w : World) (a : Addr) (xs : List (NestedKey × Addr × V)) : HO := .ext fun h => xs.length ≤ sizeLine ∧ (a == sysModules) = false ∧ (∃ ks, (xs.map (·.1)).head? = some (NestedKey.tup ks)) ∧ (xs.map (·.1)).Nodup ∧
  ∃ us : List (NestedKey × Addr × Value), Paired (fun (p : NestedKey × Addr × V) (q : NestedKey × Addr × Value) => p.1 = q.1 ∧ p.2.1 = q.2.1 ∧ RelV p.2.2 q.2.2) xs us ∧
    ∃ o es ep, h.get? a = some o ∧ o.ExactDict ∧ o.data = .dict es ep ∧ es.toList = us.map (entryOfKey (nestedKind P w))
/-- an error's object, an error's dict: they stay -/
def xk (a : Addr) (u : HO) : Prop := (∃ C dx, u = exo a C (some dx)) ∨ ∃ gs, u = exd a gs
section
variable (g : Gd) (ρ : List Addr) (H : Hp)
mutual
def RD : D → V → Prop
  | .non, v => v = .non
  | .bl b, v => v = .bl b
  | .int i, v => v = .int i
  | .str s, v => v = .str s
  | .ty n, v => v = .ty n
  | .tup l, v => ∃ a vs, v = .ref a ∧ SqT g.K H a vs ∧ RDs l vs
  | .ref n, v => ∃ a, ρ[n]? = some a ∧ v = .ref a
  | .glb x, v => ∃ a, g.mg x = some (.ref a) ∧ v = .ref a
def RDs : List D → List V → Prop
  | [], vs => vs = []
  | d :: l, vs => ∃ v r, vs = v :: r ∧ RD d v ∧ RDs l r
end
def RP {α : Type} : List (α × D) → List (α × V) → Prop
  | [], l => l = []
  | (f, d) :: r, l => ∃ v s, l = (f, v) :: s ∧ RD g ρ H d v ∧ RP r s
def RN : List (D × D) → List (NestedKey × Addr × V) → Prop
  | [], l => l = []
  | (k, d) :: r, l => ∃ q v s, l = (nkD k, q, v) :: s ∧ nkey k = true ∧ RD g ρ H k (.ref q) ∧ RD g ρ H d v ∧ RN r s
/-- a list that is read alone: the script, a list of the written part -/
def RdL (K : PySem.W.Frag) (H : Hp) (a : Addr) (vs : List V) : Prop := (∃ o, H a = some (.frz o (.lst vs))) ∨
  ∃ (o : Obj) (its : Array Value) (n : Nat), K.lookup a = some o ∧ o.cls = .type "list" ∧ o.dict = none ∧ o.data = .seq its n ∧ its.size ≤ sizeLine ∧ Vals vs its.toList
def RO : O → Addr → Prop
  | .lst l, a => ∃ vs, H a = some (.lst vs) ∧ RDs g ρ H l vs
  | .rdl l, a => ∃ vs, RdL g.K H a vs ∧ RDs g ρ H l vs
  | .dct kvs, a => ∃ ws, H a = some (.dK ws) ∧ RP g ρ H kvs ws
  | .ins c fs, a => ∃ C dx gs, g.mg c = some (.ref C) ∧ H a = some (.ins C dx gs) ∧ RP g ρ H fs gs
  | .xc c fs, a => ∃ C dx gs, g.mg c = some (.ref C) ∧ H a = some (exo a C (some dx)) ∧ H dx = some (exd dx gs) ∧ RP g ρ H fs gs
  | .gone, _ => True
  | .ndc kvs, a => ∃ ws, H a = some (ndO g.P g.w a ws) ∧ RP g ρ H kvs ws
  | .nkd kvs, a => ∃ ws, H a = some (nkO g.P g.w a ws) ∧ RN g ρ H kvs ws
def O.mut : O → Bool
  | .lst _ => true
  | .dct _ => true
  | .ins _ _ => true
  | .ndc _ => true
  | .nkd _ => true
  | _ => false
structure RH (h : MH) : Prop where
  len : ρ.length = h.length
  obj : ∀ (n : Nat) o a, h[n]? = some o → ρ[n]? = some a → RO g ρ H o a
  inj : ∀ (n m : Nat) o o' a, h[n]? = some o → h[m]? = some o' → o.mut = true → o'.mut = true → ρ[n]? = some a → ρ[m]? = some a → n = m
/-- the slots -/
structure RS (e : Env) (σ : L2.St) : Prop where
  len : e.length = σ.length
  get : ∀ (i : Nat) d, e[i]? = some (some d) → ∃ v, σ[i]? = some (some v) ∧ RD g ρ H d v
end
/-- what stays: addresses, tuples, errors' dicts, frozen things -/
structure Lat (g : Gd) (ρ : List Addr) (H : Hp) (ρ' : List Addr) (H' : Hp) : Prop where
  pre : ∃ t, ρ' = ρ ++ t
  tup : ∀ a xs, H a = some (.tup xs) → H' a = some (.tup xs)
  frz : ∀ a o u, H a = some (.frz o u) → H' a = some (.frz o u)
  xd : ∀ a fs, H a = some (.xd fs) → H' a = some (.xd fs)
  ext : ∀ a φ, xk a (.ext φ) → H a = some (.ext φ) → H' a = some (.ext φ)
section
variable {g : Gd} {ρ ρ' ρ'' : List Addr} {H H' H'' : Hp} {h h' : MH}
theorem Lat.refl : Lat g ρ H ρ H := ⟨⟨[], by simp⟩, fun _ _ e => e, fun _ _ _ e => e, fun _ _ e => e, fun _ _ _ e => e⟩
theorem Lat.trans (a : Lat g ρ H ρ' H') (b : Lat g ρ' H' ρ'' H'') : Lat g ρ H ρ'' H'' := by
  obtain ⟨t, e⟩ := a.pre
  obtain ⟨u, e'⟩ := b.pre
  exact ⟨⟨t ++ u, by rw [e', e, List.append_assoc]⟩, fun x xs q => b.tup x xs (a.tup x xs q), fun x o u q => b.frz x o u (a.frz x o u q), fun x fs q => b.xd x fs (a.xd x fs q), fun x φ k q => b.ext x φ k (a.ext x φ k q)⟩
theorem Lat.sqT (a : Lat g ρ H ρ' H') {x : Addr} {xs : List V} (q : SqT g.K H x xs) : SqT g.K H' x xs := by
  rcases q with (q | ⟨o, q⟩) | q
  · exact .inl (.inl (a.tup _ _ q))
  · exact .inl (.inr ⟨o, a.frz _ _ _ q⟩)
  · exact .inr q
theorem Lat.at (a : Lat g ρ H ρ' H') {n : Nat} {x : Addr} (q : ρ[n]? = some x) : ρ'[n]? = some x := by
  obtain ⟨t, e⟩ := a.pre
  rw [e]
  rw [List.getElem?_append_left (List.getElem?_eq_some_iff.mp q).1]
  exact q
mutual
theorem Lat.rd (a : Lat g ρ H ρ' H') : ∀ (d : D) {v : V}, RD g ρ H d v → RD g ρ' H' d v
  | .non, _, q => q
  | .bl _, _, q => q
  | .int _, _, q => q
  | .str _, _, q => q
  | .ty _, _, q => q
  | .tup l, _, q => by
    unfold RD at q ⊢
    obtain ⟨x, vs, e, s, r⟩ := q
    exact ⟨x, vs, e, a.sqT s, Lat.rds a l r⟩
  | .ref n, _, q => by
    unfold RD at q ⊢
    obtain ⟨x, e, r⟩ := q
    exact ⟨x, a.at e, r⟩
  | .glb _, _, q => by
    unfold RD at q ⊢
    exact q
theorem Lat.rds (a : Lat g ρ H ρ' H') : ∀ (l : List D) {vs : List V}, RDs g ρ H l vs → RDs g ρ' H' l vs
  | [], _, q => by
    unfold RDs at q ⊢
    exact q
  | d :: l, _, q => by
    unfold RDs at q ⊢
    obtain ⟨v, r, e, q1, q2⟩ := q
    exact ⟨v, r, e, Lat.rd a d q1, Lat.rds a l q2⟩
end
theorem Lat.rp {α : Type} (a : Lat g ρ H ρ' H') : ∀ (l : List (α × D)) {vs : List (α × V)}, RP g ρ H l vs → RP g ρ' H' l vs
  | [], _, q => q
  | (f, d) :: l, _, q => by
    obtain ⟨v, r, e, q1, q2⟩ := q
    exact ⟨v, r, e, a.rd d q1, Lat.rp a l q2⟩
theorem Lat.rn (a : Lat g ρ H ρ' H') : ∀ (l : List (D × D)) {vs : List (NestedKey × Addr × V)}, RN g ρ H l vs → RN g ρ' H' l vs
  | [], _, q => q
  | (k, d) :: l, _, q => by
    obtain ⟨x, v, r, e, nk, q0, q1, q2⟩ := q
    exact ⟨x, v, r, e, nk, a.rd k q0, a.rd d q1, Lat.rn a l q2⟩
theorem Lat.rs (a : Lat g ρ H ρ' H') {e : Env} {σ : L2.St} (q : RS g ρ H e σ) : RS g ρ' H' e σ := ⟨q.len, fun i d z => by
  obtain ⟨v, z1, z2⟩ := q.get i d z
  exact ⟨v, z1, a.rd d z2⟩⟩
theorem RDs.length : ∀ {l : List D} {vs : List V}, RDs g ρ H l vs → l.length = vs.length
  | [], _, q => by unfold RDs at q; subst q; rfl
  | d :: l, _, q => by
    unfold RDs at q
    obtain ⟨v, r, e, _, q2⟩ := q
    subst e
    simp [RDs.length q2]
theorem RDs.get : ∀ {l : List D} {vs : List V} {i : Nat} {d : D}, RDs g ρ H l vs → l[i]? = some d → ∃ v, vs[i]? = some v ∧ RD g ρ H d v
  | [], _, i, d, q, e => by simp at e
  | x :: l, _, 0, d, q, e => by
    unfold RDs at q
    obtain ⟨v, r, e', q1, q2⟩ := q
    subst e'
    simp at e
    subst e
    exact ⟨v, rfl, q1⟩
  | x :: l, _, i + 1, d, q, e => by
    unfold RDs at q
    obtain ⟨v, r, e', q1, q2⟩ := q
    subst e'
    obtain ⟨w, a, b⟩ := RDs.get (i := i) (d := d) q2 (by simpa using e)
    exact ⟨w, by simpa using a, b⟩
theorem RDs.get' : ∀ {l : List D} {vs : List V} {i : Nat} {v : V}, RDs g ρ H l vs → vs[i]? = some v → ∃ d, l[i]? = some d ∧ RD g ρ H d v := fun {l vs i v} q e => by
  have hi : i < l.length := by rw [q.length]; exact (List.getElem?_eq_some_iff.mp e).1
  obtain ⟨w, e1, r⟩ := RDs.get (d := l[i]) q (List.getElem?_eq_getElem hi)
  rw [e] at e1
  cases e1
  exact ⟨l[i], List.getElem?_eq_getElem hi, r⟩
theorem RDs.append : ∀ {l m : List D} {vs ws : List V}, RDs g ρ H l vs → RDs g ρ H m ws → RDs g ρ H (l ++ m) (vs ++ ws)
  | [], _, _, _, q, r => by unfold RDs at q; subst q; exact r
  | d :: l, m, _, ws, q, r => by
    unfold RDs at q
    obtain ⟨v, s, e, q1, q2⟩ := q
    subst e
    rw [List.cons_append]
    unfold RDs
    exact ⟨v, s ++ ws, rfl, q1, RDs.append q2 r⟩
theorem RDs.nil : RDs g ρ H [] [] := by unfold RDs; rfl
theorem RDs.cons {d : D} {v : V} {l : List D} {vs : List V} (a : RD g ρ H d v) (b : RDs g ρ H l vs) : RDs g ρ H (d :: l) (v :: vs) := by unfold RDs; exact ⟨v, vs, rfl, a, b⟩
theorem RDs.one {d : D} {v : V} (a : RD g ρ H d v) : RDs g ρ H [d] [v] := .cons a .nil
theorem RDs.inv {d : D} {l : List D} {vs : List V} (q : RDs g ρ H (d :: l) vs) : ∃ v r, vs = v :: r ∧ RD g ρ H d v ∧ RDs g ρ H l r := by unfold RDs at q; exact q
theorem RDs.invNil {vs : List V} (q : RDs g ρ H [] vs) : vs = [] := by unfold RDs at q; exact q
theorem RDs.take : ∀ {l : List D} {vs : List V} (n : Nat), RDs g ρ H l vs → RDs g ρ H (l.take n) (vs.take n)
  | _, _, 0, _ => by simp only [List.take_zero]; exact .nil
  | [], _, n + 1, q => by rw [q.invNil]; simp only [List.take_nil]; exact .nil
  | d :: l, _, n + 1, q => by
    obtain ⟨v, r, e, q1, q2⟩ := q.inv
    subst e
    simp only [List.take_succ_cons]
    exact .cons q1 (RDs.take n q2)
theorem RDs.drop : ∀ {l : List D} {vs : List V} (n : Nat), RDs g ρ H l vs → RDs g ρ H (l.drop n) (vs.drop n)
  | _, _, 0, q => q
  | [], _, n + 1, q => by rw [q.invNil]; simp only [List.drop_nil]; exact .nil
  | d :: l, _, n + 1, q => by
    obtain ⟨v, r, e, q1, q2⟩ := q.inv
    subst e
    exact RDs.drop n q2
theorem RDs.set : ∀ {l : List D} {vs : List V} {d : D} {v : V} (n : Nat), RDs g ρ H l vs → RD g ρ H d v → RDs g ρ H (l.set n d) (vs.set n v)
  | [], _, _, _, n, q, _ => by rw [q.invNil]; exact .nil
  | x :: l, _, d, w, 0, q, r => by
    obtain ⟨v, s, e, q1, q2⟩ := q.inv
    subst e
    exact .cons r q2
  | x :: l, _, d, w, n + 1, q, r => by
    obtain ⟨v, s, e, q1, q2⟩ := q.inv
    subst e
    exact .cons q1 (RDs.set n q2 r)
theorem RDs.reverse {l : List D} {vs : List V} (q : RDs g ρ H l vs) : RDs g ρ H l.reverse vs.reverse := by
  induction l generalizing vs with
  | nil => rw [q.invNil]; exact .nil
  | cons d l ih =>
    obtain ⟨v, r, e, q1, q2⟩ := q.inv
    subst e
    rw [List.reverse_cons, List.reverse_cons]
    exact (ih q2).append (.one q1)
theorem RDs.eraseIdx : ∀ {l : List D} {vs : List V} (n : Nat), RDs g ρ H l vs → RDs g ρ H (l.eraseIdx n) (vs.eraseIdx n)
  | [], _, n, q => by rw [q.invNil]; exact .nil
  | d :: l, _, 0, q => by
    obtain ⟨v, s, e, q1, q2⟩ := q.inv
    subst e
    exact q2
  | d :: l, _, n + 1, q => by
    obtain ⟨v, s, e, q1, q2⟩ := q.inv
    subst e
    exact .cons q1 (RDs.eraseIdx n q2)
/-- what may be written over without loss -/
def Soft (H : Hp) (p : Addr) : Prop := ∀ u, H p = some u → (∀ xs, u ≠ .tup xs) ∧ (∀ o w, u ≠ .frz o w) ∧ (∀ fs, u ≠ .xd fs) ∧ (∀ φ, xk p (.ext φ) → u ≠ .ext φ)
theorem Soft.none {p : Addr} (e : H p = none) : Soft H p := fun u q => by rw [e] at q; cases q
theorem Soft.lst {p : Addr} {xs : List V} (e : H p = some (.lst xs)) : Soft H p := fun u q => by
  rw [e] at q; cases q
  exact ⟨fun _ z => (nomatch z), fun _ _ z => (nomatch z), fun _ z => (nomatch z), fun _ _ z => (nomatch z)⟩
theorem Soft.dK {p : Addr} {xs : List (Key × V)} (e : H p = some (.dK xs)) : Soft H p := fun u q => by
  rw [e] at q; cases q
  exact ⟨fun _ z => (nomatch z), fun _ _ z => (nomatch z), fun _ z => (nomatch z), fun _ _ z => (nomatch z)⟩
theorem Soft.ins {p C dx : Addr} {xs : List (Str × V)} (e : H p = some (.ins C dx xs)) : Soft H p := fun u q => by
  rw [e] at q; cases q
  exact ⟨fun _ z => (nomatch z), fun _ _ z => (nomatch z), fun _ z => (nomatch z), fun _ _ z => (nomatch z)⟩
theorem Lat.upd {p : Addr} {u : HO} (s : Soft H p) : Lat g ρ H ρ (L2.upd H p u) :=
  ⟨⟨[], by simp⟩, fun a xs e => by
      rw [upd_ne]; exact e
      intro z; subst z; exact (s _ e).1 _ rfl,
    fun a o w e => by
      rw [upd_ne]; exact e
      intro z; subst z; exact (s _ e).2.1 _ _ rfl,
    fun a fs e => by
      rw [upd_ne]; exact e
      intro z; subst z; exact (s _ e).2.2.1 _ rfl,
    fun a fs k e => by
      rw [upd_ne]; exact e
      intro z; subst z; exact (s _ e).2.2.2 _ k rfl⟩
theorem Lat.more {p : Addr} : Lat g ρ H (ρ ++ [p]) H := ⟨⟨[p], rfl⟩, fun _ _ e => e, fun _ _ _ e => e, fun _ _ e => e, fun _ _ _ e => e⟩
theorem Lat.new {p : Addr} {u : HO} (s : Soft H p) : Lat g ρ H (ρ ++ [p]) (L2.upd H p u) := (Lat.upd s).trans Lat.more
theorem Lat.rdl (a : Lat g ρ H ρ' H') {x : Addr} {vs : List V} (q : RdL g.K H x vs) : RdL g.K H' x vs := by
  rcases q with ⟨o, q⟩ | q
  · exact .inl ⟨o, a.frz _ _ _ q⟩
  · exact .inr q
/-- an object's relation where its own place is kept -/
theorem Lat.ro (a : Lat g ρ H ρ' H') {x : Addr} (hx : ∀ u, H x = some u → H' x = some u) : ∀ (o : O), RO g ρ H o x → RO g ρ' H' o x
  | .lst l, q => by
    obtain ⟨vs, e, r⟩ := q
    exact ⟨vs, hx _ e, a.rds l r⟩
  | .rdl l, q => by
    obtain ⟨vs, e, r⟩ := q
    exact ⟨vs, a.rdl e, a.rds l r⟩
  | .dct l, q => by
    obtain ⟨vs, e, r⟩ := q
    exact ⟨vs, hx _ e, a.rp l r⟩
  | .ins c fs, q => by
    obtain ⟨C, dx, gs, e1, e2, r⟩ := q
    exact ⟨C, dx, gs, e1, hx _ e2, a.rp fs r⟩
  | .xc c fs, q => by
    obtain ⟨C, dx, gs, e1, e2, e3, r⟩ := q
    exact ⟨C, dx, gs, e1, a.ext _ _ (.inl ⟨_, _, rfl⟩) e2, a.ext _ _ (.inr ⟨_, rfl⟩) e3, a.rp fs r⟩
  | .gone, _ => True.intro
  | .ndc l, q => by
    obtain ⟨vs, e, r⟩ := q
    exact ⟨vs, hx _ e, a.rp l r⟩
  | .nkd l, q => by
    obtain ⟨vs, e, r⟩ := q
    exact ⟨vs, hx _ e, a.rn l r⟩
theorem Lat.ro' (a : Lat g ρ H ρ' H') {x : Addr} {c : Str} {fs : List (Str × D)} (q : RO g ρ H (.xc c fs) x) : RO g ρ' H' (.xc c fs) x := by
  obtain ⟨C, dx, gs, e1, e2, e3, r⟩ := q
  exact ⟨C, dx, gs, e1, a.ext _ _ (.inl ⟨_, _, rfl⟩) e2, a.ext _ _ (.inr ⟨_, rfl⟩) e3, a.rp fs r⟩
theorem RO.there {o : O} {x : Addr} (q : RO g ρ H o x) (m : o.mut = true) : H x ≠ none := by
  cases o with
  | lst l => obtain ⟨vs, e, _⟩ := q; rw [e]; exact fun z => nomatch z
  | rdl l => cases m
  | dct l => obtain ⟨vs, e, _⟩ := q; rw [e]; exact fun z => nomatch z
  | ins c fs => obtain ⟨C, dx, gs, _, e, _⟩ := q; rw [e]; exact fun z => nomatch z
  | xc c fs => cases m
  | gone => cases m
  | ndc l => obtain ⟨vs, e, _⟩ := q; rw [e]; exact fun z => nomatch z
  | nkd l => obtain ⟨vs, e, _⟩ := q; rw [e]; exact fun z => nomatch z
/-- a heap in which nothing of the mirror's has changed -/
theorem RH.lat (q : RH g ρ H h) (a : Lat g ρ H ρ H') (hx : ∀ (n : Nat) o x u, h[n]? = some o → o.mut = true → ρ[n]? = some x → H x = some u → H' x = some u) : RH g ρ H' h := by
  refine ⟨q.len, fun n o x e1 e2 => ?_, q.inj⟩
  have r := q.obj n o x e1 e2
  by_cases m : o.mut = true
  · exact a.ro (fun u z => hx n o x u e1 m e2 z) o r
  · cases o with
    | lst l => exact absurd rfl m
    | rdl l => obtain ⟨vs, e, r⟩ := r; exact ⟨vs, a.rdl e, a.rds l r⟩
    | dct l => exact absurd rfl m
    | ins c fs => exact absurd rfl m
    | xc c fs => exact a.ro' (by assumption)
    | gone => exact True.intro
    | ndc l => exact absurd rfl m
    | nkd l => exact absurd rfl m
/-- a new thing that the mirror does not name (a tuple) -/
theorem RH.upd {p : Addr} {u : HO} (q : RH g ρ H h) (e : H p = none) : RH g ρ (L2.upd H p u) h :=
  q.lat (Lat.upd (Soft.none e)) fun n o x v e1 m e2 z => by rw [upd_ne (ne_of_none z e)]; exact z
/-- a new object -/
theorem RH.new {p : Addr} {u : HO} {o : O} (q : RH g ρ H h) (e : H p = none) (r : RO g (ρ ++ [p]) (L2.upd H p u) o p) : RH g (ρ ++ [p]) (L2.upd H p u) (h ++ [o]) := by
  have q' := q.upd (u := u) e
  have lt : ∀ {n : Nat} {x : Addr}, (ρ ++ [p])[n]? = some x → n < ρ.length ∧ ρ[n]? = some x ∨ n = ρ.length ∧ x = p := fun {n x} z => by
    by_cases hn : n < ρ.length
    · rw [List.getElem?_append_left hn] at z
      exact .inl ⟨hn, z⟩
    · have hn' : n < (ρ ++ [p]).length := (List.getElem?_eq_some_iff.mp z).1
      have : n = ρ.length := by simp at hn'; omega
      subst this
      simp at z
      exact .inr ⟨rfl, z.symm⟩
  have lo : ∀ {n : Nat} {y : O}, n < ρ.length → (h ++ [o])[n]? = some y → h[n]? = some y := fun {n y} hn z => by
    rw [List.getElem?_append_left (by rw [← q.len]; exact hn)] at z
    exact z
  have lo' : ∀ {y : O}, (h ++ [o])[ρ.length]? = some y → y = o := fun {y} z => by
    rw [q.len] at z
    simp at z
    exact z.symm
  refine ⟨by simp [q.len], fun n y x e1 e2 => ?_, fun n m y y' x e1 e2 m1 m2 e3 e4 => ?_⟩
  · rcases lt e2 with ⟨hn, z⟩ | ⟨hn, z⟩
    · exact (Lat.more (g := g) (ρ := ρ) (H := L2.upd H p u) (p := p)).ro (fun _ z => z) y (q'.obj n y x (lo hn e1) z)
    · subst hn z
      rw [lo' e1]
      exact r
  · have old : ∀ {n : Nat} {y : O}, n < ρ.length → (h ++ [o])[n]? = some y → y.mut = true → ρ[n]? = some p → False := fun {n y} hn z m z2 => (q.obj n y p (lo hn z) z2).there m e
    rcases lt e3 with ⟨hn, z⟩ | ⟨hn, z⟩
    · rcases lt e4 with ⟨hm, z'⟩ | ⟨hm, z'⟩
      · exact q.inj n m y y' x (lo hn e1) (lo hm e2) m1 m2 z z'
      · subst z'
        exact (old hn e1 m1 z).elim
    · rcases lt e4 with ⟨hm, z'⟩ | ⟨hm, z'⟩
      · subst z
        exact (old hm e2 m2 z').elim
      · rw [hn, hm]
/-- an object is changed -/
theorem RH.set {n : Nat} {p : Addr} {u : HO} {o o' : O} (q : RH g ρ H h) (e1 : h[n]? = some o) (e2 : ρ[n]? = some p) (m : o.mut = true) (m' : o'.mut = true) (s : Soft H p) (r : RO g ρ (L2.upd H p u) o' p) :
    RH g ρ (L2.upd H p u) (h.set n o') := by
  have hn : n < h.length := (List.getElem?_eq_some_iff.mp e1).1
  have back : ∀ {k : Nat} {y : O}, (h.set n o')[k]? = some y → (k = n ∧ y = o') ∨ (k ≠ n ∧ h[k]? = some y) := fun {k y} z => by
    by_cases hk : k = n
    · subst hk
      rw [List.getElem?_set_self hn] at z
      cases z
      exact .inl ⟨rfl, rfl⟩
    · rw [List.getElem?_set_ne (Ne.symm hk)] at z
      exact .inr ⟨hk, z⟩
  refine ⟨by rw [q.len, List.length_set], fun k y x z1 z2 => ?_, fun k j y y' x z1 z2 w1 w2 z3 z4 => ?_⟩
  · rcases back z1 with ⟨hk, hy⟩ | ⟨hk, z⟩
    · subst hk hy
      rw [e2] at z2
      cases z2
      exact r
    · have ro := q.obj k y x z z2
      have lat : Lat g ρ H ρ (L2.upd H p u) := Lat.upd s
      by_cases my : y.mut = true
      · have hx : x ≠ p := fun w => by
          subst w
          exact hk (q.inj k n y o x z e1 my m z2 e2)
        exact lat.ro (fun v w => by rw [upd_ne hx]; exact w) y ro
      · cases y with
        | lst l => exact absurd rfl my
        | rdl l => obtain ⟨vs, e, r⟩ := ro; exact ⟨vs, lat.rdl e, lat.rds l r⟩
        | dct l => exact absurd rfl my
        | ins c fs => exact absurd rfl my
        | xc c fs => exact lat.ro' ro
        | gone => exact True.intro
        | ndc l => exact absurd rfl my
        | nkd l => exact absurd rfl my
  · have key : ∀ {k : Nat} {y : O}, (h.set n o')[k]? = some y → y.mut = true → ∃ w, h[k]? = some w ∧ w.mut = true := fun {k y} z w => by
      rcases back z with ⟨hk, hy⟩ | ⟨hk, z⟩
      · subst hk
        exact ⟨o, e1, m⟩
      · exact ⟨y, z, w⟩
    obtain ⟨a, a1, a2⟩ := key z1 w1
    obtain ⟨b, b1, b2⟩ := key z2 w2
    exact q.inj k j a b x a1 b1 a2 b2 z3 z4
theorem RS.set {e : Env} {σ : L2.St} {d : D} {v : V} (q : RS g ρ H e σ) (r : RD g ρ H d v) (i : Nat) : RS g ρ H (e.set i (some d)) (σ.set i (some v)) := by
  refine ⟨by simp [q.len], fun j d' z => ?_⟩
  by_cases hj : j = i
  · subst hj
    have hl : j < e.length := by
      have := (List.getElem?_eq_some_iff.mp z).1
      simpa using this
    rw [List.getElem?_set_self hl] at z
    cases z
    exact ⟨v, by rw [List.getElem?_set_self (by rw [← q.len]; exact hl)], r⟩
  · rw [List.getElem?_set_ne (Ne.symm hj)] at z
    obtain ⟨w, z1, z2⟩ := q.get j d' z
    exact ⟨w, by rw [List.getElem?_set_ne (Ne.symm hj)]; exact z1, z2⟩
theorem RS.start {N : List Str} {ds : List D} {vs : List V} (q : RDs g ρ H ds vs) : RS g ρ H (ds.map some ++ List.replicate (N.length - ds.length) none) (L2.start N vs) := by
  unfold L2.start
  have hl := q.length
  refine ⟨by simp [hl], fun i d z => ?_⟩
  by_cases hi : i < ds.length
  · rw [List.getElem?_append_left (by simpa using hi)] at z
    rw [List.getElem?_map] at z
    cases e : ds[i]? with
    | none => rw [e] at z; cases z
    | some d' =>
      rw [e] at z
      have z' : d' = d := by simpa using z
      subst z'
      obtain ⟨v, e1, r⟩ := q.get e
      refine ⟨v, ?_, r⟩
      rw [List.getElem?_append_left (by simp; omega), List.getElem?_map, e1]
      rfl
  · rw [List.getElem?_append_right (by simpa using Nat.le_of_not_lt hi)] at z
    rw [List.getElem?_replicate] at z
    split at z
    · cases z
    · cases z
end
end ML
namespace ML
open PySem PySem.Spec PyProof.Rows L2
def Post {α β : Type} (g : Gd) (Rel : List Addr → Hp → α → β → Prop) (Wf : XK) (ρ : List Addr) (H : Hp) (r : R α) (Q : β → Hp → Prop) : Prop := match r with
  | .ok d h' => ∀ ρ' v H', Lat g ρ H ρ' H' → RH g ρ' H' h' → Rel ρ' H' d v → Q v H'
  | .exc c fs h' => ∀ ρ' H' C dd gs, Lat g ρ H ρ' H' → RH g ρ' H' h' → g.mg c = some (.ref C) → H' dd = some (.xd gs) → RP g ρ' H' fs gs → Wf (.ref C) (some dd) H'
  | .bad => False
/-- what is wished of an exception, and what stays true while an expression is evaluated (in an except suite: where the error is) -/
structure Wx where
  W : WX
  J : List Addr → Hp → L2.St → Prop
  per : ∀ (g : Gd) ρ H ρ' H' σ, Lat g ρ H ρ' H' → J ρ H σ → J ρ' H' σ
abbrev pl (W : WX) : Wx := ⟨W, fun _ _ _ => True, fun _ _ _ _ _ _ _ _ => True.intro⟩
abbrev noW : WX := fun _ _ _ _ => False
structure RX (g : Gd) (W : Wx) (ρ : List Addr) (H : Hp) (e : Env) (σ : L2.St) : Prop where
  s : RS g ρ H e σ
  j : W.J ρ H σ
theorem RX.lat {g : Gd} {W : Wx} {ρ ρ' : List Addr} {H H' : Hp} {e : Env} {σ : L2.St} (s : RX g W ρ H e σ) (l : Lat g ρ H ρ' H') : RX g W ρ' H' e σ := ⟨l.rs s.s, W.per g _ _ _ _ _ l s.j⟩
theorem RS.x {g : Gd} {W : WX} {ρ : List Addr} {H : Hp} {e : Env} {σ : L2.St} (s : RS g ρ H e σ) : RX g (pl W) ρ H e σ := ⟨s, True.intro⟩
def tG {α β : Type} (g : Gd) (Rel : List Addr → Hp → α → β → Prop) (W : Wx) (m : Env → MH → R α) : L2.St → Hp → (β → Hp → Prop) → Prop := fun σ H Q =>
  ∃ ρ e h, RX g W ρ H e σ ∧ RH g ρ H h ∧ Post g Rel (fun c d H' => W.W c d σ H') ρ H (m e h) Q
def RB : List Addr → Hp → Bool → Bool → Prop := fun _ _ a b => b = a
abbrev tE (g : Gd) (W : Wx) (m : EM) : TE := tG g (RD g) W m
abbrev tT (g : Gd) (W : Wx) (m : TM) : TT := tG g RB W m
abbrev tA (g : Gd) (W : Wx) (m : AM) : TA := tG g (RDs g) W m
def PostS (g : Gd) (W : WX) (ρ : List Addr) (H : Hp) (s : S) (N : Ends) : Prop := match s with
  | .nx e h' => ∀ ρ' σ' H', Lat g ρ H ρ' H' → RH g ρ' H' h' → RS g ρ' H' e σ' → N.nx σ' H'
  | .bk e h' => ∀ ρ' σ' H', Lat g ρ H ρ' H' → RH g ρ' H' h' → RS g ρ' H' e σ' → N.bk σ' H'
  | .ct e h' => ∀ ρ' σ' H', Lat g ρ H ρ' H' → RH g ρ' H' h' → RS g ρ' H' e σ' → N.ct σ' H'
  | .rt d h' => ∀ ρ' v H', Lat g ρ H ρ' H' → RH g ρ' H' h' → RD g ρ' H' d v → N.rt v H'
  | .exc c fs e h' => ∀ ρ' σ' H' C dd gs, Lat g ρ H ρ' H' → RH g ρ' H' h' → RS g ρ' H' e σ' → g.mg c = some (.ref C) → H' dd = some (.xd gs) → RP g ρ' H' fs gs → W (.ref C) (some dd) σ' H'
  | .bad => False
def tS (g : Gd) (W : WX) (m : SM) : TS := fun N σ H => ∃ ρ e h, RS g ρ H e σ ∧ RH g ρ H h ∧ PostS g W ρ H (m e h) N
section
variable {α β γ δ : Type} {g : Gd} {Rel : List Addr → Hp → α → β → Prop} {Rel2 : List Addr → Hp → γ → δ → Prop} {Wf : XK} {W : Wx} {W0 : WX} {ρ ρ' : List Addr} {H H' : Hp} {Q Q' : β → Hp → Prop} {r : R α} {h : MH} {σ : L2.St} {e : Env}
theorem Post.later (a : Lat g ρ H ρ' H') (p : Post g Rel Wf ρ H r Q) : Post g Rel Wf ρ' H' r Q := by
  cases r with
  | ok d h => exact fun ρ2 v H2 b => p ρ2 v H2 (a.trans b)
  | exc c fs h => exact fun ρ2 H2 C dd gs b => p ρ2 H2 C dd gs (a.trans b)
  | bad => exact p
theorem Post.mono (p : Post g Rel Wf ρ H r Q) (k : ∀ v H, Q v H → Q' v H) : Post g Rel Wf ρ H r Q' := by
  cases r with
  | ok d h => exact fun ρ2 v H2 b c d => k _ _ (p ρ2 v H2 b c d)
  | exc c fs h => exact p
  | bad => exact p
/-- one part ahead of the rest -/
theorem Post.bind {f : α → MH → R γ} {Q : δ → Hp → Prop} (p : Post g Rel2 Wf ρ H (r.bind f) Q) :
    Post g Rel Wf ρ H r (fun v H1 => ∃ ρ1 d h1, Lat g ρ H ρ1 H1 ∧ RH g ρ1 H1 h1 ∧ Rel ρ1 H1 d v ∧ Post g Rel2 Wf ρ1 H1 (f d h1) Q) := by
  cases r with
  | ok d h => exact fun ρ2 v H2 a b c => ⟨ρ2, d, h, a, b, c, Post.later a p⟩
  | exc c fs h => exact p
  | bad => exact p
theorem Post.okk {d : α} {v : β} (p : Post g Rel Wf ρ H (.ok d h) Q) (b : RH g ρ H h) (c : Rel ρ H d v) : Q v H := p ρ v H Lat.refl b c
theorem tG.mono {m : Env → MH → R α} (p : tG g Rel W m σ H Q) (k : ∀ v H, Q v H → Q' v H) : tG g Rel W m σ H Q' := by
  obtain ⟨ρ, e, h, a, b, c⟩ := p
  exact ⟨ρ, e, h, a, b, c.mono k⟩
theorem PostS.later {N : Ends} {s : S} (a : Lat g ρ H ρ' H') (p : PostS g W0 ρ H s N) : PostS g W0 ρ' H' s N := by
  cases s with
  | nx e h => exact fun ρ2 σ2 H2 b => p ρ2 σ2 H2 (a.trans b)
  | bk e h => exact fun ρ2 σ2 H2 b => p ρ2 σ2 H2 (a.trans b)
  | ct e h => exact fun ρ2 σ2 H2 b => p ρ2 σ2 H2 (a.trans b)
  | rt d h => exact fun ρ2 v H2 b => p ρ2 v H2 (a.trans b)
  | exc c fs e h => exact fun ρ2 σ2 H2 C dd gs b => p ρ2 σ2 H2 C dd gs (a.trans b)
  | bad => exact p
end
theorem PE_of {X : Cx} {e : Expr} {t t' : TE} (h : PE X e t) (i : ∀ σ H Q, t' σ H Q → t σ H Q) : PE X e t' := ⟨fun pins s σ H Q I q => h.run pins s σ H Q I (i _ _ _ q)⟩
theorem PT_of {X : Cx} {e : Expr} {t t' : TT} (h : PT X e t) (i : ∀ σ H Q, t' σ H Q → t σ H Q) : PT X e t' := ⟨fun pins s σ H Q I q => h.run pins s σ H Q I (i _ _ _ q)⟩
theorem PA_of {X : Cx} {e : List Expr} {t t' : TA} (h : PA X e t) (i : ∀ σ H Q, t' σ H Q → t σ H Q) : PA X e t' := ⟨fun pos pins s σ H Q I q => h.run pos pins s σ H Q I (i _ _ _ q)⟩
theorem PS_of {X : Cx} {e : Stmt} {t t' : TS} (h : PS X e t) (i : ∀ N σ H, t' N σ H → t N σ H) : PS X e t' := ⟨fun pins s σ H D I q => h.run pins s σ H D I (i _ _ _ q)⟩
theorem PSs_of {X : Cx} {e : List Stmt} {t t' : TS} (h : PSs X e t) (i : ∀ N σ H, t' N σ H → t N σ H) : PSs X e t' := ⟨fun pins s σ H D I q => h.run pins s σ H D I (i _ _ _ q)⟩
def varE (i : Nat) : EM := fun e h => match e[i]? with
  | some (some d) => .ok d h
  | _ => .bad
def conE (d : D) : EM := fun _ h => .ok d h
def bin (f : D → D → MH → R D) (a b : EM) : EM := fun e h => (a e h).bind fun x h1 => (b e h1).bind fun y h2 => f x y h2
def un (f : D → MH → R D) (a : EM) : EM := fun e h => (a e h).bind fun x h1 => f x h1
def toB : D → MH → R Bool := fun d h => match d with
  | .bl b => .ok b h
  | _ => .bad
def valT (a : EM) : TM := fun e h => (a e h).bind toB
def andT (a b : TM) : TM := fun e h => (a e h).bind fun x h1 => if x then b e h1 else .ok false h1
def orT (a b : TM) : TM := fun e h => (a e h).bind fun x h1 => if x then .ok true h1 else b e h1
def notT (a : TM) : TM := fun e h => (a e h).bind fun x h1 => .ok (!x) h1
/-- and, or, not as values: all but the last a bool -/
def andE (a b : EM) : EM := fun e h => (a e h).bind fun x h1 => (toB x h1).bind fun c h2 => if c then b e h2 else .ok (.bl false) h2
def ifE (t : TM) (a b : EM) : EM := fun e h => (t e h).bind fun c h1 => if c then a e h1 else b e h1
def nilA : AM := fun _ h => .ok [] h
def consA (a : EM) (r : AM) : AM := fun e h => (a e h).bind fun x h1 => (r e h1).bind fun xs h2 => .ok (x :: xs) h2
def onA (f : List D → MH → R D) (a : AM) : EM := fun e h => (a e h).bind fun xs h1 => f xs h1
def tupF : List D → MH → R D := fun xs h => if xs.length ≤ 1000000 then .ok (.tup xs) h else .bad
def lstF : List D → MH → R D := fun xs h => if xs.length ≤ 1000000 then .ok (.ref h.length) (h ++ [.lst xs]) else .bad
theorem big_le {n : Nat} (h : n ≤ 1000000) : n ≤ sizeLine := by rw [sizeLine_eq]; omega
section
variable {X : Cx} {W : Wx} {a b c : Expr} {ma mb mc : EM} {ta tb : TM} {pos : Pos} {es : List Expr} {mas : AM}
theorem e_var (i : Nat) {x : Str} (h : PE X (.Name x pos) (tVar i)) : PE X (.Name x pos) (tE (gd X) W (varE i)) := PE_of h fun σ H Q q => by
  obtain ⟨ρ, e, m, s, hh, p⟩ := q
  unfold varE at p
  split at p
  · rename_i d hd
    obtain ⟨v, e1, r⟩ := s.s.get i d hd
    exact ⟨v, e1, p.okk hh r⟩
  · exact p.elim
theorem e_con {v : V} {d : D} {e : Expr} (h : PE X e (tC v)) (r : ∀ ρ H, RD (gd X) ρ H d v) : PE X e (tE (gd X) W (conE d)) := PE_of h fun σ H Q q => by
  obtain ⟨ρ, e, m, s, hh, p⟩ := q
  exact p.okk hh (r ρ H)
theorem e_int {i j} : PE X (.Constant (.int i) j pos) (tE (gd X) W (conE (.int i))) := e_con pe_int fun _ _ => by unfold RD; rfl
theorem e_bl {i j} : PE X (.Constant (.bool i) j pos) (tE (gd X) W (conE (.bl i))) := e_con pe_bl fun _ _ => by unfold RD; rfl
theorem e_non {j} : PE X (.Constant .none j pos) (tE (gd X) W (conE .non)) := e_con pe_non fun _ _ => by unfold RD; rfl
theorem e_str {i j} : PE X (.Constant (.str i) j pos) (tE (gd X) W (conE (.str i))) := e_con pe_str fun _ _ => by unfold RD; rfl
/-- two parts, then the rest -/
theorem two {α : Type} {g : Gd} {σ : L2.St} {H : Hp} {Q : α → Hp → Prop} {γ : Type} {Rel : List Addr → Hp → γ → α → Prop} {f : D → D → MH → R γ} {k : V → V → Hp → Prop}
    (p : tG g Rel W (fun e h => (ma e h).bind fun x h1 => (mb e h1).bind fun y h2 => f x y h2) σ H Q)
    (hk : ∀ ρ H h x y vx vy, RH g ρ H h → RD g ρ H x vx → RD g ρ H y vy → Post g Rel (fun c d H' => W.W c d σ H') ρ H (f x y h) Q → k vx vy H) :
    tE g W ma σ H fun vx H1 => tE g W mb σ H1 fun vy H2 => k vx vy H2 := by
  obtain ⟨ρ, e, m, s, hh, p⟩ := p
  refine ⟨ρ, e, m, s, hh, p.bind.mono fun vx H1 q => ?_⟩
  obtain ⟨ρ1, x, h1, l1, hh1, rx, p1⟩ := q
  refine ⟨ρ1, e, h1, s.lat l1, hh1, p1.bind.mono fun vy H2 q => ?_⟩
  obtain ⟨ρ2, y, h2, l2, hh2, ry, p2⟩ := q
  exact hk ρ2 H2 h2 x y vx vy hh2 (l2.rd x rx) ry p2
theorem one {α : Type} {g : Gd} {σ : L2.St} {H : Hp} {Q : α → Hp → Prop} {γ : Type} {Rel : List Addr → Hp → γ → α → Prop} {δ ε : Type} {Rel1 : List Addr → Hp → δ → ε → Prop} {m1 : Env → MH → R δ} {f : Env → δ → MH → R γ} {k : ε → Hp → Prop}
    (p : tG g Rel W (fun e h => (m1 e h).bind fun x h1 => f e x h1) σ H Q)
    (hk : ∀ ρ e H h x vx, RX g W ρ H e σ → RH g ρ H h → Rel1 ρ H x vx → Post g Rel (fun c d H' => W.W c d σ H') ρ H (f e x h) Q → k vx H) :
    tG g Rel1 W m1 σ H k := by
  obtain ⟨ρ, e, m, s, hh, p⟩ := p
  refine ⟨ρ, e, m, s, hh, p.bind.mono fun vx H1 q => ?_⟩
  obtain ⟨ρ1, x, h1, l1, hh1, rx, p1⟩ := q
  exact hk ρ1 e H1 h1 x vx (s.lat l1) hh1 rx p1
/-- an operator's reading against its mirror -/
def RF2 (g : Gd) (f : D → D → MH → R D) (r : R2) : Prop := ∀ (Wf : XK) (Q : VK) ρ H h x y vx vy, RH g ρ H h → RD g ρ H x vx → RD g ρ H y vy → Post g (RD g) Wf ρ H (f x y h) Q → r vx vy H Q
def RF1 (g : Gd) (f : D → MH → R D) (r : V → Hp → VK → Prop) : Prop := ∀ (Wf : XK) (Q : VK) ρ H h x vx, RH g ρ H h → RD g ρ H x vx → Post g (RD g) Wf ρ H (f x h) Q → r vx H Q
def RFs (g : Gd) (f : List D → MH → R D) (r : List V → Hp → VK → Prop) : Prop := ∀ (Wf : XK) (Q : VK) ρ H h xs vs, RH g ρ H h → RDs g ρ H xs vs → Post g (RD g) Wf ρ H (f xs h) Q → r vs H Q
theorem e_bin {op : Operator} {r : R2} {f : D → D → MH → R D} (ho : OpR X (binaryOp op) r) (hf : RF2 (gd X) f r) (ha : PE X a (tE (gd X) W ma)) (hb : PE X b (tE (gd X) W mb)) : PE X (.BinOp a op b pos) (tE (gd X) W (bin f ma mb)) :=
  PE_of (pe_op ho ha hb) fun σ H Q q => two q fun ρ H h x y vx vy hh rx ry p => hf _ _ ρ H h x y vx vy hh rx ry p
theorem e_cmp {op : CmpOp} {r : R2} {f : D → D → MH → R D} (ho : OpR X (compareOp op) r) (hf : RF2 (gd X) f r) (ha : PE X a (tE (gd X) W ma)) (hb : PE X b (tE (gd X) W mb)) (hm : behindInMarks op b = false) : PE X (.Compare a [op] [b] pos) (tE (gd X) W (bin f ma mb)) :=
  PE_of (pe_cmpR ho ha hb hm) fun σ H Q q => two q fun ρ H h x y vx vy hh rx ry p => hf _ _ ρ H h x y vx vy hh rx ry p
theorem e_un {op : UnaryOp} {r : V → Hp → VK → Prop} {f : D → MH → R D} (ho : UnR X (unaryOp op) r) (hf : RF1 (gd X) f r) (ha : PE X a (tE (gd X) W ma)) : PE X (.UnaryOp op a pos) (tE (gd X) W (un f ma)) :=
  PE_of (pe_un ho ha) fun σ H Q q => one q fun ρ e H h x vx s hh rx p => hf _ _ ρ H h x vx hh rx p
theorem RD_bl {g : Gd} {ρ : List Addr} {H : Hp} {d : D} {v : V} {k : Bool} (r : RD g ρ H d v) (e : d = .bl k) : v = .bl k := by subst e; unfold RD at r; exact r
/-- a value that is a bool, as a test -/
theorem testOf {σ : L2.St} {H : Hp} {Q : Bool → Hp → Prop} {g : Gd} (q : tT g W (valT ma) σ H Q) : tE g W ma σ H fun x H' => ∃ k, x = .bl k ∧ Q k H' := by
  refine one q fun ρ e H h x vx s hh rx p => ?_
  cases x <;> first | exact p.elim | skip
  rename_i k
  exact ⟨k, RD_bl rx rfl, p.okk hh rfl⟩
theorem t_val {e : Expr} {m : EM} (h : PE X e (tE (gd X) W m)) (he : ∀ whole, isTrue e X.env whole = (do let v ← whole; standAt e.pos; holding [v] (truthy v)) := by intro _; rfl) : PT X e (tT (gd X) W (valT m)) :=
  PT_of (pt_val h he) fun σ H Q q => testOf q
theorem t_cmp {op : CmpOp} {r : R2} {f : D → D → MH → R D} (ho : OpR X (compareOp op) r) (hf : RF2 (gd X) f r) (ha : PE X a (tE (gd X) W ma)) (hb : PE X b (tE (gd X) W mb)) (hm : behindInMarks op b = false) : PT X (.Compare a [op] [b] pos) (tT (gd X) W (valT (bin f ma mb))) :=
  PT_of (pt_cmpR ho ha hb hm) fun σ H Q q => by
    have q' := testOf q
    exact two q' fun ρ H h x y vx vy hh rx ry p => hf _ _ ρ H h x y vx vy hh rx ry p
theorem t_not (h : PT X a (tT (gd X) W ta)) : PT X (.UnaryOp .Not a pos) (tT (gd X) W (notT ta)) :=
  PT_of (pt_not h) fun σ H Q q => by
    refine one q fun ρ e H h x vx s hh rx p => ?_
    cases rx
    exact p.okk hh rfl
theorem w_and1 (ha : PT X a (tT (gd X) W ta)) : PW X (.BoolOp .And [a] pos) (tT (gd X) W ta) := pw_and1 ha
theorem w_or1 (ha : PT X a (tT (gd X) W ta)) : PW X (.BoolOp .Or [a] pos) (tT (gd X) W ta) := pw_or1 ha
theorem PW_of {e : Expr} {t t' : TT} (h : PW X e t) (i : ∀ σ H Q, t' σ H Q → t σ H Q) : PW X e t' := ⟨fun wh pins s σ H Q I q => h.run wh pins s σ H Q I (i _ _ _ q)⟩
theorem w_and {rest : List Expr} (ha : PT X a (tT (gd X) W ta)) (hb : PW X (.BoolOp .And (b :: rest) pos) (tT (gd X) W tb)) : PW X (.BoolOp .And (a :: b :: rest) pos) (tT (gd X) W (andT ta tb)) :=
  PW_of (pw_and ha hb) fun σ H Q q => by
    refine one q fun ρ e H h x vx s hh rx p => ?_
    cases rx
    cases x with
    | true => exact ⟨ρ, e, h, s, hh, p⟩
    | false => exact p.okk hh rfl
theorem w_or {rest : List Expr} (ha : PT X a (tT (gd X) W ta)) (hb : PW X (.BoolOp .Or (b :: rest) pos) (tT (gd X) W tb)) : PW X (.BoolOp .Or (a :: b :: rest) pos) (tT (gd X) W (orT ta tb)) :=
  PW_of (pw_or ha hb) fun σ H Q q => by
    refine one q fun ρ e H h x vx s hh rx p => ?_
    cases rx
    cases x with
    | false => exact ⟨ρ, e, h, s, hh, p⟩
    | true => exact p.okk hh rfl
theorem toB_ok {g : Gd} {γ δ : Type} {Rel : List Addr → Hp → γ → δ → Prop} {Wf : XK} {ρ : List Addr} {H : Hp} {h : MH} {x : D} {vx : V} {f : Bool → MH → R γ} {Q : δ → Hp → Prop} (rx : RD g ρ H x vx) (p : Post g Rel Wf ρ H ((toB x h).bind f) Q) :
    ∃ k, vx = .bl k ∧ Post g Rel Wf ρ H (f k h) Q := by
  cases x <;> first | exact p.elim | skip
  rename_i k
  exact ⟨k, RD_bl rx rfl, p⟩
theorem e_one {op} (h : PE X a (tE (gd X) W ma)) : PE X (.BoolOp op [a] pos) (tE (gd X) W ma) := pe_one h
theorem e_and {rest : List Expr} (ha : PE X a (tE (gd X) W ma)) (hb : PE X (.BoolOp .And (b :: rest) pos) (tE (gd X) W mb)) : PE X (.BoolOp .And (a :: b :: rest) pos) (tE (gd X) W (andE ma mb)) :=
  PE_of (pe_and ha hb) fun σ H Q q => by
    refine one q fun ρ e H h x vx s hh rx p => ?_
    obtain ⟨k, e1, p⟩ := toB_ok rx p
    refine ⟨k, e1, ?_⟩
    cases k with
    | true => exact ⟨ρ, e, h, s, hh, p⟩
    | false => exact p.okk hh (by unfold RD; rfl)
theorem e_if (hc : PT X c (tT (gd X) W ta)) (ha : PE X a (tE (gd X) W ma)) (hb : PE X b (tE (gd X) W mb)) : PE X (.IfExp c a b pos) (tE (gd X) W (ifE ta ma mb)) :=
  PE_of (pe_ifExp hc ha hb) fun σ H Q q => by
    refine one q fun ρ e H h x vx s hh rx p => ?_
    cases rx
    cases x with
    | true => exact ⟨ρ, e, h, s, hh, p⟩
    | false => exact ⟨ρ, e, h, s, hh, p⟩
theorem a_nil : PA X [] (tA (gd X) W nilA) := PA_of pa_nil fun σ H Q q => by
  obtain ⟨ρ, e, m, s, hh, p⟩ := q
  exact p.okk hh .nil
theorem a_cons (ha : PE X a (tE (gd X) W ma)) (hr : PA X es (tA (gd X) W mas)) (hs : starEach (a :: es) X.env = (false, eval a X.env) :: starEach es X.env := by rfl) : PA X (a :: es) (tA (gd X) W (consA ma mas)) :=
  PA_of (pa_cons ha hr hs) fun σ H Q q => by
    refine one q fun ρ e H h x vx s hh rx p => ?_
    refine ⟨ρ, e, h, s, hh, p.bind.mono fun vs H1 q => ?_⟩
    obtain ⟨ρ1, xs, h1, l1, hh1, rxs, p1⟩ := q
    exact p1.okk hh1 (.cons (l1.rd x rx) rxs)
theorem e_tup {k} (h : PA X es (tA (gd X) W mas)) : PE X (.Tuple es k pos) (tE (gd X) W (onA tupF mas)) :=
  PE_of (pe_tup h) fun σ H Q q => by
    refine one q fun ρ e H h x vx s hh rx p => ?_
    unfold tupF at p
    split at p
    · rename_i hl
      refine ⟨big_le (by rw [← rx.length]; exact hl), fun q hq => ?_⟩
      have l := Lat.upd (g := gd X) (ρ := ρ) (u := .tup vx) (Soft.none hq)
      refine p ρ _ _ l (hh.upd hq) ?_
      unfold RD
      exact ⟨q, vx, rfl, .of upd_same, l.rds x rx⟩
    · exact p.elim
theorem RH.newLst {g : Gd} {ρ : List Addr} {H : Hp} {h : MH} {l : List D} {vs : List V} {q : Addr} (hh : RH g ρ H h) (hq : H q = none) (r : RDs g ρ H l vs) :
    Lat g ρ H (ρ ++ [q]) (L2.upd H q (.lst vs)) ∧ RH g (ρ ++ [q]) (L2.upd H q (.lst vs)) (h ++ [.lst l]) ∧ RD g (ρ ++ [q]) (L2.upd H q (.lst vs)) (.ref h.length) (.ref q) := by
  have l1 := Lat.new (g := g) (ρ := ρ) (u := .lst vs) (Soft.none hq)
  refine ⟨l1, hh.new hq ⟨vs, upd_same, l1.rds l r⟩, ?_⟩
  unfold RD
  exact ⟨q, by rw [← hh.len]; simp, rfl⟩
theorem e_lst (h : PA X es (tA (gd X) W mas)) : PE X (.List es pos) (tE (gd X) W (onA lstF mas)) :=
  PE_of (pe_lst h) fun σ H Q q => by
    refine one q fun ρ e H h x vx s hh rx p => ?_
    unfold lstF at p
    split at p
    · rename_i hl
      refine ⟨big_le (by rw [← rx.length]; exact hl), fun q hq => ?_⟩
      obtain ⟨l1, l2, l3⟩ := hh.newLst hq rx
      exact p _ _ _ l1 l2 l3
    · exact p.elim
end
def fnM (np n : Nat) (b : SM) : FM := fun ds h => if ds.length = np then (match b (ds.map some ++ List.replicate (n - ds.length) none) h with
    | .nx _ h' => .ok .non h'
    | .rt d h' => .ok d h'
    | .exc c fs _ h' => .exc c fs h'
    | _ => .bad) else .bad
def spM (g : Gd) (np : Nat) (m : FM) : Sp := fun vs H Q E => vs.length = np ∧ ∃ ρ ds h, RDs g ρ H ds vs ∧ RH g ρ H h ∧ Post g (RD g) E ρ H (m ds h) Q
/-- what a caller knows of the def that the module's name x holds -/
structure Cal (P : Program) (w : World) (K : PySem.W.Frag) (mg : Str → Option Value) (base : Heap) (x : Str) (k : Nat) (m : FM) : Prop where
  ex : ∃ f fd ps, mg x = some (.ref f) ∧ PySem.W.keepIn K (.ref f) = true ∧ Binds K fd ps [] ∧ FnOk P w K mg base (L2.CX P w) k f fd ps (spM ⟨K, mg, P, w⟩ ps.length m) ∧ ∀ ds h, ds.length ≠ ps.length → m ds h = .bad
section
variable {X : Cx} {W : Wx} {e : Expr} {es : List Expr} {mas : AM} {pos p : Pos} {x : Str} {k : Nat} {m : FM}
theorem e_call (F : Cal X.prog X.w X.K X.mg X.base x k m) (hr : Room k X.A) (tk : Takes X W.W) (hg : Gl X x) (ha : PA X (e :: es) (tA (gd X) W mas)) (hdb : (x == ("__debug__" : Str)) = false := by decide)
    (he : starEach (e :: es) X.env = (false, eval e X.env) :: starEach es X.env := by rfl) (hpl : (backTo pos (starEach es X.env)).any (·.1) = false := by rfl) : PE X (.Call (.Name x p) (e :: es) [] pos) (tE (gd X) W (onA m mas)) := by
  obtain ⟨f, fd, ps, mgf, kp, b, G, hn⟩ := F.ex
  refine PE_of (pe_callS G hr hg mgf kp b (fun σ => passAt tk σ) ha hdb he hpl) fun σ H Q q => ?_
  refine one q fun ρ e H h xs vs s hh rx p => ?_
  refine ⟨?_, ρ, xs, h, rx, hh, p⟩
  by_cases hl : xs.length = ps.length
  · rw [← rx.length]; exact hl
  · rw [hn xs h hl] at p
    exact p.elim
theorem fn_ok {P : Program} {w : World} {K : PySem.W.Frag} {mg : Str → Option Value} {base : Heap} {x qual : Str} {st : Stmt} {f : Addr} {fd : FuncData} {N ps : List Str} {k : Nat} {b : SM} (F : Fun K x qual st f fd) (Sc : FnScope N ps (defScope st))
    (hbody : ∀ (cdv : Value) (A : Around) (outer : List PySem.Env) (s : Shared) (H : Hp) (E : XK), Room k (A.deeper (envOfC qual (defScope st) s.heap.objs.size f cdv)) →
      Takes (cxOf (L2.CX P w) P w K mg base N qual (defScope st) f cdv A outer s H E) (fun cls d _ H => E cls d H) →
      PSs (cxOf (L2.CX P w) P w K mg base N qual (defScope st) f cdv A outer s H E) (defBody st) (tS ⟨K, mg, P, w⟩ (fun cls d _ H => E cls d H) b)) :
    FnOk P w K mg base (L2.CX P w) (k + 1) f fd ps (spM ⟨K, mg, P, w⟩ ps.length (fnM ps.length N.length b)) := by
  refine F.okX Sc (fun vs H Q E h => h.1) (fun cdv A outer s H vs Q E hr h => ⟨_, hbody cdv A outer s H E hr (takes_of rfl rfl rfl rfl), ?_⟩)
  obtain ⟨hl, ρ, ds, h, rd, hh, p⟩ := h
  have hl' : ds.length = ps.length := by rw [rd.length]; exact hl
  unfold fnM at p
  rw [if_pos hl'] at p
  refine ⟨ρ, _, h, RS.start rd, hh, ?_⟩
  revert p
  generalize b (List.map some ds ++ List.replicate (N.length - ds.length) none) h = r
  intro p
  cases r with
  | nx e h' => exact fun ρ' σ' H' l a _ => p ρ' .non H' l a (by unfold RD; rfl)
  | rt d h' => exact p
  | exc c fs e h' => exact fun ρ' σ' H' C dd gs l a _ => p ρ' H' C dd gs l a
  | bk e h' => exact p.elim
  | ct e h' => exact p.elim
  | bad => exact p.elim
theorem cal_mk {P : Program} {w : World} {K : PySem.W.Frag} {mg : Str → Option Value} {base : Heap} {x qual : Str} {st : Stmt} {f : Addr} {fd : FuncData} {ps : List Str} {k np n : Nat} {b : SM} (F : Fun K x qual st f fd) (hm : mg x = some (.ref f)) (hb : Binds K fd ps [])
    (G : FnOk P w K mg base (L2.CX P w) k f fd ps (spM ⟨K, mg, P, w⟩ ps.length (fnM np n b))) (hnp : np = ps.length) : Cal P w K mg base x k (fnM np n b) :=
  ⟨f, fd, ps, hm, F.kp, hb, G, fun ds h hl => by unfold fnM; rw [hnp, if_neg hl]⟩
end
def ofE (e : Env) (r : R D) (k : D → MH → S) : S := match r with
  | .ok d h => k d h
  | .exc c fs h => .exc c fs e h
  | .bad => .bad
def ofT (e : Env) (r : R Bool) (k : Bool → MH → S) : S := match r with
  | .ok d h => k d h
  | .exc c fs h => .exc c fs e h
  | .bad => .bad
def setS (i : Nat) (a : EM) : SM := fun e h => ofE e (a e h) fun d h1 => .nx (e.set i (some d)) h1
def expS (a : EM) : SM := fun e h => ofE e (a e h) fun _ h1 => .nx e h1
def retS (a : EM) : SM := fun e h => ofE e (a e h) fun d h1 => .rt d h1
def passS : SM := fun e h => .nx e h
def ifS (t : TM) (a b : SM) : SM := fun e h => ofT e (t e h) fun c h1 => if c then a e h1 else b e h1
def seqS (a b : SM) : SM := fun e h => match a e h with
  | .nx e1 h1 => b e1 h1
  | r => r
section
variable {X : Cx} {W : WX} {a : Expr} {ma : EM} {pos : Pos} {st : Stmt} {sts : List Stmt} {m1 m2 : SM}
/-- an expression ahead of a statement's rest -/
theorem stE {g : Gd} {σ : L2.St} {H : Hp} {N : Ends} {f : Env → D → MH → S} {k : V → Hp → Prop} (q : tS g W (fun e h => ofE e (ma e h) (f e)) N σ H)
    (hk : ∀ ρ e H h x vx, RS g ρ H e σ → RH g ρ H h → RD g ρ H x vx → PostS g W ρ H (f e x h) N → k vx H) : tE g (pl W) ma σ H k := by
  obtain ⟨ρ, e, h, s, hh, p⟩ := q
  refine ⟨ρ, e, h, s.x, hh, ?_⟩
  have p : PostS g W ρ H (ofE e (ma e h) (f e)) N := p
  revert p
  generalize ma e h = r
  intro p
  cases r with
  | ok d h1 => exact fun ρ1 v H1 l a b => hk ρ1 e H1 h1 d v (l.rs s) a b (PostS.later l p)
  | exc c fs h1 => exact fun ρ1 H1 C dd gs l a => p ρ1 σ H1 C dd gs l a (l.rs s)
  | bad => exact p.elim
theorem stT {g : Gd} {ta : TM} {σ : L2.St} {H : Hp} {N : Ends} {f : Env → Bool → MH → S} {k : Bool → Hp → Prop} (q : tS g W (fun e h => ofT e (ta e h) (f e)) N σ H)
    (hk : ∀ ρ e H h x, RS g ρ H e σ → RH g ρ H h → PostS g W ρ H (f e x h) N → k x H) : tT g (pl W) ta σ H k := by
  obtain ⟨ρ, e, h, s, hh, p⟩ := q
  refine ⟨ρ, e, h, s.x, hh, ?_⟩
  have p : PostS g W ρ H (ofT e (ta e h) (f e)) N := p
  revert p
  generalize ta e h = r
  intro p
  cases r with
  | ok d h1 =>
    intro ρ1 v H1 l a b
    cases b
    exact hk ρ1 e H1 h1 d (l.rs s) a (PostS.later l p)
  | exc c fs h1 => exact fun ρ1 H1 C dd gs l a => p ρ1 σ H1 C dd gs l a (l.rs s)
  | bad => exact p.elim
theorem s_set (i : Nat) {x : Str} {pos' : Pos} (hN : X.N.Nodup) (hi : X.N[i]? = some x) (hx : Loc X.env.scope x) (ha : PE X a (tE (gd X) (pl W) ma)) (hs : swapsWith a (some (.Name x pos')) pos.line X.env = pure false := by rfl)
    (hf : X.fn x = true ∨ X.env.scope.names.lookup x = some .local := by first | exact .inl rfl | exact .inr rfl | assumption) : PS X (.Assign [.Name x pos'] a pos) (tS (gd X) W (setS i ma)) :=
  PS_of (ps_set hN hi hx ha hs hf) fun N σ H q => stE q fun ρ e H h d v s hh r p => p ρ _ H Lat.refl hh (s.set r i)
theorem s_expr (ha : PE X a (tE (gd X) (pl W) ma)) (hs : swapsWith a none pos.line X.env = pure false := by rfl) : PS X (.Expr a pos) (tS (gd X) W (expS ma)) :=
  PS_of (ps_expr ha hs) fun N σ H q => stE q fun ρ e H h d v s hh r p => p ρ _ H Lat.refl hh s
theorem s_ret (ha : PE X a (tE (gd X) (pl W) ma)) : PS X (.Return (some a) pos) (tS (gd X) W (retS ma)) :=
  PS_of (ps_ret ha) fun N σ H q => stE q fun ρ e H h d v s hh r p => p ρ _ H Lat.refl hh r
theorem s_if {c : Expr} {x y : List Stmt} {t : TM} (hc : PT X c (tT (gd X) (pl W) t)) (ha : PSs X x (tS (gd X) W m1)) (hb : PSs X y (tS (gd X) W m2)) : PS X (.If c x y pos) (tS (gd X) W (ifS t m1 m2)) :=
  PS_of (ps_if hc ha hb) fun N σ H q => by
    refine stT q fun ρ e H h x s hh p => ?_
    cases x with
    | true => exact ⟨ρ, e, h, s, hh, p⟩
    | false => exact ⟨ρ, e, h, s, hh, p⟩
theorem ss_nil : PSs X [] (tS (gd X) W passS) := PSs_of pss_nil fun N σ H q => by
  obtain ⟨ρ, e, h, s, hh, p⟩ := q
  exact p ρ σ H Lat.refl hh s
theorem ss_one (h : PS X st (tS (gd X) W m1)) : PSs X [st] (tS (gd X) W m1) := pss_one h
theorem ss_cons (h1 : PS X st (tS (gd X) W m1)) (h2 : PSs X sts (tS (gd X) W m2)) : PSs X (st :: sts) (tS (gd X) W (seqS m1 m2)) :=
  PSs_of (pss_cons h1 h2) fun N σ H q => by
    obtain ⟨ρ, e, h, s, hh, p⟩ := q
    refine ⟨ρ, e, h, s, hh, ?_⟩
    unfold seqS at p
    revert p
    generalize m1 e h = r
    intro p
    cases r with
    | nx e1 h1 => exact fun ρ1 σ1 H1 l a b => ⟨ρ1, e1, h1, b, a, PostS.later l p⟩
    | rt d h1 => exact p
    | bk e1 h1 => exact p
    | ct e1 h1 => exact p
    | exc c fs e1 h1 => exact p
    | bad => exact p
end
end ML
namespace ML
open PySem PySem.Spec PyProof.Rows L2
mutual
def D.same : D → D → Bool
  | .non, .non => true
  | .bl a, .bl b => a == b
  | .int a, .int b => decide (a = b)
  | .str a, .str b => decide (a = b)
  | .ty a, .ty b => decide (a = b)
  | .tup l, .tup m => D.sames l m
  | .ref a, .ref b => decide (a = b)
  | .glb a, .glb b => decide (a = b)
  | _, _ => false
def D.sames : List D → List D → Bool
  | [], [] => true
  | a :: l, b :: m => D.same a b && D.sames l m
  | _, _ => false
end
mutual
theorem same_eq : ∀ {a b : D}, D.same a b = true → a = b
  | .non, .non, _ => rfl
  | .bl a, .bl b, h => by unfold D.same at h; rw [beq_iff_eq.mp h]
  | .int a, .int b, h => by unfold D.same at h; rw [of_decide_eq_true h]
  | .str a, .str b, h => by unfold D.same at h; rw [of_decide_eq_true h]
  | .ty a, .ty b, h => by unfold D.same at h; rw [of_decide_eq_true h]
  | .tup l, .tup m, h => by unfold D.same at h; rw [sames_eq h]
  | .ref a, .ref b, h => by unfold D.same at h; rw [of_decide_eq_true h]
  | .glb a, .glb b, h => by unfold D.same at h; rw [of_decide_eq_true h]
  | .non, .bl _, h => by unfold D.same at h; cases h
  | .non, .int _, h => by unfold D.same at h; cases h
  | .non, .str _, h => by unfold D.same at h; cases h
  | .non, .ty _, h => by unfold D.same at h; cases h
  | .non, .tup _, h => by unfold D.same at h; cases h
  | .non, .ref _, h => by unfold D.same at h; cases h
  | .non, .glb _, h => by unfold D.same at h; cases h
  | .bl _, .non, h => by unfold D.same at h; cases h
  | .bl _, .int _, h => by unfold D.same at h; cases h
  | .bl _, .str _, h => by unfold D.same at h; cases h
  | .bl _, .ty _, h => by unfold D.same at h; cases h
  | .bl _, .tup _, h => by unfold D.same at h; cases h
  | .bl _, .ref _, h => by unfold D.same at h; cases h
  | .bl _, .glb _, h => by unfold D.same at h; cases h
  | .int _, .non, h => by unfold D.same at h; cases h
  | .int _, .bl _, h => by unfold D.same at h; cases h
  | .int _, .str _, h => by unfold D.same at h; cases h
  | .int _, .ty _, h => by unfold D.same at h; cases h
  | .int _, .tup _, h => by unfold D.same at h; cases h
  | .int _, .ref _, h => by unfold D.same at h; cases h
  | .int _, .glb _, h => by unfold D.same at h; cases h
  | .str _, .non, h => by unfold D.same at h; cases h
  | .str _, .bl _, h => by unfold D.same at h; cases h
  | .str _, .int _, h => by unfold D.same at h; cases h
  | .str _, .ty _, h => by unfold D.same at h; cases h
  | .str _, .tup _, h => by unfold D.same at h; cases h
  | .str _, .ref _, h => by unfold D.same at h; cases h
  | .str _, .glb _, h => by unfold D.same at h; cases h
  | .ty _, .non, h => by unfold D.same at h; cases h
  | .ty _, .bl _, h => by unfold D.same at h; cases h
  | .ty _, .int _, h => by unfold D.same at h; cases h
  | .ty _, .str _, h => by unfold D.same at h; cases h
  | .ty _, .tup _, h => by unfold D.same at h; cases h
  | .ty _, .ref _, h => by unfold D.same at h; cases h
  | .ty _, .glb _, h => by unfold D.same at h; cases h
  | .tup _, .non, h => by unfold D.same at h; cases h
  | .tup _, .bl _, h => by unfold D.same at h; cases h
  | .tup _, .int _, h => by unfold D.same at h; cases h
  | .tup _, .str _, h => by unfold D.same at h; cases h
  | .tup _, .ty _, h => by unfold D.same at h; cases h
  | .tup _, .ref _, h => by unfold D.same at h; cases h
  | .tup _, .glb _, h => by unfold D.same at h; cases h
  | .ref _, .non, h => by unfold D.same at h; cases h
  | .ref _, .bl _, h => by unfold D.same at h; cases h
  | .ref _, .int _, h => by unfold D.same at h; cases h
  | .ref _, .str _, h => by unfold D.same at h; cases h
  | .ref _, .ty _, h => by unfold D.same at h; cases h
  | .ref _, .tup _, h => by unfold D.same at h; cases h
  | .ref _, .glb _, h => by unfold D.same at h; cases h
  | .glb _, .non, h => by unfold D.same at h; cases h
  | .glb _, .bl _, h => by unfold D.same at h; cases h
  | .glb _, .int _, h => by unfold D.same at h; cases h
  | .glb _, .str _, h => by unfold D.same at h; cases h
  | .glb _, .ty _, h => by unfold D.same at h; cases h
  | .glb _, .tup _, h => by unfold D.same at h; cases h
  | .glb _, .ref _, h => by unfold D.same at h; cases h
theorem sames_eq : ∀ {l m : List D}, D.sames l m = true → l = m
  | [], [], _ => rfl
  | a :: l, b :: m, h => by
    unfold D.sames at h
    have h' := Bool.and_eq_true_iff.mp h
    rw [same_eq h'.1, sames_eq h'.2]
  | [], _ :: _, h => by unfold D.sames at h; cases h
  | _ :: _, [], h => by unfold D.sames at h; cases h
end
mutual
theorem same_refl : ∀ (a : D), D.same a a = true
  | .non => by unfold D.same; rfl
  | .bl a => by unfold D.same; simp
  | .int a => by unfold D.same; simp
  | .str a => by unfold D.same; simp
  | .ty a => by unfold D.same; simp
  | .tup l => by unfold D.same; exact sames_refl l
  | .ref a => by unfold D.same; simp
  | .glb a => by unfold D.same; simp
theorem sames_refl : ∀ (l : List D), D.sames l l = true
  | [] => by unfold D.sames; rfl
  | a :: l => by unfold D.sames; rw [same_refl a, sames_refl l]; rfl
end
/-- the items; the lists (by their places) that must stand as they were at each turn -/
structure IT where
  items : List D
  srcs : List (Nat × List D) := []
def stands (h : MH) (p : Nat × List D) : Bool := match h[p.1]? with
  | some (.lst l) => D.sames l p.2
  | _ => false
def IT.ok (h : MH) (srcs : List (Nat × List D)) : Bool := srcs.all (stands h)
theorem stands_eq {h : MH} {p : Nat × List D} (e : stands h p = true) : h[p.1]? = some (.lst p.2) := by
  unfold stands at e
  split at e
  · rename_i l hl
    rw [hl, sames_eq e]
  · cases e
abbrev IM := Env → MH → R IT
/-- J walks these items -/
def WkD (g : Gd) (ρ1 : List Addr) (H1 : Hp) (it : IT) (J : It) : Prop := ∃ (G : Hp → Prop) (Y : Nat → Hp → V → Hp → Prop), Walk J it.items.length G Y ∧
  (∀ ρ2 H2 h2, Lat g ρ1 H1 ρ2 H2 → RH g ρ2 H2 h2 → IT.ok h2 it.srcs = true → G H2) ∧
  ∀ i H2 x H3 ρ2 h2 d, Lat g ρ1 H1 ρ2 H2 → RH g ρ2 H2 h2 → IT.ok h2 it.srcs = true → Y i H2 x H3 → it.items[i]? = some d → Lat g ρ2 H2 ρ2 H3 ∧ RH g ρ2 H3 h2 ∧ RD g ρ2 H3 d x
abbrev iM (g : Gd) (W : Wx) (m : IM) : TI := tG g (WkD g) W m
theorem PI_of {X : Cx} {tg e : Expr} {t t' : TI} (h : PI X tg e t) (i : ∀ σ H Q, t' σ H Q → t σ H Q) : PI X tg e t' := ⟨fun pins s σ H Q I q => h.run pins s σ H Q I (i _ _ _ q)⟩
/-- a list, a tuple, a text -/
def iAny (K : PySem.W.Frag) (tl : TE) : TI := fun σ H R => tl σ H fun x H1 =>
  (∃ a, x = .ref a ∧ (∃ xs, SqL K H1 a xs) ∧ R (Itl K a) H1) ∨ (∃ a, x = .ref a ∧ (∃ xs, SqT K H1 a xs) ∧ R (Itt K a) H1) ∨ ∃ z, x = .str z ∧ R (Its z) H1
theorem pi_any {X : Cx} {tg l : Expr} {tl : TE} (hl : PE X l tl) : PI X tg l (iAny X.K tl) := by
  refine ⟨fun pins s σ H R I h => ?_⟩
  refine thn (hl.run pins s σ H _ I h) fun v s1 ⟨x, H1, I1, r1, q1⟩ => ?_
  rcases q1 with ⟨a, e, ⟨xs, hq⟩, q⟩ | ⟨a, e, ⟨xs, hq⟩, q⟩ | ⟨z, e, q⟩ <;> subst e
  · cases r1
    exact wpAny_pyIter_list (Inv.list I1 hq).choose_spec.2.1.isList (pi_one I1 (tk := s1.toks) _ (turn_list a _) ⟨_, Heap.get?_push_size _ rfl, rfl, rfl⟩ q)
  · cases r1
    exact wpAny_pyIter_tuple (Inv.tuple I1 hq).choose_spec.2.1 (pi_one I1 (tk := s1.toks) _ (turn_tuple a _) ⟨_, Heap.get?_push_size _ rfl, rfl, rfl⟩ q)
  · obtain ⟨t, rfl⟩ := r1
    cases low : z.cps.all (· < 128) with
    | false => exact wpAny_pyIter_wide low (pi_one I1 (tk := s1.toks) _ (turn_str _ z t _ (.inr rfl)) ⟨_, Heap.get?_push_size _ rfl, rfl, rfl⟩ q)
    | true => exact wpAny_pyIter_ascii low (pi_one I1 (tk := s1.toks) _ (turn_str _ z t _ (.inl rfl)) ⟨_, Heap.get?_push_size _ rfl, rfl, rfl⟩ q)
section
variable {g : Gd} {ρ : List Addr} {H : Hp} {a : Addr} {vs : List V} {l : List D} {h : MH}
theorem wk_tup (sq : SqT g.K H a vs) (r : RDs g ρ H l vs) : WkD g ρ H ⟨l, []⟩ (Itt g.K a) := by
  have hl := r.length
  refine ⟨fun H => SqT g.K H a vs, YAt vs, by show Walk _ l.length _ _; rw [hl]; exact walk_tup, fun ρ2 H2 h2 l2 _ _ => l2.sqT sq, fun i H2 x H3 ρ2 h2 d l2 hh _ y e => ?_⟩
  obtain ⟨e1, e2⟩ := y
  subst e1
  obtain ⟨v, e3, r3⟩ := r.get e
  rw [e2] at e3
  cases e3
  exact ⟨Lat.refl, hh, l2.rd d r3⟩
theorem RdL.sq {K : PySem.W.Frag} (h : RdL K H a vs) : SqL K H a vs := by
  rcases h with ⟨o, h⟩ | h
  · exact .inl (.inr ⟨o, h⟩)
  · exact .inr h
theorem wk_rdl (sq : RdL g.K H a vs) (r : RDs g ρ H l vs) : WkD g ρ H ⟨l, []⟩ (Itl g.K a) := by
  have hl := r.length
  refine ⟨fun H => RdL g.K H a vs, YAt vs, by show Walk _ l.length _ _; rw [hl]; exact walk_list.mono (fun _ q => q.sq) (fun _ _ _ _ _ _ y => y), fun ρ2 H2 h2 l2 _ _ => l2.rdl sq, fun i H2 x H3 ρ2 h2 d l2 hh _ y e => ?_⟩
  obtain ⟨e1, e2⟩ := y
  subst e1
  obtain ⟨v, e3, r3⟩ := r.get e
  rw [e2] at e3
  cases e3
  exact ⟨Lat.refl, hh, l2.rd d r3⟩
theorem wk_lst {n : Nat} (en : ρ[n]? = some a) : WkD g ρ H ⟨l, [(n, l)]⟩ (Itl g.K a) := by
  have key : ∀ {ρ2 H2 h2}, Lat g ρ H ρ2 H2 → RH g ρ2 H2 h2 → IT.ok h2 [(n, l)] = true → ∃ vs, H2 a = some (.lst vs) ∧ RDs g ρ2 H2 l vs := fun {ρ2 H2 h2} l2 hh ok => by
    have e := stands_eq (p := (n, l)) (by unfold IT.ok at ok; simpa using ok)
    exact hh.obj n _ a e (l2.at en)
  refine ⟨fun H => ∃ vs, SqL g.K H a vs ∧ vs.length = l.length, (Itl g.K a).yld, ⟨fun i H hi ⟨vs, q, e⟩ => ⟨vs, vs[i]'(by rw [e]; exact hi), q, List.getElem?_eq_getElem _⟩, fun H ⟨vs, q, e⟩ => ⟨vs, q, Nat.le_of_eq e⟩, fun _ _ _ _ _ _ y => y⟩,
    fun ρ2 H2 h2 l2 hh ok => ?_, fun i H2 x H3 ρ2 h2 d l2 hh ok y e => ?_⟩
  · obtain ⟨vs, e, r⟩ := key l2 hh ok
    exact ⟨vs, .of e, r.length.symm⟩
  · obtain ⟨vs, e1, r⟩ := key l2 hh ok
    obtain ⟨e2, y⟩ := y
    subst e2
    have e3 := y vs (.of e1)
    obtain ⟨v, e4, r4⟩ := r.get e
    rw [e3] at e4
    cases e4
    exact ⟨Lat.refl, hh, r4⟩
def chars (z : Str) : List D := z.cps.toList.map fun c => .str ⟨#[c]⟩
theorem wk_str {z : Str} : WkD g ρ H ⟨chars z, []⟩ (Its z) := by
  refine ⟨fun _ => True, fun i H v H' => H' = H ∧ ∃ c, z.cps[i]? = some c ∧ v = .str ⟨#[c]⟩, by show Walk _ (chars z).length _ _; unfold chars; rw [List.length_map, Array.length_toList]; exact walk_str, fun _ _ _ _ _ _ => True.intro, fun i H2 x H3 ρ2 h2 d l2 hh _ y e => ?_⟩
  obtain ⟨e1, c, e2, e3⟩ := y
  subst e1 e3
  unfold chars at e
  rw [List.getElem?_map, Array.getElem?_toList, e2] at e
  cases e
  exact ⟨Lat.refl, hh, by unfold RD; rfl⟩
def rangeD (lo : Int) (n : Nat) : List D := (List.range n).map fun (i : Nat) => .int (lo + i)
theorem wk_range {lo : Int} {n : Nat} : WkD g ρ H ⟨rangeD lo n, []⟩ (Itr lo n) := by
  refine ⟨fun _ => True, YFn fun i => .int (lo + i), by show Walk _ (rangeD lo n).length _ _; unfold rangeD; rw [List.length_map, List.length_range]; exact walk_range, fun _ _ _ _ _ _ => True.intro, fun i H2 x H3 ρ2 h2 d l2 hh _ y e => ?_⟩
  obtain ⟨e1, e2⟩ := y
  subst e1 e2
  unfold rangeD at e
  rw [List.getElem?_map] at e
  cases q : (List.range n)[i]? with
  | none => rw [q] at e; cases e
  | some j =>
    rw [q] at e
    obtain ⟨hj, ej⟩ := List.getElem?_eq_some_iff.mp q
    rw [List.getElem_range] at ej
    subst ej
    cases e
    exact ⟨Lat.refl, hh, by unfold RD; rfl⟩
end
def seqF : D → MH → R IT := fun d h => match d with
  | .tup l => .ok ⟨l, []⟩ h
  | .str z => .ok ⟨chars z, []⟩ h
  | .ref n => (match h[n]? with
    | some (.lst l) => .ok ⟨l, [(n, l)]⟩ h
    | some (.rdl l) => .ok ⟨l, []⟩ h
    | _ => .bad)
  | _ => .bad
def seqI (m : EM) : IM := fun e h => (m e h).bind seqF
def rng1I (m : AM) : IM := fun e h => (m e h).bind fun ds h1 => match ds with
  | [.int j] => if -(2 ^ 62) ≤ j ∧ j < 2 ^ 62 then .ok ⟨rangeD 0 j.toNat, []⟩ h1 else .bad
  | _ => .bad
section
variable {X : Cx} {W : Wx} {tg l a b : Expr} {ml : EM} {ma : AM} {p pos : Pos}
theorem RD_int {g : Gd} {ρ : List Addr} {H : Hp} {i : Int} {v : V} (r : RD g ρ H (.int i) v) : v = .int i := by unfold RD at r; exact r
theorem RD_str {g : Gd} {ρ : List Addr} {H : Hp} {i : Str} {v : V} (r : RD g ρ H (.str i) v) : v = .str i := by unfold RD at r; exact r
theorem RD_tup {g : Gd} {ρ : List Addr} {H : Hp} {l : List D} {v : V} (r : RD g ρ H (.tup l) v) : ∃ a vs, v = .ref a ∧ SqT g.K H a vs ∧ RDs g ρ H l vs := by unfold RD at r; exact r
theorem RD_ref {g : Gd} {ρ : List Addr} {H : Hp} {n : Nat} {v : V} (r : RD g ρ H (.ref n) v) : ∃ a, ρ[n]? = some a ∧ v = .ref a := by unfold RD at r; exact r
theorem i_any (h : PE X l (tE (gd X) W ml)) : PI X tg l (iM (gd X) W (seqI ml)) := PI_of (pi_any h) fun σ H Q q => by
  refine one q fun ρ e H h x vx s hh rx p => ?_
  cases x <;> first | exact p.elim | skip
  · rename_i z
    exact .inr (.inr ⟨z, RD_str rx, p.okk hh wk_str⟩)
  · rename_i ds
    obtain ⟨a, vs, e1, sq, r⟩ := RD_tup rx
    exact .inr (.inl ⟨a, e1, ⟨vs, sq⟩, p.okk hh (wk_tup sq r)⟩)
  · rename_i n
    obtain ⟨a, e1, e2⟩ := RD_ref rx
    unfold seqF at p
    dsimp only at p
    split at p
    · rename_i l hl
      obtain ⟨vs, e3, r⟩ := hh.obj n _ a hl e1
      exact .inl ⟨a, e2, ⟨vs, .of e3⟩, p.okk hh (wk_lst e1)⟩
    · rename_i l hl
      obtain ⟨vs, e3, r⟩ := hh.obj n _ a hl e1
      exact .inl ⟨a, e2, ⟨vs, e3.sq⟩, p.okk hh (wk_rdl e3 r)⟩
    · exact p.elim
theorem i_range1 (hg : Gl X "range") (hm : X.mg "range" = none) (ha : PA X [a] (tA (gd X) W ma)) (hs : starEach [a] X.env = [(false, eval a X.env)] := by rfl) : PI X tg (.Call (.Name "range" p) [a] [] pos) (iM (gd X) W (rng1I ma)) :=
  PI_of (pi_range1 hg hm ha hs) fun σ H Q q => by
    refine one q fun ρ e H h x vx s hh rx p => ?_
    try dsimp only at p
    split at p
    · rename_i j
      split at p
      · rename_i hj
        obtain ⟨v, r, e1, r1, r2⟩ := rx.inv
        rw [r2.invNil] at e1
        exact ⟨j, by rw [e1, RD_int r1], hj.1, hj.2, p.okk hh wk_range⟩
      · exact p.elim
    · exact p.elim
end
abbrev GM := D → Env → MH → Option Env
def gnm (i : Nat) : GM := fun d e _ => some (e.set i (some d))
def asgAll : List GM → List D → Env → MH → Option Env
  | [], [], e, _ => some e
  | m :: ms, d :: ds, e, h => (m d e h).bind fun e1 => asgAll ms ds e1 h
  | _, _, _, _ => none
def gtp (ms : List GM) : GM := fun d e h => match d with
  | .tup ds => if ds.length = ms.length then asgAll ms ds e h else none
  | _ => none
/-- only the slots own have changed -/
def But (own : List Nat) (σ σ' : L2.St) : Prop := σ'.length = σ.length ∧ ∀ j, j ∉ own → σ'[j]? = σ[j]?
theorem But.trans {own : List Nat} {a b c : L2.St} (h : But own a b) (k : But own b c) : But own a c := ⟨k.1.trans h.1, fun j hj => (k.2 j hj).trans (h.2 j hj)⟩
theorem But.mono {own own' : List Nat} {a b : L2.St} (h : But own a b) (m : ∀ j ∈ own, j ∈ own') : But own' a b := ⟨h.1, fun j hj => h.2 j fun z => hj (m j z)⟩
def tGm (g : Gd) (own : List Nat) (m : GM) : TG := fun v σ H Q => ∃ ρ e h d e', RS g ρ H e σ ∧ RH g ρ H h ∧ RD g ρ H d v ∧ m d e h = some e' ∧ ∀ σ', RS g ρ H e' σ' → But own σ σ' → Q σ' H
def tGms (g : Gd) (own : List Nat) (ms : List GM) : TGs := fun vs σ H Q => ∃ ρ e h ds e', RS g ρ H e σ ∧ RH g ρ H h ∧ RDs g ρ H ds vs ∧ asgAll ms ds e h = some e' ∧ ∀ σ', RS g ρ H e' σ' → But own σ σ' → Q σ' H
section
variable {X : Cx} {pos : Pos} {own own2 : List Nat} {ms : List GM} {m : GM}
theorem PG_of {X : Cx} {e : Expr} {t t' : TG} (h : PG X e t) (i : ∀ v σ H Q, t' v σ H Q → t v σ H Q) : PG X e t' := ⟨fun pins s σ H v u Q I r q => h.run pins s σ H v u Q I r (i _ _ _ _ q)⟩
theorem PGs_of {X : Cx} {e : List Expr} {t t' : TGs} (h : PGs X e t) (i : ∀ v σ H Q, t' v σ H Q → t v σ H Q) : PGs X e t' := ⟨fun pins s σ H v u Q I r q => h.run pins s σ H v u Q I r (i _ _ _ _ q)⟩
theorem g_name (i : Nat) {x : Str} (hN : X.N.Nodup) (hi : X.N[i]? = some x) (hx : Loc X.env.scope x) (hf : X.fn x = true ∨ X.env.scope.names.lookup x = some .local := by first | exact .inl rfl | exact .inr rfl | assumption) : PG X (.Name x pos) (tGm (gd X) [i] (gnm i)) :=
  PG_of (pg_name hN hi hx hf) fun v σ H Q q => by
    obtain ⟨ρ, e, h, d, e', s, hh, r, em, k⟩ := q
    cases em
    exact k _ (s.set r i) ⟨by simp, fun j hj => by rw [List.getElem?_set_ne]; intro z; exact hj (by simp [z])⟩
theorem gs_nil : PGs X [] (tGms (gd X) [] []) := PGs_of pgs_nil fun vs σ H Q q => by
  obtain ⟨ρ, e, h, d, e', s, hh, r, em, k⟩ := q
  cases d with
  | nil =>
    cases em
    exact ⟨r.invNil, k σ s ⟨rfl, fun _ _ => rfl⟩⟩
  | cons d ds => cases em
theorem gs_cons {e : Expr} {es : List Expr} (h1 : PG X e (tGm (gd X) own m)) (h2 : PGs X es (tGms (gd X) own2 ms)) (hs : (assignEach (e :: es) X.env).map (·.2) = assign e X.env :: (assignEach es X.env).map (·.2) := by rfl) :
    PGs X (e :: es) (tGms (gd X) (own ++ own2) (m :: ms)) := PGs_of (pgs_cons h1 h2 hs) fun vs σ H Q q => by
  obtain ⟨ρ, e, h, ds, e', s, hh, r, em, k⟩ := q
  cases ds with
  | nil => cases em
  | cons d ds =>
    obtain ⟨v, vr, e1, r1, r2⟩ := r.inv
    unfold asgAll at em
    cases q1 : m d e h with
    | none => rw [q1] at em; cases em
    | some e2 =>
      rw [q1] at em
      exact ⟨v, vr, e1, ρ, e, h, d, e2, s, hh, r1, q1, fun σ2 s2 b2 => ⟨ρ, e2, h, ds, e', s2, hh, r2, em, fun σ3 s3 b3 => k σ3 s3 ((b2.mono fun j hj => List.mem_append_left _ hj).trans (b3.mono fun j hj => List.mem_append_right _ hj))⟩⟩
theorem g_tup {es : List Expr} {k n : Nat} (hc : X.calm = true) (h : PGs X es (tGms (gd X) own ms)) (hn : (assignEach es X.env).length = n := by rfl) (hst : (assignEach es X.env).findIdx? (·.1) = none := by rfl) (hl : ms.length = n := by rfl) :
    PG X (.Tuple es k pos) (tGm (gd X) own (gtp ms)) := PG_of (pg_tup hc h hn hst) fun v σ H Q q => by
  obtain ⟨ρ, e, h, d, e', s, hh, r, em, kk⟩ := q
  cases d <;> first | cases em | skip
  rename_i ds
  obtain ⟨a, vs, e1, sq, rs⟩ := RD_tup r
  unfold gtp at em
  dsimp only at em
  split at em
  · rename_i hds
    exact ⟨a, vs, e1, sq, by rw [← rs.length, hds, hl], ρ, e, h, ds, e', s, hh, rs, em, kk⟩
  · cases em
end
def loopS (srcs : List (Nat × List D)) (tg : GM) (body : SM) : List D → Env → MH → S
  | [], e, h => if IT.ok h srcs = true then .nx e h else .bad
  | d :: r, e, h => if IT.ok h srcs = true then (match tg d e h with
    | some e1 => (match body e1 h with
      | .nx e2 h2 => loopS srcs tg body r e2 h2
      | .ct e2 h2 => loopS srcs tg body r e2 h2
      | .bk e2 h2 => .nx e2 h2
      | .rt x h2 => .rt x h2
      | .exc c fs e2 h2 => .exc c fs e2 h2
      | .bad => .bad)
    | none => .bad) else .bad
def forS (it : IM) (tg : GM) (body : SM) : SM := fun e h => match it e h with
  | .ok it h1 => loopS it.srcs tg body it.items e h1
  | .exc c fs h1 => .exc c fs e h1
  | .bad => .bad
def whileS (t : TM) (b : SM) : Nat → SM
  | 0 => fun _ _ => .bad
  | n + 1 => fun e h => ofT e (t e h) fun c h1 => if c then (match b e h1 with
    | .nx e2 h2 => whileS t b n e2 h2
    | .ct e2 h2 => whileS t b n e2 h2
    | .bk e2 h2 => .nx e2 h2
    | .rt x h2 => .rt x h2
    | .exc c fs e2 h2 => .exc c fs e2 h2
    | .bad => .bad) else .nx e h1
section
variable {X : Cx} {W : WX} {tg iter c : Expr} {body : List Stmt} {mi : IM} {mg : GM} {mb : SM} {own : List Nat} {pos : Pos} {mt : TM}
theorem loopS_ok {g : Gd} {ρ : List Addr} {H : Hp} {N : Ends} {srcs : List (Nat × List D)} {l : List D} {e : Env} {h : MH} (p : PostS g W ρ H (loopS srcs mg mb l e h) N) : IT.ok h srcs = true := by
  cases l with
  | nil =>
    unfold loopS at p
    split at p
    · assumption
    · exact p.elim
  | cons d r =>
    unfold loopS at p
    split at p
    · assumption
    · exact p.elim
theorem s_for (hp : PassesOwn (model X.prog X.w) X.A X.env X.xe) (hc : X.calm = true) (hi : PI X tg iter (iM (gd X) (pl W) mi)) (hg : PG X tg (tGm (gd X) own mg)) (hb : PSs X body (tS (gd X) W mb))
    (hs : ∀ x, foldedSetIterable iter X.env x = pure x := by intro _; rfl) : PS X (.For tg iter body [] pos) (tS (gd X) W (forS mi mg mb)) := PS_of (ps_for hp hc hi hg hb hs) fun N σ H q => by
  obtain ⟨ρ, e, h, s, hh, p⟩ := q
  refine ⟨ρ, e, h, s.x, hh, ?_⟩
  unfold forS at p
  revert p
  generalize mi e h = r
  intro p
  cases r with
  | bad => exact p.elim
  | exc c fs h1 => exact fun ρ1 H1 C dd gs l a => p ρ1 σ H1 C dd gs l a (l.rs s)
  | ok it h1 =>
    intro ρ1 J H1 l1 hh1 wk
    obtain ⟨G, Y, wlk, hG, hY⟩ := wk
    refine for_it wlk (fun i σ' H' => ∃ ρ2 e2 h2, Lat (gd X) ρ1 H1 ρ2 H' ∧ RS (gd X) ρ2 H' e2 σ' ∧ RH (gd X) ρ2 H' h2 ∧ PostS (gd X) W ρ2 H' (loopS it.srcs mg mb (it.items.drop i) e2 h2) N)
      ⟨ρ1, e, h1, Lat.refl, l1.rs s, hh1, PostS.later l1 p⟩ (fun i σ' H' _ ⟨ρ2, e2, h2, l2, s2, hh2, p2⟩ => hG ρ2 H' h2 l2 hh2 (loopS_ok p2)) ?_ ?_
    · rintro i x σ' H' H'' hi ⟨ρ2, e2, h2, l2, s2, hh2, p2⟩ y
      have ok := loopS_ok p2
      have ed : it.items.drop i = it.items[i] :: it.items.drop (i + 1) := List.drop_eq_getElem_cons hi
      obtain ⟨l3, hh3, rd⟩ := hY i H' x H'' ρ2 h2 _ l2 hh2 ok y (List.getElem?_eq_getElem hi)
      rw [ed] at p2
      unfold loopS at p2
      rw [if_pos ok] at p2
      cases q1 : mg it.items[i] e2 h2 with
      | none => rw [q1] at p2; exact p2.elim
      | some e3 =>
        rw [q1] at p2
        refine ⟨ρ2, e2, h2, _, e3, l3.rs s2, hh3, rd, q1, fun σ3 s3 _ => ⟨ρ2, e3, h2, s3, hh3, ?_⟩⟩
        have p3 := PostS.later l3 p2
        dsimp only at p3
        revert p3
        generalize mb e3 h2 = r
        intro p3
        cases r with
        | nx e4 h4 => exact fun ρ4 σ4 H4 l4 a b => ⟨ρ4, e4, h4, (l2.trans l3).trans l4, b, a, PostS.later l4 p3⟩
        | ct e4 h4 => exact fun ρ4 σ4 H4 l4 a b => ⟨ρ4, e4, h4, (l2.trans l3).trans l4, b, a, PostS.later l4 p3⟩
        | bk e4 h4 => exact p3
        | rt x h4 => exact p3
        | exc c fs e4 h4 => exact p3
        | bad => exact p3
    · rintro σ' H' ⟨ρ2, e2, h2, l2, s2, hh2, p2⟩
      have ok := loopS_ok p2
      rw [List.drop_length] at p2
      unfold loopS at p2
      rw [if_pos ok] at p2
      exact p2 ρ2 σ' H' Lat.refl hh2 s2
theorem s_while (n : Nat) (hp : PassesOwn (model X.prog X.w) X.A X.env X.xe) (hc : PT X c (tT (gd X) (pl W) mt)) (hb : PSs X body (tS (gd X) W mb)) : PS X (.While c body [] pos) (tS (gd X) W (whileS mt mb n)) := PS_of (ps_while hp hc hb) fun N σ H q => by
  refine ⟨fun m σ' H' => ∃ ρ e h, RS (gd X) ρ H' e σ' ∧ RH (gd X) ρ H' h ∧ PostS (gd X) W ρ H' (whileS mt mb m e h) N, ⟨n, q⟩, ?_⟩
  rintro m σ' H' ⟨ρ, e, h, s, hh, p⟩
  cases m with
  | zero => exact p.elim
  | succ m =>
    unfold whileS at p
    refine stT (f := fun e c h1 => if c then (match mb e h1 with
      | .nx e2 h2 => whileS mt mb m e2 h2
      | .ct e2 h2 => whileS mt mb m e2 h2
      | .bk e2 h2 => .nx e2 h2
      | .rt x h2 => .rt x h2
      | .exc c fs e2 h2 => .exc c fs e2 h2
      | .bad => .bad) else .nx e h1) ⟨ρ, e, h, s, hh, p⟩ fun ρ e H h x s hh p => ?_
    cases x with
    | false => exact p ρ σ' H Lat.refl hh s
    | true =>
      refine ⟨fun σ3 H3 => ∃ ρ e h, RS (gd X) ρ H3 e σ3 ∧ RH (gd X) ρ H3 h ∧ PostS (gd X) W ρ H3 (whileS mt mb m e h) N, fun σ3 H3 z => ⟨m, Nat.lt_succ_self m, z⟩, ρ, e, h, s, hh, ?_⟩
      try dsimp only at p
      rw [if_pos rfl] at p
      revert p
      generalize mb e h = r
      intro p
      cases r with
      | nx e4 h4 => exact fun ρ4 σ4 H4 l4 a b => ⟨ρ4, e4, h4, b, a, PostS.later l4 p⟩
      | ct e4 h4 => exact fun ρ4 σ4 H4 l4 a b => ⟨ρ4, e4, h4, b, a, PostS.later l4 p⟩
      | bk e4 h4 => exact p
      | rt x h4 => exact p
      | exc c fs e4 h4 => exact p
      | bad => exact p
end
end ML
namespace ML
open PySem PySem.Spec PyProof.Rows L2
def wipeM (e : Env) : List Nat → Env
  | [] => e
  | v :: vs => (wipeM e vs).set v none
theorem wipeM_length (e : Env) : ∀ vs, (wipeM e vs).length = e.length
  | [] => rfl
  | v :: vs => by unfold wipeM; rw [List.length_set, wipeM_length e vs]
theorem wipeM_get {e : Env} : ∀ {vs : List Nat} {i : Nat} {d : D}, (wipeM e vs)[i]? = some (some d) → i ∉ vs ∧ e[i]? = some (some d)
  | [], i, d, h => ⟨by simp, h⟩
  | v :: vs, i, d, h => by
    unfold wipeM at h
    by_cases hi : v = i
    · subst hi
      by_cases hv : v < (wipeM e vs).length
      · rw [List.getElem?_set_self hv] at h; cases h
      · rw [List.getElem?_eq_none (by simpa using hv)] at h; cases h
    · rw [List.getElem?_set_ne hi] at h
      obtain ⟨h1, h2⟩ := wipeM_get h
      exact ⟨by simp only [List.mem_cons, not_or]; exact ⟨fun e => hi e.symm, h1⟩, h2⟩
theorem wipe_in {σ : L2.St} {i : Nat} : ∀ {vs : List Nat}, i ∈ vs → i < σ.length → (wipe σ vs)[i]? = some none
  | v :: vs, h, hl => by
    unfold wipe
    by_cases hi : v = i
    · subst hi
      exact List.getElem?_set_self (by rw [wipe_length]; exact hl)
    · rw [List.getElem?_set_ne hi]
      rcases List.mem_cons.mp h with e | e
      · exact absurd e.symm hi
      · exact wipe_in e hl
theorem wipe_but {σ σ2 : L2.St} {vs : List Nat} (b : But vs (wipe σ vs) σ2) : wipe σ2 vs = wipe σ vs := by
  obtain ⟨hl, hb⟩ := b
  rw [wipe_length] at hl
  apply List.ext_getElem?
  intro i
  by_cases hi : i ∈ vs
  · by_cases hs : i < σ.length
    · rw [wipe_in hi hs, wipe_in hi (by rw [hl]; exact hs)]
    · rw [List.getElem?_eq_none (by rw [wipe_length, hl]; omega), List.getElem?_eq_none (by rw [wipe_length]; omega)]
  · rw [wipe_out hi, hb i hi]
theorem RS.wipe {g : Gd} {ρ : List Addr} {H : Hp} {e : Env} {σ : L2.St} (s : RS g ρ H e σ) (vs : List Nat) : RS g ρ H (wipeM e vs) (L2.wipe σ vs) :=
  ⟨by rw [wipeM_length, wipe_length, s.len], fun i d h => by
    obtain ⟨h1, h2⟩ := wipeM_get h
    obtain ⟨v, e1, r⟩ := s.get i d h2
    exact ⟨v, by rw [wipe_out h1]; exact e1, r⟩⟩
def lcLoop (srcs : List (Nat × List D)) (tg : GM) (tst : TM) (elt : EM) (n : Nat) (e0 : Env) : List D → MH → R D
  | [], h => if IT.ok h srcs = true then .ok (.ref n) h else .bad
  | d :: r, h => if IT.ok h srcs = true then (match tg d e0 h with
    | some e1 => (match tst e1 h with
      | .ok true h2 => (match elt e1 h2 with
        | .ok y h3 => (match h3[n]? with
          | some (.lst acc) => if acc.length < 1000000 then lcLoop srcs tg tst elt n e0 r (h3.set n (.lst (acc ++ [y]))) else .bad
          | _ => .bad)
        | _ => .bad)
      | .ok false h2 => lcLoop srcs tg tst elt n e0 r h2
      | _ => .bad)
    | none => .bad) else .bad
def lcE (own : List Nat) (it : IM) (tg : GM) (tst : TM) (elt : EM) : EM := fun e h => (it e h).bind fun it h1 => lcLoop it.srcs tg tst elt h1.length (wipeM e own) it.items (h1 ++ [.lst []])
def yesT : TM := fun _ h => .ok true h
section
variable {X : Cx} {W : Wx} {tg iter elt : Expr} {ifs : List Expr} {scope : Scope} {own : List (Str × Nat)} {pos : Pos} {mi : IM} {mg : GM} {mt : TM} {me : EM}
theorem PTs_of {X : Cx} {e : List Expr} {t t' : TT} (h : PTs X e t) (i : ∀ σ H Q, t' σ H Q → t σ H Q) : PTs X e t' := ⟨fun pins s σ H Q I q => h.run pins s σ H Q I (i _ _ _ q)⟩
theorem ts_nil : PTs X [] (tT (gd X) W yesT) := PTs_of pts_nil fun σ H Q q => by
  obtain ⟨ρ, e, h, s, hh, p⟩ := q
  exact p.okk hh rfl
theorem lc_ok {g : Gd} {ρ : List Addr} {H : Hp} {Wf : XK} {Q : VK} {srcs : List (Nat × List D)} {l : List D} {n : Nat} {e : Env} {h : MH} (p : Post g (RD g) Wf ρ H (lcLoop srcs mg mt me n e l h) Q) : IT.ok h srcs = true := by
  cases l with
  | nil =>
    unfold lcLoop at p
    split at p
    · assumption
    · exact p.elim
  | cons d r =>
    unfold lcLoop at p
    split at p
    · assumption
    · exact p.elim
theorem lc_read (hg : ∀ (s : Shared) (H : Hp) (C : Addr) (cl : List (Str × Addr)) (fp : List Addr), True) {σ : L2.St} {H : Hp} {Q : VK} (q : tE (gd X) W (lcE (own.map (·.2)) mi mg mt me) σ H Q) :
    tLc (iM (gd X) W mi) (tGm (gd X) (own.map (·.2)) mg) (tT (gd X) (pl noW) mt) (tE (gd X) (pl noW) me) (own.map (·.2)) σ H Q := by
  refine one q fun ρ e H h it J s hh wk p => ?_
  intro Dd hD
  generalize hvs : own.map (·.2) = vs at p ⊢
  obtain ⟨G, Y, wlk, hG, hY⟩ := wk
  obtain ⟨l1, hh1, rD⟩ := hh.newLst hD (l := []) (vs := []) .nil
  have s1 : RS (gd X) (ρ ++ [Dd]) (L2.upd H Dd (.lst [])) (wipeM e vs) (L2.wipe σ vs) := (l1.rs s.s).wipe vs
  have rD' : (ρ ++ [Dd])[h.length]? = some Dd := by
    obtain ⟨a, e1, e2⟩ := RD_ref rD
    cases e2
    exact e1
  refine lc_it wlk (fun i H' => ∃ ρ2 h2, Lat (gd X) (ρ ++ [Dd]) (L2.upd H Dd (.lst [])) ρ2 H' ∧ RH (gd X) ρ2 H' h2 ∧ Post (gd X) (RD (gd X)) (fun c d H' => W.W c d σ H') ρ2 H' (lcLoop it.srcs mg mt me h.length (wipeM e vs) (it.items.drop i) h2) Q)
    ⟨_, _, Lat.refl, hh1, Post.later l1 p⟩ (fun i H' _ ⟨ρ2, h2, l2, hh2, p2⟩ => hG ρ2 H' h2 (l1.trans l2) hh2 (lc_ok p2)) ?_ ?_
  · rintro i x H' H'' hi ⟨ρ2, h2, l2, hh2, p2⟩ y
    have ok := lc_ok p2
    have ed : it.items.drop i = it.items[i] :: it.items.drop (i + 1) := List.drop_eq_getElem_cons hi
    obtain ⟨l3, hh3, rd⟩ := hY i H' x H'' ρ2 h2 _ (l1.trans l2) hh2 ok y (List.getElem?_eq_getElem hi)
    rw [ed] at p2
    unfold lcLoop at p2
    rw [if_pos ok] at p2
    cases q1 : mg it.items[i] (wipeM e vs) h2 with
    | none => rw [q1] at p2; exact p2.elim
    | some e3 =>
      rw [q1] at p2
      refine ⟨ρ2, _, h2, _, e3, (l2.trans l3).rs s1, hh3, rd, q1, fun σ3 s3 b3 => ⟨wipe_but b3, ?_⟩⟩
      have p3 := Post.later l3 p2
      dsimp only at p3
      refine ⟨ρ2, e3, h2, s3.x, hh3, ?_⟩
      revert p3
      generalize mt e3 h2 = r
      intro p3
      cases r with
      | bad => exact p3.elim
      | exc c fs h4 => exact p3.elim
      | ok b h4 =>
        intro ρ4 b' H4 l4 hh4 eb
        cases eb
        cases b with
        | false =>
          rw [if_neg (by decide)]
          exact ⟨ρ4, h4, (l2.trans l3).trans l4, hh4, Post.later l4 p3⟩
        | true =>
          rw [if_pos rfl]
          have p4 := Post.later l4 p3
          dsimp only at p4
          refine ⟨ρ4, e3, h4, (l4.rs s3).x, hh4, ?_⟩
          revert p4
          generalize me e3 h4 = r
          intro p4
          cases r with
          | bad => exact p4.elim
          | exc c fs h5 => exact p4.elim
          | ok y h5 =>
            intro ρ5 vy H5 l5 hh5 ry
            have p5 := Post.later l5 p4
            dsimp only at p5
            have lf := ((l2.trans l3).trans l4).trans l5
            split at p5
            · rename_i acc hacc
              split at p5
              · rename_i hlen
                have ea := lf.at rD'
                obtain ⟨ws, e6, r6⟩ := hh5.obj _ _ Dd hacc ea
                refine ⟨ws, e6, Nat.lt_of_lt_of_le (by rw [← r6.length]; exact hlen) (big_le (Nat.le_refl _)), ?_⟩
                have l6 := Lat.upd (g := gd X) (ρ := ρ5) (u := .lst (ws ++ [vy])) (Soft.lst e6)
                have hh6 := hh5.set (u := .lst (ws ++ [vy])) (o' := .lst (acc ++ [y])) hacc ea rfl rfl (Soft.lst e6) ⟨_, upd_same, l6.rds _ (r6.append (.one ry))⟩
                exact ⟨ρ5, _, lf.trans l6, hh6, Post.later l6 p5⟩
              · exact p5.elim
            · exact p5.elim
  · rintro H' ⟨ρ2, h2, l2, hh2, p2⟩
    have ok := lc_ok p2
    rw [List.drop_length] at p2
    unfold lcLoop at p2
    rw [if_pos ok] at p2
    exact p2.okk hh2 (l2.rd (.ref h.length) rD)
theorem e_lc (hc : X.calm = true) (hN : X.N.Nodup) (hi : PI X tg iter (iM (gd X) W mi)) (ok : BlkOk X.N X.env.scope scope own)
    (hg : ∀ (s : Shared) (H : Hp) (C : Addr) (cl : List (Str × Addr)) (fp : List Addr), PG (X.blk s H scope (compEnvC scope cl C X.env) fp) tg (tGm (gd X) (own.map (·.2)) mg))
    (ht : ∀ (s : Shared) (H : Hp) (C : Addr) (cl : List (Str × Addr)) (fp : List Addr), PTs (X.blk s H scope (compEnvC scope cl C X.env) fp) ifs (tT (gd X) (pl noW) mt))
    (he : ∀ (s : Shared) (H : Hp) (C : Addr) (cl : List (Str × Addr)) (fp : List Addr), PE (X.blk s H scope (compEnvC scope cl C X.env) fp) elt (tE (gd X) (pl noW) me)) (hs : ∀ x, foldedSetIterable iter X.env x = pure x := by intro _; rfl) :
    PE X (.ListComp elt [⟨tg, iter, ifs, 0⟩] scope pos) (tE (gd X) W (lcE (own.map (·.2)) mi mg mt me)) :=
  PE_of (pe_lc hc hN hi ok hg ht he hs) fun σ H Q q => lc_read (fun _ _ _ _ _ => True.intro) q
end
section
variable {X : Cx} {W : WX} {tg iter elt : Expr} {ifs : List Expr} {scope : Scope} {own : List (Str × Nat)} {pos : Pos} {mi : IM} {mg : GM} {mt : TM} {me : EM}
theorem s_setLc (i : Nat) {y : Str} {py spos : Pos} (hc : X.calm = true) (hN : X.N.Nodup) (hy : X.N[i]? = some y) (hyl : X.env.scope.names.lookup y = some .local)
    (hsw : swapsWith (.ListComp elt [⟨tg, iter, ifs, 0⟩] scope pos) (some (.Name y py)) spos.line X.env = pure true) (hi : PI X tg iter (iM (gd X) (pl W) mi)) (ok : BlkOk X.N X.env.scope scope own)
    (hg : ∀ (s : Shared) (H : Hp) (C : Addr) (cl : List (Str × Addr)) (fp : List Addr), PG (X.blk s H scope (compEnvC scope cl C X.env) fp) tg (tGm (gd X) (own.map (·.2)) mg))
    (ht : ∀ (s : Shared) (H : Hp) (C : Addr) (cl : List (Str × Addr)) (fp : List Addr), PTs (X.blk s H scope (compEnvC scope cl C X.env) fp) ifs (tT (gd X) (pl noW) mt))
    (he : ∀ (s : Shared) (H : Hp) (C : Addr) (cl : List (Str × Addr)) (fp : List Addr), PE (X.blk s H scope (compEnvC scope cl C X.env) fp) elt (tE (gd X) (pl noW) me)) (hs : ∀ x, foldedSetIterable iter X.env x = pure x := by intro _; rfl) :
    PS X (.Assign [.Name y py] (.ListComp elt [⟨tg, iter, ifs, 0⟩] scope pos) spos) (tS (gd X) W (setS i (lcE (own.map (·.2)) mi mg mt me))) :=
  PS_of (ps_setLc hc hN hy hyl hsw hi ok hg ht he hs) fun N σ H q =>
    lc_read (Q := fun x H1 => gName i x σ H1 N.nx) (fun _ _ _ _ _ => True.intro) (stE q fun ρ e H h d v s hh r p => p ρ _ H Lat.refl hh (s.set r i))
end
def ofA (e : Env) (r : R (List D)) (k : List D → MH → S) : S := match r with
  | .ok d h => k d h
  | .exc c fs h => .exc c fs e h
  | .bad => .bad
def setAll : List Nat → List D → Env → Env
  | i :: is, d :: ds, e => setAll is ds (e.set i (some d))
  | _, _, e => e
def parS (is : List Nat) (a : AM) : SM := fun e h => ofA e (a e h) fun ds h1 => if ds.length = is.length then .nx (setAll is ds e) h1 else .bad
theorem stA {g : Gd} {W : WX} {ma : AM} {σ : L2.St} {H : Hp} {N : Ends} {f : Env → List D → MH → S} {k : List V → Hp → Prop} (q : tS g W (fun e h => ofA e (ma e h) (f e)) N σ H)
    (hk : ∀ ρ e H h x vx, RS g ρ H e σ → RH g ρ H h → RDs g ρ H x vx → PostS g W ρ H (f e x h) N → k vx H) : tA g (pl W) ma σ H k := by
  obtain ⟨ρ, e, h, s, hh, p⟩ := q
  refine ⟨ρ, e, h, s.x, hh, ?_⟩
  have p : PostS g W ρ H (ofA e (ma e h) (f e)) N := p
  revert p
  generalize ma e h = r
  intro p
  cases r with
  | ok d h1 => exact fun ρ1 v H1 l a b => hk ρ1 e H1 h1 d v (l.rs s) a b (PostS.later l p)
  | exc c fs h1 => exact fun ρ1 H1 C dd gs l a => p ρ1 σ H1 C dd gs l a (l.rs s)
  | bad => exact p.elim
section
variable {X : Cx} {W : WX} {ma : AM} {pos : Pos}
theorem s_par2 (i j : Nat) {x y : Str} {a b : Expr} {px py pt : Pos} {kt k2 pt2} (hc : X.calm = true) (hN : X.N.Nodup) (hi : X.N[i]? = some x) (hj : X.N[j]? = some y) (hij : i ≠ j)
    (hx : X.env.scope.names.lookup x = some .local) (hy : X.env.scope.names.lookup y = some .local) (ha : PA X [a, b] (tA (gd X) (pl W) ma))
    (hw : swappedStores [.Tuple [.Name x px, .Name y py] kt pt] (.Tuple [a, b] k2 pt2) X.env = pure (some [x, y]))
    (hs : swapsWithSole [.Tuple [.Name x px, .Name y py] kt pt] (.Tuple [a, b] k2 pt2) pos.line X.env = pure false := by rfl) :
    PS X (.Assign [.Tuple [.Name x px, .Name y py] kt pt] (.Tuple [a, b] k2 pt2) pos) (tS (gd X) W (parS [i, j] ma)) :=
  PS_of (ps_par hc hN hi hj hij hx hy ha hw hs) fun N σ H q => stA q fun ρ e H h ds vs s hh r p => by
    match ds, r, p with
    | [d1, d2], r, p =>
      obtain ⟨v, r1, e1, q1, q2⟩ := r.inv
      obtain ⟨w, r2, e2, q3, q4⟩ := q2.inv
      rw [q4.invNil] at e2
      rw [e2] at e1
      exact ⟨v, w, e1, p ρ _ H Lat.refl hh ((s.set q1 i).set q3 j)⟩
    | [], r, p => exact p.elim
    | [_], r, p => exact p.elim
    | _ :: _ :: _ :: _, r, p =>
      rw [if_neg (by simp)] at p
      exact p.elim
end
end ML
namespace ML
open PySem PySem.Spec PyProof.Rows L2
def isScal : D → Bool
  | .non => true
  | .bl _ => true
  | .int _ => true
  | .str _ => true
  | _ => false
def scalEq : D → D → Bool
  | .non, .non => true
  | .bl a, .bl b => a == b
  | .int a, .int b => a == b
  | .str a, .str b => a == b
  | .bl a, .int b => (if a then 1 else 0) == b
  | .int a, .bl b => a == (if b then 1 else 0)
  | _, _ => false
/-- (is it a tuple, its items) -/
def seqOf (h : MH) : D → Option (Bool × List D)
  | .tup l => some (true, l)
  | .ref n => (match h[n]? with
    | some (.lst l) => some (false, l)
    | some (.rdl l) => some (false, l)
    | _ => none)
  | _ => none
def eqZ (f : D → D → Option Bool) : List D → List D → Option Bool
  | x :: l, y :: m => (match f x y with
    | some a => (match eqZ f l m with
      | some b => some (a && b)
      | none => none)
    | none => none)
  | _, _ => some true
/-- two lists, or two tuples -/
def eqSeq (f : D → D → Option Bool) (k : Bool) (l m : List D) : Option Bool :=
  if k = false ∧ l.length ≠ m.length then some false else (match eqZ f l m with
    | some b => some (b && (l.length == m.length))
    | none => none)
def eqTop (h : MH) (f : D → D → Option Bool) (x y : D) : Option Bool :=
  match isScal x, isScal y with
  | true, true => some (scalEq x y)
  | true, false => (match seqOf h y with | some _ => some false | none => none)
  | false, true => (match seqOf h x with | some _ => some false | none => none)
  | false, false => (match seqOf h x, seqOf h y with
    | some (k, l), some (k', m) => if k = k' then eqSeq f k l m else some false
    | _, _ => none)
def idRef : D → D → Bool
  | .ref a, .ref b => decide (a = b)
  | _, _ => false
def eqv (h : MH) : Nat → D → D → Option Bool
  | 0, _, _ => none
  | n + 1, x, y => if idRef x y = true then some true else eqTop h (eqv h n) x y
theorem eqZ_map {f : D → D → Option Bool} : ∀ {l m : List D} {b : Bool}, eqZ f l m = some b → ∃ e : Nat → Bool, (∀ (j : Nat) x y, l[j]? = some x → m[j]? = some y → f x y = some (e j)) ∧ b = (List.range (min l.length m.length)).all e
  | [], m, b, h => ⟨fun _ => true, fun j x y h1 => by simp at h1, by unfold eqZ at h; cases h; simp⟩
  | x :: l, [], b, h => ⟨fun _ => true, fun j x y _ h1 => by simp at h1, by unfold eqZ at h; cases h; simp⟩
  | x :: l, y :: m, b, h => by
    unfold eqZ at h
    cases q : f x y with
    | none => rw [q] at h; cases h
    | some a =>
      rw [q] at h
      dsimp only at h
      cases q2 : eqZ f l m with
      | none => rw [q2] at h; cases h
      | some c =>
        rw [q2] at h
        cases h
        obtain ⟨e, h1, h2⟩ := eqZ_map q2
        refine ⟨fun j => match j with | 0 => a | j + 1 => e j, fun j x' y' e1 e2 => ?_, ?_⟩
        · cases j with
          | zero =>
            simp at e1 e2
            subst e1 e2
            exact q
          | succ j => exact h1 j x' y' (by simpa using e1) (by simpa using e2)
        · rw [List.length_cons, List.length_cons, show min (l.length + 1) (m.length + 1) = min l.length m.length + 1 by omega, List.range_succ_eq_map, List.all_cons, List.all_map, h2]
          rfl
section
variable {X : Cx} {pins : List (Addr × Obj)} {σ : L2.St} {H : Hp} {s : Shared} {ρ : List Addr} {h : MH}
theorem scal_v {g : Gd} {x : D} {v : V} (r : RD g ρ H x v) (hx : isScal x = true) : (x = .non ∧ v = .non) ∨ (∃ b, x = .bl b ∧ v = .bl b) ∨ (∃ b, x = .int b ∧ v = .int b) ∨ ∃ b, x = .str b ∧ v = .str b := by
  cases x <;> first | (cases hx; done) | skip
  · unfold RD at r; exact .inl ⟨rfl, r⟩
  · unfold RD at r; exact .inr (.inl ⟨_, rfl, r⟩)
  · unfold RD at r; exact .inr (.inr (.inl ⟨_, rfl, r⟩))
  · unfold RD at r; exact .inr (.inr (.inr ⟨_, rfl, r⟩))
/-- a list or a tuple of the mirror, in the heap -/
theorem seq_v (hh : RH (gd X) ρ H h) {x : D} {v : V} {k : Bool} {l : List D} (r : RD (gd X) ρ H x v) (e : seqOf h x = some (k, l)) : ∃ a vs, v = .ref a ∧ RDs (gd X) ρ H l vs ∧ ((k = true ∧ SqT X.K H a vs) ∨ (k = false ∧ SqL X.K H a vs)) := by
  cases x <;> first | (cases e; done) | skip
  · cases e
    obtain ⟨a, vs, e1, sq, rs⟩ := RD_tup r
    exact ⟨a, vs, e1, rs, .inl ⟨rfl, sq⟩⟩
  · rename_i n
    obtain ⟨a, e1, e2⟩ := RD_ref r
    unfold seqOf at e
    dsimp only at e
    split at e
    · rename_i l hl
      cases e
      obtain ⟨vs, e3, rs⟩ := hh.obj n _ a hl e1
      exact ⟨a, vs, e2, rs, .inr ⟨rfl, .of e3⟩⟩
    · rename_i l hl
      cases e
      obtain ⟨vs, e3, rs⟩ := hh.obj n _ a hl e1
      exact ⟨a, vs, e2, rs, .inr ⟨rfl, e3.sq⟩⟩
    · cases e
theorem not_both (I : Inv X pins σ H s) {a : Addr} {vs ws : List V} (h1 : SqT X.K H a vs) (h2 : SqL X.K H a ws) : False := by
  obtain ⟨its, _, p, _⟩ := I.tuple h1
  obtain ⟨its', _, q, _⟩ := I.list h2
  obtain ⟨o, e, c, _⟩ := p
  obtain ⟨o', n, e', c', _⟩ := q
  rw [e] at e'
  cases e'
  rw [c] at c'
  injection c' with z
  exact absurd z (by decide)
theorem seq_inj (I : Inv X pins σ H s) {a : Addr} {k k' : Bool} {vs ws : List V} (h1 : (k = true ∧ SqT X.K H a vs) ∨ (k = false ∧ SqL X.K H a vs)) (h2 : (k' = true ∧ SqT X.K H a ws) ∨ (k' = false ∧ SqL X.K H a ws)) : k = k' ∧ vs = ws := by
  rcases h1 with ⟨e1, h1⟩ | ⟨e1, h1⟩ <;> rcases h2 with ⟨e2, h2⟩ | ⟨e2, h2⟩
  · exact ⟨by rw [e1, e2], I.tuple_inj h1 h2⟩
  · exact (not_both I h1 h2).elim
  · exact (not_both I h2 h1).elim
  · exact ⟨by rw [e1, e2], I.list_inj h1 h2⟩
theorem eqZ_all {f : D → D → Option Bool} (hf : ∀ x y v b, RD (gd X) ρ H x v → RD (gd X) ρ H y v → f x y = some b → b = true) : ∀ {l m : List D} {vs : List V} {b : Bool}, RDs (gd X) ρ H l vs → RDs (gd X) ρ H m vs → eqZ f l m = some b → b = true
  | [], m, vs, b, h1, h2, e => by unfold eqZ at e; cases e; rfl
  | x :: l, [], vs, b, h1, h2, e => by unfold eqZ at e; cases e; rfl
  | x :: l, y :: m, vs, b, h1, h2, e => by
    obtain ⟨v, r, e1, q1, q2⟩ := h1.inv
    obtain ⟨w, r', e2, q3, q4⟩ := h2.inv
    subst e1
    cases e2
    unfold eqZ at e
    cases z : f x y with
    | none => rw [z] at e; cases e
    | some a =>
      rw [z] at e
      dsimp only at e
      cases z2 : eqZ f l m with
      | none => rw [z2] at e; cases e
      | some c =>
        rw [z2] at e
        cases e
        rw [hf x y v a q1 q3 z, eqZ_all hf q2 q4 z2]
        rfl
theorem eqTop_same (I : Inv X pins σ H s) (hh : RH (gd X) ρ H h) {f : D → D → Option Bool} (hf : ∀ x y v b, RD (gd X) ρ H x v → RD (gd X) ρ H y v → f x y = some b → b = true) {x y : D} {v : V} {b : Bool}
    (rx : RD (gd X) ρ H x v) (ry : RD (gd X) ρ H y v) (e : eqTop h f x y = some b) : b = true := by
  unfold eqTop at e
  cases sx : isScal x <;> cases sy : isScal y <;> rw [sx, sy] at e <;> dsimp only at e
  · cases qx : seqOf h x with
    | none => rw [qx] at e; cases e
    | some p =>
      cases qy : seqOf h y with
      | none => rw [qx, qy] at e; cases e
      | some p' =>
        obtain ⟨k, l⟩ := p
        obtain ⟨k', m⟩ := p'
        rw [qx, qy] at e
        dsimp only at e
        obtain ⟨a, vs, e1, r1, c1⟩ := seq_v hh rx qx
        obtain ⟨a', vs', e2, r2, c2⟩ := seq_v hh ry qy
        rw [e1] at e2
        cases e2
        obtain ⟨ek, ev⟩ := seq_inj I c1 c2
        subst ek ev
        rw [if_pos rfl] at e
        unfold eqSeq at e
        have hl : l.length = m.length := by rw [r1.length, r2.length]
        rw [if_neg (fun z => z.2 hl)] at e
        cases z : eqZ f l m with
        | none => rw [z] at e; cases e
        | some c =>
          rw [z] at e
          cases e
          rw [eqZ_all hf r1 r2 z, hl]
          simp
  · rcases scal_v ry sy with ⟨_, e2⟩ | ⟨_, _, e2⟩ | ⟨_, _, e2⟩ | ⟨_, _, e2⟩ <;> (subst e2; cases qx : seqOf h x with
      | none => rw [qx] at e; cases e
      | some p => obtain ⟨a, vs, e1, _⟩ := seq_v hh rx qx; cases e1)
  · rcases scal_v rx sx with ⟨_, e2⟩ | ⟨_, _, e2⟩ | ⟨_, _, e2⟩ | ⟨_, _, e2⟩ <;> (subst e2; cases qx : seqOf h y with
      | none => rw [qx] at e; cases e
      | some p => obtain ⟨a, vs, e1, _⟩ := seq_v hh ry qx; cases e1)
  · rcases scal_v rx sx with ⟨e1, e2⟩ | ⟨_, e1, e2⟩ | ⟨_, e1, e2⟩ | ⟨_, e1, e2⟩ <;> rcases scal_v ry sy with ⟨e3, e4⟩ | ⟨_, e3, e4⟩ | ⟨_, e3, e4⟩ | ⟨_, e3, e4⟩ <;> subst e1 e2 e3 <;> cases e4 <;> cases e <;> simp [scalEq]
theorem eqv_same (I : Inv X pins σ H s) (hh : RH (gd X) ρ H h) : ∀ (n : Nat) (x y : D) (v : V) (b : Bool), RD (gd X) ρ H x v → RD (gd X) ρ H y v → eqv h n x y = some b → b = true
  | 0, _, _, _, _, _, _, e => by cases e
  | n + 1, x, y, v, b, rx, ry, e => by
    unfold eqv at e
    split at e
    · cases e; rfl
    · exact eqTop_same I hh (eqv_same I hh n) rx ry e
theorem idRef_eq {x y : D} (e : idRef x y = true) : x = y := by
  cases x <;> cases y <;> first | (cases e; done) | skip
  unfold idRef at e
  rw [of_decide_eq_true e]
theorem vals_at {its : List Value} {vs : List V} (r : Vals vs its) {l : List D} {g : Gd} (q : RDs g ρ H l vs) {j : Nat} (hj : j < its.length) : ∃ x v, l[j]? = some x ∧ RD g ρ H x v ∧ RelV v its[j] := by
  have hj' : j < vs.length := by rw [r.length]; exact hj
  obtain ⟨x, e1, r1⟩ := RDs.get' q (List.getElem?_eq_getElem hj')
  obtain ⟨u, e2, r2⟩ := r.get (List.getElem?_eq_getElem hj')
  rw [List.getElem?_eq_getElem hj] at e2
  cases e2
  exact ⟨x, _, e1, r1, r2⟩
/-- what the items answer gives what the sequences answer -/
theorem eqv_at (I : Inv X pins σ H s) (hh : RH (gd X) ρ H h) : ∀ (n : Nat) (A : Around) (x y : D) (v w : V) (u t : Value) (b : Bool), A.units + n < cLine → RD (gd X) ρ H x v → RD (gd X) ρ H y w → RelV v u → RelV w t → eqv h n x y = some b → SeqAt.EqAt A s u t b
  | 0, _, _, _, _, _, _, _, _, _, _, _, _, _, e => by cases e
  | n + 1, A, x, y, v, w, u, t, b, hu, rx, ry, ru, rt, e => by
    have hu0 : A.units < cLine := by omega
    have hu1 : A.in1.units + n < cLine := by show A.units + 1 + n < cLine; omega
    have e0 := e
    unfold eqv at e
    split at e
    · rename_i hi
      cases e
      have := idRef_eq hi
      subst this
      cases x <;> first | (cases hi; done) | skip
      obtain ⟨a, e1, e2⟩ := RD_ref rx
      obtain ⟨a', e3, e4⟩ := RD_ref ry
      rw [e1] at e3
      cases e3
      subst e2 e4
      cases ru
      cases rt
      exact SeqAt.EqAt.same _
    · unfold eqTop at e
      cases sx : isScal x <;> cases sy : isScal y <;> rw [sx, sy] at e <;> dsimp only at e
      · cases qx : seqOf h x with
        | none => rw [qx] at e; cases e
        | some p =>
          cases qy : seqOf h y with
          | none => rw [qx, qy] at e; cases e
          | some p' =>
            obtain ⟨k, l⟩ := p
            obtain ⟨k', m⟩ := p'
            rw [qx, qy] at e
            dsimp only at e
            obtain ⟨a, vs, e1, r1, c1⟩ := seq_v hh rx qx
            obtain ⟨a', vs', e2, r2, c2⟩ := seq_v hh ry qy
            subst e1 e2
            cases ru
            cases rt
            by_cases haa : a = a'
            · subst haa
              rw [eqv_same I hh (n + 1) x y (.ref a) b rx ry e0]
              exact SeqAt.EqAt.same _
            · rcases c1 with ⟨k1, c1⟩ | ⟨k1, c1⟩ <;> rcases c2 with ⟨k2, c2⟩ | ⟨k2, c2⟩ <;> subst k1 k2
              · rw [if_pos rfl] at e
                unfold eqSeq at e
                rw [if_neg (fun z => by cases z.1)] at e
                obtain ⟨its, rv, p, _⟩ := I.tuple c1
                obtain ⟨its', rv', p', _⟩ := I.tuple c2
                cases z : eqZ (eqv h n) l m with
                | none => rw [z] at e; cases e
                | some c =>
                  rw [z] at e
                  cases e
                  obtain ⟨ee, z1, z2⟩ := eqZ_map z
                  have q := SeqAt.RcAt.tuples (e := ee) p p' hu0 fun j h1 h2 => by
                    have h1' : j < its.length := by simpa using h1
                    have h2' : j < its'.length := by simpa using h2
                    obtain ⟨x1, v1, f1, f2, f3⟩ := vals_at rv r1 h1'
                    obtain ⟨y1, w1, g1, g2, g3⟩ := vals_at rv' r2 h2'
                    have := eqv_at I hh n A.in1 x1 y1 v1 w1 _ _ _ hu1 f2 g2 f3 g3 (z1 j x1 y1 f1 g1)
                    simpa using this
                  refine SeqAt.EqAt.of_refs haa ?_
                  have n1 : its.toArray.size = l.length := by rw [List.size_toArray, ← rv.length, r1.length]
                  have n2 : its'.toArray.size = m.length := by rw [List.size_toArray, ← rv'.length, r2.length]
                  rw [n1, n2] at q
                  rw [z2]
                  exact q
              · rw [if_neg (by decide)] at e
                cases e
                obtain ⟨its, rv, p, _⟩ := I.tuple c1
                obtain ⟨its', rv', p', _⟩ := I.list c2
                exact SeqAt.EqAt.tuple_list p p'.isList hu0
              · rw [if_neg (by decide)] at e
                cases e
                obtain ⟨its, rv, p, _⟩ := I.list c1
                obtain ⟨its', rv', p', _⟩ := I.tuple c2
                exact SeqAt.EqAt.list_tuple p.isList p' hu0
              · rw [if_pos rfl] at e
                unfold eqSeq at e
                obtain ⟨its, rv, p, _⟩ := I.list c1
                obtain ⟨its', rv', p', _⟩ := I.list c2
                have n1 : its.toArray.size = l.length := by rw [List.size_toArray, ← rv.length, r1.length]
                have n2 : its'.toArray.size = m.length := by rw [List.size_toArray, ← rv'.length, r2.length]
                by_cases hl : l.length = m.length
                · rw [if_neg (fun z => z.2 hl)] at e
                  cases z : eqZ (eqv h n) l m with
                  | none => rw [z] at e; cases e
                  | some c =>
                    rw [z] at e
                    cases e
                    obtain ⟨ee, z1, z2⟩ := eqZ_map z
                    have q := SeqAt.RcAt.lists (e := ee) p.isList p'.isList (by rw [n1, n2, hl]) hu0 fun j h1 h2 => by
                      have h1' : j < its.length := by simpa using h1
                      have h2' : j < its'.length := by simpa using h2
                      obtain ⟨x1, v1, f1, f2, f3⟩ := vals_at rv r1 h1'
                      obtain ⟨y1, w1, g1, g2, g3⟩ := vals_at rv' r2 h2'
                      have := eqv_at I hh n A.in1 x1 y1 v1 w1 _ _ _ hu1 f2 g2 f3 g3 (z1 j x1 y1 f1 g1)
                      simpa using this
                    refine SeqAt.EqAt.of_refs haa ?_
                    rw [n1] at q
                    rw [z2, ← hl, Nat.min_self]
                    simpa using q
                · rw [if_pos ⟨rfl, hl⟩] at e
                  cases e
                  refine SeqAt.EqAt.of_refs haa (SeqAt.RcAt.lists_lengths p.isList p'.isList ?_ hu0)
                  rw [n1, n2]
                  simpa using hl
      · cases qx : seqOf h x with
        | none => rw [qx] at e; cases e
        | some p =>
          obtain ⟨k, l⟩ := p
          rw [qx] at e
          cases e
          obtain ⟨a, vs, e1, r1, c1⟩ := seq_v hh rx qx
          subst e1
          cases ru
          rcases c1 with ⟨_, c1⟩ | ⟨_, c1⟩
          · obtain ⟨its, rv, p, _⟩ := I.tuple c1
            rcases scal_v ry sy with ⟨_, e2⟩ | ⟨_, _, e2⟩ | ⟨_, _, e2⟩ | ⟨_, _, e2⟩ <;> subst e2
            · cases rt; exact SeqAt.EqAt.tuple_none p hu0
            · cases rt; exact SeqAt.EqAt.tuple_bool _ p hu0
            · obtain ⟨tk, rfl⟩ := rt; exact SeqAt.EqAt.tuple_int _ tk p hu0
            · obtain ⟨tk, rfl⟩ := rt; exact SeqAt.EqAt.tuple_str _ tk p hu0
          · obtain ⟨its, rv, p, _⟩ := I.list c1
            rcases scal_v ry sy with ⟨_, e2⟩ | ⟨_, _, e2⟩ | ⟨_, _, e2⟩ | ⟨_, _, e2⟩ <;> subst e2
            · cases rt; exact SeqAt.EqAt.list_none p.isList hu0
            · cases rt; exact SeqAt.EqAt.list_bool _ p.isList hu0
            · obtain ⟨tk, rfl⟩ := rt; exact SeqAt.EqAt.list_int _ tk p.isList hu0
            · obtain ⟨tk, rfl⟩ := rt; exact SeqAt.EqAt.list_str _ tk p.isList hu0
      · cases qx : seqOf h y with
        | none => rw [qx] at e; cases e
        | some p =>
          obtain ⟨k, l⟩ := p
          rw [qx] at e
          cases e
          obtain ⟨a, vs, e1, r1, c1⟩ := seq_v hh ry qx
          subst e1
          cases rt
          rcases c1 with ⟨_, c1⟩ | ⟨_, c1⟩
          · obtain ⟨its, rv, p, _⟩ := I.tuple c1
            rcases scal_v rx sx with ⟨_, e2⟩ | ⟨_, _, e2⟩ | ⟨_, _, e2⟩ | ⟨_, _, e2⟩ <;> subst e2
            · cases ru; exact SeqAt.EqAt.none_tuple p hu0
            · cases ru; exact SeqAt.EqAt.bool_tuple _ p hu0
            · obtain ⟨tk, rfl⟩ := ru; exact SeqAt.EqAt.int_tuple _ tk p hu0
            · obtain ⟨tk, rfl⟩ := ru; exact SeqAt.EqAt.str_tuple _ tk p hu0
          · obtain ⟨its, rv, p, _⟩ := I.list c1
            rcases scal_v rx sx with ⟨_, e2⟩ | ⟨_, _, e2⟩ | ⟨_, _, e2⟩ | ⟨_, _, e2⟩ <;> subst e2
            · cases ru; exact SeqAt.EqAt.none_list p.isList hu0
            · cases ru; exact SeqAt.EqAt.bool_list _ p.isList hu0
            · obtain ⟨tk, rfl⟩ := ru; exact SeqAt.EqAt.int_list _ tk p.isList hu0
            · obtain ⟨tk, rfl⟩ := ru; exact SeqAt.EqAt.str_list _ tk p.isList hu0
      · rcases scal_v rx sx with ⟨e1, e2⟩ | ⟨i, e1, e2⟩ | ⟨i, e1, e2⟩ | ⟨i, e1, e2⟩ <;> rcases scal_v ry sy with ⟨e3, e4⟩ | ⟨j, e3, e4⟩ | ⟨j, e3, e4⟩ | ⟨j, e3, e4⟩ <;> subst e1 e2 e3 e4 <;> cases e
        · cases ru; cases rt; exact SeqAt.EqAt.same _
        · cases ru; cases rt; exact SeqAt.EqAt.none_bool _
        · obtain ⟨tk, rfl⟩ := rt; cases ru; exact SeqAt.EqAt.none_int _ _
        · obtain ⟨tk, rfl⟩ := rt; cases ru; exact SeqAt.EqAt.none_str _ _
        · cases ru; cases rt; exact SeqAt.EqAt.bool_none _
        · cases ru; cases rt; exact SeqAt.EqAt.bool_bool _ _
        · obtain ⟨tk, rfl⟩ := rt; cases ru; exact SeqAt.EqAt.bool_int _ _ _
        · obtain ⟨tk, rfl⟩ := rt; cases ru; exact SeqAt.EqAt.bool_str _ _ _
        · obtain ⟨tk, rfl⟩ := ru; cases rt; exact SeqAt.EqAt.int_none _ _
        · obtain ⟨tk, rfl⟩ := ru; cases rt; exact SeqAt.EqAt.int_bool _ _ _
        · obtain ⟨tk, rfl⟩ := ru; obtain ⟨tk', rfl⟩ := rt; exact SeqAt.EqAt.int_int _ _ _ _
        · obtain ⟨tk, rfl⟩ := ru; obtain ⟨tk', rfl⟩ := rt; exact SeqAt.EqAt.int_str _ _ _ _
        · obtain ⟨tk, rfl⟩ := ru; cases rt; exact SeqAt.EqAt.str_none _ _
        · obtain ⟨tk, rfl⟩ := ru; cases rt; exact SeqAt.EqAt.str_bool _ _ _
        · obtain ⟨tk, rfl⟩ := ru; obtain ⟨tk', rfl⟩ := rt; exact SeqAt.EqAt.str_int _ _ _ _
        · obtain ⟨tk, rfl⟩ := ru; obtain ⟨tk', rfl⟩ := rt; exact SeqAt.EqAt.str_str _ _ _ _
theorem eqZ_det {f f' : D → D → Option Bool} (hf : ∀ x x' y y' v w b b', RD (gd X) ρ H x v → RD (gd X) ρ H x' v → RD (gd X) ρ H y w → RD (gd X) ρ H y' w → f x y = some b → f' x' y' = some b' → b = b') :
    ∀ {l l' m m' : List D} {vs ws : List V} {b b' : Bool}, RDs (gd X) ρ H l vs → RDs (gd X) ρ H l' vs → RDs (gd X) ρ H m ws → RDs (gd X) ρ H m' ws → eqZ f l m = some b → eqZ f' l' m' = some b' → b = b'
  | [], l', m, m', vs, ws, b, b', h1, h2, h3, h4, e, e' => by
    rw [h1.invNil] at h2
    have : l' = [] := List.eq_nil_of_length_eq_zero h2.length
    subst this
    unfold eqZ at e e'
    cases e
    cases e'
    rfl
  | x :: l, l', [], m', vs, ws, b, b', h1, h2, h3, h4, e, e' => by
    rw [h3.invNil] at h4
    have : m' = [] := List.eq_nil_of_length_eq_zero h4.length
    subst this
    unfold eqZ at e
    cases e
    cases l' <;> (unfold eqZ at e'; cases e'; rfl)
  | x :: l, l', y :: m, m', vs, ws, b, b', h1, h2, h3, h4, e, e' => by
    obtain ⟨v, r, e1, q1, q2⟩ := h1.inv
    obtain ⟨w, r', e2, q3, q4⟩ := h3.inv
    subst e1 e2
    cases l' with
    | nil => exact absurd h2.length (by simp)
    | cons x' l' =>
      cases m' with
      | nil => exact absurd h4.length (by simp)
      | cons y' m' =>
        obtain ⟨v', s', e3, q5, q6⟩ := h2.inv
        obtain ⟨w', t', e4, q7, q8⟩ := h4.inv
        cases e3
        cases e4
        unfold eqZ at e e'
        cases z : f x y with
        | none => rw [z] at e; cases e
        | some a =>
          cases z' : f' x' y' with
          | none => rw [z'] at e'; cases e'
          | some a' =>
            rw [z] at e
            rw [z'] at e'
            dsimp only at e e'
            cases z2 : eqZ f l m with
            | none => rw [z2] at e; cases e
            | some c =>
              cases z3 : eqZ f' l' m' with
              | none => rw [z3] at e'; cases e'
              | some c' =>
                rw [z2] at e
                rw [z3] at e'
                cases e
                cases e'
                rw [hf x x' y y' v w a a' q1 q5 q3 q7 z z', eqZ_det hf q2 q6 q4 q8 z2 z3]
theorem scal_ref {g : Gd} {x : D} {a : Addr} (r : RD g ρ H x (.ref a)) : isScal x = false := by
  cases e : isScal x with
  | false => rfl
  | true => rcases scal_v r e with ⟨_, e2⟩ | ⟨_, _, e2⟩ | ⟨_, _, e2⟩ | ⟨_, _, e2⟩ <;> cases e2
theorem scal_inj {g : Gd} {x x' : D} {v : V} (r : RD g ρ H x v) (r' : RD g ρ H x' v) (e : isScal x = true) (e' : isScal x' = true) : x = x' := by
  rcases scal_v r e with ⟨e1, e2⟩ | ⟨_, e1, e2⟩ | ⟨_, e1, e2⟩ | ⟨_, e1, e2⟩ <;> rcases scal_v r' e' with ⟨e3, e4⟩ | ⟨_, e3, e4⟩ | ⟨_, e3, e4⟩ | ⟨_, e3, e4⟩ <;> subst e1 e2 e3 <;> cases e4 <;> rfl
theorem eqTop_det (I : Inv X pins σ H s) (hh : RH (gd X) ρ H h) {f f' : D → D → Option Bool} (hf : ∀ x x' y y' v w b b', RD (gd X) ρ H x v → RD (gd X) ρ H x' v → RD (gd X) ρ H y w → RD (gd X) ρ H y' w → f x y = some b → f' x' y' = some b' → b = b')
    {x x' y y' : D} {v w : V} {b b' : Bool} (r1 : RD (gd X) ρ H x v) (r2 : RD (gd X) ρ H x' v) (r3 : RD (gd X) ρ H y w) (r4 : RD (gd X) ρ H y' w) (e : eqTop h f x y = some b) (e' : eqTop h f' x' y' = some b') : b = b' := by
  -- a scalar or a sequence, by the value alone
  have kind : ∀ {x : D} {v : V}, RD (gd X) ρ H x v → (isScal x = true) ∨ (isScal x = false ∧ ∀ p, seqOf h x = some p → ∃ a, v = .ref a) := fun {x v} r => by
    cases z : isScal x with
    | true => exact .inl rfl
    | false =>
      refine .inr ⟨rfl, fun p q => ?_⟩
      obtain ⟨k, l⟩ := p
      obtain ⟨a, vs, e1, _⟩ := seq_v hh r q
      exact ⟨a, e1⟩
  unfold eqTop at e e'
  cases sx : isScal x <;> cases sy : isScal y <;> rw [sx, sy] at e <;> dsimp only at e
  · cases qx : seqOf h x with
    | none => rw [qx] at e; cases e
    | some p =>
      cases qy : seqOf h y with
      | none => rw [qx, qy] at e; cases e
      | some p' =>
        obtain ⟨k, l⟩ := p
        obtain ⟨k', m⟩ := p'
        rw [qx, qy] at e
        dsimp only at e
        obtain ⟨a, vs, e1, q1, c1⟩ := seq_v hh r1 qx
        obtain ⟨a', ws, e2, q2, c2⟩ := seq_v hh r3 qy
        subst e1 e2
        rw [scal_ref r2, scal_ref r4] at e'
        dsimp only at e'
        cases qx' : seqOf h x' with
        | none => rw [qx'] at e'; cases e'
        | some p2 =>
          cases qy' : seqOf h y' with
          | none => rw [qx', qy'] at e'; cases e'
          | some p3 =>
            obtain ⟨k2, l2⟩ := p2
            obtain ⟨k3, m2⟩ := p3
            rw [qx', qy'] at e'
            dsimp only at e'
            obtain ⟨a2, vs2, f1, q3, c3⟩ := seq_v hh r2 qx'
            obtain ⟨a3, ws2, f2, q4, c4⟩ := seq_v hh r4 qy'
            cases f1
            cases f2
            obtain ⟨g1, g2⟩ := seq_inj I c1 c3
            obtain ⟨g3, g4⟩ := seq_inj I c2 c4
            subst g1 g2 g3 g4
            by_cases hk : k = k'
            · rw [if_pos hk] at e e'
              unfold eqSeq at e e'
              have n1 : l.length = l2.length := by rw [q1.length, q3.length]
              have n2 : m.length = m2.length := by rw [q2.length, q4.length]
              rw [← n1, ← n2] at e'
              split at e
              · rename_i hc
                rw [if_pos hc] at e'
                cases e
                cases e'
                rfl
              · rename_i hc
                rw [if_neg hc] at e'
                cases z : eqZ f l m with
                | none => rw [z] at e; cases e
                | some c =>
                  cases z' : eqZ f' l2 m2 with
                  | none => rw [z'] at e'; cases e'
                  | some c' =>
                    rw [z] at e
                    rw [z'] at e'
                    cases e
                    cases e'
                    rw [eqZ_det hf q1 q3 q2 q4 z z']
            · rw [if_neg hk] at e e'
              cases e
              cases e'
              rfl
  · cases qx : seqOf h x with
    | none => rw [qx] at e; cases e
    | some p =>
      rw [qx] at e
      cases e
      obtain ⟨a, vs, e1, _⟩ := seq_v hh r1 (show seqOf h x = some (p.1, p.2) from qx)
      subst e1
      rw [scal_ref r2] at e'
      cases sy' : isScal y' with
      | true =>
        rw [sy'] at e'
        dsimp only at e'
        cases qx' : seqOf h x' with
        | none => rw [qx'] at e'; cases e'
        | some p' => rw [qx'] at e'; cases e'; rfl
      | false =>
        rw [sy'] at e'
        dsimp only at e'
        cases qx' : seqOf h x' with
        | none => rw [qx'] at e'; cases e'
        | some p' =>
          cases qy' : seqOf h y' with
          | none => rw [qx', qy'] at e'; cases e'
          | some p2 =>
            obtain ⟨a', vs', e2, _⟩ := seq_v hh r4 (show seqOf h y' = some (p2.1, p2.2) from qy')
            subst e2
            rw [scal_ref r3] at sy
            cases sy
  · cases qy : seqOf h y with
    | none => rw [qy] at e; cases e
    | some p =>
      rw [qy] at e
      cases e
      obtain ⟨a, vs, e1, _⟩ := seq_v hh r3 (show seqOf h y = some (p.1, p.2) from qy)
      subst e1
      rw [scal_ref r4] at e'
      cases sx' : isScal x' with
      | true =>
        rw [sx'] at e'
        dsimp only at e'
        cases qy' : seqOf h y' with
        | none => rw [qy'] at e'; cases e'
        | some p' => rw [qy'] at e'; cases e'; rfl
      | false =>
        rw [sx'] at e'
        dsimp only at e'
        cases qx' : seqOf h x' with
        | none => rw [qx'] at e'; cases e'
        | some p' =>
          obtain ⟨a', vs', e2, _⟩ := seq_v hh r2 (show seqOf h x' = some (p'.1, p'.2) from qx')
          subst e2
          rw [scal_ref r1] at sx
          cases sx
  · cases e
    cases sx' : isScal x' with
    | false =>
      rw [sx'] at e'
      rcases kind r2 with k | ⟨_, k⟩
      · rw [sx'] at k; cases k
      · have nx : ∀ p, seqOf h x' = some p → False := fun p q => by
          obtain ⟨a, e1⟩ := k p q
          subst e1
          rw [scal_ref r1] at sx
          cases sx
        cases qx' : seqOf h x' with
        | some p => exact (nx p qx').elim
        | none => rw [qx'] at e'; cases z : isScal y' <;> (rw [z] at e'; cases e')
    | true =>
      cases sy' : isScal y' with
      | false =>
        rw [sx', sy'] at e'
        rcases kind r4 with k | ⟨_, k⟩
        · rw [sy'] at k; cases k
        · cases qy' : seqOf h y' with
          | none => rw [qy'] at e'; cases e'
          | some p =>
            obtain ⟨a, e1⟩ := k p qy'
            subst e1
            rw [scal_ref r3] at sy
            cases sy
      | true =>
        rw [sx', sy'] at e'
        cases e'
        rw [scal_inj r1 r2 sx sx', scal_inj r3 r4 sy sy']
theorem eqv_det (I : Inv X pins σ H s) (hh : RH (gd X) ρ H h) : ∀ (n n' : Nat) (x x' y y' : D) (v w : V) (b b' : Bool), RD (gd X) ρ H x v → RD (gd X) ρ H x' v → RD (gd X) ρ H y w → RD (gd X) ρ H y' w → eqv h n x y = some b → eqv h n' x' y' = some b' → b = b'
  | 0, _, _, _, _, _, _, _, _, _, _, _, _, _, e, _ => by cases e
  | _, 0, _, _, _, _, _, _, _, _, _, _, _, _, _, e => by cases e
  | n + 1, n' + 1, x, x', y, y', v, w, b, b', r1, r2, r3, r4, e, e' => by
    have s0 := e
    have s1 := e'
    unfold eqv at e e'
    split at e
    · rename_i hi
      cases e
      have := idRef_eq hi
      subst this
      have hv : v = w := by
        cases x <;> first | (cases hi; done) | skip
        obtain ⟨a, e1, e2⟩ := RD_ref r1
        obtain ⟨a', e3, e4⟩ := RD_ref r3
        rw [e1] at e3
        cases e3
        rw [e2, e4]
      subst hv
      exact (eqv_same I hh (n' + 1) x' y' v b' r2 r4 s1).symm
    · split at e'
      · rename_i hi
        cases e'
        have := idRef_eq hi
        subst this
        have hv : v = w := by
          cases x' <;> first | (cases hi; done) | skip
          obtain ⟨a, e1, e2⟩ := RD_ref r2
          obtain ⟨a', e3, e4⟩ := RD_ref r4
          rw [e1] at e3
          cases e3
          rw [e2, e4]
        subst hv
        exact eqv_same I hh (n + 1) x y v b r1 r3 s0
      · exact eqTop_det I hh (fun x x' y y' v w b b' => eqv_det I hh n n' x x' y y' v w b b') r1 r2 r3 r4 e e'
end
def deep : Nat := 12
def eqT (h : MH) (x y : D) : Option Bool := eqTop h (eqv h deep) x y
def eqF : D → D → MH → R D := fun x y h => match eqT h x y with
  | some b => .ok (.bl b) h
  | none => .bad
def neF : D → D → MH → R D := fun x y h => match eqT h x y with
  | some b => .ok (.bl (!b)) h
  | none => .bad
/-- x in a list or a tuple -/
def anyF (f : D → Option Bool) : List D → Option Bool
  | [] => some false
  | y :: l => (match f y with
    | some a => (match anyF f l with
      | some b => some (a || b)
      | none => none)
    | none => none)
def memT (h : MH) (x y : D) : Option Bool := match seqOf h y with
  | some (_, l) => anyF (fun z => eqv h deep z x) l
  | none => none
/-- a mirror's answer, as an operator's reading -/
def rM (g : Gd) (f : MH → D → D → Option Bool) (neg : Bool) : R2 := fun vx vy H Q => ∃ ρ h x y b, RH g ρ H h ∧ RD g ρ H x vx ∧ RD g ρ H y vy ∧ f h x y = some b ∧ Q (.bl (if neg then !b else b)) H
theorem rf_eq {g : Gd} : RF2 g eqF (rM g eqT false) := fun Wf Q ρ H h x y vx vy hh rx ry p => by
  unfold eqF at p
  split at p
  · rename_i b hb
    exact ⟨ρ, h, x, y, b, hh, rx, ry, hb, p.okk hh (by unfold RD; rfl)⟩
  · exact p.elim
theorem rf_ne {g : Gd} : RF2 g neF (rM g eqT true) := fun Wf Q ρ H h x y vx vy hh rx ry p => by
  unfold neF at p
  split at p
  · rename_i b hb
    exact ⟨ρ, h, x, y, b, hh, rx, ry, hb, p.okk hh (by unfold RD; rfl)⟩
  · exact p.elim
section
variable {X : Cx}
theorem op_eqM (hu : X.A.units + 64 < cLine) : OpR X (compareOp .Eq) (rM (gd X) eqT false) := by
  intro pins s σ H vx vy u t Q I ru rt hq
  obtain ⟨ρ, h, x, y, b, hh, rx, ry, e, q⟩ := hq
  have hu0 : X.A.units < cLine := by omega
  have hu1 : X.A.in1.units + deep < cLine := by show X.A.units + 1 + 12 < cLine; omega
  have fin : EP X pins σ Q (.bool b) s := ⟨.bl b, H, I, rfl, q⟩
  suffices hs : SeqAt.RcAt X.A s u t b from hs X.prog X.w X.xe _ fin
  unfold eqT eqTop at e
  cases sx : isScal x <;> cases sy : isScal y <;> rw [sx, sy] at e <;> dsimp only at e
  · cases qx : seqOf h x with
    | none => rw [qx] at e; cases e
    | some p =>
      cases qy : seqOf h y with
      | none => rw [qx, qy] at e; cases e
      | some p' =>
        obtain ⟨k, l⟩ := p
        obtain ⟨k', m⟩ := p'
        rw [qx, qy] at e
        dsimp only at e
        obtain ⟨a, vs, e1, r1, c1⟩ := seq_v hh rx qx
        obtain ⟨a', vs', e2, r2, c2⟩ := seq_v hh ry qy
        subst e1 e2
        cases ru
        cases rt
        rcases c1 with ⟨k1, c1⟩ | ⟨k1, c1⟩ <;> rcases c2 with ⟨k2, c2⟩ | ⟨k2, c2⟩ <;> subst k1 k2
        · rw [if_pos rfl] at e
          unfold eqSeq at e
          rw [if_neg (fun z => by cases z.1)] at e
          obtain ⟨its, rv, p, _⟩ := I.tuple c1
          obtain ⟨its', rv', p', _⟩ := I.tuple c2
          cases z : eqZ (eqv h deep) l m with
          | none => rw [z] at e; cases e
          | some c =>
            rw [z] at e
            cases e
            obtain ⟨ee, z1, z2⟩ := eqZ_map z
            have q := SeqAt.RcAt.tuples (e := ee) p p' hu0 fun j h1 h2 => by
              have h1' : j < its.length := by simpa using h1
              have h2' : j < its'.length := by simpa using h2
              obtain ⟨x1, v1, f1, f2, f3⟩ := vals_at rv r1 h1'
              obtain ⟨y1, w1, g1, g2, g3⟩ := vals_at rv' r2 h2'
              have := eqv_at I hh deep X.A.in1 x1 y1 v1 w1 _ _ _ hu1 f2 g2 f3 g3 (z1 j x1 y1 f1 g1)
              simpa using this
            have n1 : its.toArray.size = l.length := by rw [List.size_toArray, ← rv.length, r1.length]
            have n2 : its'.toArray.size = m.length := by rw [List.size_toArray, ← rv'.length, r2.length]
            rw [n1, n2] at q
            rw [z2]
            exact q
        · rw [if_neg (by decide)] at e
          cases e
          obtain ⟨its, rv, p, _⟩ := I.tuple c1
          obtain ⟨its', rv', p', _⟩ := I.list c2
          exact SeqAt.RcAt.tuple_list p p'.isList hu0
        · rw [if_neg (by decide)] at e
          cases e
          obtain ⟨its, rv, p, _⟩ := I.list c1
          obtain ⟨its', rv', p', _⟩ := I.tuple c2
          exact SeqAt.RcAt.list_tuple p.isList p' hu0
        · rw [if_pos rfl] at e
          unfold eqSeq at e
          obtain ⟨its, rv, p, _⟩ := I.list c1
          obtain ⟨its', rv', p', _⟩ := I.list c2
          have n1 : its.toArray.size = l.length := by rw [List.size_toArray, ← rv.length, r1.length]
          have n2 : its'.toArray.size = m.length := by rw [List.size_toArray, ← rv'.length, r2.length]
          by_cases hl : l.length = m.length
          · rw [if_neg (fun z => z.2 hl)] at e
            cases z : eqZ (eqv h deep) l m with
            | none => rw [z] at e; cases e
            | some c =>
              rw [z] at e
              cases e
              obtain ⟨ee, z1, z2⟩ := eqZ_map z
              have q := SeqAt.RcAt.lists (e := ee) p.isList p'.isList (by rw [n1, n2, hl]) hu0 fun j h1 h2 => by
                have h1' : j < its.length := by simpa using h1
                have h2' : j < its'.length := by simpa using h2
                obtain ⟨x1, v1, f1, f2, f3⟩ := vals_at rv r1 h1'
                obtain ⟨y1, w1, g1, g2, g3⟩ := vals_at rv' r2 h2'
                have := eqv_at I hh deep X.A.in1 x1 y1 v1 w1 _ _ _ hu1 f2 g2 f3 g3 (z1 j x1 y1 f1 g1)
                simpa using this
              rw [n1] at q
              rw [z2, ← hl, Nat.min_self]
              simpa using q
          · rw [if_pos ⟨rfl, hl⟩] at e
            cases e
            refine SeqAt.RcAt.lists_lengths p.isList p'.isList ?_ hu0
            rw [n1, n2]
            simpa using hl
  · cases qx : seqOf h x with
    | none => rw [qx] at e; cases e
    | some p =>
      obtain ⟨k, l⟩ := p
      rw [qx] at e
      cases e
      obtain ⟨a, vs, e1, r1, c1⟩ := seq_v hh rx qx
      subst e1
      cases ru
      rcases c1 with ⟨_, c1⟩ | ⟨_, c1⟩
      · obtain ⟨its, rv, p, _⟩ := I.tuple c1
        rcases scal_v ry sy with ⟨_, e2⟩ | ⟨_, _, e2⟩ | ⟨_, _, e2⟩ | ⟨_, _, e2⟩ <;> subst e2
        · cases rt; exact SeqAt.RcAt.tuple_none p hu0
        · cases rt; exact SeqAt.RcAt.tuple_bool _ p hu0
        · obtain ⟨tk, rfl⟩ := rt; exact SeqAt.RcAt.tuple_int _ tk p hu0
        · obtain ⟨tk, rfl⟩ := rt; exact SeqAt.RcAt.tuple_str _ tk p hu0
      · obtain ⟨its, rv, p, _⟩ := I.list c1
        rcases scal_v ry sy with ⟨_, e2⟩ | ⟨_, _, e2⟩ | ⟨_, _, e2⟩ | ⟨_, _, e2⟩ <;> subst e2
        · cases rt; exact SeqAt.RcAt.list_none p.isList hu0
        · cases rt; exact SeqAt.RcAt.list_bool _ p.isList hu0
        · obtain ⟨tk, rfl⟩ := rt; exact SeqAt.RcAt.list_int _ tk p.isList hu0
        · obtain ⟨tk, rfl⟩ := rt; exact SeqAt.RcAt.list_str _ tk p.isList hu0
  · cases qx : seqOf h y with
    | none => rw [qx] at e; cases e
    | some p =>
      obtain ⟨k, l⟩ := p
      rw [qx] at e
      cases e
      obtain ⟨a, vs, e1, r1, c1⟩ := seq_v hh ry qx
      subst e1
      cases rt
      rcases c1 with ⟨_, c1⟩ | ⟨_, c1⟩
      · obtain ⟨its, rv, p, _⟩ := I.tuple c1
        rcases scal_v rx sx with ⟨_, e2⟩ | ⟨_, _, e2⟩ | ⟨_, _, e2⟩ | ⟨_, _, e2⟩ <;> subst e2
        · cases ru; exact SeqAt.RcAt.none_tuple p hu0
        · cases ru; exact SeqAt.RcAt.bool_tuple _ p hu0
        · obtain ⟨tk, rfl⟩ := ru; exact SeqAt.RcAt.int_tuple _ tk p hu0
        · obtain ⟨tk, rfl⟩ := ru; exact SeqAt.RcAt.str_tuple _ tk p hu0
      · obtain ⟨its, rv, p, _⟩ := I.list c1
        rcases scal_v rx sx with ⟨_, e2⟩ | ⟨_, _, e2⟩ | ⟨_, _, e2⟩ | ⟨_, _, e2⟩ <;> subst e2
        · cases ru; exact SeqAt.RcAt.none_list p.isList hu0
        · cases ru; exact SeqAt.RcAt.bool_list _ p.isList hu0
        · obtain ⟨tk, rfl⟩ := ru; exact SeqAt.RcAt.int_list _ tk p.isList hu0
        · obtain ⟨tk, rfl⟩ := ru; exact SeqAt.RcAt.str_list _ tk p.isList hu0
  · rcases scal_v rx sx with ⟨e1, e2⟩ | ⟨i, e1, e2⟩ | ⟨i, e1, e2⟩ | ⟨i, e1, e2⟩ <;> rcases scal_v ry sy with ⟨e3, e4⟩ | ⟨j, e3, e4⟩ | ⟨j, e3, e4⟩ | ⟨j, e3, e4⟩ <;> subst e1 e2 e3 e4 <;> cases e
    · cases ru; cases rt; exact SeqAt.RcAt.none_none
    · cases ru; cases rt; exact SeqAt.RcAt.none_bool _
    · obtain ⟨tk, rfl⟩ := rt; cases ru; exact SeqAt.RcAt.none_int _ _
    · obtain ⟨tk, rfl⟩ := rt; cases ru; exact SeqAt.RcAt.none_str _ _
    · cases ru; cases rt; exact SeqAt.RcAt.bool_none _
    · cases ru; cases rt; exact SeqAt.RcAt.bool_bool _ _
    · obtain ⟨tk, rfl⟩ := rt; cases ru; exact SeqAt.RcAt.bool_int _ _ _
    · obtain ⟨tk, rfl⟩ := rt; cases ru; exact SeqAt.RcAt.bool_str _ _ _
    · obtain ⟨tk, rfl⟩ := ru; cases rt; exact SeqAt.RcAt.int_none _ _
    · obtain ⟨tk, rfl⟩ := ru; cases rt; exact SeqAt.RcAt.int_bool _ _ _
    · obtain ⟨tk, rfl⟩ := ru; obtain ⟨tk', rfl⟩ := rt; exact SeqAt.RcAt.int_int _ _ _ _
    · obtain ⟨tk, rfl⟩ := ru; obtain ⟨tk', rfl⟩ := rt; exact SeqAt.RcAt.int_str _ _ _ _
    · obtain ⟨tk, rfl⟩ := ru; cases rt; exact SeqAt.RcAt.str_none _ _
    · obtain ⟨tk, rfl⟩ := ru; cases rt; exact SeqAt.RcAt.str_bool _ _ _
    · obtain ⟨tk, rfl⟩ := ru; obtain ⟨tk', rfl⟩ := rt; exact SeqAt.RcAt.str_int _ _ _ _
    · obtain ⟨tk, rfl⟩ := ru; obtain ⟨tk', rfl⟩ := rt; exact SeqAt.RcAt.str_str _ _ _ _
theorem op_neM (hu : X.A.units + 64 < cLine) : OpR X (compareOp .NotEq) (rM (gd X) eqT true) := by
  intro pins s σ H vx vy u t Q I ru rt hq
  obtain ⟨ρ, h, x, y, b, hh, rx, ry, e, q⟩ := hq
  have hu0 : X.A.units < cLine := by omega
  have hu1 : X.A.in1.units + deep < cLine := by show X.A.units + 1 + 12 < cLine; omega
  have fin : EP X pins σ Q (.bool (!b)) s := ⟨.bl (!b), H, I, rfl, q⟩
  suffices hs : SeqAt.RcNeAt X.A s u t (!b) from hs X.prog X.w X.xe _ fin
  unfold eqT eqTop at e
  cases sx : isScal x <;> cases sy : isScal y <;> rw [sx, sy] at e <;> dsimp only at e
  · cases qx : seqOf h x with
    | none => rw [qx] at e; cases e
    | some p =>
      cases qy : seqOf h y with
      | none => rw [qx, qy] at e; cases e
      | some p' =>
        obtain ⟨k, l⟩ := p
        obtain ⟨k', m⟩ := p'
        rw [qx, qy] at e
        dsimp only at e
        obtain ⟨a, vs, e1, r1, c1⟩ := seq_v hh rx qx
        obtain ⟨a', vs', e2, r2, c2⟩ := seq_v hh ry qy
        subst e1 e2
        cases ru
        cases rt
        rcases c1 with ⟨k1, c1⟩ | ⟨k1, c1⟩ <;> rcases c2 with ⟨k2, c2⟩ | ⟨k2, c2⟩ <;> subst k1 k2
        · rw [if_pos rfl] at e
          unfold eqSeq at e
          rw [if_neg (fun z => by cases z.1)] at e
          obtain ⟨its, rv, p, _⟩ := I.tuple c1
          obtain ⟨its', rv', p', _⟩ := I.tuple c2
          cases z : eqZ (eqv h deep) l m with
          | none => rw [z] at e; cases e
          | some c =>
            rw [z] at e
            cases e
            obtain ⟨ee, z1, z2⟩ := eqZ_map z
            have q := SeqAt.RcNeAt.tuples (e := ee) p p' hu0 fun j h1 h2 => by
              have h1' : j < its.length := by simpa using h1
              have h2' : j < its'.length := by simpa using h2
              obtain ⟨x1, v1, f1, f2, f3⟩ := vals_at rv r1 h1'
              obtain ⟨y1, w1, g1, g2, g3⟩ := vals_at rv' r2 h2'
              have := eqv_at I hh deep X.A.in1 x1 y1 v1 w1 _ _ _ hu1 f2 g2 f3 g3 (z1 j x1 y1 f1 g1)
              simpa using this
            have n1 : its.toArray.size = l.length := by rw [List.size_toArray, ← rv.length, r1.length]
            have n2 : its'.toArray.size = m.length := by rw [List.size_toArray, ← rv'.length, r2.length]
            rw [n1, n2] at q
            rw [z2]
            exact q
        · rw [if_neg (by decide)] at e
          cases e
          obtain ⟨its, rv, p, _⟩ := I.tuple c1
          obtain ⟨its', rv', p', _⟩ := I.list c2
          exact SeqAt.RcNeAt.tuple_list p p'.isList hu0
        · rw [if_neg (by decide)] at e
          cases e
          obtain ⟨its, rv, p, _⟩ := I.list c1
          obtain ⟨its', rv', p', _⟩ := I.tuple c2
          exact SeqAt.RcNeAt.list_tuple p.isList p' hu0
        · rw [if_pos rfl] at e
          unfold eqSeq at e
          obtain ⟨its, rv, p, _⟩ := I.list c1
          obtain ⟨its', rv', p', _⟩ := I.list c2
          have n1 : its.toArray.size = l.length := by rw [List.size_toArray, ← rv.length, r1.length]
          have n2 : its'.toArray.size = m.length := by rw [List.size_toArray, ← rv'.length, r2.length]
          by_cases hl : l.length = m.length
          · rw [if_neg (fun z => z.2 hl)] at e
            cases z : eqZ (eqv h deep) l m with
            | none => rw [z] at e; cases e
            | some c =>
              rw [z] at e
              cases e
              obtain ⟨ee, z1, z2⟩ := eqZ_map z
              have q := SeqAt.RcNeAt.lists (e := ee) p.isList p'.isList (by rw [n1, n2, hl]) hu0 fun j h1 h2 => by
                have h1' : j < its.length := by simpa using h1
                have h2' : j < its'.length := by simpa using h2
                obtain ⟨x1, v1, f1, f2, f3⟩ := vals_at rv r1 h1'
                obtain ⟨y1, w1, g1, g2, g3⟩ := vals_at rv' r2 h2'
                have := eqv_at I hh deep X.A.in1 x1 y1 v1 w1 _ _ _ hu1 f2 g2 f3 g3 (z1 j x1 y1 f1 g1)
                simpa using this
              rw [n1] at q
              rw [z2, ← hl, Nat.min_self]
              simpa using q
          · rw [if_pos ⟨rfl, hl⟩] at e
            cases e
            refine SeqAt.RcNeAt.lists_lengths p.isList p'.isList ?_ hu0
            rw [n1, n2]
            simpa using hl
  · cases qx : seqOf h x with
    | none => rw [qx] at e; cases e
    | some p =>
      obtain ⟨k, l⟩ := p
      rw [qx] at e
      cases e
      obtain ⟨a, vs, e1, r1, c1⟩ := seq_v hh rx qx
      subst e1
      cases ru
      rcases c1 with ⟨_, c1⟩ | ⟨_, c1⟩
      · obtain ⟨its, rv, p, _⟩ := I.tuple c1
        rcases scal_v ry sy with ⟨_, e2⟩ | ⟨_, _, e2⟩ | ⟨_, _, e2⟩ | ⟨_, _, e2⟩ <;> subst e2
        · cases rt; exact SeqAt.RcNeAt.tuple_none p hu0
        · cases rt; exact SeqAt.RcNeAt.tuple_bool _ p hu0
        · obtain ⟨tk, rfl⟩ := rt; exact SeqAt.RcNeAt.tuple_int _ tk p hu0
        · obtain ⟨tk, rfl⟩ := rt; exact SeqAt.RcNeAt.tuple_str _ tk p hu0
      · obtain ⟨its, rv, p, _⟩ := I.list c1
        rcases scal_v ry sy with ⟨_, e2⟩ | ⟨_, _, e2⟩ | ⟨_, _, e2⟩ | ⟨_, _, e2⟩ <;> subst e2
        · cases rt; exact SeqAt.RcNeAt.list_none p.isList hu0
        · cases rt; exact SeqAt.RcNeAt.list_bool _ p.isList hu0
        · obtain ⟨tk, rfl⟩ := rt; exact SeqAt.RcNeAt.list_int _ tk p.isList hu0
        · obtain ⟨tk, rfl⟩ := rt; exact SeqAt.RcNeAt.list_str _ tk p.isList hu0
  · cases qx : seqOf h y with
    | none => rw [qx] at e; cases e
    | some p =>
      obtain ⟨k, l⟩ := p
      rw [qx] at e
      cases e
      obtain ⟨a, vs, e1, r1, c1⟩ := seq_v hh ry qx
      subst e1
      cases rt
      rcases c1 with ⟨_, c1⟩ | ⟨_, c1⟩
      · obtain ⟨its, rv, p, _⟩ := I.tuple c1
        rcases scal_v rx sx with ⟨_, e2⟩ | ⟨_, _, e2⟩ | ⟨_, _, e2⟩ | ⟨_, _, e2⟩ <;> subst e2
        · cases ru; exact SeqAt.RcNeAt.none_tuple p hu0
        · cases ru; exact SeqAt.RcNeAt.bool_tuple _ p hu0
        · obtain ⟨tk, rfl⟩ := ru; exact SeqAt.RcNeAt.int_tuple _ tk p hu0
        · obtain ⟨tk, rfl⟩ := ru; exact SeqAt.RcNeAt.str_tuple _ tk p hu0
      · obtain ⟨its, rv, p, _⟩ := I.list c1
        rcases scal_v rx sx with ⟨_, e2⟩ | ⟨_, _, e2⟩ | ⟨_, _, e2⟩ | ⟨_, _, e2⟩ <;> subst e2
        · cases ru; exact SeqAt.RcNeAt.none_list p.isList hu0
        · cases ru; exact SeqAt.RcNeAt.bool_list _ p.isList hu0
        · obtain ⟨tk, rfl⟩ := ru; exact SeqAt.RcNeAt.int_list _ tk p.isList hu0
        · obtain ⟨tk, rfl⟩ := ru; exact SeqAt.RcNeAt.str_list _ tk p.isList hu0
  · rcases scal_v rx sx with ⟨e1, e2⟩ | ⟨i, e1, e2⟩ | ⟨i, e1, e2⟩ | ⟨i, e1, e2⟩ <;> rcases scal_v ry sy with ⟨e3, e4⟩ | ⟨j, e3, e4⟩ | ⟨j, e3, e4⟩ | ⟨j, e3, e4⟩ <;> subst e1 e2 e3 e4 <;> cases e
    · cases ru; cases rt; exact SeqAt.RcNeAt.none_none
    · cases ru; cases rt; exact SeqAt.RcNeAt.none_bool _
    · obtain ⟨tk, rfl⟩ := rt; cases ru; exact SeqAt.RcNeAt.none_int _ _
    · obtain ⟨tk, rfl⟩ := rt; cases ru; exact SeqAt.RcNeAt.none_str _ _
    · cases ru; cases rt; exact SeqAt.RcNeAt.bool_none _
    · cases ru; cases rt; exact SeqAt.RcNeAt.bool_bool _ _
    · obtain ⟨tk, rfl⟩ := rt; cases ru; exact SeqAt.RcNeAt.bool_int _ _ _
    · obtain ⟨tk, rfl⟩ := rt; cases ru; exact SeqAt.RcNeAt.bool_str _ _ _
    · obtain ⟨tk, rfl⟩ := ru; cases rt; exact SeqAt.RcNeAt.int_none _ _
    · obtain ⟨tk, rfl⟩ := ru; cases rt; exact SeqAt.RcNeAt.int_bool _ _ _
    · obtain ⟨tk, rfl⟩ := ru; obtain ⟨tk', rfl⟩ := rt; exact SeqAt.RcNeAt.int_int _ _ _ _
    · obtain ⟨tk, rfl⟩ := ru; obtain ⟨tk', rfl⟩ := rt; exact SeqAt.RcNeAt.int_str _ _ _ _
    · obtain ⟨tk, rfl⟩ := ru; cases rt; exact SeqAt.RcNeAt.str_none _ _
    · obtain ⟨tk, rfl⟩ := ru; cases rt; exact SeqAt.RcNeAt.str_bool _ _ _
    · obtain ⟨tk, rfl⟩ := ru; obtain ⟨tk', rfl⟩ := rt; exact SeqAt.RcNeAt.str_int _ _ _ _
    · obtain ⟨tk, rfl⟩ := ru; obtain ⟨tk', rfl⟩ := rt; exact SeqAt.RcNeAt.str_str _ _ _ _
end
end ML
namespace ML
open PySem PySem.Spec PyProof.Rows L2
def lstOf (h : MH) : D → Option (List D)
  | .ref n => (match h[n]? with
    | some (.lst l) => some l
    | _ => none)
  | _ => none
def addF : D → D → MH → R D := fun x y h => match x, y with
  | .int i, .int j => .ok (.int (i + j)) h
  | .str a, .str b => if a.length + b.length ≤ 1000000 then .ok (.str (a ++ b)) h else .bad
  | .tup l, .tup m => if l.length + m.length ≤ 1000000 then .ok (.tup (l ++ m)) h else .bad
  | .ref a, .ref b => (match lstOf h (.ref a), lstOf h (.ref b) with
    | some l, some m => if l.length + m.length ≤ 1000000 then .ok (.ref h.length) (h ++ [.lst (l ++ m)]) else .bad
    | _, _ => .bad)
  | _, _ => .bad
def subF : D → D → MH → R D := fun x y h => match x, y with
  | .int i, .int j => .ok (.int (i - j)) h
  | _, _ => .bad
def mulF : D → D → MH → R D := fun x y h => match x, y with
  | .int i, .int j => if i.natAbs.log2 + j.natAbs.log2 < 100000000 then .ok (.int (i * j)) h else .bad
  | .ref a, .int k => (match lstOf h (.ref a) with
    | some l => if -1000 ≤ k ∧ k ≤ 1000 ∧ l.length ≤ 1000 then .ok (.ref h.length) (h ++ [.lst (List.replicate k.toNat l).flatten]) else .bad
    | none => .bad)
  | _, _ => .bad
def modF : D → D → MH → R D := fun x y h => match x, y with
  | .int i, .int j => if 0 < j then .ok (.int (i % j)) h else .bad
  | _, _ => .bad
def fdivF : D → D → MH → R D := fun x y h => match x, y with
  | .int i, .int j => if 0 < j ∧ j.natAbs.log2 < 9000 then .ok (.int (i / j)) h else .bad
  | _, _ => .bad
def powF : D → D → MH → R D := fun x y h => match x, y with
  | .int i, .int j => if 0 ≤ j ∧ ((i.natAbs.log2 + 1 : Nat) : Int) * j ≤ 2 ^ 27 then .ok (.int (i ^ j.toNat)) h else .bad
  | _, _ => .bad
section
variable {X : Cx} {g : Gd} {ρ : List Addr} {H : Hp} {h : MH}
theorem lst_v (hh : RH g ρ H h) {x : D} {v : V} {l : List D} (r : RD g ρ H x v) (e : lstOf h x = some l) : ∃ n a vs, x = .ref n ∧ h[n]? = some (.lst l) ∧ ρ[n]? = some a ∧ v = .ref a ∧ H a = some (.lst vs) ∧ RDs g ρ H l vs := by
  cases x <;> first | (cases e; done) | skip
  rename_i n
  obtain ⟨a, e1, e2⟩ := RD_ref r
  unfold lstOf at e
  dsimp only at e
  split at e
  · rename_i m hm
    cases e
    obtain ⟨vs, e3, rs⟩ := hh.obj n _ a hm e1
    exact ⟨n, a, vs, rfl, hm, e1, e2, e3, rs⟩
  · cases e
def rAddM (K : PySem.W.Frag) : R2 := fun x y H Q => (rI0 fun i j => .int (i + j)) x y H Q ∨ (∃ i j, x = .str i ∧ y = .str j ∧ i.length + j.length ≤ sizeLine ∧ Q (.str (i ++ j)) H) ∨ rCatA K x y H Q ∨ rCat x y H Q
theorem op_addM : OpR X (binaryOp .Add) (rAddM X.K) := OpR.or op_add (OpR.or op_add_str (OpR.or op_catA op_cat))
theorem RD.tupN {l : List D} {a : Addr} {vs : List V} (sq : SqT g.K H a vs) (r : RDs g ρ H l vs) : RD g ρ H (.tup l) (.ref a) := by unfold RD; exact ⟨a, vs, rfl, sq, r⟩
theorem RD.intN {i : Int} : RD g ρ H (.int i) (.int i) := by unfold RD; rfl
theorem RD.strN {i : Str} : RD g ρ H (.str i) (.str i) := by unfold RD; rfl
theorem RD.blN {i : Bool} : RD g ρ H (.bl i) (.bl i) := by unfold RD; rfl
theorem RD.nonN : RD g ρ H .non .non := by unfold RD; rfl
/-- a new tuple -/
theorem Post.newTup {Wf : XK} {Q : VK} {l : List D} {vs : List V} {q : Addr} (p : Post g (RD g) Wf ρ H (.ok (.tup l) h) Q) (hh : RH g ρ H h) (hq : H q = none) (r : RDs g ρ H l vs) : Q (.ref q) (L2.upd H q (.tup vs)) := by
  have l1 := Lat.upd (g := g) (ρ := ρ) (u := .tup vs) (Soft.none hq)
  exact p ρ _ _ l1 (hh.upd hq) (.tupN (.of upd_same) (l1.rds l r))
/-- a new list -/
theorem Post.newLst {Wf : XK} {Q : VK} {l : List D} {vs : List V} {q : Addr} (p : Post g (RD g) Wf ρ H (.ok (.ref h.length) (h ++ [.lst l])) Q) (hh : RH g ρ H h) (hq : H q = none) (r : RDs g ρ H l vs) : Q (.ref q) (L2.upd H q (.lst vs)) := by
  obtain ⟨l1, l2, l3⟩ := hh.newLst hq r
  exact p _ _ _ l1 l2 l3
theorem rf_add : RF2 (gd X) addF (rAddM X.K) := fun Wf Q ρ H h x y vx vy hh rx ry p => by
  unfold addF at p
  split at p
  · exact .inl ⟨_, _, RD_int rx, RD_int ry, p.okk hh .intN⟩
  · split at p
    · rename_i hl
      exact .inr (.inl ⟨_, _, RD_str rx, RD_str ry, big_le hl, p.okk hh .strN⟩)
    · exact p.elim
  · split at p
    · rename_i l m hl
      obtain ⟨a, vs, e1, s1, r1⟩ := RD_tup rx
      obtain ⟨b, ws, e2, s2, r2⟩ := RD_tup ry
      refine .inr (.inr (.inl ⟨a, b, vs, ws, e1, e2, s1, s2, big_le (by rw [← r1.length, ← r2.length]; exact hl), fun z => ?_, fun _ z => ?_, fun _ _ q hq => p.newTup hh hq (r1.append r2)⟩))
      · subst z
        have : l = [] := List.eq_nil_of_length_eq_zero r1.length
        subst this
        exact p.okk hh (.tupN s2 r2)
      · subst z
        have : m = [] := List.eq_nil_of_length_eq_zero r2.length
        subst this
        rw [List.append_nil] at p
        exact p.okk hh (.tupN s1 r1)
    · exact p.elim
  · split at p
    · rename_i l m hl hm
      split at p
      · rename_i hz
        obtain ⟨n, a, vs, _, _, _, e1, e2, r1⟩ := lst_v hh rx hl
        obtain ⟨n', b, ws, _, _, _, e3, e4, r2⟩ := lst_v hh ry hm
        exact .inr (.inr (.inr ⟨a, b, vs, ws, e1, e3, e2, e4, big_le (by rw [← r1.length, ← r2.length]; exact hz), fun q hq => p.newLst hh hq (r1.append r2)⟩))
      · exact p.elim
    · exact p.elim
  · exact p.elim
theorem rf_sub : RF2 (gd X) subF (rI0 fun i j => .int (i - j)) := fun Wf Q ρ H h x y vx vy hh rx ry p => by
  unfold subF at p
  split at p
  · exact ⟨_, _, RD_int rx, RD_int ry, p.okk hh .intN⟩
  · exact p.elim
def CMulM (i j : Int) : Prop := i.natAbs.log2 + j.natAbs.log2 < 100000000
theorem CMulM.ok {i j : Int} (c : CMulM i j) : IntMulOk i j := fun z => by
  have bits : ∀ x : Int, Builtin.Int.intBits x ≤ x.natAbs.log2 + 1 := fun x => by unfold Builtin.Int.intBits; split <;> omega
  have b1 := bits i
  have b2 := bits j
  have c' : i.natAbs.log2 + j.natAbs.log2 < 100000000 := c
  have line : bitsLine = 134217728 := by decide
  have z2 := (Bool.and_eq_true_iff.mp z).2
  unfold Builtin.Int.intTooBig at z2
  have z3 := of_decide_eq_true z2
  rw [line] at z3
  omega
theorem op_mulM : OpR X (binaryOp .Mult) (rI CMulM fun i j => .int (i * j)) := opI fun _ _ _ _ _ _ _ c q => mul_int q c.ok
theorem rf_mul : RF2 (gd X) mulF (fun x y H Q => (rI CMulM fun i j => .int (i * j)) x y H Q ∨ rRep x y H Q) := fun Wf Q ρ H h x y vx vy hh rx ry p => by
  unfold mulF at p
  split at p
  · split at p
    · rename_i c
      exact .inl ⟨_, _, RD_int rx, RD_int ry, c, p.okk hh .intN⟩
    · exact p.elim
  · rename_i ra k
    split at p
    · rename_i l hl
      split at p
      · rename_i hk
        obtain ⟨n, a, vs, _, _, _, e1, e2, r1⟩ := lst_v hh rx hl
        obtain ⟨k1, k2, k3⟩ := hk
        have kn : k.toNat ≤ 1000 := by omega
        have sz : vs.length * k.toNat ≤ 1000 * 1000 := Nat.mul_le_mul (by rw [← r1.length]; exact k3) kn
        refine .inr ⟨a, k, vs, e1, RD_int ry, e2, by omega, by omega, big_le sz, fun q hq => p.newLst hh hq ?_⟩
        generalize k.toNat = j
        induction j with
        | zero => exact .nil
        | succ j ih =>
          rw [List.replicate_succ, List.replicate_succ, List.flatten_cons, List.flatten_cons]
          exact r1.append ih
      · exact p.elim
    · exact p.elim
  · exact p.elim
theorem rf_mod : RF2 (gd X) modF (rI (fun _ j => 0 < j) fun i j => .int (i % j)) := fun Wf Q ρ H h x y vx vy hh rx ry p => by
  unfold modF at p
  split at p
  · split at p
    · rename_i c
      exact ⟨_, _, RD_int rx, RD_int ry, c, p.okk hh .intN⟩
    · exact p.elim
  · exact p.elim
theorem rf_fdiv : RF2 (gd X) fdivF (rI CDivW fun i j => .int (i / j)) := fun Wf Q ρ H h x y vx vy hh rx ry p => by
  unfold fdivF at p
  split at p
  · split at p
    · rename_i c
      exact ⟨_, _, RD_int rx, RD_int ry, c, p.okk hh .intN⟩
    · exact p.elim
  · exact p.elim
def CPowM (i j : Int) : Prop := 0 ≤ j ∧ ((i.natAbs.log2 + 1 : Nat) : Int) * j ≤ 2 ^ 27
theorem op_powM : OpR X (binaryOp .Pow) (rI CPowM fun i j => .int (i ^ j.toNat)) := opI fun i j _ _ _ _ _ c q => by
  refine pow_int c.1 ?_ q
  have b : Builtin.Int.intBits i ≤ i.natAbs.log2 + 1 := by unfold Builtin.Int.intBits; split <;> omega
  have c2 : ((i.natAbs.log2 + 1 : Nat) : Int) * j ≤ 2 ^ 27 := c.2
  exact Int.le_trans (Int.mul_le_mul_of_nonneg_right (by omega) c.1) c2
theorem rf_pow : RF2 (gd X) powF (rI CPowM fun i j => .int (i ^ j.toNat)) := fun Wf Q ρ H h x y vx vy hh rx ry p => by
  unfold powF at p
  split at p
  · split at p
    · rename_i c
      exact ⟨_, _, RD_int rx, RD_int ry, c, p.okk hh .intN⟩
    · exact p.elim
  · exact p.elim
end
def ordF (fi : Int → Int → Bool) (fs : List Nat → List Nat → Bool) : D → D → MH → R D := fun x y h => match x, y with
  | .int i, .int j => .ok (.bl (fi i j)) h
  | .str a, .str b => .ok (.bl (fs a.cps.toList b.cps.toList)) h
  | _, _ => .bad
def ltF := ordF (fun i j => decide (i < j)) fun a b => decide (a < b)
def leF := ordF (fun i j => decide (i ≤ j)) fun a b => !decide (b < a)
def gtF := ordF (fun i j => decide (j < i)) fun a b => decide (b < a)
def geF := ordF (fun i j => decide (j ≤ i)) fun a b => !decide (a < b)
def keyOf : D → Option Key
  | .int i => some (.inl i)
  | .str s => some (.inr s)
  | _ => none
def dctOf (h : MH) : D → Option (List (Key × D))
  | .ref n => (match h[n]? with
    | some (.dct l) => some l
    | _ => none)
  | _ => none
def findK (l : List (Key × D)) (k : Key) : Option D := (l.find? fun kv => decide (kv.1 = k)).map (·.2)
/-- a text of one sign in a text; a text in a text; a thing in a list or tuple; a key in a dict -/
def inT (h : MH) (x y : D) : Option Bool := match y with
  | .str b => (match x with
    | .str a => some (match a.cps.toList with
      | [c] => decide (c ∈ b.cps.toList)
      | _ => !(Builtin.Str.occurrences b a 0 b.length 1).isEmpty)
    | _ => none)
  | _ => (match dctOf h y with
    | some l => (match keyOf x with
      | some k => some (findK l k).isSome
      | none => none)
    | none => memT h x y)
def inF : D → D → MH → R D := fun x y h => match inT h x y with
  | some b => .ok (.bl b) h
  | none => .bad
def ninF : D → D → MH → R D := fun x y h => match inT h x y with
  | some b => .ok (.bl (!b)) h
  | none => .bad
def isNF : D → D → MH → R D := fun x y h => match x, y with
  | .non, .non => .ok (.bl true) h
  | _, .non => .ok (.bl false) h
  | _, _ => .bad
def isntNF : D → D → MH → R D := fun x y h => match x, y with
  | .non, .non => .ok (.bl false) h
  | _, .non => .ok (.bl true) h
  | _, _ => .bad
section
variable {X : Cx} {g : Gd} {ρ : List Addr} {H : Hp} {h : MH}
theorem rf_ord {fi : Int → Int → Bool} {fs : List Nat → List Nat → Bool} {r1 r2 : R2} (h1 : ∀ i j H Q, Q (.bl (fi i j)) H → r1 (.int i) (.int j) H Q) (h2 : ∀ (i j : Str) H Q, Q (.bl (fs i.cps.toList j.cps.toList)) H → r2 (.str i) (.str j) H Q) :
    RF2 (gd X) (ordF fi fs) (fun x y H Q => r1 x y H Q ∨ r2 x y H Q) := fun Wf Q ρ H h x y vx vy hh rx ry p => by
  unfold ordF at p
  split at p
  · rw [RD_int rx, RD_int ry]
    exact .inl (h1 _ _ _ _ (p.okk hh .blN))
  · rw [RD_str rx, RD_str ry]
    exact .inr (h2 _ _ _ _ (p.okk hh .blN))
  · exact p.elim
theorem op_ltM : OpR X (compareOp .Lt) (fun x y H Q => (rI0 fun i j => .bl (decide (i < j))) x y H Q ∨ ∃ i j, x = .str i ∧ y = .str j ∧ Q (.bl (decide (i.cps.toList < j.cps.toList))) H) := OpR.or op_lt op_lt_str
theorem op_leM : OpR X (compareOp .LtE) (fun x y H Q => (rI0 fun i j => .bl (decide (i ≤ j))) x y H Q ∨ ∃ i j, x = .str i ∧ y = .str j ∧ Q (.bl (!decide (j.cps.toList < i.cps.toList))) H) := OpR.or op_le op_le_str
theorem op_gtM : OpR X (compareOp .Gt) (fun x y H Q => (rI0 fun i j => .bl (decide (j < i))) x y H Q ∨ ∃ i j, x = .str i ∧ y = .str j ∧ Q (.bl (decide (j.cps.toList < i.cps.toList))) H) := OpR.or op_gt op_gt_str
theorem op_geM : OpR X (compareOp .GtE) (fun x y H Q => (rI0 fun i j => .bl (decide (j ≤ i))) x y H Q ∨ ∃ i j, x = .str i ∧ y = .str j ∧ Q (.bl (!decide (i.cps.toList < j.cps.toList))) H) := OpR.or op_ge op_ge_str
theorem rf_lt : RF2 (gd X) ltF (fun x y H Q => (rI0 fun i j => .bl (decide (i < j))) x y H Q ∨ ∃ i j, x = .str i ∧ y = .str j ∧ Q (.bl (decide (i.cps.toList < j.cps.toList))) H) := rf_ord (fun i j H Q q => ⟨i, j, rfl, rfl, q⟩) fun i j H Q q => ⟨i, j, rfl, rfl, q⟩
theorem rf_le : RF2 (gd X) leF (fun x y H Q => (rI0 fun i j => .bl (decide (i ≤ j))) x y H Q ∨ ∃ i j, x = .str i ∧ y = .str j ∧ Q (.bl (!decide (j.cps.toList < i.cps.toList))) H) := rf_ord (fun i j H Q q => ⟨i, j, rfl, rfl, q⟩) fun i j H Q q => ⟨i, j, rfl, rfl, q⟩
theorem rf_gt : RF2 (gd X) gtF (fun x y H Q => (rI0 fun i j => .bl (decide (j < i))) x y H Q ∨ ∃ i j, x = .str i ∧ y = .str j ∧ Q (.bl (decide (j.cps.toList < i.cps.toList))) H) := rf_ord (fun i j H Q q => ⟨i, j, rfl, rfl, q⟩) fun i j H Q q => ⟨i, j, rfl, rfl, q⟩
theorem rf_ge : RF2 (gd X) geF (fun x y H Q => (rI0 fun i j => .bl (decide (j ≤ i))) x y H Q ∨ ∃ i j, x = .str i ∧ y = .str j ∧ Q (.bl (!decide (i.cps.toList < j.cps.toList))) H) := rf_ord (fun i j H Q q => ⟨i, j, rfl, rfl, q⟩) fun i j H Q q => ⟨i, j, rfl, rfl, q⟩
theorem rf_in : RF2 g inF (rM g inT false) := fun Wf Q ρ H h x y vx vy hh rx ry p => by
  unfold inF at p
  split at p
  · rename_i b hb
    exact ⟨ρ, h, x, y, b, hh, rx, ry, hb, p.okk hh .blN⟩
  · exact p.elim
theorem rf_nin : RF2 g ninF (rM g inT true) := fun Wf Q ρ H h x y vx vy hh rx ry p => by
  unfold ninF at p
  split at p
  · rename_i b hb
    exact ⟨ρ, h, x, y, b, hh, rx, ry, hb, p.okk hh .blN⟩
  · exact p.elim
theorem keyOf_v {x : D} {v : V} {k : Key} (r : RD g ρ H x v) (e : keyOf x = some k) : v = kV k := by
  cases x <;> first | (cases e; done) | skip
  · cases e; exact RD_int r
  · cases e; exact RD_str r
theorem dct_v (hh : RH g ρ H h) {x : D} {v : V} {l : List (Key × D)} (r : RD g ρ H x v) (e : dctOf h x = some l) : ∃ n a ws, x = .ref n ∧ h[n]? = some (.dct l) ∧ ρ[n]? = some a ∧ v = .ref a ∧ H a = some (.dK ws) ∧ RP g ρ H l ws := by
  cases x <;> first | (cases e; done) | skip
  rename_i n
  obtain ⟨a, e1, e2⟩ := RD_ref r
  unfold dctOf at e
  dsimp only at e
  split at e
  · rename_i m hm
    cases e
    obtain ⟨ws, e3, rs⟩ := hh.obj n _ a hm e1
    exact ⟨n, a, ws, rfl, hm, e1, e2, e3, rs⟩
  · cases e
theorem RP.find {k : Key} : ∀ {l : List (Key × D)} {ws : List (Key × V)}, RP g ρ H l ws → (∃ d v, findK l k = some d ∧ valV ws k = some v ∧ RD g ρ H d v) ∨ (findK l k = none ∧ valV ws k = none)
  | [], ws, q => .inr ⟨rfl, by have q' : ws = [] := q; subst q'; rfl⟩
  | (f, d) :: l, ws, q => by
    obtain ⟨v, r, e, q1, q2⟩ := q
    subst e
    by_cases hf : f = k
    · exact .inl ⟨d, v, by unfold findK; simp [List.find?_cons, hf], valV_pos (p := (f, v)) hf, q1⟩
    · rw [valV_neg (p := (f, v)) hf, show findK ((f, d) :: l) k = findK l k by unfold findK; simp [List.find?_cons, hf]]
      exact RP.find q2
theorem anyF_map {f : D → Option Bool} : ∀ {l : List D} {b : Bool}, anyF f l = some b → (∀ (j : Nat) x, l[j]? = some x → ∃ c, f x = some c) ∧ (b = true ↔ ∃ (j : Nat) (x : D), l[j]? = some x ∧ f x = some true)
  | [], b, e => by
    unfold anyF at e
    cases e
    exact ⟨fun j x h => by simp at h, by simp⟩
  | y :: l, b, e => by
    unfold anyF at e
    cases q : f y with
    | none => rw [q] at e; cases e
    | some a =>
      rw [q] at e
      dsimp only at e
      cases q2 : anyF f l with
      | none => rw [q2] at e; cases e
      | some c =>
        rw [q2] at e
        cases e
        obtain ⟨h1, h2⟩ := anyF_map q2
        refine ⟨fun j x hj => ?_, ?_⟩
        · cases j with
          | zero => simp at hj; subst hj; exact ⟨a, q⟩
          | succ j => exact h1 j x (by simpa using hj)
        · constructor
          · intro z
            rcases Bool.or_eq_true_iff.mp z with z | z
            · subst z; exact ⟨0, y, rfl, q⟩
            · obtain ⟨j, x, e1, e2⟩ := h2.mp z
              exact ⟨j + 1, x, by simpa using e1, e2⟩
          · rintro ⟨j, x, e1, e2⟩
            cases j with
            | zero =>
              simp at e1
              subst e1
              rw [q] at e2
              cases e2
              rfl
            | succ j => rw [h2.mpr ⟨j, x, by simpa using e1, e2⟩, Bool.or_true]
end
section
variable {X : Cx}
/-- the answer for the items' values, and that it is the answer for each of them -/
theorem mem_vals {pins : List (Addr × Obj)} {σ : L2.St} {H : Hp} {s : Shared} {ρ : List Addr} {h : MH} (I : Inv X pins σ H s) (hh : RH (gd X) ρ H h) {A : Around} (hu : A.units + deep < cLine) {x : D} {v : V} {t : Value} (rx : RD (gd X) ρ H x v) (rt : RelV v t)
    {l : List D} {vs : List V} {its : List Value} {b : Bool} (rs : RDs (gd X) ρ H l vs) (ri : Vals vs its) (e : anyF (fun z => eqv h deep z x) l = some b) : ∃ f : Value → Bool, (∀ w, w ∈ its → SeqAt.EqAt A s w t (f w)) ∧ its.any f = b := by
  classical
  obtain ⟨h1, h2⟩ := anyF_map e
  have at_ : ∀ {w : Value}, w ∈ its → ∃ (j : Nat) (y : D) (u : V), l[j]? = some y ∧ RD (gd X) ρ H y u ∧ RelV u w := fun {w} hw => by
    obtain ⟨j, hj, ej⟩ := List.getElem_of_mem hw
    obtain ⟨y, u, e1, e2, e3⟩ := vals_at ri rs hj
    exact ⟨j, y, u, e1, e2, by rw [← ej]; exact e3⟩
  refine ⟨fun w => decide (∃ (j : Nat) (y : D) (u : V), l[j]? = some y ∧ RD (gd X) ρ H y u ∧ RelV u w ∧ eqv h deep y x = some true), fun w hw => ?_, ?_⟩
  · obtain ⟨j, y, u, e1, e2, e3⟩ := at_ hw
    obtain ⟨c, ec⟩ := h1 j y e1
    have q := eqv_at I hh deep A y x u v w t c hu e2 rx e3 rt ec
    suffices hc : decide (∃ (j : Nat) (y : D) (u : V), l[j]? = some y ∧ RD (gd X) ρ H y u ∧ RelV u w ∧ eqv h deep y x = some true) = c by show SeqAt.EqAt A s w t (decide _); rw [hc]; exact q
    cases c with
    | true => exact decide_eq_true ⟨j, y, u, e1, e2, e3, ec⟩
    | false =>
      refine decide_eq_false ?_
      rintro ⟨j', y', u', f1, f2, f3, f4⟩
      have : u' = u := f3.inj e3
      subst this
      have := eqv_det I hh deep deep y y' x x u' v false true e2 f2 rx rx ec f4
      cases this
  · rw [Bool.eq_iff_iff, List.any_eq_true, h2]
    constructor
    · rintro ⟨w, hw, z⟩
      obtain ⟨j, y, u, f1, f2, f3, f4⟩ := of_decide_eq_true z
      exact ⟨j, y, f1, f4⟩
    · rintro ⟨j, y, f1, f4⟩
      obtain ⟨u, g1, g2⟩ := rs.get f1
      obtain ⟨w, g3, g4⟩ := ri.get g1
      exact ⟨w, List.mem_of_getElem? g3, decide_eq_true ⟨j, y, u, f1, g2, g4, f4⟩⟩
theorem op_inM (hu : X.A.units + 64 < cLine) : OpR X (compareOp .In) (rM (gd X) inT false) := by
  intro pins s σ H vx vy u t Q I ru rt hq
  obtain ⟨ρ, h, x, y, b, hh, rx, ry, e, q⟩ := hq
  have fin : ∀ {s' : Shared}, Inv X pins σ H s' → EP X pins σ Q (.bool b) s' := fun I' => ⟨.bl b, H, I', rfl, q⟩
  have hu1 : X.A.in1.units + deep < cLine := by show X.A.units + 1 + 12 < cLine; omega
  unfold inT at e
  split at e
  · rename_i z
    cases x <;> first | (cases e; done) | skip
    rename_i a
    rw [RD_str ry] at rt
    rw [RD_str rx] at ru
    simp only [Option.some.injEq] at e
    split at e
    · rename_i c hc
      have ha : a = ⟨#[c]⟩ := by
        obtain ⟨arr⟩ := a
        have : arr = #[c] := by
          apply Array.ext'
          simpa using hc
        rw [this]
      subst ha
      refine op_in_sign pins s σ H _ _ u t Q I ru rt ⟨c, z, rfl, rfl, ?_⟩
      rw [e]
      exact q
    · refine op_in_str pins s σ H _ _ u t Q I ru rt ⟨a, z, rfl, rfl, ?_⟩
      rw [e]
      exact q
  · rename_i hns
    split at e
    · rename_i l hl
      split at e
      · rename_i k hk
        cases e
        obtain ⟨n, a, ws, _, _, _, e1, e2, rp⟩ := dct_v hh ry hl
        subst e1
        cases rt
        rw [keyOf_v rx hk] at ru
        refine d_in (by omega) I (DGet.k e2) ru fun s' I' => ?_
        have eb : (valV ws k).isSome = (findK l k).isSome := by
          rcases RP.find (k := k) rp with ⟨d, v, f1, f2, _⟩ | ⟨f1, f2⟩ <;> rw [f1, f2] <;> rfl
        rw [eb]
        exact fin I'
      · cases e
    · unfold memT at e
      split at e
      · rename_i k l hl
        obtain ⟨a, vs, e1, rs, c1⟩ := seq_v hh ry hl
        subst e1
        cases rt
        rcases c1 with ⟨_, c1⟩ | ⟨_, c1⟩
        · obtain ⟨its, rv, pl, _⟩ := I.tuple c1
          obtain ⟨f, g1, g2⟩ := mem_vals I hh hu1 rx ru rs rv e
          refine SeqAt.in_tupleAt f pl (fun w hw => g1 w (by simpa using hw)) ?_
          rw [show its.toArray.any f = its.any f by simp, g2]
          exact fin I
        · obtain ⟨its, rv, pl, _⟩ := I.list c1
          obtain ⟨f, g1, g2⟩ := mem_vals I hh hu1 rx ru rs rv e
          refine SeqAt.in_listAt f pl.isList (fun w hw => g1 w (by simpa using hw)) ?_
          rw [show its.toArray.any f = its.any f by simp, g2]
          exact fin I
      · cases e
theorem op_ninM (hu : X.A.units + 64 < cLine) : OpR X (compareOp .NotIn) (rM (gd X) inT true) := by
  intro pins s σ H vx vy u t Q I ru rt hq
  obtain ⟨ρ, h, x, y, b, hh, rx, ry, e, q⟩ := hq
  have fin : ∀ {s' : Shared}, Inv X pins σ H s' → EP X pins σ Q (.bool (!b)) s' := fun I' => ⟨.bl (!b), H, I', rfl, q⟩
  have hu1 : X.A.in1.units + deep < cLine := by show X.A.units + 1 + 12 < cLine; omega
  unfold inT at e
  split at e
  · rename_i z
    cases x <;> first | (cases e; done) | skip
    rename_i a
    rw [RD_str ry] at rt
    rw [RD_str rx] at ru
    simp only [Option.some.injEq] at e
    split at e
    · rename_i c hc
      have ha : a = ⟨#[c]⟩ := by
        obtain ⟨arr⟩ := a
        have : arr = #[c] := by
          apply Array.ext'
          simpa using hc
        rw [this]
      subst ha
      refine op_notIn_sign pins s σ H _ _ u t Q I ru rt ⟨c, z, rfl, rfl, ?_⟩
      rw [e]
      exact q
    · refine L2.op_notIn_str pins s σ H _ _ u t Q I ru rt ⟨a, z, rfl, rfl, ?_⟩
      rw [e]
      exact q
  · rename_i hns
    split at e
    · rename_i l hl
      split at e
      · rename_i k hk
        cases e
        obtain ⟨n, a, ws, _, _, _, e1, e2, rp⟩ := dct_v hh ry hl
        subst e1
        cases rt
        rw [keyOf_v rx hk] at ru
        refine d_notIn (by omega) I (DGet.k e2) ru fun s' I' => ?_
        have eb : (valV ws k).isSome = (findK l k).isSome := by
          rcases RP.find (k := k) rp with ⟨d, v, f1, f2, _⟩ | ⟨f1, f2⟩ <;> rw [f1, f2] <;> rfl
        rw [eb]
        exact fin I'
      · cases e
    · unfold memT at e
      split at e
      · rename_i k l hl
        obtain ⟨a, vs, e1, rs, c1⟩ := seq_v hh ry hl
        subst e1
        cases rt
        rcases c1 with ⟨_, c1⟩ | ⟨_, c1⟩
        · obtain ⟨its, rv, pl, _⟩ := I.tuple c1
          obtain ⟨f, g1, g2⟩ := mem_vals I hh hu1 rx ru rs rv e
          refine SeqAt.notIn_tupleAt f pl (fun w hw => g1 w (by simpa using hw)) ?_
          rw [show its.toArray.any f = its.any f by simp, g2]
          exact fin I
        · obtain ⟨its, rv, pl, _⟩ := I.list c1
          obtain ⟨f, g1, g2⟩ := mem_vals I hh hu1 rx ru rs rv e
          refine SeqAt.notIn_listAt f pl.isList (fun w hw => g1 w (by simpa using hw)) ?_
          rw [show its.toArray.any f = its.any f by simp, g2]
          exact fin I
      · cases e
theorem nonV {g : Gd} {ρ : List Addr} {H : Hp} {x : D} {v : V} (r : RD g ρ H x v) : decide (v = .non) = (match x with | .non => true | _ => false) := by
  cases x with
  | non => unfold RD at r; subst r; rfl
  | bl b => unfold RD at r; subst r; rfl
  | int b => unfold RD at r; subst r; rfl
  | str b => unfold RD at r; subst r; exact decide_eq_false (fun z => nomatch z)
  | ty b => unfold RD at r; subst r; exact decide_eq_false (fun z => nomatch z)
  | tup l => obtain ⟨a, vs, e, _⟩ := RD_tup r; subst e; rfl
  | ref n => obtain ⟨a, _, e⟩ := RD_ref r; subst e; rfl
  | glb n => unfold RD at r; obtain ⟨a, _, e⟩ := r; subst e; rfl
theorem rf_isN {g : Gd} : RF2 g isNF (fun x y H Q => y = .non ∧ Q (.bl (decide (x = .non))) H) := fun Wf Q ρ H h x y vx vy hh rx ry p => by
  show vy = .non ∧ Q (.bl (decide (vx = .non))) H
  rw [nonV rx]
  unfold isNF at p
  cases y <;> first | (cases x <;> exact p.elim) | skip
  unfold RD at ry
  refine ⟨ry, ?_⟩
  cases x <;> exact p.okk hh .blN
end
end ML
namespace ML
open PySem PySem.Spec PyProof.Rows L2
section
variable {X : Cx} {W : Wx} {x : Str} {p pos : Pos} {e : Expr} {es : List Expr} {mas : AM} {id T : String} {r : List V → Hp → VK → Prop} {f : List D → MH → R D}
theorem e_callB (hc : CallR X (.builtin id) r) (hf : RFs (gd X) f r) (hg : Gl X x) (hm : X.mg x = none) (hv : bootBuiltins x = some (.builtin id)) (ha : PA X (e :: es) (tA (gd X) W mas)) (hn : x ≠ "__name__" := by decide) (hdb : (x == ("__debug__" : Str)) = false := by decide)
    (he : starEach (e :: es) X.env = (false, eval e X.env) :: starEach es X.env := by rfl) (hpl : (backTo pos (starEach es X.env)).any (·.1) = false := by rfl) : PE X (.Call (.Name x p) (e :: es) [] pos) (tE (gd X) W (onA f mas)) :=
  PE_of (pe_callB hc hg hm hv ha hn hdb he hpl) fun σ H Q q => one q fun ρ e H h xs vs s hh rx p => hf _ _ ρ H h xs vs hh rx p
theorem e_callTy (hc : CallR X (.type T) r) (hf : RFs (gd X) f r) (hg : Gl X x) (hm : X.mg x = none) (hv : bootBuiltins x = some (.type T)) (ha : PA X (e :: es) (tA (gd X) W mas)) (hn : x ≠ "__name__" := by decide) (hdb : (x == ("__debug__" : Str)) = false := by decide)
    (he : starEach (e :: es) X.env = (false, eval e X.env) :: starEach es X.env := by rfl) (hpl : (backTo pos (starEach es X.env)).any (·.1) = false := by rfl) : PE X (.Call (.Name x p) (e :: es) [] pos) (tE (gd X) W (onA f mas)) :=
  PE_of (pe_callTy hc hg hm hv ha hn hdb he hpl) fun σ H Q q => one q fun ρ e H h xs vs s hh rx p => hf _ _ ρ H h xs vs hh rx p
end
def lenF : List D → MH → R D := fun ds h => match ds with
  | [.str z] => if z.length ≤ 1000000 then .ok (.int z.length) h else .bad
  | [x] => (match seqOf h x with
    | some (_, l) => .ok (.int l.length) h
    | none => (match dctOf h x with
      | some l => .ok (.int l.length) h
      | none => .bad))
  | _ => .bad
def listF : List D → MH → R D := fun ds h => match ds with
  | [x] => (match seqOf h x with
    | some (_, l) => .ok (.ref h.length) (h ++ [.lst l])
    | none => .bad)
  | _ => .bad
def tupleF : List D → MH → R D := fun ds h => match ds with
  | [x] => (match seqOf h x with
    | some (_, l) => .ok (.tup l) h
    | none => .bad)
  | _ => .bad
def intF : List D → MH → R D := fun ds h => match ds with
  | [.int i] => .ok (.int i) h
  | [.bl b] => .ok (.int (if b then 1 else 0)) h
  | _ => .bad
def bools : List D → Option (List Bool)
  | [] => some []
  | .bl b :: r => (match bools r with
    | some l => some (b :: l)
    | none => none)
  | _ => none
def allF : List D → MH → R D := fun ds h => match ds with
  | [x] => (match lstOf h x with
    | some l => (match bools l with
      | some bs => .ok (.bl (bs.all fun b => b)) h
      | none => .bad)
    | none => .bad)
  | _ => .bad
def max2F : List D → MH → R D := fun ds h => match ds with
  | [.int i, .int j] => .ok (.int (if j > i then j else i)) h
  | _ => .bad
def min2F : List D → MH → R D := fun ds h => match ds with
  | [.int i, .int j] => .ok (.int (if j < i then j else i)) h
  | _ => .bad
section
variable {X : Cx} {g : Gd} {ρ : List Addr} {H : Hp} {h : MH}
theorem RDs.inv1 {d : D} {vs : List V} (q : RDs g ρ H [d] vs) : ∃ v, vs = [v] ∧ RD g ρ H d v := by
  obtain ⟨v, r, e, a, b⟩ := q.inv
  rw [b.invNil] at e
  exact ⟨v, e, a⟩
theorem RDs.inv2 {d d2 : D} {vs : List V} (q : RDs g ρ H [d, d2] vs) : ∃ v w, vs = [v, w] ∧ RD g ρ H d v ∧ RD g ρ H d2 w := by
  obtain ⟨v, r, e, a, b⟩ := q.inv
  obtain ⟨w, e', c⟩ := b.inv1
  rw [e'] at e
  exact ⟨v, w, e, a, c⟩
def rLenD : List V → Hp → VK → Prop := fun xs H Q => ∃ a kvs, xs = [.ref a] ∧ H a = some (.dK kvs) ∧ Q (.int kvs.length) H
theorem call_lenDM : CallR X (.builtin "len") rLenD := by
  intro pins s σ H xs us Q I rr hq
  obtain ⟨a, kvs, rfl, e, q⟩ := hq
  obtain ⟨u, rfl, ru⟩ := vals1 rr
  cases ru
  exact d_len I (.inl e) fun t s' I' => ⟨.int kvs.length, H, I', ⟨t, rfl⟩, q⟩
theorem call_lenM : CallR X (.builtin "len") (fun xs H Q => (∃ x n, xs = [x] ∧ LenV X.K x H n ∧ Q (.int n) H) ∨ rLenD xs H Q) := CallR.or call_len call_lenDM
theorem RP.length {α : Type} : ∀ {l : List (α × D)} {ws : List (α × V)}, RP g ρ H l ws → l.length = ws.length
  | [], ws, q => by have q' : ws = [] := q; subst q'; rfl
  | (f, d) :: l, ws, q => by
    obtain ⟨v, r, e, _, q2⟩ := q
    subst e
    simp [RP.length q2]
theorem rf_len : RFs (gd X) lenF (fun xs H Q => (∃ x n, xs = [x] ∧ LenV X.K x H n ∧ Q (.int n) H) ∨ rLenD xs H Q) := fun Wf Q ρ H h xs vs hh rx p => by
  unfold lenF at p
  split at p
  · split at p
    · rename_i z hz
      obtain ⟨v, e, r⟩ := rx.inv1
      rw [RD_str r] at e
      exact .inl ⟨.str z, z.length, e, ⟨big_le hz, rfl⟩, p.okk hh .intN⟩
    · exact p.elim
  · obtain ⟨v, e, r⟩ := rx.inv1
    split at p
    · rename_i k l hl
      obtain ⟨a, ws, e1, rs, c⟩ := seq_v hh r hl
      subst e1
      refine .inl ⟨.ref a, l.length, e, ?_, p.okk hh .intN⟩
      rcases c with ⟨_, c⟩ | ⟨_, c⟩
      · exact .inr ⟨ws, c, rs.length⟩
      · exact .inl ⟨ws, c, rs.length⟩
    · split at p
      · rename_i l hl
        obtain ⟨n, a, ws, _, _, _, e1, e2, rp⟩ := dct_v hh r hl
        subst e1
        exact .inr ⟨a, ws, e, e2, by rw [← rp.length]; exact p.okk hh .intN⟩
      · exact p.elim
  · exact p.elim
theorem rf_list : RFs (gd X) listF (fun xs H Q => ∃ p ys, xs = [.ref p] ∧ (SqL X.K H p ys ∨ SqT X.K H p ys) ∧ ∀ l, H l = none → Q (.ref l) (L2.upd H l (.lst ys))) := fun Wf Q ρ H h xs vs hh rx p => by
  unfold listF at p
  split at p
  · obtain ⟨v, e, r⟩ := rx.inv1
    split at p
    · rename_i k l hl
      obtain ⟨a, ws, e1, rs, c⟩ := seq_v hh r hl
      subst e1
      refine ⟨a, ws, e, ?_, fun q hq => p.newLst hh hq rs⟩
      rcases c with ⟨_, c⟩ | ⟨_, c⟩
      · exact .inr c
      · exact .inl c
    · exact p.elim
  · exact p.elim
theorem rf_tuple : RFs (gd X) tupleF (fun xs H Q => ∃ p ys, xs = [.ref p] ∧ ((SqL X.K H p ys ∧ ∀ l, H l = none → Q (.ref l) (L2.upd H l (.tup ys))) ∨ (SqT X.K H p ys ∧ Q (.ref p) H))) := fun Wf Q ρ H h xs vs hh rx p => by
  unfold tupleF at p
  split at p
  · obtain ⟨v, e, r⟩ := rx.inv1
    split at p
    · rename_i k l hl
      obtain ⟨a, ws, e1, rs, c⟩ := seq_v hh r hl
      subst e1
      refine ⟨a, ws, e, ?_⟩
      rcases c with ⟨_, c⟩ | ⟨_, c⟩
      · exact .inr ⟨c, p.okk hh (.tupN c rs)⟩
      · exact .inl ⟨c, fun q hq => p.newTup hh hq rs⟩
    · exact p.elim
  · exact p.elim
theorem rf_int : RFs (gd X) intF (fun xs H Q => (∃ i, xs = [.int i] ∧ Q (.int i) H) ∨ ∃ k, xs = [.bl k] ∧ Q (.int (if k then 1 else 0)) H) := fun Wf Q ρ H h xs vs hh rx p => by
  unfold intF at p
  split at p
  · obtain ⟨v, e, r⟩ := rx.inv1
    rw [RD_int r] at e
    exact .inl ⟨_, e, p.okk hh .intN⟩
  · obtain ⟨v, e, r⟩ := rx.inv1
    rw [RD_bl r rfl] at e
    exact .inr ⟨_, e, p.okk hh .intN⟩
  · exact p.elim
theorem bools_v : ∀ {l : List D} {bs : List Bool} {vs : List V}, RDs g ρ H l vs → bools l = some bs → vs = bs.map V.bl
  | [], bs, vs, q, e => by unfold bools at e; cases e; exact q.invNil
  | d :: l, bs, vs, q, e => by
    obtain ⟨v, r, e1, q1, q2⟩ := q.inv
    cases d <;> first | (unfold bools at e; cases e; done) | skip
    unfold bools at e
    split at e
    · rename_i bs' hb
      cases e
      rw [e1, bools_v q2 hb, RD_bl q1 rfl]
      rfl
    · cases e
theorem rf_all : RFs (gd X) allF (rAll X.K) := fun Wf Q ρ H h xs vs hh rx p => by
  unfold allF at p
  split at p
  · obtain ⟨v, e, r⟩ := rx.inv1
    split at p
    · rename_i l hl
      split at p
      · rename_i bs hb
        obtain ⟨n, a, ws, _, _, _, e1, e2, rs⟩ := lst_v hh r hl
        subst e1
        rw [bools_v rs hb] at e2
        exact ⟨a, bs, e, .of e2, p.okk hh .blN⟩
      · exact p.elim
    · exact p.elim
  · exact p.elim
theorem rf_max2 : RFs (gd X) max2F (fun xs H Q => ∃ i j, xs = [.int i, .int j] ∧ Q (.int (if j > i then j else i)) H) := fun Wf Q ρ H h xs vs hh rx p => by
  unfold max2F at p
  split at p
  · obtain ⟨v, w, e, r1, r2⟩ := rx.inv2
    rw [RD_int r1, RD_int r2] at e
    exact ⟨_, _, e, p.okk hh .intN⟩
  · exact p.elim
theorem rf_min2 : RFs (gd X) min2F (fun xs H Q => ∃ i j, xs = [.int i, .int j] ∧ Q (.int (if j < i then j else i)) H) := fun Wf Q ρ H h xs vs hh rx p => by
  unfold min2F at p
  split at p
  · obtain ⟨v, w, e, r1, r2⟩ := rx.inv2
    rw [RD_int r1, RD_int r2] at e
    exact ⟨_, _, e, p.okk hh .intN⟩
  · exact p.elim
end
def tyD (h : MH) : D → Option String
  | .non => some "NoneType"
  | .bl _ => some "bool"
  | .int _ => some "int"
  | .str _ => some "str"
  | .tup _ => some "tuple"
  | .ref n => (match h[n]? with
    | some (.lst _) => some "list"
    | some (.rdl _) => some "list"
    | some (.dct _) => some "dict"
    | _ => none)
  | _ => none
def kinds : List String := ["NoneType", "bool", "int", "str", "tuple", "list", "dict"]
def isB (T c : String) : Bool := T == c || (T == "bool" && c == "int")
theorem isB_ok : (kinds.all fun T => ["bool", "int", "str", "tuple", "list", "dict"].all fun c => decide (kitB T c = some (isB T c))) = true := by decide +kernel
theorem kit_of_isB {K : PySem.W.Frag} {T c : String} (hT : T ∈ kinds) (hc : c ∈ ["bool", "int", "str", "tuple", "list", "dict"]) : PySem.W.kitOne K (.type T) (.type c) = some (isB T c) :=
  kit_ty (of_decide_eq_true (List.all_eq_true.mp (List.all_eq_true.mp isB_ok T hT) c hc))
def isiF (c : String) : List D → MH → R D := fun ds h => match ds with
  | [x, .ty n] => if n = c then (match tyD h x with
    | some T => .ok (.bl (isB T c)) h
    | none => .bad) else .bad
  | _ => .bad
def isiT (cs : List String) : D → MH → R D := fun x h => match tyD h x with
  | some T => .ok (.bl (cs.any fun c => isB T c)) h
  | none => .bad
section
variable {X : Cx} {g : Gd} {ρ : List Addr} {H : Hp} {h : MH}
theorem RdL.ty {K : PySem.W.Frag} {a : Addr} {vs : List V} (q : RdL K H a vs) : TyX K H (.ref a) (.type "list") := by
  rcases q with ⟨o, q⟩ | ⟨o, its, n, e, c, _⟩
  · exact .base (.frz q)
  · exact .kList e c
theorem tyD_v (hh : RH g ρ H h) {x : D} {v : V} {T : String} (r : RD g ρ H x v) (e : tyD h x = some T) : TyX g.K H v (.type T) ∧ T ∈ kinds := by
  cases x <;> first | (cases e; done) | skip
  · cases e; unfold RD at r; subst r; exact ⟨.base .non, by decide⟩
  · cases e; unfold RD at r; subst r; exact ⟨.base (.bl _), by decide⟩
  · cases e; unfold RD at r; subst r; exact ⟨.base (.int _), by decide⟩
  · cases e; unfold RD at r; subst r; exact ⟨.base (.str _), by decide⟩
  · cases e
    obtain ⟨a, vs, e1, sq, _⟩ := RD_tup r
    subst e1
    rcases sq with (sq | ⟨o, sq⟩) | ⟨o, its, n, k, c, _⟩
    · exact ⟨.base (.tup sq), by decide⟩
    · exact ⟨.fTuple sq, by decide⟩
    · exact ⟨.kTuple k c, by decide⟩
  · rename_i n
    obtain ⟨a, e1, e2⟩ := RD_ref r
    subst e2
    unfold tyD at e
    dsimp only at e
    split at e
    · rename_i l hl
      cases e
      obtain ⟨vs, e3, _⟩ := hh.obj n _ a hl e1
      exact ⟨.base (.lst e3), by decide⟩
    · rename_i l hl
      cases e
      obtain ⟨vs, e3, _⟩ := hh.obj n _ a hl e1
      exact ⟨e3.ty, by decide⟩
    · rename_i l hl
      cases e
      obtain ⟨vs, e3, _⟩ := hh.obj n _ a hl e1
      exact ⟨.base (.dK e3), by decide⟩
    · cases e
theorem rf_isi {c : String} (hc : c ∈ ["bool", "int", "str", "tuple", "list", "dict"]) : RFs (gd X) (isiF c) (rIsi X.K) := fun Wf Q ρ H h xs vs hh rx p => by
  unfold isiF at p
  split at p
  · rename_i x n
    split at p
    · rename_i hn
      subst hn
      split at p
      · rename_i T hT
        obtain ⟨v, w, e, r1, r2⟩ := rx.inv2
        unfold RD at r2
        subst r2
        obtain ⟨t1, t2⟩ := tyD_v hh r1 hT
        exact ⟨v, .ty n, _, _, _, e, .ty n, t1, kit_of_isB t2 hc, p.okk hh .blN⟩
      · exact p.elim
    · exact p.elim
  · exact p.elim
theorem kitAny_of {K : PySem.W.Frag} {T : String} (hT : T ∈ kinds) : ∀ (cs : List String), (∀ c ∈ cs, c ∈ ["bool", "int", "str", "tuple", "list", "dict"]) → PySem.W.kitAny K (.type T) (cs.map Value.type) = some (cs.any fun c => isB T c)
  | [], _ => rfl
  | c :: cs, hc => by
    rw [List.map_cons, List.any_cons]
    refine kitAny_cons (kit_of_isB hT (hc c List.mem_cons_self)) (fun e => ?_) (fun e => by rw [e]; rfl)
    rw [e, Bool.false_or]
    exact kitAny_of hT cs fun c' h' => hc c' (List.mem_cons_of_mem _ h')
end
section
variable {X : Cx} {W : Wx} {a c1 c2 : Expr} {ma : EM} {p pos tp : Pos} {k : Nat} {n1 n2 : String}
/-- isinstance(x, (A, B)), A and B built-in -/
theorem e_isi2 (hg : Gl X "isinstance") (hm : X.mg "isinstance" = none) (ha : PE X a (tE (gd X) W ma)) (h1 : PE X c1 (tC (.ty n1))) (h2 : PE X c2 (tC (.ty n2))) (m1 : n1 ∈ ["bool", "int", "str", "tuple", "list", "dict"] := by decide) (m2 : n2 ∈ ["bool", "int", "str", "tuple", "list", "dict"] := by decide)
    (s1 : starEach [c1, c2] X.env = (false, eval c1 X.env) :: starEach [c2] X.env := by rfl) (s2 : starEach [c2] X.env = (false, eval c2 X.env) :: starEach [] X.env := by rfl) (s3 : starEach [a, .Tuple [c1, c2] k tp] X.env = (false, eval a X.env) :: starEach [.Tuple [c1, c2] k tp] X.env := by rfl) (s4 : starEach [.Tuple [c1, c2] k tp] X.env = (false, eval (.Tuple [c1, c2] k tp) X.env) :: starEach [] X.env := by rfl)
    (hpl : (backTo pos (starEach [.Tuple [c1, c2] k tp] X.env)).any (·.1) = false := by rfl) :
    PE X (.Call (.Name "isinstance" p) [a, .Tuple [c1, c2] k tp] [] pos) (tE (gd X) W (un (isiT [n1, n2]) ma)) :=
  PE_of (pe_callB call_isiT hg hm (by decide +kernel) (pa_cons ha (pa_cons (pe_tup (pa_cons h1 (pa_cons h2 pa_nil s2) s1)) pa_nil s4) s3) (by decide) (by decide) s3 hpl) fun σ H Q q => by
    refine one q fun ρ e H h x vx s hh rx p => ?_
    refine ⟨by show 2 ≤ sizeLine; decide, fun t ht => ?_⟩
    unfold isiT at p
    split at p
    · rename_i T hT
      obtain ⟨t1, t2⟩ := tyD_v hh rx hT
      have l1 := Lat.upd (g := gd X) (ρ := ρ) (u := .tup [V.ty n1, V.ty n2]) (Soft.none ht)
      have t3 := tyD_v (hh.upd (u := .tup [V.ty n1, V.ty n2]) ht) (l1.rd x rx) hT
      exact ⟨vx, t, [.ty n1, .ty n2], _, [.type n1, .type n2], _, rfl, upd_same, .cons (.ty _) (.cons (.ty _) .nil), t3.1, kitAny_of t2 [n1, n2] (fun c hc => by
        rcases List.mem_cons.mp hc with e | hc
        · rw [e]; exact m1
        · rcases List.mem_cons.mp hc with e | hc
          · rw [e]; exact m2
          · cases hc), p ρ _ _ l1 (hh.upd ht) .blN⟩
    · exact p.elim
end
def ixF : D → D → MH → R D := fun x y h => match x, y with
  | .str z, .int i => if z.length ≤ 1000000 then (match atI z.cps.toList i with
    | some c => .ok (.str ⟨#[c]⟩) h
    | none => .bad) else .bad
  | x, y => (match seqOf h x, y with
    | some (_, l), .int i => (match atI l i with
      | some d => .ok d h
      | none => .bad)
    | none, y => (match dctOf h x, keyOf y with
      | some l, some k => (match findK l k with
        | some d => .ok d h
        | none => .bad)
      | _, _ => .bad)
    | _, _ => .bad)
def cutD (l : List D) (lo hi : Option Int) : List D := (l.drop (HT.sIx l.length 0 lo)).take (HT.sIx l.length l.length hi - HT.sIx l.length 0 lo)
def slF : D → Option Int → Option Int → MH → R D := fun x lo hi h => match x with
  | .str z => if z.length ≤ 1000000 then .ok (.str (cutS z lo hi)) h else .bad
  | .tup l => .ok (.tup (cutD l lo hi)) h
  | x => (match seqOf h x with
    | some (_, l) => .ok (.ref h.length) (h ++ [.lst (cutD l lo hi)])
    | none => .bad)
/-- xs[::-1] of a list, of a tuple, of a text -/
def revF : D → MH → R D := fun x h => match x with
  | .tup l => .ok (.tup l.reverse) h
  | .str z => .ok (.str ⟨z.cps.reverse⟩) h
  | x => (match lstOf h x with
    | some l => .ok (.ref h.length) (h ++ [.lst l.reverse])
    | none => .bad)
abbrev OM := Env → MH → R (Option Int)
def noO : OM := fun _ h => .ok none h
def someO (m : EM) : OM := fun e h => (m e h).bind fun d h1 => match d with
  | .int i => .ok (some i) h1
  | _ => .bad
def slE (a : EM) (lo hi : OM) : EM := fun e h => (a e h).bind fun x h1 => (lo e h1).bind fun l h2 => (hi e h2).bind fun u h3 => slF x l u h3
def RO_ : List Addr → Hp → Option Int → Option Int → Prop := fun _ _ a b => b = a
abbrev tO (g : Gd) (W : Wx) (m : OM) : TO := tG g RO_ W m
section
variable {X : Cx} {W : Wx} {a b : Expr} {ma mb : EM} {lo hi : Option Expr} {ml mh : OM} {pos p2 : Pos} {g : Gd} {ρ : List Addr} {H : Hp} {h : MH}
def rIxD : R2 := fun x y H Q => ∃ a kvs k v, x = .ref a ∧ y = kV k ∧ H a = some (.dK kvs) ∧ valV kvs k = some v ∧ Q v H
theorem ix_dictM (hu : X.A.units + 1 < cLine) : IxR X rIxD := by
  intro value slice pins s σ H x y v u Q I rx ry hq hs
  obtain ⟨a, kvs, k, w, rfl, rfl, e, l, q⟩ := hq
  have gd' : DGet H a (kV k) (some w) := by rw [← l]; exact DGet.k e
  cases rx
  have dd := dict_noDict I gd'
  have ty := dict_typeIs I gd'
  exact tail_any (ops := [.ref a, u]) ty PySem.slot_dict_getitem.lookup (d_getItem hu I gd' ry fun w' s' I' r' => ⟨w, H, I', r', q⟩) hs
end
end ML
namespace ML
open PySem PySem.Spec PyProof.Rows L2
section
variable {X : Cx} {W : Wx} {W0 : WX} {a b : Expr} {ma mb : EM} {lo hi : Option Expr} {ml mh : OM} {pos p2 : Pos} {g : Gd} {ρ : List Addr} {H : Hp} {h : MH}
theorem RDs.at {l : List D} {vs : List V} {i : Int} {d : D} (r : RDs g ρ H l vs) (e : atI l i = some d) : ∃ v, atI vs i = some v ∧ RD g ρ H d v := by
  unfold atI at e ⊢
  rw [← r.length]
  cases q : ixN l.length i with
  | none => rw [q] at e; cases e
  | some j =>
    rw [q] at e
    obtain ⟨v, e1, r1⟩ := r.get (i := j) (d := d) e
    exact ⟨v, e1, r1⟩
def rIxM (K : PySem.W.Frag) : R2 := fun x y H Q => rIx K x y H Q ∨ rIxD x y H Q
theorem ix_M (hu : X.A.units + 1 < cLine) : IxR X (rIxM X.K) := IxR.or ix_seq (ix_dictM hu)
theorem rf_ix : RF2 (gd X) ixF (rIxM X.K) := fun Wf Q ρ H h x y vx vy hh rx ry p => by
  unfold ixF at p
  split at p
  · rename_i z i
    split at p
    · rename_i hz
      split at p
      · rename_i c hc
        exact .inl (.inr (.inr ⟨z, i, c, RD_str rx, RD_int ry, big_le hz, hc, p.okk hh .strN⟩))
      · exact p.elim
    · exact p.elim
  · split at p
    · rename_i x2 y2 k l i hl hn
      split at p
      · rename_i d hd
        obtain ⟨a, vs, e1, rs, c⟩ := seq_v hh rx hl
        obtain ⟨v, e2, r2⟩ := rs.at hd
        rcases c with ⟨_, c⟩ | ⟨_, c⟩
        · exact .inl (.inr (.inl ⟨a, vs, i, v, e1, RD_int ry, c, e2, p.okk hh r2⟩))
        · exact .inl (.inl ⟨a, vs, i, v, e1, RD_int ry, c, e2, p.okk hh r2⟩)
      · exact p.elim
    · split at p
      · rename_i l k hl hk
        split at p
        · rename_i d hd
          obtain ⟨n, a, ws, _, _, _, e1, e2, rp⟩ := dct_v hh rx hl
          rcases rp.find (k := k) with ⟨d', v, f1, f2, f3⟩ | ⟨f1, _⟩
          · rw [hd] at f1
            cases f1
            exact .inr ⟨a, ws, k, v, e1, keyOf_v ry hk, e2, f2, p.okk hh f3⟩
          · rw [hd] at f1
            cases f1
        · exact p.elim
      · exact p.elim
    · exact p.elim
theorem e_ix (hu : X.A.units + 64 < cLine) (ha : PE X a (tE (gd X) W ma)) (hb : PE X b (tE (gd X) W mb)) (hs : PlainIx b) : PE X (.Subscript a b pos) (tE (gd X) W (bin ixF ma mb)) :=
  PE_of (pe_ix (ix_M (by omega)) ha hb hs) fun σ H Q q => two q fun ρ H h x y vx vy hh rx ry p => rf_ix _ _ ρ H h x y vx vy hh rx ry p
theorem PO_of {e : Option Expr} {t t' : TO} (h : PO X e t) (i : ∀ σ H Q, t' σ H Q → t σ H Q) : PO X e t' := ⟨fun pins s σ H Q I q => h.run pins s σ H Q I (i _ _ _ q)⟩
theorem o_no : PO X none (tO (gd X) W noO) := PO_of po_none fun σ H Q q => by
  obtain ⟨ρ, e, m, s, hh, p⟩ := q
  exact p.okk hh rfl
theorem o_some (ha : PE X a (tE (gd X) W ma)) : PO X (some a) (tO (gd X) W (someO ma)) := PO_of (po_some ha) fun σ H Q q => by
  refine one q fun ρ e H h x vx s hh rx p => ?_
  split at p
  · rename_i i
    exact ⟨i, RD_int rx, p.okk hh rfl⟩
  · exact p.elim
def rSlM (K : PySem.W.Frag) : V → Option Int → Option Int → Hp → VK → Prop := fun x lo hi H Q => rSlL K x lo hi H Q ∨ rSlA K x lo hi H Q ∨ rSlS x lo hi H Q
theorem sl_M : SlR X (rSlM X.K) := SlR.or sl_list (SlR.or sl_tupA sl_str)
theorem RDs.cut {l : List D} {vs : List V} (r : RDs g ρ H l vs) (lo hi : Option Int) : RDs g ρ H (cutD l lo hi) (cutV vs lo hi) := by
  unfold cutD cutV
  rw [← r.length]
  exact (r.drop _).take _
theorem cutV_whole {vs : List V} {lo hi : Option Int} (w : HT.sIx vs.length 0 lo = 0 ∧ HT.sIx vs.length vs.length hi = vs.length) : cutV vs lo hi = vs := by
  unfold cutV
  rw [w.1, w.2, List.drop_zero, Nat.sub_zero, List.take_length]
theorem rf_sl {Wf : XK} {Q : VK} {x : D} {lo hi : Option Int} {vx : V} (hh : RH (gd X) ρ H h) (rx : RD (gd X) ρ H x vx) (p : Post (gd X) (RD (gd X)) Wf ρ H (slF x lo hi h) Q) : rSlM X.K vx lo hi H Q := by
  unfold slF at p
  split at p
  · split at p
    · rename_i z hz
      exact .inr (.inr ⟨z, RD_str rx, big_le hz, p.okk hh .strN⟩)
    · exact p.elim
  · rename_i l
    obtain ⟨a, vs, e1, sq, rs⟩ := RD_tup rx
    refine .inr (.inl ⟨a, vs, e1, sq, fun w => p.okk hh (.tupN sq ?_), fun _ q hq => p.newTup hh hq (rs.cut lo hi)⟩)
    have := rs.cut lo hi
    rw [cutV_whole w] at this
    exact this
  · split at p
    · rename_i n1 n2 k l hl
      obtain ⟨a, vs, e1, rs, c⟩ := seq_v hh rx hl
      rcases c with ⟨k1, c⟩ | ⟨_, c⟩
      · exfalso
        subst k1
        cases x <;> first | exact n2 _ rfl | skip
        all_goals first | cases hl; done | skip
        · exact n1 _ rfl
        · unfold seqOf at hl
          dsimp only at hl
          split at hl <;> cases hl
      · exact .inl ⟨a, vs, e1, c, fun q hq => p.newLst hh hq (rs.cut lo hi)⟩
    · exact p.elim
theorem e_sl (ha : PE X a (tE (gd X) W ma)) (hl : PO X lo (tO (gd X) W ml)) (hh' : PO X hi (tO (gd X) W mh)) : PE X (.Subscript a (.Slice lo hi none p2) pos) (tE (gd X) W (slE ma ml mh)) :=
  PE_of (pe_slice sl_M ha hl hh') fun σ H Q q => by
    refine one q fun ρ e H h x vx s hh rx p => ?_
    refine ⟨ρ, e, h, s, hh, p.bind.mono fun o1 H1 q => ?_⟩
    obtain ⟨ρ1, l1, h1, t1, hh1, r1, p1⟩ := q
    cases r1
    refine ⟨ρ1, e, h1, s.lat t1, hh1, p1.bind.mono fun o2 H2 q => ?_⟩
    obtain ⟨ρ2, l2, h2, t2, hh2, r2, p2⟩ := q
    cases r2
    exact rf_sl hh2 (t2.rd x (t1.rd x rx)) p2
def putKD (l : List (Key × D)) (k : Key) (d : D) : List (Key × D) := if (l.any fun kv => decide (kv.1 = k)) = true then l.map (fun kv => if kv.1 = k then (kv.1, d) else kv) else l ++ [(k, d)]
def stF : D → D → D → MH → Option MH := fun o i v h => match o with
  | .ref n => (match h[n]? with
    | some (.lst l) => (match i with
      | .int k => (match ixN l.length k with
        | some j => some (h.set n (.lst (l.set j v)))
        | none => none)
      | _ => none)
    | some (.dct l) => (match keyOf i with
      | some k => if l.length < 1000000 then some (h.set n (.dct (putKD l k v))) else none
      | none => none)
    | _ => none)
  | _ => none
def setX (o i a : EM) : SM := fun e h => ofE e (a e h) fun v h1 => ofE e (o e h1) fun x h2 => ofE e (i e h2) fun y h3 => match stF x y v h3 with
  | some h4 => .nx e h4
  | none => .bad
theorem RP.any {k : Key} : ∀ {l : List (Key × D)} {ws : List (Key × V)}, RP g ρ H l ws → (l.any fun kv => decide (kv.1 = k)) = (ws.any fun kv => decide (kv.1 = k))
  | [], ws, q => by have q' : ws = [] := q; subst q'; rfl
  | (f, d) :: l, ws, q => by
    obtain ⟨v, r, e, _, q2⟩ := q
    subst e
    rw [List.any_cons, List.any_cons, RP.any q2]
theorem RP.mapPut {k : Key} {d : D} {v : V} (r : RD g ρ H d v) : ∀ {l : List (Key × D)} {ws : List (Key × V)}, RP g ρ H l ws → RP g ρ H (l.map (fun kv => if kv.1 = k then (kv.1, d) else kv)) (ws.map (fun kv => if kv.1 = k then (kv.1, v) else kv))
  | [], ws, q => by have q' : ws = [] := q; subst q'; exact q
  | (f, x) :: l, ws, q => by
    obtain ⟨w, t, e, q1, q2⟩ := q
    subst e
    rw [List.map_cons, List.map_cons]
    by_cases hk : f = k
    · simp only [hk, if_true]
      exact ⟨v, _, rfl, r, RP.mapPut r q2⟩
    · simp only [hk, if_false]
      exact ⟨w, _, rfl, q1, RP.mapPut r q2⟩
theorem RP.app {α : Type} : ∀ {l m : List (α × D)} {vs ws : List (α × V)}, RP g ρ H l vs → RP g ρ H m ws → RP g ρ H (l ++ m) (vs ++ ws)
  | [], m, vs, ws, q, r => by have q' : vs = [] := q; subst q'; exact r
  | (f, x) :: l, m, vs, ws, q, r => by
    obtain ⟨w, t, e, q1, q2⟩ := q
    subst e
    exact ⟨w, t ++ ws, rfl, q1, RP.app q2 r⟩
theorem RP.one {α : Type} {k : α} {d : D} {v : V} (r : RD g ρ H d v) : RP g ρ H [(k, d)] [(k, v)] := ⟨v, [], rfl, r, rfl⟩
theorem RP.put {k : Key} {d : D} {v : V} {l : List (Key × D)} {ws : List (Key × V)} (q : RP g ρ H l ws) (r : RD g ρ H d v) : RP g ρ H (putKD l k d) (putK ws k v) := by
  unfold putKD putK
  rw [q.any (k := k)]
  split
  · exact q.mapPut r
  · exact q.app (.one r)
def rSetM : TSet := fun o i v H Q => rSetL o i v H Q ∨ rSetD o i v H Q
theorem set_M (hu : X.A.units + 1 < cLine) : PSet X rSetM := by
  intro pins s σ H o i v ov iv u Q I ro ri rv q
  rcases q with q | q
  · exact set_list pins s σ H o i v ov iv u Q I ro ri rv q
  · exact set_dict hu pins s σ H o i v ov iv u Q I ro ri rv q
theorem RH.setLst {n : Nat} {a : Addr} {l l' : List D} {vs vs' : List V} (hh : RH g ρ H h) (e : h[n]? = some (.lst l)) (ea : ρ[n]? = some a) (ev : H a = some (.lst vs)) (r : RDs g ρ H l' vs') :
    Lat g ρ H ρ (L2.upd H a (.lst vs')) ∧ RH g ρ (L2.upd H a (.lst vs')) (h.set n (.lst l')) := by
  have l1 := Lat.upd (g := g) (ρ := ρ) (u := .lst vs') (Soft.lst ev)
  exact ⟨l1, hh.set e ea rfl rfl (Soft.lst ev) ⟨vs', upd_same, l1.rds _ r⟩⟩
theorem RH.setDct {n : Nat} {a : Addr} {l l' : List (Key × D)} {vs vs' : List (Key × V)} (hh : RH g ρ H h) (e : h[n]? = some (.dct l)) (ea : ρ[n]? = some a) (ev : H a = some (.dK vs)) (r : RP g ρ H l' vs') :
    Lat g ρ H ρ (L2.upd H a (.dK vs')) ∧ RH g ρ (L2.upd H a (.dK vs')) (h.set n (.dct l')) := by
  have l1 := Lat.upd (g := g) (ρ := ρ) (u := .dK vs') (Soft.dK ev)
  exact ⟨l1, hh.set e ea rfl rfl (Soft.dK ev) ⟨vs', upd_same, l1.rp _ r⟩⟩
theorem st_ok {o i v : D} {vo vi vv : V} {h' : MH} {Q : Hp → Prop} (hh : RH g ρ H h) (ro : RD g ρ H o vo) (ri : RD g ρ H i vi) (rv : RD g ρ H v vv) (e : stF o i v h = some h') (k : ∀ H', Lat g ρ H ρ H' → RH g ρ H' h' → Q H') : rSetM vo vi vv H Q := by
  unfold stF at e
  split at e
  · rename_i n
    obtain ⟨a, e1, e2⟩ := RD_ref ro
    split at e
    · rename_i l hl
      obtain ⟨vs, e3, rs⟩ := hh.obj n _ a hl e1
      split at e
      · rename_i kk
        split at e
        · rename_i j hj
          cases e
          obtain ⟨l1, l2⟩ := hh.setLst (l' := l.set j v) (vs' := vs.set j vv) hl e1 e3 (rs.set j rv)
          exact .inl ⟨a, vs, kk, j, e2, RD_int ri, e3, by rw [← rs.length]; exact hj, k _ l1 l2⟩
        · cases e
      · cases e
    · rename_i l hl
      obtain ⟨ws, e3, rp⟩ := hh.obj n _ a hl e1
      split at e
      · rename_i kk hk
        split at e
        · rename_i hn
          cases e
          obtain ⟨l1, l2⟩ := hh.setDct hl e1 e3 (rp.put (k := kk) rv)
          refine .inr ⟨a, _, e2, ?_, k _ l1 l2⟩
          rw [keyOf_v ri hk]
          exact DPut.k e3 (by have := RP.length rp; have := sizeLine_eq; omega)
        · cases e
      · cases e
    · cases e
  · cases e
theorem s_setX {mo mi : EM} {c : Expr} {spos : Pos} (hu : X.A.units + 64 < cLine) (ha : PE X a (tE (gd X) (pl W0) ma)) (ho : PE X b (tE (gd X) (pl W0) mo)) (hi : PE X c (tE (gd X) (pl W0) mi))
    (hs : swapsWithSole [.Subscript b c pos] a spos.line X.env = pure false := by rfl) (hw : swappedStores [.Subscript b c pos] a X.env = pure none := by rfl)
    (h1 : (assignEach [.Subscript b c pos] X.env).map (·.2) = [assign (.Subscript b c pos) X.env] := by rfl)
    (hx : ∀ v, assign (.Subscript b c pos) X.env v = (do
      let ov ← holding [v] (eval b X.env)
      let iv ← holding [v, ov] (eval c X.env)
      standAt pos
      holding [v, ov, iv] (setItem ov iv v)
      release [v, ov, iv] []) := by intro _; rfl) : PS X (.Assign [.Subscript b c pos] a spos) (tS (gd X) W0 (setX mo mi ma)) :=
  PS_of (ps_asg ha (pg_sub ho hi (set_M (by omega)) hx) hs hw h1) fun N σ H q => by
    refine stE q fun ρ e H h v vv s hh rv p => ?_
    have q2 : tS (gd X) W0 (fun e h => ofE e (mo e h) fun x h2 => ofE e (mi e h2) fun y h3 => match stF x y v h3 with | some h4 => .nx e h4 | none => .bad) N σ H := ⟨ρ, e, h, s, hh, p⟩
    refine ⟨ρ, e, h, s.x, hh, ?_⟩
    revert p
    generalize mo e h = r
    intro p
    cases r with
    | bad => exact p.elim
    | exc c fs h1 => exact fun ρ1 H1 C dd gs l a => p ρ1 σ H1 C dd gs l a (l.rs s)
    | ok x h1 =>
      intro ρ1 vo H1 l1 hh1 r1
      have p : PostS (gd X) W0 ρ H (ofE e (mi e h1) fun y h3 => match stF x y v h3 with | some h4 => .nx e h4 | none => .bad) N := p
      refine ⟨ρ1, e, h1, (l1.rs s).x, hh1, ?_⟩
      revert p
      generalize mi e h1 = r
      intro p
      cases r with
      | bad => exact p.elim
      | exc c fs h2 => exact fun ρ2 H2 C dd gs l a => p ρ2 σ H2 C dd gs (l1.trans l) a ((l1.trans l).rs s)
      | ok y h2 =>
        intro ρ2 vi H2 l2 hh2 r2
        have p : PostS (gd X) W0 ρ H (match stF x y v h2 with | some h4 => .nx e h4 | none => .bad) N := p
        cases z : stF x y v h2 with
        | none => rw [z] at p; exact p.elim
        | some h4 =>
          rw [z] at p
          exact st_ok hh2 (l2.rd x r1) r2 ((l1.trans l2).rd v rv) z fun H3 l3 hh3 => p ρ2 σ H3 ((l1.trans l2).trans l3) hh3 (((l1.trans l2).trans l3).rs s)
end
end ML
namespace ML
open PySem PySem.Spec PyProof.Rows L2
/-- a method's reading against its mirror -/
def RFm (g : Gd) (f : D → List D → MH → R D) (r : V → List V → Hp → VK → Prop) : Prop := ∀ (Wf : XK) (Q : VK) ρ H h x xs vx vs, RH g ρ H h → RD g ρ H x vx → RDs g ρ H xs vs → Post g (RD g) Wf ρ H (f x xs h) Q → r vx vs H Q
def bmE (T : String) (f : D → List D → MH → R D) (o : EM) (a : AM) : EM := fun e h => (o e h).bind fun x h1 => if tyD h1 x = some T then (a e h1).bind fun xs h2 => f x xs h2 else .bad
section
variable {X : Cx} {g : Gd} {ρ : List Addr} {H : Hp} {h : MH}
theorem tyV_of (hh : RH g ρ H h) {x : D} {v : V} {T : String} (r : RD g ρ H x v) (e : tyD h x = some T) (hT : T ∈ ["list", "dict", "str"]) : tyV g.K T v H := by
  cases x <;> first | (cases e; done) | skip
  · cases e; exact absurd hT (by decide)
  · cases e; exact absurd hT (by decide)
  · cases e; exact absurd hT (by decide)
  · cases e; unfold RD at r; subst r; rfl
  · cases e; exact absurd hT (by decide)
  · rename_i n
    obtain ⟨a, e1, e2⟩ := RD_ref r
    subst e2
    unfold tyD at e
    dsimp only at e
    split at e
    · rename_i l hl
      cases e
      obtain ⟨vs, e3, _⟩ := hh.obj n _ a hl e1
      exact .inl ⟨rfl, vs, .of e3⟩
    · rename_i l hl
      cases e
      obtain ⟨vs, e3, _⟩ := hh.obj n _ a hl e1
      exact .inl ⟨rfl, vs, e3.sq⟩
    · rename_i l hl
      cases e
      obtain ⟨vs, e3, _⟩ := hh.obj n _ a hl e1
      exact .inr (.inr (.inl ⟨rfl, .inl ⟨vs, e3⟩⟩))
    · cases e
end
section
variable {X : Cx} {W : Wx} {o e : Expr} {es : List Expr} {mo : EM} {ma : AM} {name : Str} {apos cpos : Pos} {T id : String} {r : V → List V → Hp → VK → Prop} {f : D → List D → MH → R D}
theorem e_bm (pa : PlainAttrs T) (slot : Slot T name id) (hty : typeOf (.builtin id) = pure (.type "method_descriptor")) (hm : MtR X id r) (hf : RFm (gd X) f r) (ho : PE X o (tE (gd X) W mo)) (ha : PA X (e :: es) (tA (gd X) W ma)) (hT : T ∈ ["list", "dict", "str"] := by decide)
    (hbase : attributeBase o name X.env (eval o X.env) = eval o X.env := by rfl)
    (hfew : ((backTo cpos (starEach (e :: es) X.env)).all (fun x => !x.1) && (backToKw cpos (keywordEach [] X.env)).all (fun x => x.1.isSome)
      && decide ((e :: es).length + ([] : List Keyword).length + (if ([] : List Keyword).isEmpty then 0 else 1) < 30)) = true := by rfl)
    (hline : (apos.endLine == cpos.line) = true := by rfl) (hs : starEach (e :: es) X.env = (false, eval e X.env) :: starEach es X.env := by rfl) (hplain : (backTo cpos (starEach es X.env)).any (·.1) = false := by rfl) :
    PE X (.Call (.Attribute o name apos) (e :: es) [] cpos) (tE (gd X) W (bmE T f mo ma)) :=
  PE_of (pe_bm pa slot hty hm ho ha hbase hfew hline hs hplain) fun σ H Q q => by
    refine one q fun ρ e H h x vx s hh rx p => ?_
    split at p
    · rename_i ht
      refine ⟨tyV_of hh rx ht hT, ρ, e, h, s, hh, p.bind.mono fun vs H1 q => ?_⟩
      obtain ⟨ρ1, xs, h1, l1, hh1, rxs, p1⟩ := q
      exact hf _ _ ρ1 H1 h1 x xs vx vs hh1 (l1.rd x rx) rxs p1
    · exact p.elim
end
def appF : D → List D → MH → R D := fun x xs h => match x, xs with
  | .ref n, [y] => (match h[n]? with
    | some (.lst l) => if l.length < 1000000 then .ok .non (h.set n (.lst (l ++ [y]))) else .bad
    | _ => .bad)
  | _, _ => .bad
def popF : D → List D → MH → R D := fun x xs h => match x, xs with
  | .ref n, [] => (match h[n]? with
    | some (.lst l) => (match l[l.length - 1]? with
      | some y => .ok y (h.set n (.lst l.dropLast))
      | none => .bad)
    | _ => .bad)
  | .ref n, [.int i] => (match h[n]? with
    | some (.lst l) => if -(2 ^ 63) ≤ i ∧ i < 2 ^ 63 then (match seqIndex? i l.length with
      | some k => (match l[k]? with
        | some y => .ok y (h.set n (.lst (l.eraseIdx k)))
        | none => .bad)
      | none => .bad) else .bad
    | _ => .bad)
  | _, _ => .bad
section
variable {X : Cx} {g : Gd} {ρ : List Addr} {H : Hp} {h : MH}
theorem RDs.dropLast {l : List D} {vs : List V} (r : RDs g ρ H l vs) : RDs g ρ H l.dropLast vs.dropLast := by
  rw [List.dropLast_eq_take, List.dropLast_eq_take, ← r.length]
  exact r.take _
theorem rf_append : RFm g appF rAppend := fun Wf Q ρ H h x xs vx vs hh rx rxs p => by
  unfold appF at p
  split at p
  · rename_i n y
    split at p
    · rename_i l hl
      split at p
      · rename_i hz
        obtain ⟨a, e1, e2⟩ := RD_ref rx
        obtain ⟨ws, e3, rs⟩ := hh.obj n _ a hl e1
        obtain ⟨v, e4, r4⟩ := rxs.inv1
        obtain ⟨l1, l2⟩ := hh.setLst hl e1 e3 (rs.append (.one r4))
        exact ⟨a, ws, v, e2, e4, e3, by rw [← rs.length, sizeLine_eq]; omega, p ρ _ _ l1 l2 .nonN⟩
      · exact p.elim
    · exact p.elim
  · exact p.elim
def rPopM : V → List V → Hp → VK → Prop := fun x vs H Q => rPop x vs H Q ∨ rPopAt x vs H Q
theorem mt_popM : MtR X "list.pop" rPopM := MtR.or mt_pop mt_popAt
theorem rf_pop : RFm g popF rPopM := fun Wf Q ρ H h x xs vx vs hh rx rxs p => by
  unfold popF at p
  split at p
  · rename_i n
    split at p
    · rename_i l hl
      split at p
      · rename_i y hy
        obtain ⟨a, e1, e2⟩ := RD_ref rx
        obtain ⟨ws, e3, rs⟩ := hh.obj n _ a hl e1
        obtain ⟨v, e4, r4⟩ := rs.get hy
        rw [rs.length] at e4
        obtain ⟨l1, l2⟩ := hh.setLst hl e1 e3 rs.dropLast
        exact .inl ⟨a, ws, v, e2, rxs.invNil, e3, e4, p ρ _ _ l1 l2 (l1.rd y r4)⟩
      · exact p.elim
    · exact p.elim
  · rename_i n i
    split at p
    · rename_i l hl
      split at p
      · rename_i hz
        split at p
        · rename_i k hk
          split at p
          · rename_i y hy
            obtain ⟨a, e1, e2⟩ := RD_ref rx
            obtain ⟨ws, e3, rs⟩ := hh.obj n _ a hl e1
            obtain ⟨v, e4, r4⟩ := rs.get hy
            obtain ⟨w, e5, r5⟩ := rxs.inv1
            rw [RD_int r5] at e5
            obtain ⟨l1, l2⟩ := hh.setLst hl e1 e3 (rs.eraseIdx k)
            exact .inr ⟨a, ws, i, k, v, e2, e5, e3, hz.1, hz.2, by rw [← rs.length]; exact hk, e4, p ρ _ _ l1 l2 (l1.rd y r4)⟩
          · exact p.elim
        · exact p.elim
      · exact p.elim
    · exact p.elim
  · exact p.elim
end
end ML
namespace PySem
end PySem
namespace ML
open PySem PySem.Spec PyProof.Rows L2
theorem cx_no {P : Program} {w : World} {st : List PySem.Env} {H : Hp} {s : Shared} {e : Value} {s' : Shared} (h : L2.CX P w st H s (fun _ _ _ => False) e s') : False := by
  obtain ⟨_, _, _, _, _, _, _, _, _, _, _, _, z⟩ := h
  exact z
/-- __init__ of an error class with one field f -/
def spXi (C : Addr) (f : Str) : Sp := fun vs H Q _ => ∃ a y, vs = [.ref a, y] ∧ H a = some (exo a C none) ∧ ∀ dx, H dx = none → dx ≠ a → Q .non (L2.upd (L2.upd H dx (exd dx [(f, y)])) a (exo a C (some dx)))
theorem xi_ok {P : Program} {w : World} {K : PySem.W.Frag} {mg : Str → Option Value} {base : Heap} {qual f : Str} {st : Stmt} {fI C : Addr} {fd : FuncData} {p1 p2 p3 p4 : Pos} (F : Fun K "__init__" qual st fI fd) (Sc : FnScope ["self", f] ["self", f] (defScope st))
    (hb : defBody st = [.Assign [.Attribute (.Name "self" p1) f p2] (.Name f p3) p4]) (T : OexC K C) (hno : PySem.W.findIn K (.ref C) f = some none) 
    (l1 : Vis (defScope st) ("self" : Str)) (l2 : Vis (defScope st) f) (d1 : (f == ("__debug__" : Str)) = false) (d2 : (f == ("__classdict__" : Str)) = false) : FnOk P w K mg base (L2.CX P w) 1 fI fd ["self", f] (spXi C f) := by
  refine F.okX Sc (fun vs H Q E h => ?_) (fun cdv A outer s H vs Q E hr h => ?_)
  · obtain ⟨a, y, rfl, _⟩ := h
    rfl
  · obtain ⟨a, y, rfl, ea, k⟩ := h
    rw [hb]
    refine ⟨_, pss_one (ps_ost (pe_var (i := 0) rfl l1 (by decide) (by decide)) (pe_var (i := 1) rfl l2 d1 d2)), ?_⟩
    refine ⟨y, rfl, .ref a, rfl, a, C, rfl, T, hno, .inl ⟨ea, fun dx n ne => k dx n ne⟩⟩
/-- an error class of one field, as its callers know it -/
structure XcC (P : Program) (w : World) (K : PySem.W.Frag) (mg : Str → Option Value) (base : Heap) (c f : Str) : Prop where
  ex : ∃ C fI fd, mg c = some (.ref C) ∧ OexC K C ∧ PySem.W.findIn K (.ref C) "__init__" = some (some (.ref fI)) ∧ PySem.W.typeIn K (.ref fI) = some (.type "function") ∧
    FnOk P w K mg base (L2.CX P w) 1 fI fd ["self", f] (spXi C f) ∧ Binds K fd ["self", f] [] ∧ ∀ (s : Shared) (x y : Value), K.In s.heap → BindsTo s fd ⟨[x], [(f, y)]⟩ (([("self" : Str), f] : List Str).zip [x, y])
def xcH (H : Hp) (a dx C : Addr) (f : Str) (y : V) : Hp := L2.upd (L2.upd (L2.upd H a (exo a C none)) dx (exd dx [(f, y)])) a (exo a C (some dx))
section
variable {X : Cx} {W : Wx} {e : Expr} {es : List Expr} {mas : AM} {pos p : Pos} {c f : Str} {kws : List Keyword}
theorem PK_of {X : Cx} {e : List Keyword} {t t' : TA} (h : PK X e t) (i : ∀ σ H Q, t' σ H Q → t σ H Q) : PK X e t' := ⟨fun pos pins s σ H Q I q => h.run pos pins s σ H Q I (i _ _ _ q)⟩
theorem k_nil : PK X [] (tA (gd X) W nilA) := PK_of pk_nil fun σ H Q q => by
  obtain ⟨ρ, e, m, s, hh, p⟩ := q
  exact p.okk hh .nil
theorem k_cons {nm : Option Str} {kpos : Pos} {ma : EM} (ha : PE X e (tE (gd X) W ma)) (hr : PK X kws (tA (gd X) W mas)) : PK X (⟨nm, e, kpos⟩ :: kws) (tA (gd X) W (consA ma mas)) :=
  PK_of (pk_cons ha hr) fun σ H Q q => by
    refine one q fun ρ e H h x vx s hh rx p => ?_
    refine ⟨ρ, e, h, s, hh, p.bind.mono fun vs H1 q => ?_⟩
    obtain ⟨ρ1, xs, h1, l1, hh1, rxs, p1⟩ := q
    exact p1.okk hh1 (.cons (l1.rd x rx) rxs)
end
end ML
namespace ML
open PySem PySem.Spec PyProof.Rows L2
theorem RP.lookup {g : Gd} {ρ : List Addr} {H : Hp} {f : Str} : ∀ {fs : List (Str × D)} {gs : List (Str × V)} {d : D}, RP g ρ H fs gs → fs.lookup f = some d → ∃ v, gs.lookup f = some v ∧ RD g ρ H d v
  | [], _, _, _, e => by cases e
  | (k, x) :: fs, gs, d, q, e => by
    obtain ⟨v, r, e1, q1, q2⟩ := q
    subst e1
    unfold List.lookup at e ⊢
    split at e
    · cases e
      exact ⟨v, rfl, q1⟩
    · exact RP.lookup q2 e
/-- what the written part says of the classes whose instances (ci), of the error classes whose errors (cx) have the field f -/
def FldOk (K : PySem.W.Frag) (mg : Str → Option Value) (ci cx : List Str) (f : Str) : Prop :=
  (∀ c ∈ ci, ∀ C, mg c = some (.ref C) → Cls K C ∧ NoAttr K C f) ∧ ∀ c ∈ cx, ∀ C, mg c = some (.ref C) → XfC K C ∧ PySem.W.findIn K (.ref C) f = some none
def fldF (ci cx : List Str) (f : Str) : D → MH → R D := fun x h => match x with
  | .ref n => (match h[n]? with
    | some (.ins c fs) => if c ∈ ci then (match fs.lookup f with
      | some d => .ok d h
      | none => .bad) else .bad
    | some (.xc c fs) => if c ∈ cx then (match fs.lookup f with
      | some d => .ok d h
      | none => .bad) else .bad
    | _ => .bad)
  | _ => .bad
section
variable {X : Cx} {W : Wx} {e : Expr} {m : EM} {pos : Pos} {f : Str} {ci cx : List Str}
theorem e_fld (F : FldOk X.K X.mg ci cx f) (he : PE X e (tE (gd X) W m)) (hb : attributeBase e f X.env (eval e X.env) = eval e X.env := by rfl) : PE X (.Attribute e f pos) (tE (gd X) W (un (fldF ci cx f) m)) := by
  refine ⟨fun pins s σ H Q I h => ?_⟩
  have q : tE (gd X) W m σ H fun x H1 => ∃ a C v, x = .ref a ∧ Q v H1 ∧ ((∃ dx gs, H1 a = some (.ins C dx gs) ∧ Cls X.K C ∧ NoAttr X.K C f ∧ gs.lookup f = some v) ∨
      ∃ dx gs, H1 a = some (exo a C (some dx)) ∧ H1 dx = some (exd dx gs) ∧ XfC X.K C ∧ PySem.W.findIn X.K (.ref C) f = some none ∧ gs.lookup f = some v) := by
    refine one h fun ρ e H h x vx s hh rx p => ?_
    unfold fldF at p
    split at p
    · rename_i n
      obtain ⟨a, e1, e2⟩ := RD_ref rx
      split at p
      · rename_i c fs hc
        split at p
        · rename_i hm
          split at p
          · rename_i d hd
            obtain ⟨C, dx, gs, mgC, e3, rp⟩ := hh.obj n _ a hc e1
            obtain ⟨v, e4, r4⟩ := rp.lookup hd
            obtain ⟨c1, c2⟩ := F.1 c hm C mgC
            exact ⟨a, C, v, e2, p.okk hh r4, .inl ⟨dx, gs, e3, c1, c2, e4⟩⟩
          · exact p.elim
        · exact p.elim
      · rename_i c fs hc
        split at p
        · rename_i hm
          split at p
          · rename_i d hd
            obtain ⟨C, dx, gs, mgC, e3, e5, rp⟩ := hh.obj n _ a hc e1
            obtain ⟨v, e4, r4⟩ := rp.lookup hd
            obtain ⟨c1, c2⟩ := F.2 c hm C mgC
            exact ⟨a, C, v, e2, p.okk hh r4, .inr ⟨dx, gs, e3, e5, c1, c2, e4⟩⟩
          · exact p.elim
        · exact p.elim
      · exact p.elim
    · exact p.elim
  refine attr_of hb (thn (he.run pins s σ H _ I q) fun u s1 ⟨x, H1, I1, rx, a, C, v, ex, q1, alt⟩ => ?_)
  subst ex
  obtain rfl : u = Value.ref a := rx
  rcases alt with ⟨dx, gs, ea, c, n, l⟩ | ⟨dx, gs, ea, ed, T, hno, l⟩
  · exact getattr_ok I1 ea c n l fun u' s2 I2 ru => ⟨v, H1, I2, ru, q1⟩
  · obtain ⟨t1, ho⟩ := exo_at I1.hok ea
    obtain ⟨mA, hns, hr⟩ := exd_at I1.hok ed
    obtain ⟨od, hod, hl⟩ := lookIn_ns hns
    obtain ⟨u, hu, ru⟩ := RelO.some_of (v := v) (o := mA f) (by rw [← l]; exact hr f)
    have J : PySem.W.InstAt s1.heap a _ C (some od) := ⟨ho, rfl, rfl, hod⟩
    exact HandSPX.exc_get I1.kIn J T.ga T.gg T.exC (PySem.W.findObj_own T.hdC hno rfl (by rw [hl, hu])) (handed_of ru) ⟨v, H1, I1.tok _, ru, q1⟩
end
/-- what isinstance asks of the classes of x: own ones (ci), error classes (cx) -/
structure IsC (K : PySem.W.Frag) (C : Addr) : Prop where
  hdC : (PySem.W.clsIn K C).isSome = true
  ga : PySem.W.findIn K (.ref C) "__getattribute__" = some (some (.builtin "BaseException.__getattribute__"))
  gg : PySem.W.findIn K (.ref C) "__getattr__" = some none
  sub : PySem.W.subIn K (.ref C) (.type "BaseException") = some true
  ha : PySem.W.findIn K (.ref C) "__class__" = some (some (.builtin "object.__class__"))
  hn : PySem.W.specialIn K (.builtin "object.__class__") "__get__" = some (some (.builtin "getset_descriptor.__get__"))
  ht : PySem.W.takesIn K (.builtin "object.__class__") = some true
  hm : PySem.W.mroIn K C (.type "object") = some true
/-- an own class's instances are asked for their class -/
structure IsI (K : PySem.W.Frag) (C : Addr) : Prop where
  cl : Cls K C
  ha : PySem.W.findIn K (.ref C) "__class__" = some (some (.builtin "object.__class__"))
  hn : PySem.W.specialIn K (.builtin "object.__class__") "__get__" = some (some (.builtin "getset_descriptor.__get__"))
  ht : PySem.W.takesIn K (.builtin "object.__class__") = some true
  hm : PySem.W.mroIn K C (.type "object") = some true
/-- the answers of isinstance(x, c), cv what c is: by the type of a built-in x (tb), by the class of an instance (ti), of an error (tx) -/
structure IsTab (K : PySem.W.Frag) (mg : Str → Option Value) (cv : Value) (tb : List (String × Bool)) (ti tx : List (Str × Bool)) : Prop where
  b : ∀ T r, tb.lookup T = some r → PySem.W.kitOne K (.type T) cv = some r
  i : ∀ c r, ti.lookup c = some r → ∀ C, mg c = some (.ref C) → IsI K C ∧ PySem.W.kitOne K (.ref C) cv = some r
  x : ∀ c r, tx.lookup c = some r → ∀ C, mg c = some (.ref C) → IsC K C ∧ PySem.W.kitOne K (.ref C) cv = some r
def isxF (tb : List (String × Bool)) (ti tx : List (Str × Bool)) : D → MH → R D := fun x h => match tyD h x with
  | some T => (match tb.lookup T with
    | some r => .ok (.bl r) h
    | none => .bad)
  | none => (match x with
    | .ref n => (match h[n]? with
      | some (.ins c _) => (match ti.lookup c with
        | some r => .ok (.bl r) h
        | none => .bad)
      | some (.xc c _) => (match tx.lookup c with
        | some r => .ok (.bl r) h
        | none => .bad)
      | _ => .bad)
    | _ => .bad)
section
variable {X : Cx} {pins : List (Addr × Obj)} {σ : L2.St} {H : Hp} {s : Shared}
/-- isinstance of an error that stands as a value -/
def rIsX (K : PySem.W.Frag) : List V → Hp → VK → Prop := fun xs H Q => ∃ (a C : Addr) (dx : Addr) (gs : List (Str × V)) (c : V) (cv : Value) (b : Bool), xs = [.ref a, c] ∧ ClsV c cv ∧ H a = some (exo a C (some dx)) ∧ H dx = some (exd dx gs) ∧ IsC K C ∧ PySem.W.kitOne K (.ref C) cv = some b ∧ Q (.bl b) H
theorem call_isX : CallR X (.builtin "isinstance") (rIsX X.K) := by
  intro pins s σ H xs us Q I r h
  obtain ⟨a, C, dx, gs, c, cv, b, rfl, k, ea, ed, F, e, q⟩ := h
  obtain ⟨u1, u2, rfl, r1, r2⟩ := vals2 r
  have e2 := k.eq r2
  subst e2
  obtain rfl : u1 = Value.ref a := r1
  obtain ⟨t1, ho⟩ := exo_at I.hok ea
  obtain ⟨mA, hns, hr⟩ := exd_at I.hok ed
  obtain ⟨od, hod, hl⟩ := lookIn_ns hns
  have J : PySem.W.InstAt s.heap a _ C (some od) := ⟨ho, rfl, rfl, hod⟩
  exact PySem.W.kia_one (PySem.W.kitx_exc F.hdC F.ga F.gg F.sub F.ha F.hn F.ht F.hm) I.kIn J e (fun z => nomatch z) fun tk => ⟨.bl b, H, I.tok tk, rfl, q⟩
end
section
variable {X : Cx} {W : Wx} {a c : Expr} {m : EM} {p pos : Pos} {v : V} {cv : Value} {tb : List (String × Bool)} {ti tx : List (Str × Bool)}
theorem e_isx (F : IsTab X.K X.mg cv tb ti tx) (k : ClsV v cv) (hg : Gl X "isinstance") (hm : X.mg "isinstance" = none) (ha : PE X a (tE (gd X) W m)) (hc : PE X c (tC v))
    (s1 : starEach [a, c] X.env = (false, eval a X.env) :: starEach [c] X.env := by rfl) (s2 : starEach [c] X.env = (false, eval c X.env) :: starEach [] X.env := by rfl) (hpl : (backTo pos (starEach [c] X.env)).any (·.1) = false := by rfl) :
    PE X (.Call (.Name "isinstance" p) [a, c] [] pos) (tE (gd X) W (un (isxF tb ti tx) m)) :=
  PE_of (pe_callB (CallR.or call_isi call_isX) hg hm (by decide +kernel) (pa_cons ha (pa_cons hc pa_nil s2) s1) (by decide) (by decide) s1 hpl) fun σ H Q q => by
    refine one q fun ρ e H h x vx s hh rx p => ?_
    unfold isxF at p
    split at p
    · rename_i T hT
      split at p
      · rename_i r hr
        obtain ⟨t1, _⟩ := tyD_v hh rx hT
        exact .inl ⟨vx, v, .type T, cv, r, rfl, k, t1, F.b T r hr, p.okk hh .blN⟩
      · exact p.elim
    · split at p
      · rename_i n _
        obtain ⟨b, e1, e2⟩ := RD_ref rx
        split at p
        · rename_i c0 fs hn
          obtain ⟨C, dx, gs, mgC, e3, rp⟩ := hh.obj n _ b hn e1
          split at p
          · rename_i r hr
            obtain ⟨i1, i2⟩ := F.i c0 r hr C mgC
            subst e2
            exact .inl ⟨.ref b, v, .ref C, cv, r, rfl, k, .base (.ins e3 i1.cl i1.ha i1.hn i1.ht i1.hm), i2, p.okk hh .blN⟩
          · exact p.elim
        · rename_i c0 fs hn
          obtain ⟨C, dx, gs, mgC, e3, e4, rp⟩ := hh.obj n _ b hn e1
          split at p
          · rename_i r hr
            obtain ⟨i1, i2⟩ := F.x c0 r hr C mgC
            subst e2
            exact .inr ⟨b, C, dx, gs, v, cv, r, rfl, k, e3, e4, i1, i2, p.okk hh .blN⟩
          · exact p.elim
        · exact p.elim
      · exact p.elim
end
end ML
namespace ML
open PySem PySem.Spec PyProof.Rows L2
def enumD (l : List D) : List D := l.zipIdx.map fun p => .tup [.int (p.2 : Nat), p.1]
def enumF : List D → MH → R IT := fun ds h => match ds with
  | [.ref n] => (match h[n]? with
    | some (.lst l) => .ok ⟨enumD l, [(n, l)]⟩ h
    | some (.rdl l) => .ok ⟨enumD l, []⟩ h
    | _ => .bad)
  | _ => .bad
theorem enumD_len (l : List D) : (enumD l).length = l.length := by unfold enumD; simp
theorem enumD_at {l : List D} {i : Nat} {d : D} (e : (enumD l)[i]? = some d) : ∃ x, l[i]? = some x ∧ d = .tup [.int (i : Nat), x] := by
  unfold enumD at e
  rw [List.getElem?_map, List.getElem?_zipIdx] at e
  cases q : l[i]? with
  | none => rw [q] at e; cases e
  | some x =>
    rw [q] at e
    refine ⟨x, rfl, ?_⟩
    have e' := Option.some.inj e
    rw [← e']
    simp
section
variable {X : Cx} {W : Wx} {g : Gd} {ρ : List Addr} {H : Hp} {h : MH}
theorem enum_step {ρ2 : List Addr} {H2 H3 : Hp} {h2 : MH} {T : Addr} {i : Nat} {x : D} {v : V} (hh : RH g ρ2 H2 h2) (hT : H2 T = none) (e : H3 = L2.upd H2 T (.tup [.int (i : Nat), v])) (r : RD g ρ2 H2 x v) :
    Lat g ρ2 H2 ρ2 H3 ∧ RH g ρ2 H3 h2 ∧ RD g ρ2 H3 (.tup [.int (i : Nat), x]) (.ref T) := by
  subst e
  have l := Lat.upd (g := g) (ρ := ρ2) (u := .tup [V.int (i : Nat), v]) (Soft.none hT)
  exact ⟨l, hh.upd hT, .tupN (.of upd_same) (.cons .intN (.one (l.rd x r)))⟩
theorem wk_enumL {a : Addr} {l : List D} {n : Nat} (en : ρ[n]? = some a) : WkD g ρ H ⟨enumD l, [(n, l)]⟩ (Ite g.K a) := by
  have key : ∀ {ρ2 H2 h2}, Lat g ρ H ρ2 H2 → RH g ρ2 H2 h2 → IT.ok h2 [(n, l)] = true → ∃ vs, H2 a = some (.lst vs) ∧ RDs g ρ2 H2 l vs := fun {ρ2 H2 h2} l2 hh ok => by
    have e := stands_eq (p := (n, l)) (by unfold IT.ok at ok; simpa using ok)
    exact hh.obj n _ a e (l2.at en)
  refine ⟨fun H => ∃ vs, SqL g.K H a vs ∧ vs.length = l.length, (Ite g.K a).yld, ⟨fun i H hi ⟨vs, q, e⟩ => ⟨vs, vs[i]'(by rw [e]; rw [enumD_len] at hi; exact hi), q, List.getElem?_eq_getElem _⟩, fun H ⟨vs, q, e⟩ => ⟨vs, q, Nat.le_of_eq (by show vs.length = (enumD l).length; rw [enumD_len, e])⟩, fun _ _ _ _ _ _ y => y⟩,
    fun ρ2 H2 h2 l2 hh ok => ?_, fun i H2 x H3 ρ2 h2 d l2 hh ok y e => ?_⟩
  · obtain ⟨vs, e, r⟩ := key l2 hh ok
    exact ⟨vs, .of e, r.length.symm⟩
  · obtain ⟨vs, e1, r⟩ := key l2 hh ok
    obtain ⟨T, z, e2, e3, e4, y⟩ := y
    obtain ⟨d', e5, e6⟩ := enumD_at e
    obtain ⟨v, e7, r7⟩ := r.get e5
    have e8 := y vs (.of e1)
    rw [e7] at e8
    cases e8
    subst e2 e6
    exact enum_step hh e3 e4 r7
theorem wk_enumR {a : Addr} {l : List D} {vs : List V} (sq : RdL g.K H a vs) (r : RDs g ρ H l vs) : WkD g ρ H ⟨enumD l, []⟩ (Ite g.K a) := by
  refine ⟨fun H => RdL g.K H a vs, (Ite g.K a).yld, ⟨fun i H hi q => ⟨vs, vs[i]'(by rw [enumD_len] at hi; rw [← r.length]; exact hi), q.sq, List.getElem?_eq_getElem _⟩, fun H q => ⟨vs, q.sq, Nat.le_of_eq (by show vs.length = (enumD l).length; rw [enumD_len, r.length])⟩, fun _ _ _ _ _ _ y => y⟩,
    fun ρ2 H2 h2 l2 hh ok => l2.rdl sq, fun i H2 x H3 ρ2 h2 d l2 hh ok y e => ?_⟩
  obtain ⟨T, z, e2, e3, e4, y⟩ := y
  obtain ⟨d', e5, e6⟩ := enumD_at e
  obtain ⟨v, e7, r7⟩ := r.get e5
  have e8 := y vs (l2.rdl sq).sq
  rw [e7] at e8
  cases e8
  subst e2 e6
  exact enum_step hh e3 e4 (l2.rd d' r7)
end
end ML
namespace ML
open PySem PySem.Spec PyProof.Rows L2
def asgS (g : GM) (a : EM) : SM := fun e h => ofE e (a e h) fun d h1 => match g d e h1 with
  | some e1 => .nx e1 h1
  | none => .bad
section
variable {X : Cx} {W : WX} {tg a : Expr} {ma : EM} {mg : GM} {own : List Nat} {pos : Pos}
theorem s_asg (ha : PE X a (tE (gd X) (pl W) ma)) (hg : PG X tg (tGm (gd X) own mg)) (hs : swapsWithSole [tg] a pos.line X.env = pure false := by rfl) (hw : swappedStores [tg] a X.env = pure none := by rfl)
    (h1 : (assignEach [tg] X.env).map (·.2) = [assign tg X.env] := by rfl) : PS X (.Assign [tg] a pos) (tS (gd X) W (asgS mg ma)) :=
  PS_of (ps_asg ha hg hs hw h1) fun N σ H q => stE q fun ρ e H h d v s hh r p => by
    cases z : mg d e h with
    | none => rw [z] at p; exact p.elim
    | some e1 =>
      rw [z] at p
      exact ⟨ρ, e, h, d, e1, s, hh, r, z, fun σ2 s2 _ => p ρ σ2 H Lat.refl hh s2⟩
theorem takes_no {X : Cx} : Takes X noW := fun u s' x => by
  obtain ⟨_, _, _, _, _, _, _, _, _, _, _, _, _, _, _, _, z⟩ := x
  exact z.elim
end
theorem bb_len : bootBuiltins "len" = some (.builtin "len") := by decide +kernel
theorem bb_all : bootBuiltins "all" = some (.builtin "all") := by decide +kernel
theorem bb_max : bootBuiltins "max" = some (.builtin "max") := by decide +kernel
theorem bb_min : bootBuiltins "min" = some (.builtin "min") := by decide +kernel
theorem bb_isinstance : bootBuiltins "isinstance" = some (.builtin "isinstance") := by decide +kernel
theorem bb_int : bootBuiltins "int" = some (.type "int") := by decide +kernel
theorem bb_str : bootBuiltins "str" = some (.type "str") := by decide +kernel
theorem bb_bool : bootBuiltins "bool" = some (.type "bool") := by decide +kernel
theorem bb_list : bootBuiltins "list" = some (.type "list") := by decide +kernel
theorem bb_tuple : bootBuiltins "tuple" = some (.type "tuple") := by decide +kernel
end ML
namespace ML
open PySem PySem.Spec PyProof.Rows L2
/-- all that the library asks of a value whose text is wanted -/
structure Shw (P : Program) (w : World) (h : Heap) (u : Value) (p : PyData) : Prop where
  len : p.shown.length ≤ sizeLine
  rd : ∃ as, Reads h u p as
  rp : ∃ bs, ReadAtMost h p.depth bs ∧ ReprK P w bs h p.depth u p.shown
structure ShwAll (P : Program) (w : World) (h : Heap) (us : List Value) (ps : List PyData) : Prop where
  rd : ∃ as, ReadsAll h us ps as
  rp : ∃ bs, ReadAtMost h (PyData.depthAll ps) bs ∧ ReprAllK P w bs h (PyData.depthAll ps) us (PyData.shownAll ps)
section
variable {P : Program} {w : World} {h : Heap}
theorem ShwAll.nil : ShwAll P w h [] [] := ⟨⟨[], .nil⟩, [], fun _ z => (nomatch z), by simp only [PyData.shownAll]; exact .nil⟩
theorem ShwAll.cons {u : Value} {us : List Value} {p : PyData} {ps : List PyData} (a : Shw P w h u p) (b : ShwAll P w h us ps) : ShwAll P w h (u :: us) (p :: ps) := by
  obtain ⟨x1, r1⟩ := a.rd
  obtain ⟨x2, r2⟩ := b.rd
  obtain ⟨b1, m1, k1⟩ := a.rp
  obtain ⟨b2, m2, k2⟩ := b.rp
  refine ⟨⟨_, .cons r1 r2⟩, b1 ++ b2, ?_, ?_⟩
  · simp only [PyData.depthAll]
    exact (m1.mono (Nat.le_max_left _ _)).append (m2.mono (Nat.le_max_right _ _))
  · simp only [PyData.depthAll, PyData.shownAll]
    exact .cons ((k1.more fun b hb => List.mem_append_left _ hb).level_le (Nat.le_max_left _ _)) (k2.more_le (fun b hb => List.mem_append_right _ hb) (Nat.le_max_right _ _))
end
end ML
namespace ML
open PySem PySem.Spec PyProof.Rows L2
section
variable {P : Program} {w : World} {K : PySem.W.Frag} {mg : Str → Option Value} {base : Heap}
/-- one call of a def, at one place of the stack -/
theorem fn_run {x qual : Str} {st : Stmt} {f : Addr} {fd : FuncData} {N ps : List Str} {k : Nat} {A : Around} {outer : List PySem.Env} {s : Shared} {H : Hp} {args : Args} {us : List Value} {vs : List V} {Q : VK} {E : XK} {t : TS} (F : Fun K x qual st f fd) (S : FnScope N ps (defScope st))
    (hr : Room (k + 1) A) (e0 : Env0 P w K mg base A outer s H) (hb : BindsTo s fd args (ps.zip us)) (r : Vals vs us) (hl : vs.length = ps.length)
    (ht : ∀ cdv, Room k (A.deeper (envOfC qual (defScope st) s.heap.objs.size f cdv)) → PSs (cxOf (L2.CX P w) P w K mg base N qual (defScope st) f cdv A outer s H E) (defBody st) t) (q : t { nx := fun _ H' => Q .non H', rt := Q } (start N vs) H) :
    codeAny (model P w) A (.call (.ref f) args) (CR (L2.CX P w) outer P w H s Q E) s := by
  obtain ⟨oc, od, kV, doc, pm, an, cdv, ct, osl, rfl, lk, hcd⟩ := F.ex
  have stay := fun b o (e : base.get? b = some o) => (e0.bs b o e).1
  have KX : K.In s.heap := e0.mod.kin.keeps stay
  refine codeAny_call_function hr.depth (KX _ _ lk) rfl S.co S.gen rfl (PySem.W.codeRec_of KX hcd) (hb _ _ _ _ (wpAny_newFunctionEnv_cells S.kind (fun y hy => ?_) fun env he s1 i => ?_))
  · obtain ⟨n, v⟩ := y
    exact (S.par n (List.of_mem_zip hy).1).imp id fun z => ⟨z, PySem.W.cellsFrom_some _ _ _ (.inl z)⟩
  · subst he
    have I : Inv (cxOf (L2.CX P w) P w K mg base N qual (defScope st) f cdv A outer s H E) [] (start N vs) H s1 := inv_start S hr.hd e0 hl r i
    refine ⟨(e0.mod.nolimit.keeps stay).keeps i.toInCall.keep, codeAny_func (wpAny_mono ((ht cdv (hr.deeper _)).run [] s1 (start N vs) H _ I q) (fun fl s' hs => ?_) fun _ _ hs => hs)⟩
    cases fl with
    | ret u =>
      obtain ⟨v, _, H', J, rv, hq⟩ := hs
      exact ⟨v, H', J.os, J.bare, J.base, J.hok, rv, hq⟩
    | next =>
      obtain ⟨_, H', J, hq⟩ := hs
      exact ⟨V.non, H', J.os, J.bare, J.base, J.hok, rfl, hq⟩
    | brk =>
      obtain ⟨_, _, _, z⟩ := hs
      exact z.elim
    | cont =>
      obtain ⟨_, _, _, z⟩ := hs
      exact z.elim
/-- the tracked heap ahead of the law: the script alone, where the written part does not hold it -/
def scH (o : Option Obj) (a : Addr) (vs : List Value) (ns : List Int) : Hp := match o with
  | some _ => fun _ => none
  | none => fun b => if b = a then some (.frz { cls := .type "list", data := .seq vs.toArray } (.lst (ns.map V.int))) else none
/-- the call of the law, from what its body does at the caller's own place -/
theorem law_top {mb : Str → Option Value} {fa a : Addr} {s₁ : Shared} {vs : List Value} {ns : List Int} (KX : K.In s₁.heap) (hns : s₁.heap.Ns mainGlobals mg) (hb : s₁.heap.Ns builtinsNs mb) (hbb : ∀ x : Str, x ≠ "__name__" → mb x = bootBuiltins x) (hlim : s₁.heap.NoLimit)
    (hg : s₁.gens = #[]) (ha : s₁.heap.get? a = some { cls := .type "list", data := .seq vs.toArray }) (hi : IntsAre vs ns) (hl : ns.length ≤ sizeLine)
    (go : ∀ (base : Heap) (H : Hp), Env0 P w K mg base callerA [] s₁ H → RdL K H a (ns.map V.int) → codeAny (model P w) callerA (.call (.ref fa) ⟨[.ref a], []⟩) (CR (L2.CX P w) [] P w H s₁ (fun v _ => v = .bl true) fun _ _ _ => False) s₁) :
    codeAny (model P w) callerA (.call (.ref fa) ⟨[.ref a], []⟩) (fun r s' => r = .ok (.ret (.bool true)) ∧ OldK s₁.heap s'.heap ∧ s'.os = s₁.os ∧ AllBare s'.gens) s₁ := by
  have rv := vals_ints hi
  -- what is tracked: nothing, or the script that nobody writes
  have only : ∀ {b : Addr} {u : HO}, scH (K.lookup a) a vs ns b = some u → b = a ∧ K.lookup a = none ∧ u = .frz { cls := .type "list", data := .seq vs.toArray } (.lst (ns.map V.int)) := fun {b u} z => by
    cases hk : K.lookup a with
    | some o =>
      rw [hk] at z
      cases (show (none : Option HO) = some u from z)
    | none =>
      rw [hk] at z
      have z' : (if b = a then some (HO.frz { cls := .type "list", data := .seq vs.toArray } (.lst (ns.map V.int))) else none) = some u := z
      by_cases hb : b = a
      · rw [if_pos hb] at z'
        cases z'
        exact ⟨hb, rfl, rfl⟩
      · rw [if_neg hb] at z'
        cases z'
  have hS : RdL K (scH (K.lookup a) a vs ns) a (ns.map V.int) := by
    cases hk : K.lookup a with
    | none => exact .inl ⟨_, if_pos rfl⟩
    | some o =>
      have e := KX a o hk
      rw [ha] at e
      cases e
      exact .inr ⟨_, vs.toArray, _, hk, rfl, rfl, rfl, by rw [List.size_toArray, hi.length]; exact hl, by simpa using rv⟩
  have free : ∀ {b : Addr} {o : Obj}, s₁.heap.get? b = some o → (b = a → K.lookup a ≠ none ∨ False) → scH (K.lookup a) a vs ns b = none := fun {b o} e hn => by
    cases q : scH (K.lookup a) a vs ns b with
    | none => rfl
    | some u =>
      obtain ⟨h1, h2, _⟩ := only q
      rcases hn h1 with h | h
      · exact absurd h2 h
      · exact h.elim
  have dict : ∀ {b : Addr} {m : Str → Option Value}, s₁.heap.Ns b m → (hidT s₁.heap (scH (K.lookup a) a vs ns)).Ns b m := fun {b m} ⟨o, es, ep, e, d, r⟩ =>
    ⟨o, es, ep, hidT_get e (free e fun hb => by
      subst hb
      rw [ha] at e
      cases e
      cases d), d, r⟩
  have hK : K.In (hidT s₁.heap (scH (K.lookup a) a vs ns)) := fun b o e => hidT_get (KX b o e) (free (KX b o e) fun hb => .inl (by subst hb; rw [e]; simp))
  have hok : HOk P w (scH (K.lookup a) a vs ns) s₁.heap := fun b u q => by
    obtain ⟨h1, _, h3⟩ := only q
    subst h1 h3
    exact ⟨ha, by rw [List.length_map]; exact hl, vs, _, rv, ha⟩
  obtain ⟨mc, l1, l2⟩ := hlim
  have e0 : Env0 P w K mg (hidT s₁.heap (scH (K.lookup a) a vs ns)) callerA [] s₁ (scH (K.lookup a) a vs ns) :=
    ⟨rfl, ⟨hK, dict hns, ⟨mb, dict hb, hbb⟩, ⟨mc, dict l1, l2⟩⟩, fun b o e => of_hidT e, Nat.le_of_eq (hidT_size _ _), trivial, fun b z => absurd (show b ∈ ([] : List Addr) from z) (by simp), hok, .of_eq hg⟩
  refine codeAny_mono (go _ _ e0 hS) fun r s' h => ?_
  cases r with
  | error e => exact (cx_no h).elim
  | ok fl =>
    cases fl with
    | next => exact False.elim h
    | brk => exact False.elim h
    | cont => exact False.elim h
    | ret u =>
      obtain ⟨v, H', os, bare, un, hok', r', q⟩ := h
      have q' : v = .bl true := q
      subst q'
      obtain rfl : u = Value.bool true := r'
      refine ⟨rfl, OldK.of_keep fun b o e => ?_, os, bare⟩
      cases z : scH (K.lookup a) a vs ns b with
      | none => exact un.keep b o e z (by intro y; exact absurd (show b ∈ ([] : List Addr) from y) (by simp)) (by simp)
      | some u =>
        obtain ⟨h1, _, h3⟩ := only z
        subst h3
        obtain ⟨e1, _⟩ := hok b _ z
        obtain ⟨e2, _⟩ := hok' b _ (un.frzs b _ _ z)
        rw [e] at e1
        cases e1
        exact e2
end
end ML
namespace ML
open PySem PySem.Spec PyProof.Rows L2
def xcB (K : PySem.W.Frag) (C fI : Addr) (f : Str) : Bool :=
  decide (PySem.W.findIn K (.ref C) "__setattr__" = some (some (.builtin "object.__setattr__"))) && (decide (PySem.W.subIn K (.ref C) (.type "BaseException") = some true) && (decide (PySem.W.typeIn K (.ref C) = some (.type "type")) && (PySem.W.keepIn K (.ref C) &&
  (decide (PySem.W.findIn K (.ref C) "__init__" = some (some (.ref fI))) && (decide (PySem.W.typeIn K (.ref fI) = some (.type "function")) && (decide (PySem.W.findIn K (.ref C) f = some none) && (xfB K C && ((PySem.W.clsIn K C).isSome &&
  (decide (PySem.W.findIn K (.ref C) "__class__" = some (some (.builtin "object.__class__"))) && (decide (PySem.W.specialIn K (.builtin "object.__class__") "__get__" = some (some (.builtin "getset_descriptor.__get__"))) &&
  (decide (PySem.W.takesIn K (.builtin "object.__class__") = some true) && decide (PySem.W.mroIn K C (.type "object") = some true))))))))))))
structure XcB (K : PySem.W.Frag) (C fI : Addr) (f : Str) : Prop where
  sa : PySem.W.findIn K (.ref C) "__setattr__" = some (some (.builtin "object.__setattr__"))
  exC : PySem.W.subIn K (.ref C) (.type "BaseException") = some true
  tyC : PySem.W.typeIn K (.ref C) = some (.type "type")
  kC : PySem.W.keepIn K (.ref C) = true
  iC : PySem.W.findIn K (.ref C) "__init__" = some (some (.ref fI))
  tI : PySem.W.typeIn K (.ref fI) = some (.type "function")
  no : PySem.W.findIn K (.ref C) f = some none
  xf : XfC K C
  is : IsC K C
theorem xcB_ok {K : PySem.W.Frag} {C fI : Addr} {f : Str} (h : xcB K C fI f = true) : XcB K C fI f := by
  unfold xcB at h
  simp only [Bool.and_eq_true, decide_eq_true_eq] at h
  obtain ⟨h1, h2, h3, h4, h5, h6, h7, h8, h9, h10, h11, h12, h13⟩ := h
  have x := xfB_ok h8
  exact ⟨h1, h2, h3, h4, h5, h6, h7, x, ⟨h9, x.ga, x.gg, h2, h10, h11, h12, h13⟩⟩
section
variable {P : Program} {w : World} {K : PySem.W.Frag} {mg : Str → Option Value} {base : Heap}
/-- the class object of such a class -/
def XcO (K : PySem.W.Frag) (C : Addr) : Prop := ∃ nm q N bs bm sn sub ab col dd k0 k1 k2 k3 k5, K.lookup C = some (excClassObj nm q C N bs bm true sn sub ab col dd k0 k1 k2 k3 k5 "ValueError.__new__") ∧ PySem.HandSPX.refsVE bm = true
theorem fun_ex {x qual : Str} {st : Stmt} {f : Addr} {oc : Value} {od an : Option Addr} {osl : Array (Option Value)} {kV doc pm cdv ct : Value} (l : K.lookup f = some ⟨oc, od, .func (PySem.W.fnOf x qual (defArgs st) (defBody st) (defScope st) .none kV doc pm an cdv ct), osl⟩)
    (c : PySem.W.codeIn K cdv qual = true) (k : PySem.W.keepIn K (.ref f) = true) : ∃ fd, Fun K x qual st f fd := ⟨_, fun_mk l c k⟩
theorem xc_mk {c f qual : Str} {st : Stmt} {C fI : Addr} {fd : FuncData} {p1 p2 p3 p4 : Pos} (hm : mg c = some (.ref C)) (oC : XcO K C) (F : Fun K "__init__" qual st fI fd) (B : XcB K C fI f)
    (Sc : FnScope ["self", f] ["self", f] (defScope st)) (hb : defBody st = [.Assign [.Attribute (.Name "self" p1) f p2] (.Name f p3) p4]) (v1 : Vis (defScope st) ("self" : Str)) (v2 : Vis (defScope st) f) (d1 : (f == ("__debug__" : Str)) = false) (d2 : (f == ("__classdict__" : Str)) = false)
    (bd : ∀ (kV doc pm : Value) (an : Option Addr) (cdv ct : Value) (us : List Value), us.length = 2 → bindArgs (PySem.W.fnOf "__init__" qual (defArgs st) (defBody st) (defScope st) .none kV doc pm an cdv ct) ⟨us, []⟩ = pure (([("self" : Str), f] : List Str).zip us))
    (bk : ∀ (kV doc pm : Value) (an : Option Addr) (cdv ct : Value) (x y : Value), bindArgs (PySem.W.fnOf "__init__" qual (defArgs st) (defBody st) (defScope st) .none kV doc pm an cdv ct) ⟨[x], [(f, y)]⟩ = pure (([("self" : Str), f] : List Str).zip [x, y])) : XcC P w K mg base c f := by
  have T : OexC K C := ⟨oC, B.sa, B.exC, B.tyC, B.kC⟩
  refine ⟨C, fI, _, hm, T, B.iC, B.tI, xi_ok F Sc hb T B.no v1 v2 d1 d2, F.binds bd, fun s x y _ => ?_⟩
  obtain ⟨oc, od, kV, doc, pm, an, cdv, ct, osl, rfl, _, _⟩ := F.ex
  exact .of_eq (bk _ _ _ _ _ _ x y)
def kindB (K : PySem.W.Frag) (cs : List (Str × Addr)) (U : Addr) : Bool := cs.all fun p => decide (PySem.W.kitOne K (.ref p.2) (.ref U) = some true) && (decide (PySem.W.kitOne K (.ref p.2) (.type "ValueError") = some true) &&
  cs.all fun q => decide (PySem.W.kitOne K (.ref p.2) (.ref q.2) = some (decide (p.1 = q.1))))
def tabOf (ns : List Str) (g : Str → Bool) : List (Str × Bool) := ns.map fun n => (n, g n)
theorem tabOf_at {ns : List Str} {g : Str → Bool} {c : Str} {r : Bool} (e : (tabOf ns g).lookup c = some r) : c ∈ ns ∧ r = g c := by
  induction ns with
  | nil => cases e
  | cons n ns ih =>
    unfold tabOf at e
    rw [List.map_cons] at e
    unfold List.lookup at e
    split at e
    · rename_i h
      cases e
      have h' : c = n := by simpa using h
      subst h'
      exact ⟨List.mem_cons_self, rfl⟩
    · obtain ⟨a, b⟩ := ih e
      exact ⟨List.mem_cons_of_mem _ a, b⟩
/-- the fields of the error classes -/
theorem fld_mk {cs : List (Str × Addr)} {f : Str} (hm : ∀ p ∈ cs, mg p.1 = some (.ref p.2)) (hx : ∀ p ∈ cs, XfC K p.2 ∧ PySem.W.findIn K (.ref p.2) f = some none) : FldOk K mg [] (cs.map (·.1)) f := by
  refine ⟨fun c h => (by cases h), fun c h C hC => ?_⟩
  obtain ⟨p, hp, e1⟩ := List.mem_map.mp h
  subst e1
  have := hm p hp
  rw [hC] at this
  cases this
  exact hx p hp
def adr (mg : Str → Option Value) (x : Str) : Addr := match mg x with
  | some (.ref a) => a
  | _ => 0
theorem adr_of {x : Str} {a : Addr} (h : mg x = some (.ref a)) : mg x = some (.ref (adr mg x)) := by
  unfold adr
  rw [h]
theorem adr_is {x : Str} {a : Addr} (h : mg x = some (.ref a)) : adr mg x = a := by
  unfold adr
  rw [h]
def scriptM (ns : List Int) : MH := [.rdl (ns.map .int)]
theorem RDs.ints {g : Gd} {ρ : List Addr} {H : Hp} : ∀ (ns : List Int), RDs g ρ H (ns.map .int) (ns.map V.int)
  | [] => .nil
  | n :: ns => .cons .intN (RDs.ints ns)
theorem law_run {st : Stmt} {fa a : Addr} {fd : FuncData} {N : List Str} {k : Nat} {s : Shared} {H : Hp} {ns : List Int} {b : SM} (F : Fun K "law" "law" st fa fd) (S : FnScope N ["script"] (defScope st)) (hr : Room (k + 1) callerA) (e0 : Env0 P w K mg base callerA [] s H)
    (hb : Binds K fd ["script"] []) (hS : RdL K H a (ns.map V.int))
    (hbody : ∀ cdv, Room k (callerA.deeper (envOfC "law" (defScope st) s.heap.objs.size fa cdv)) → PSs (cxOf (L2.CX P w) P w K mg base N "law" (defScope st) fa cdv callerA [] s H (fun _ _ _ => False)) (defBody st) (tS ⟨K, mg, P, w⟩ (fun cls d _ H => (fun _ _ _ => False : XK) cls d H) b))
    (hm : ∃ h', b ([some (.ref 0)] ++ List.replicate (N.length - 1) none) (scriptM ns) = .rt (.bl true) h') : codeAny (model P w) callerA (.call (.ref fa) ⟨[.ref a], []⟩) (CR (L2.CX P w) [] P w H s (fun v _ => v = .bl true) fun _ _ _ => False) s := by
  obtain ⟨h', hm⟩ := hm
  have hh : RH ⟨K, mg, P, w⟩ [a] H (scriptM ns) := by
    have one : ∀ {n : Nat} {o : O} {x : Addr}, (scriptM ns)[n]? = some o → ([a] : List Addr)[n]? = some x → o = .rdl (ns.map .int) ∧ x = a := fun {n o x} e1 e2 => by
      cases n with
      | zero => cases e1; cases e2; exact ⟨rfl, rfl⟩
      | succ n => simp at e2
    refine ⟨rfl, fun n o x e1 e2 => ?_, fun n m o o' x e1 e2 m1 m2 e3 e4 => ?_⟩
    · obtain ⟨h1, h2⟩ := one e1 e2
      subst h1 h2
      exact ⟨_, hS, RDs.ints ns⟩
    · obtain ⟨h1, _⟩ := one e1 e3
      subst h1
      cases m1
  have rd : RDs ⟨K, mg, P, w⟩ [a] H [D.ref 0] [V.ref a] := .one (by unfold RD; exact ⟨a, rfl, rfl⟩)
  refine fn_run F S hr e0 (hb s [.ref a] (e0.mod.kin.keeps fun b o e => (e0.bs b o e).1) rfl) (us := [.ref a]) (vs := [.ref a]) (.cons rfl .nil) rfl hbody ⟨[a], _, _, RS.start rd, hh, ?_⟩
  show PostS _ _ _ _ (b ([some (.ref 0)] ++ List.replicate (N.length - 1) none) (scriptM ns)) _
  rw [hm]
  intro ρ' v H' l _ r
  exact RD_bl r rfl
end
end ML
namespace ML
open PySem PySem.Spec PyProof.Rows L2
section
variable {α β : Type} {e e1 e2 : Env} {h h1 h2 h3 h4 : MH} {x y z d : D} {xs : List D} {a b c : EM} {as : AM} {t t2 : TM} {m m2 : SM} {i n : Nat} {v : Bool} {r : R D} {s : S}
theorem ev_var (p : e[i]? = some (some d)) : varE i e h = .ok d h := by unfold varE; rw [p]
theorem ev_con : conE d e h = .ok d h := rfl
theorem ev_bin {f : D → D → MH → R D} (p : a e h = .ok x h1) (q : b e h1 = .ok y h2) (k : f x y h2 = r) : bin f a b e h = r := by unfold bin; rw [p]; show R.bind (b e h1) _ = r; rw [q]; exact k
theorem ev_un {f : D → MH → R D} (p : a e h = .ok x h1) (k : f x h1 = r) : un f a e h = r := by unfold un; rw [p]; exact k
theorem ev_nil : nilA e h = .ok [] h := rfl
theorem ev_cons (p : a e h = .ok x h1) (q : as e h1 = .ok xs h2) : consA a as e h = .ok (x :: xs) h2 := by unfold consA; rw [p]; show R.bind (as e h1) _ = _; rw [q]; rfl
theorem ev_on {f : List D → MH → R D} (p : as e h = .ok xs h1) (k : f xs h1 = r) : onA f as e h = r := by unfold onA; rw [p]; exact k
theorem ev_bm {T : String} {f : D → List D → MH → R D} (p : a e h = .ok x h1) (ty : tyD h1 x = some T) (q : as e h1 = .ok xs h2) (k : f x xs h2 = r) : bmE T f a as e h = r := by
  unfold bmE
  rw [p]
  show (if tyD h1 x = some T then (as e h1).bind (fun xs h2 => f x xs h2) else .bad) = r
  rw [if_pos ty, q]
  exact k
theorem ev_val (p : a e h = .ok (.bl v) h1) : valT a e h = .ok v h1 := by unfold valT; rw [p]; rfl
theorem ev_not (p : t e h = .ok v h1) : notT t e h = .ok (!v) h1 := by unfold notT; rw [p]; rfl
theorem ev_andF (p : t e h = .ok false h1) : andT t t2 e h = .ok false h1 := by unfold andT; rw [p]; rfl
theorem ev_andT (p : t e h = .ok true h1) (q : t2 e h1 = .ok v h2) : andT t t2 e h = .ok v h2 := by unfold andT; rw [p]; exact q
theorem ev_orF (p : t e h = .ok false h1) (q : t2 e h1 = .ok v h2) : orT t t2 e h = .ok v h2 := by unfold orT; rw [p]; exact q
theorem ev_ifT (p : t e h = .ok true h1) (q : a e h1 = r) : ifE t a b e h = r := by unfold ifE; rw [p]; exact q
theorem ev_ifF (p : t e h = .ok false h1) (q : b e h1 = r) : ifE t a b e h = r := by unfold ifE; rw [p]; exact q
theorem es_set (p : a e h = .ok d h1) : setS i a e h = .nx (e.set i (some d)) h1 := by unfold setS ofE; rw [p]
theorem es_set' (p : a e h = .ok d h1) (q : e.set i (some d) = e1) : setS i a e h = .nx e1 h1 := by rw [← q]; exact es_set p
theorem es_exp (p : a e h = .ok d h1) : expS a e h = .nx e h1 := by unfold expS ofE; rw [p]
theorem es_ret (p : a e h = .ok d h1) : retS a e h = .rt d h1 := by unfold retS ofE; rw [p]
theorem es_pass : passS e h = .nx e h := rfl
theorem es_seq (p : m e h = .nx e1 h1) (q : m2 e1 h1 = s) : seqS m m2 e h = s := by unfold seqS; rw [p]; exact q
theorem es_seqR (p : m e h = .rt d h1) : seqS m m2 e h = .rt d h1 := by unfold seqS; rw [p]
theorem es_ifT (p : t e h = .ok true h1) (q : m e h1 = s) : ifS t m m2 e h = s := by unfold ifS ofT; rw [p]; exact q
theorem es_ifF (p : t e h = .ok false h1) (q : m2 e h1 = s) : ifS t m m2 e h = s := by unfold ifS ofT; rw [p]; exact q
theorem es_setX (p : c e h = .ok z h1) (q : a e h1 = .ok x h2) (k : b e h2 = .ok y h3) (w : stF x y z h3 = some h4) : setX a b c e h = .nx e h4 := by
  unfold setX ofE
  rw [p]
  dsimp only
  rw [q]
  dsimp only
  rw [k]
  dsimp only
  rw [w]
theorem es_par2 {j : Nat} (p : as e h = .ok [x, y] h1) : parS [i, j] as e h = .nx ((e.set i (some x)).set j (some y)) h1 := by unfold parS ofA; rw [p]; rfl
theorem ef_rt {np n : Nat} {ds : List D} {b : SM} (hl : ds.length = np) (p : b (ds.map some ++ List.replicate (n - ds.length) none) h = .rt d h1) : fnM np n b ds h = .ok d h1 := by unfold fnM; rw [if_pos hl, p]
variable {l : List D} {k j : Int}
theorem set_get {k : Nat} {o o' : O} (e : h[k]? = some o) : (h.set k o')[k]? = some o' := by
  rw [List.getElem?_set_self (List.getElem?_eq_some_iff.mp e).1]
theorem ix0 {x : D} {r : List D} (e : h[n]? = some (.lst (x :: r))) : ixF (.ref n) (.int 0) h = .ok x h := by
  simp [ixF, seqOf, e, atI, ixN]
theorem ix1 {x y : D} {r : List D} (e : h[n]? = some (.lst (x :: y :: r))) : ixF (.ref n) (.int 1) h = .ok y h := by
  have : (1 : Int) < (r.length : Int) + 1 + 1 := by omega
  simp [ixF, seqOf, e, atI, ixN, this]
theorem int_i : intF [.int k] h = .ok (.int k) h := rfl
theorem add_i : addF (.int k) (.int j) h = .ok (.int (k + j)) h := rfl
theorem sub_i : subF (.int k) (.int j) h = .ok (.int (k - j)) h := rfl
theorem mod_i (p : 0 < j) : modF (.int k) (.int j) h = .ok (.int (k % j)) h := by unfold modF; dsimp only; rw [if_pos p]
theorem div_i (p : 0 < j) (q : j.natAbs.log2 < 9000) : fdivF (.int k) (.int j) h = .ok (.int (k / j)) h := by unfold fdivF; dsimp only; rw [if_pos ⟨p, q⟩]
theorem mul_i (p : k.natAbs.log2 + j.natAbs.log2 < 100000000) : mulF (.int k) (.int j) h = .ok (.int (k * j)) h := by unfold mulF; dsimp only; rw [if_pos p]
theorem pow_i (p : 0 ≤ j) (q : ((k.natAbs.log2 + 1 : Nat) : Int) * j ≤ 2 ^ 27) : powF (.int k) (.int j) h = .ok (.int (k ^ j.toNat)) h := by unfold powF; dsimp only; rw [if_pos ⟨p, q⟩]
theorem ge_T (p : j ≤ k) : geF (.int k) (.int j) h = .ok (.bl true) h := by unfold geF ordF; dsimp only; rw [decide_eq_true p]
theorem ge_F (p : ¬ j ≤ k) : geF (.int k) (.int j) h = .ok (.bl false) h := by unfold geF ordF; dsimp only; rw [decide_eq_false p]
theorem lt_T (p : k < j) : ltF (.int k) (.int j) h = .ok (.bl true) h := by unfold ltF ordF; dsimp only; rw [decide_eq_true p]
theorem lt_F (p : ¬ k < j) : ltF (.int k) (.int j) h = .ok (.bl false) h := by unfold ltF ordF; dsimp only; rw [decide_eq_false p]
theorem log_lt {k : Nat} {z : Int} (hk : 0 < k) (p : z.natAbs < 2 ^ k) : z.natAbs.log2 < k := by
  rcases Nat.eq_zero_or_pos z.natAbs with e | e
  · rw [e]; simpa using hk
  · exact (Nat.log2_lt (by omega)).mpr p
theorem st0 {a b v : D} (e : h[n]? = some (.lst [a, b])) : stF (.ref n) (.int 0) v h = some (h.set n (.lst [v, b])) := by simp [stF, e, ixN]
theorem st1 {a b v : D} (e : h[n]? = some (.lst [a, b])) : stF (.ref n) (.int 1) v h = some (h.set n (.lst [a, v])) := by simp [stF, e, ixN]
theorem lst_new (hl : xs.length ≤ 1000000) : lstF xs h = .ok (.ref h.length) (h ++ [.lst xs]) := by unfold lstF; rw [if_pos hl]
theorem tup_new (hl : xs.length ≤ 1000000) : tupF xs h = .ok (.tup xs) h := by unfold tupF; rw [if_pos hl]
theorem loop_nil {srcs : List (Nat × List D)} {g : GM} (ok : IT.ok h srcs = true) : loopS srcs g m [] e h = .nx e h := by unfold loopS; rw [if_pos ok]
theorem loop_cons {srcs : List (Nat × List D)} {g : GM} (ok : IT.ok h srcs = true) (p : g d e h = some e1) (q : m e1 h = .nx e2 h2) : loopS srcs g m (d :: xs) e h = loopS srcs g m xs e2 h2 := by
  rw [loopS, if_pos ok, p]
  dsimp only
  rw [q]
theorem es_for {it : IM} {g : GM} {I : IT} (p : it e h = .ok I h1) (q : loopS I.srcs g m I.items e h1 = s) : forS it g m e h = s := by unfold forS; rw [p]; exact q
theorem ei_rdl {l : List D} (p : a e h = .ok (.ref n) h1) (q : h1[n]? = some (.rdl l)) : seqI a e h = .ok ⟨l, []⟩ h1 := by
  unfold seqI
  rw [p]
  show seqF (.ref n) h1 = _
  unfold seqF
  dsimp only
  rw [q]
theorem ei_lst {l : List D} (p : a e h = .ok (.ref n) h1) (q : h1[n]? = some (.lst l)) : seqI a e h = .ok ⟨l, [(n, l)]⟩ h1 := by
  unfold seqI
  rw [p]
  show seqF (.ref n) h1 = _
  unfold seqF
  dsimp only
  rw [q]
theorem ei_rng {j : Int} (p : as e h = .ok [.int j] h1) (c : -(2 ^ 62) ≤ j ∧ j < 2 ^ 62) : rng1I as e h = .ok ⟨rangeD 0 j.toNat, []⟩ h1 := by
  unfold rng1I
  rw [p]
  show (if -(2 ^ 62) ≤ j ∧ j < 2 ^ 62 then _ else _) = _
  rw [if_pos c]
theorem len_rdl {l : List D} (q : h[n]? = some (.rdl l)) : lenF [.ref n] h = .ok (.int l.length) h := by simp [lenF, seqOf, q]
theorem len_lst {l : List D} (q : h[n]? = some (.lst l)) : lenF [.ref n] h = .ok (.int l.length) h := by simp [lenF, seqOf, q]
theorem len_tup {l : List D} : lenF [.tup l] h = .ok (.int l.length) h := by simp [lenF, seqOf]
theorem ixN_ok {n : Nat} {i : Int} (h0 : 0 ≤ i) (h1 : i < n) : ixN n i = some i.toNat := by unfold ixN; rw [if_pos h0, if_pos h1]
theorem ix_rdl {l : List D} {i : Int} {d : D} (q : h[n]? = some (.rdl l)) (h0 : 0 ≤ i) (h1 : l[i.toNat]? = some d) : ixF (.ref n) (.int i) h = .ok d h := by
  have hl : i.toNat < l.length := (List.getElem?_eq_some_iff.mp h1).1
  have : atI l i = some d := by unfold atI; rw [ixN_ok h0 (by omega)]; exact h1
  simp [ixF, seqOf, q, this]
theorem ix_lst {l : List D} {i : Int} {d : D} (q : h[n]? = some (.lst l)) (h0 : 0 ≤ i) (h1 : l[i.toNat]? = some d) : ixF (.ref n) (.int i) h = .ok d h := by
  have hl : i.toNat < l.length := (List.getElem?_eq_some_iff.mp h1).1
  have : atI l i = some d := by unfold atI; rw [ixN_ok h0 (by omega)]; exact h1
  simp [ixF, seqOf, q, this]
theorem ix_tup {l : List D} {i : Int} {d : D} (h0 : 0 ≤ i) (h1 : l[i.toNat]? = some d) : ixF (.tup l) (.int i) h = .ok d h := by
  have hl : i.toNat < l.length := (List.getElem?_eq_some_iff.mp h1).1
  have : atI l i = some d := by unfold atI; rw [ixN_ok h0 (by omega)]; exact h1
  simp [ixF, seqOf, this]
theorem bits_lt (z : Int) : z.natAbs < 2 ^ (Builtin.Int.intBits z) := by
  unfold Builtin.Int.intBits
  split
  · rename_i hz
    have : z = 0 := by simpa using hz
    subst this
    decide
  · exact Nat.lt_log2_self
theorem log_add {x y : Int} {k : Nat} (hx : x.natAbs < 2 ^ k) (hy : y.natAbs < 2 ^ k) : (x + y).natAbs.log2 ≤ k := by
  have h1 : (x + y).natAbs < 2 ^ (k + 1) := by
    have := Int.natAbs_add_le x y
    rw [Nat.pow_succ]
    omega
  have := log_lt (Nat.succ_pos k) h1
  omega
theorem pow_up {k j : Nat} {x : Nat} (h : x < 2 ^ k) (hk : k ≤ j) : x < 2 ^ j := Nat.lt_of_lt_of_le h (Nat.pow_le_pow_right (by decide) hk)
end
end ML
namespace ML
open PySem PySem.Spec PyProof.Rows L2
/-- the tuple of texts that the module's name x holds -/
def TupG (K : PySem.W.Frag) (mg : Str → Option Value) (x : Str) (l : List Str) : Prop := ∃ a dd its n sl, mg x = some (.ref a) ∧ K.lookup a = some ⟨.type "tuple", dd, .seq its n, sl⟩ ∧ its.size ≤ sizeLine ∧ Vals (l.map V.str) its.toList
/-- the text, the number that it holds -/
def StrG (mg : Str → Option Value) (x : Str) (s : Str) : Prop := ∃ t, mg x = some (.str s t)
def IntG (mg : Str → Option Value) (x : Str) (i : Int) : Prop := ∃ t, mg x = some (.int i t)
def strsD (l : List Str) : D := .tup (l.map .str)
theorem RDs.strs {g : Gd} {ρ : List Addr} {H : Hp} : ∀ (l : List Str), RDs g ρ H (l.map .str) (l.map V.str)
  | [] => .nil
  | s :: l => .cons .strN (RDs.strs l)
section
variable {X : Cx} {W : Wx} {W0 : WX} {x : Str} {pos : Pos} {l : List Str} {s : Str} {i : Int}
theorem e_gtup (G : TupG X.K X.mg x l) (hg : Gl X x) (hd : (x == ("__debug__" : Str)) = false := by decide) : PE X (.Name x pos) (tE (gd X) W (conE (strsD l))) := by
  obtain ⟨a, dd, its, n, sl, hm, hk, hz, rv⟩ := G
  exact e_con (pe_glob (v := .ref a) hg hm rfl hd) fun ρ H => .tupN (.inr ⟨_, its, n, hk, rfl, rfl, hz, rv⟩) (RDs.strs l)
theorem e_gstr (G : StrG X.mg x s) (hg : Gl X x) (hd : (x == ("__debug__" : Str)) = false := by decide) : PE X (.Name x pos) (tE (gd X) W (conE (.str s))) := by
  obtain ⟨t, hm⟩ := G
  exact e_con (pe_glob (v := .str s) hg hm ⟨t, rfl⟩ hd) fun ρ H => .strN
theorem e_gint (G : IntG X.mg x i) (hg : Gl X x) (hd : (x == ("__debug__" : Str)) = false := by decide) : PE X (.Name x pos) (tE (gd X) W (conE (.int i))) := by
  obtain ⟨t, hm⟩ := G
  exact e_con (pe_glob (v := .int i) hg hm ⟨t, rfl⟩ hd) fun ρ H => .intN
end
def starA (a : EM) (r : AM) : AM := fun e h => (a e h).bind fun x h1 => match seqOf h1 x with
  | some (_, l) => (r e h1).bind fun ys h2 => .ok (l ++ ys) h2
  | none => .bad
section
variable {X : Cx} {W : Wx} {a b c : Expr} {ma mb mc : EM} {es : List Expr} {mas : AM} {p pos : Pos}
theorem a_star (ha : PE X a (tE (gd X) W ma)) (hr : PA X es (tA (gd X) W mas)) (hs : starEach (.Starred a p :: es) X.env = (true, eval a X.env) :: starEach es X.env := by rfl) : PA X (.Starred a p :: es) (tA (gd X) W (starA ma mas)) :=
  PA_of (StX.pa_star ha hr hs) fun σ H Q q => by
    refine one q fun ρ e H h x vx s hh rx p => ?_
    split at p
    · rename_i k l hl
      obtain ⟨q, vs, e1, rs, alt⟩ := seq_v hh rx hl
      refine ⟨q, vs, e1, ?_, ρ, e, h, s, hh, p.bind.mono fun ws H1 q1 => ?_⟩
      · rcases alt with ⟨_, z⟩ | ⟨_, z⟩
        · exact .inl z
        · exact .inr z
      · obtain ⟨ρ1, ys, h1, l1, hh1, ry, p1⟩ := q1
        exact p1.okk hh1 ((l1.rds l rs).append ry)
    · exact p.elim
def chainE (f g : D → D → MH → R D) (a b c : EM) : EM := fun e h => (a e h).bind fun x h1 => (b e h1).bind fun y h2 => (f x y h2).bind fun z h3 => (toB z h3).bind fun k h4 => if k then (c e h4).bind fun w h5 => g y w h5 else .ok (.bl false) h4
theorem chain_read {f g : D → D → MH → R D} {r r' : R2} (hf : RF2 (gd X) f r) (hg : RF2 (gd X) g r') {σ : L2.St} {H : Hp} {Q : VK} (q : tE (gd X) W (chainE f g ma mb mc) σ H Q) : tChain r r' (tE (gd X) W ma) (tE (gd X) W mb) (tE (gd X) W mc) σ H Q := by
  refine one q fun ρ e H h x vx s hh rx p => ?_
  refine ⟨ρ, e, h, s, hh, p.bind.mono fun vy H1 q1 => ?_⟩
  obtain ⟨ρ1, y, h1, l1, hh1, ry, p1⟩ := q1
  refine hf _ _ ρ1 H1 h1 x y vx vy hh1 (l1.rd x rx) ry (p1.bind.mono fun vz H2 q2 => ?_)
  obtain ⟨ρ2, z, h2, l2, hh2, rz, p2⟩ := q2
  obtain ⟨k, e1, p3⟩ := toB_ok rz p2
  refine ⟨k, e1, ?_⟩
  cases k with
  | false =>
    rw [if_neg (by decide)]
    exact p3.okk hh2 .blN
  | true =>
    rw [if_pos rfl]
    rw [if_pos rfl] at p3
    refine ⟨ρ2, e, h2, (s.lat l1).lat l2, hh2, p3.bind.mono fun vw H3 q3 => ?_⟩
    obtain ⟨ρ3, w, h3, l3, hh3, rw', p4⟩ := q3
    exact hg _ _ ρ3 H3 h3 y w vy vw hh3 (l3.rd y (l2.rd y ry)) rw' p4
theorem e_chain {op op' : CmpOp} {r r' : R2} {f g : D → D → MH → R D} (ho : OpR X (compareOp op) r) (hf : RF2 (gd X) f r) (ho' : OpR X (compareOp op') r') (hg : RF2 (gd X) g r') (ha : PE X a (tE (gd X) W ma)) (hb : PE X b (tE (gd X) W mb)) (hc : PE X c (tE (gd X) W mc))
    (hm : lastMarks [op, op'] [b, c] = false := by with_unfolding_all rfl) : PE X (.Compare a [op, op'] [b, c] pos) (tE (gd X) W (chainE f g ma mb mc)) :=
  PE_of (pe_chain ho ho' ha hb hc hm) fun σ H Q q => chain_read hf hg q
theorem t_chain {op op' : CmpOp} {r r' : R2} {f g : D → D → MH → R D} (ho : OpR X (compareOp op) r) (hf : RF2 (gd X) f r) (ho' : OpR X (compareOp op') r') (hg : RF2 (gd X) g r') (ha : PE X a (tE (gd X) W ma)) (hb : PE X b (tE (gd X) W mb)) (hc : PE X c (tE (gd X) W mc))
    (hm : lastMarks [op, op'] [b, c] = false := by with_unfolding_all rfl) : PT X (.Compare a [op, op'] [b, c] pos) (tT (gd X) W (valT (chainE f g ma mb mc))) :=
  PT_of (pt_chain ho ho' ha hb hc hm) fun σ H Q q => chain_read hf hg (testOf q)
def negF : D → MH → R D := fun x h => match x with
  | .int i => .ok (.int (-i)) h
  | _ => .bad
theorem rf_neg : RF1 (gd X) negF (rU fun i => .int (-i)) := fun Wf Q ρ H h x vx hh rx p => by
  unfold negF at p
  split at p
  · exact ⟨_, RD_int rx, p.okk hh .intN⟩
  · exact p.elim
end
def insF : D → List D → MH → R D := fun x xs h => match x, xs with
  | .ref n, [.int i, y] => (match h[n]? with
    | some (.lst l) => if l.length < 1000000 ∧ 0 ≤ i ∧ i < 2 ^ 62 then .ok .non (h.set n (.lst (l.take i.toNat ++ [y] ++ l.drop i.toNat))) else .bad
    | _ => .bad)
  | _, _ => .bad
theorem rf_insert {g : Gd} : RFm g insF (fun x vs H Q => ∃ (l : Addr) (xs : List V) (i : Int) (y : V), x = .ref l ∧ vs = [.int i, y] ∧ H l = some (.lst xs) ∧ xs.length < sizeLine ∧ 0 ≤ i ∧ i < 2 ^ 63 ∧
    Q .non (L2.upd H l (.lst (xs.take i.toNat ++ [y] ++ xs.drop i.toNat)))) := fun Wf Q ρ H h x xs vx vs hh rx rxs p => by
  unfold insF at p
  split at p
  · rename_i n i y
    split at p
    · rename_i l hl
      split at p
      · rename_i hz
        obtain ⟨a, e1, e2⟩ := RD_ref rx
        obtain ⟨ws, e3, rs⟩ := hh.obj n _ a hl e1
        obtain ⟨v1, v2, e4, r4, r5⟩ := rxs.inv2
        rw [RD_int r4] at e4
        obtain ⟨l1, l2⟩ := hh.setLst hl e1 e3 (((rs.take i.toNat).append (.one r5)).append (rs.drop i.toNat))
        exact ⟨a, ws, i, v2, e2, e4, e3, by rw [← rs.length, sizeLine_eq]; omega, hz.2.1, by omega, p ρ _ _ l1 l2 .nonN⟩
      · exact p.elim
    · exact p.elim
  · exact p.elim
end ML
namespace ML
open PySem PySem.Spec PyProof.Rows L2
/-- an own class with its __init__, as its callers know it -/
structure InC (P : Program) (w : World) (K : PySem.W.Frag) (mg : Str → Option Value) (base : Heap) (c : Str) (k np : Nat) (m : FM) : Prop where
  ex : ∃ C f fd ps, mg c = some (.ref C) ∧ Mk K C f ∧ Binds K fd ps [] ∧ ps.length = np ∧ FnOk P w K mg base (L2.CX P w) k f fd ps (spM ⟨K, mg, P, w⟩ ps.length m)
section
variable {X : Cx} {W : Wx} {g : Gd} {e : Expr} {es : List Expr} {mas : AM} {pos p : Pos} {c : Str} {k np : Nat} {m : FM} {ρ : List Addr} {H : Hp} {h : MH}
theorem RH.newIns {x dx C : Addr} (hh : RH g ρ H h) (h1 : H x = none) (h2 : H dx = none) (h3 : dx ≠ x) (hm : g.mg c = some (.ref C)) :
    Lat g ρ H (ρ ++ [x]) (L2.upd (L2.upd H dx (.own x)) x (.ins C dx [])) ∧ RH g (ρ ++ [x]) (L2.upd (L2.upd H dx (.own x)) x (.ins C dx [])) (h ++ [.ins c []]) ∧ RD g (ρ ++ [x]) (L2.upd (L2.upd H dx (.own x)) x (.ins C dx [])) (.ref h.length) (.ref x) := by
  have q1 : RH g ρ (L2.upd H dx (.own x)) h := hh.upd h2
  have l1 := Lat.upd (g := g) (ρ := ρ) (u := .own x) (Soft.none h2)
  have e0 : L2.upd H dx (.own x) x = none := by rw [upd_ne (Ne.symm h3)]; exact h1
  have l2 := Lat.new (g := g) (ρ := ρ) (u := .ins C dx []) (Soft.none e0)
  refine ⟨l1.trans l2, q1.new e0 ⟨C, dx, [], hm, upd_same, rfl⟩, ?_⟩
  unfold RD
  exact ⟨x, by rw [← hh.len]; simp, rfl⟩
end
def putFD (f : Str) (v : D) : List (Str × D) → List (Str × D)
  | [] => [(f, v)]
  | (g, x) :: r => if g = f then (g, v) :: r else (g, x) :: putFD f v r
theorem RP.putF {g : Gd} {ρ : List Addr} {H : Hp} {f : Str} {d : D} {v : V} (r : RD g ρ H d v) : ∀ {fs : List (Str × D)} {gs : List (Str × V)}, RP g ρ H fs gs → RP g ρ H (putFD f d fs) (L2.putF f v gs)
  | [], gs, q => by
    have q' : gs = [] := q
    subst q'
    exact ⟨v, [], rfl, r, rfl⟩
  | (k, x) :: fs, gs, q => by
    obtain ⟨u, t, e, q1, q2⟩ := q
    subst e
    show RP g ρ H (if k = f then (k, d) :: fs else (k, x) :: putFD f d fs) (if k = f then (k, v) :: t else (k, u) :: L2.putF f v t)
    by_cases hk : k = f
    · rw [if_pos hk, if_pos hk]
      exact ⟨v, t, rfl, r, q2⟩
    · rw [if_neg hk, if_neg hk]
      exact ⟨u, _, rfl, q1, RP.putF r q2⟩
def putO (ci : List Str) (f : Str) : D → D → MH → Option MH := fun x v h => match x with
  | .ref n => (match h[n]? with
    | some (.ins c fs) => if c ∈ ci ∧ fs.length < 1000 then some (h.set n (.ins c (putFD f v fs))) else none
    | _ => none)
  | _ => none
def stFld (ci : List Str) (f : Str) (o a : EM) : SM := fun e h => ofE e (a e h) fun v h1 => ofE e (o e h1) fun x h2 => match putO ci f x v h2 with
  | some h3 => .nx e h3
  | none => .bad
section
variable {X : Cx} {W : WX} {o a : Expr} {mo ma : EM} {pos pos' : Pos} {f : Str} {ci cx : List Str}
theorem put_ok (F : FldOk X.K X.mg ci cx f) {ρ : List Addr} {H : Hp} {h h' : MH} {x v : D} {vx vv : V} {Q : Hp → Prop} (hh : RH (gd X) ρ H h) (rx : RD (gd X) ρ H x vx) (rv : RD (gd X) ρ H v vv) (e : putO ci f x v h = some h') (k : ∀ H', Lat (gd X) ρ H ρ H' → RH (gd X) ρ H' h' → Q H') :
    ∃ a C dx fs, vx = .ref a ∧ H a = some (.ins C dx fs) ∧ Cls X.K C ∧ NoAttr X.K C f ∧ fs.length < 1000 ∧ Q (L2.upd H a (.ins C dx (L2.putF f vv fs))) := by
  unfold putO at e
  split at e
  · rename_i n
    obtain ⟨b, e1, e2⟩ := RD_ref rx
    split at e
    · rename_i c fs hn
      split at e
      · rename_i hc
        cases e
        obtain ⟨C, dx, gs, mgC, e3, rp⟩ := hh.obj n _ b hn e1
        obtain ⟨c1, c2⟩ := F.1 c hc.1 C mgC
        have rp2 := rp.putF (f := f) rv
        have l2 := Lat.upd (g := gd X) (ρ := ρ) (u := .ins C dx (L2.putF f vv gs)) (Soft.ins e3)
        have hh2 := hh.set (u := .ins C dx (L2.putF f vv gs)) (o' := .ins c (putFD f v fs)) hn e1 rfl rfl (Soft.ins e3) ⟨C, dx, _, mgC, upd_same, l2.rp _ rp2⟩
        exact ⟨b, C, dx, gs, e2, e3, c1, c2, by rw [← RP.length rp]; exact hc.2, k _ l2 hh2⟩
      · cases e
    · cases e
  · cases e
theorem s_fld (F : FldOk X.K X.mg ci cx f) (ho : PE X o (tE (gd X) (pl W) mo)) (ha : PE X a (tE (gd X) (pl W) ma)) (hs : swapsWith a (some (.Attribute o f pos')) pos.line X.env = pure false := by rfl) : PS X (.Assign [.Attribute o f pos'] a pos) (tS (gd X) W (stFld ci f mo ma)) :=
  PS_of (ps_fld ho ha hs) fun N σ H q => by
    refine stE q fun ρ e H h v vv s hh rv p => ?_
    refine ⟨ρ, e, h, s.x, hh, ?_⟩
    revert p
    generalize mo e h = r
    intro p
    cases r with
    | bad => exact p.elim
    | exc c fs h1 => exact fun ρ1 H1 C dd gs l a => p ρ1 σ H1 C dd gs l a (l.rs s)
    | ok x h1 =>
      intro ρ1 vo H1 l1 hh1 r1
      have p : PostS (gd X) W ρ H (match putO ci f x v h1 with | some h3 => .nx e h3 | none => .bad) N := p
      cases z : putO ci f x v h1 with
      | none => rw [z] at p; exact p.elim
      | some h3 =>
        rw [z] at p
        exact put_ok F hh1 r1 (l1.rd v rv) z fun H3 l3 hh3 => p ρ1 σ H3 (l1.trans l3) hh3 ((l1.trans l3).rs s)
end
def raiseS (c f : Str) (a : AM) : SM := fun e h => ofA e (a e h) fun ds h1 => match ds with
  | [d] => .exc c [(f, d)] e h1
  | _ => .bad
section
variable {X : Cx} {W : WX} {e : Expr} {es : List Expr} {mas : AM} {pos p pos' : Pos} {c f : Str}
theorem del_xc {H : Hp} {a dx C : Addr} {y : V} (h1 : H a = none) (h3 : dx ≠ a) : L2.upd (L2.del (xcH H a dx C f y) a) dx (.xd [(f, y)]) = L2.upd H dx (.xd [(f, y)]) := by
  funext b
  by_cases hb : b = dx
  · subst hb; rw [upd_same, upd_same]
  · rw [upd_ne hb, upd_ne hb]
    by_cases ha : b = a
    · subst ha; rw [del_same, h1]
    · rw [del_ne ha]
      unfold xcH
      rw [upd_ne ha, upd_ne hb, upd_ne ha]
theorem s_raise (tk : Takes X W) (hc : X.calm = true) (F : XcC X.prog X.w X.K X.mg X.base c f) (hr : Room 2 X.A) (hg : Gl X c) (ha : PA X (e :: es) (tA (gd X) (pl W) mas)) (hdb : (c == ("__debug__" : Str)) = false := by decide)
    (he : starEach (e :: es) X.env = (false, eval e X.env) :: starEach es X.env := by rfl) (hpl : (backTo pos (starEach es X.env)).any (·.1) = false := by rfl) : PS X (.Raise (some (.Call (.Name c p) (e :: es) [] pos)) none pos') (tS (gd X) W (raiseS c f mas)) := by
  obtain ⟨C, fI, fd, mgC, T, iC, tI, G, hb, hk⟩ := F.ex
  refine PS_of (ps_raise hc tk (pmk_oex (k := 1) T iC tI G hr hb .nil (fun _ _ _ _ _ _ _ z => (cx_no z).elim) hg mgC ha hdb he hpl)) fun N σ H q => ?_
  refine stA q fun ρ e H h ds vs s hh rd p => ?_
  have hd : ∃ d, ds = [d] ∧ PostS (gd X) W ρ H (.exc c [(f, d)] e h) N := by
    split at p
    · exact ⟨_, rfl, p⟩
    · exact p.elim
  obtain ⟨d, ed, p⟩ := hd
  subst ed
  obtain ⟨y, ey, ry⟩ := rd.inv1
  subst ey
  refine ⟨by simp, fun a ha => ⟨a, y, rfl, upd_same, fun dx n ne => ?_⟩⟩
  have n' : H dx = none := by rw [upd_ne ne] at n; exact n
  refine ⟨rfl, dx, [(f, y)], upd_same, by rw [upd_ne ne, upd_same], n', ?_⟩
  have e1 := del_xc (C := C) (f := f) (y := y) ha ne
  unfold xcH at e1
  rw [e1]
  have l := Lat.upd (g := gd X) (ρ := ρ) (u := .xd [(f, y)]) (Soft.none n')
  exact p ρ σ _ C dx [(f, y)] l (hh.upd n') (l.rs s) mgC upd_same (RP.one (l.rd d ry))
end
end ML
namespace ML
open PySem PySem.Spec PyProof.Rows L2
/-- in an except suite: where the error stands and what it holds -/
def sufW (g : Gd) (i : Nat) (a dd : Addr) (gs : List (Str × V)) (fs : List (Str × D)) : Wx :=
  ⟨noW, fun ρ H σ => σ[i]? = some (some (.ref a)) ∧ H dd = some (.xd gs) ∧ RP g ρ H fs gs, fun g' ρ H ρ' H' σ l j => ⟨j.1, l.xd _ _ j.2.1, (show Lat g ρ H ρ' H' from ⟨l.pre, l.tup, l.frz, l.xd, l.ext⟩).rp _ j.2.2⟩⟩
/-- which classes are caught by the class that stands in the clause -/
def CatTab (K : PySem.W.Frag) (mg : Str → Option Value) (cv : Value) (ct : List (Str × Bool)) : Prop := ∀ c b, ct.lookup c = some b → ∀ C, mg c = some (.ref C) → PySem.W.exmOne K (.ref C) cv = some b
section
variable {X : Cx} {Wout : WX} {i : Nat} {n x y : Str} {cv : Value} {ct : List (Str × Bool)} {body : List Stmt} {mb : SM} {np pos pos' py sp : Pos} {ex : Expr} {m : Str → List (Str × D) → EM} {j : Nat}
/-- what the suite reads -/
def tSuf (X : Cx) (i : Nat) (sm : Str → List (Str × D) → SM) (a : Addr) (cls : Value) (d : Option Addr) : TS := fun N σ H => ∃ ρ e h c C dd gs fs, cls = .ref C ∧ d = some dd ∧ X.mg c = some (.ref C) ∧ RX (gd X) (sufW (gd X) i a dd gs fs) ρ H e σ ∧ RH (gd X) ρ H h ∧
  (match sm c fs e h with
    | .nx e2 h2 => ∀ ρ' σ' H', Lat (gd X) ρ H ρ' H' → RH (gd X) ρ' H' h2 → RS (gd X) ρ' H' e2 σ' → N.nx σ' H'
    | .rt v h2 => ∀ ρ' u H', Lat (gd X) ρ H ρ' H' → RH (gd X) ρ' H' h2 → RD (gd X) ρ' H' v u → N.rt u H'
    | _ => False)
end
end ML
namespace ML
open PySem PySem.Spec PyProof.Rows L2
def gCut {α : Type} (n m : Nat) (us ws : List α) : List α := if us.length = n ∧ ws.length = m then us ++ ws else []
theorem kb_mk {K : PySem.W.Frag} {fd : FuncData} {ps ks : List Str} {n m : Nat} (hp : ps ≠ []) (h : ∀ (s : Shared) (us ws : List Value), us.length = n → ws.length = m → BindsTo s fd ⟨us, ks.zip ws⟩ (ps.zip (us ++ ws))) : KBinds K fd ps ks (gCut n m) (gCut n m) := by
  refine ⟨fun s us ws _ hl => ?_, fun {vs us zs ws} r1 r2 => ?_⟩
  · unfold gCut at hl ⊢
    split at hl
    · rename_i c
      rw [if_pos c]
      exact h s us ws c.1 c.2
    · cases ps with
      | nil => exact absurd rfl hp
      | cons p ps => simp at hl
  · unfold gCut
    by_cases c : vs.length = n ∧ zs.length = m
    · rw [if_pos c, if_pos ⟨by rw [← r1.length]; exact c.1, by rw [← r2.length]; exact c.2⟩]
      exact r1.append r2
    · rw [if_neg c, if_neg (by rw [← r1.length, ← r2.length]; exact c)]
      exact .nil
/-- what a caller with keywords knows of a def: n arguments by place, then the keywords ks -/
structure CalK (P : Program) (w : World) (K : PySem.W.Frag) (mg : Str → Option Value) (base : Heap) (x : Str) (n : Nat) (ks : List Str) (k : Nat) (m : FM) : Prop where
  ex : ∃ f fd ps, mg x = some (.ref f) ∧ PySem.W.keepIn K (.ref f) = true ∧ KBinds K fd ps ks (gCut n ks.length) (gCut n ks.length) ∧ FnOk P w K mg base (L2.CX P w) k f fd ps (spM ⟨K, mg, P, w⟩ ps.length m) ∧ ps.length = n + ks.length ∧ ∀ ds h, ds.length ≠ ps.length → m ds h = .bad
def onK (n j : Nat) (m : FM) (a b : AM) : EM := fun e h => (a e h).bind fun xs h1 => (b e h1).bind fun ys h2 => if xs.length = n ∧ ys.length = j then m (xs ++ ys) h2 else .bad
theorem calk_mk {P : Program} {w : World} {K : PySem.W.Frag} {mg : Str → Option Value} {base : Heap} {x qual : Str} {st : Stmt} {f : Addr} {fd : FuncData} {ps ks : List Str} {k np nn n : Nat} {b : SM} (F : Fun K x qual st f fd) (hm : mg x = some (.ref f))
    (hb : ∀ (kV doc pm : Value) (an : Option Addr) (cdv ct : Value) (us ws : List Value), us.length = n → ws.length = ks.length → bindArgs (PySem.W.fnOf x qual (defArgs st) (defBody st) (defScope st) .none kV doc pm an cdv ct) ⟨us, ks.zip ws⟩ = pure (ps.zip (us ++ ws)))
    (G : FnOk P w K mg base (L2.CX P w) k f fd ps (spM ⟨K, mg, P, w⟩ ps.length (fnM np nn b))) (hnp : np = ps.length) (hl : ps.length = n + ks.length) (hp : ps ≠ []) : CalK P w K mg base x n ks k (fnM np nn b) := by
  refine ⟨f, fd, ps, hm, F.kp, kb_mk hp (fun s us ws h1 h2 => ?_), G, hl, fun ds h hd => by unfold fnM; rw [hnp, if_neg hd]⟩
  obtain ⟨oc, od, kV, doc, pm, an, cdv, ct, osl, rfl, _, _⟩ := F.ex
  exact .of_eq (hb _ _ _ _ _ _ us ws h1 h2)
end ML
namespace PySem
namespace SetM
open PyProof.Rows PySem.Calls
/-- the texts among the first i; how many different ones -/
def seen (xs : List Str) (i : Nat) : Str → Bool := fun k => (xs.take i).any (· == k)
def many (xs : List Str) : Nat → Nat
  | 0 => 0
  | i + 1 => if seen xs i (xs.getD i Str.empty) = true then many xs i else many xs i + 1
theorem many_le (xs : List Str) : ∀ i, many xs i ≤ i
  | 0 => Nat.le_refl _
  | i + 1 => by
    have := many_le xs i
    unfold many
    split <;> omega
theorem strs_val : ∀ {us : List Value} {xs : List Str}, StrsAre us xs → ∀ (i : Nat) (v : Value), us[i]? = some v → ∃ t, v = .str (xs.getD i Str.empty) t
  | _, _, .nil, i, v, h => by simp at h
  | _, _, .cons n t hr, 0, v, h => by
    simp at h
    exact ⟨t, by rw [← h]; rfl⟩
  | _, _, .cons n t hr, i + 1, v, h => by
    obtain ⟨t', e⟩ := strs_val hr i v (by simpa using h)
    exact ⟨t', by rw [e]; rfl⟩
abbrev set0 (led : Bool) : Obj := { cls := .type "set", dict := none, data := .set #[] 0 (.fresh 0 0 led) }
section
variable {prog : Program} {w : World} {A : Around} {R : Result → Shared → Prop} {I : Addr} {fp wr : List Addr} {G : Array GenState → Array GenState → Prop} {n : Nat} {P : Nat → Value → Prop} {St : Nat → Shared → Prop}
theorem seen_step {xs : List Str} {i : Nat} (hi : i < xs.length) (k : Str) : (seen xs i k || decide (k = xs.getD i Str.empty)) = seen xs (i + 1) k := by
  unfold seen
  have e1 : xs.getD i Str.empty = xs[i] := by simp [List.getD, hi]
  rw [List.take_succ_eq_append_getElem hi, List.any_append, e1]
  congr 1
  simp only [List.any_cons, List.any_nil, Bool.or_false]
  by_cases q : k = xs[i]
  · rw [← q]; simp
  · have q' : (xs[i] == k) = false := by simpa using (fun z : xs[i] = k => q z.symm)
    rw [q', decide_eq_false q]
theorem upd_loop (W : WalksS prog w A.in1 I fp wr G n P St) (S : Addr) (nf : S ∉ fp) (xs : List Str) (hsz : xs.length = n) (hn : xs.length ≤ 1000) (hval : ∀ i v, P i v → ∃ t, v = .str (xs.getD i Str.empty) t) :
    ∀ (k i : Nat) (s : Shared), n - i = k → i ≤ n → St i s → s.heap.SetOf (strKind prog w) S (seen xs i) (many xs i) →
      (∀ s', Moved (S :: wr) G s s' → s'.heap.SetOf (strKind prog w) S (seen xs xs.length) (many xs xs.length) → R (.ok (.ret .none)) s') → codeAny (model prog w) A (.builtin "set.update.loop" ⟨[.ref S, .ref I], []⟩) R s := by
  have nw : S ∉ wr := fun z => nf (W.sub _ z)
  have stay : ∀ {s s' : Shared} {f : Str → Bool} {m : Nat}, Moved wr G s s' → s.heap.SetOf (strKind prog w) S f m → s'.heap.SetOf (strKind prog w) S f m := fun {s s' f m} hm hS => by
    obtain ⟨o, es, ep, t, ho, rest⟩ := hS
    exact ⟨o, es, ep, t, hm.heap S _ nw ho, rest⟩
  have more : ∀ b ∈ wr, b ∈ S :: wr := fun b hb => List.mem_cons_of_mem _ hb
  intro k
  induction k with
  | zero =>
    intro i s hk hi hst hS hR
    obtain rfl : i = xs.length := by omega
    refine codeAny_builtin F.entry_set_update_loop ?_
    rw [Around.under_plainId F.plain_set_update_loop _]
    show wpAny _ A.in1 (pyNext (.ref I) >>= _) _ _ s
    refine wpAny_bind (W.done s _ _ (by rw [← hsz]; exact hst) fun s' hm => ?_)
    show wpAny _ A.in1 (ret Value.none) _ _ s'
    exact wpAny_pure (hR s' (hm.mono more) (stay hm hS))
  | succ k ih =>
    intro i s hk hi hst hS hR
    have hlt : i < n := by omega
    have hlx : i < xs.length := by omega
    refine codeAny_builtin F.entry_set_update_loop ?_
    rw [Around.under_plainId F.plain_set_update_loop _]
    show wpAny _ A.in1 (pyNext (.ref I) >>= _) _ _ s
    refine wpAny_bind (W.item i s _ _ hlt hst fun v s' hP hst' hm => ?_)
    obtain ⟨t, rfl⟩ := hval i v hP
    show wpAny _ A.in1 (holding [Value.str (xs.getD i Str.empty) t] (setAdd S (.str (xs.getD i Str.empty) t)) >>= _) _ _ s'
    refine wpAny_bind (wpAny_holding ?_)
    unfold setAdd
    have hm2 := many_le xs i
    have hS1 := stay hm hS
    refine wpAny_holding (wpAny_bind ((strKind prog w).pyHash (k := xs.getD i Str.empty) (strKind_is _ _ _ _) (wpAny_setAddHashed_of (knd := strKind prog w) (s := { s' with toks := s'.toks + 1 }) (strKind_is _ _ _ _) rfl hS1 (by unfold scanBound; omega) fun h' sb hS2 => ?_)))
    have hS3 : h'.SetOf (strKind prog w) S (seen xs (i + 1)) (many xs (i + 1)) := SetOf_congr hS2 (fun k' => seen_step hlx k') rfl
    refine wpAny_pure ⟨plainId_quiet F.plain_set_update_loop _, ih (i + 1) _ (by omega) hlt (W.frame _ s' _ _ hst' (Nat.le_succ _) fun b hb o e => (sb.2 b fun z => nf (by rw [← z]; exact hb)).trans e) hS3 fun s'' hm'' hS'' => hR s'' (Moved.trans W.gtrans ((hm.mono more).then_heap (Nat.le_succ _) fun b o hb e => (sb.2 b fun z => hb (by rw [z]; exact List.mem_cons_self)).trans e) hm'') hS''⟩
end
section
variable {prog : Program} {w : World} {A : Around} {E : Value → Shared → Prop} {s : Shared}
theorem set_list {l : Addr} {items : Array Value} {xs : List Str} {Q : Value → Shared → Prop} (hh : A.handled = none) (hl : s.heap.IsList l items) (hi : StrsAre items.toList xs) (hn : xs.length ≤ 1000)
    (h : ∀ (h' : Heap) (tk : Nat), h'.SetOf (strKind prog w) s.heap.objs.size (seen xs xs.length) (many xs xs.length) → (∀ b o, b < s.heap.objs.size → s.heap.get? b = some o → h'.get? b = some o) → Q (.ref s.heap.objs.size) { s with heap := h', toks := tk }) :
    wpAny (model prog w) A (call (.type "set") [.ref l]) Q E s := by
  obtain ⟨c, tl, m0⟩ := F.called_set.mro
  have m1 := F.called_set.made
  have m2 := F.called_set.sub
  have m3 := F.called_set.notType
  have m4 := F.called_set.canCreate
  have m5 := F.typeCall_set_1 (.ref l)
  refine wpAny_call (codeAny_of_tree ?_)
  show wpAny _ _ (callAny (.type "set") _) _ _ _
  refine wpAny_pure ⟨Code.quiet_builtin _ (by decide +kernel), codeAny_builtin F.entry_type_call ?_⟩
  rw [Around.under_plain (weight_type_call_type "set" [.ref l] []) rfl]
  repeat (any_goals (first | assumption | wp_step))
  -- the empty set
  refine codeAny_mono (code_set_new_1 (.ref l) (E := E) (Q₁ := fun obj s₁ => ∃ led : Bool, obj = .ref s.heap.objs.size ∧ s₁ = { s with heap := s.heap.push (set0 led) }) fun led => ⟨led, rfl, rfl⟩) fun r s₁ hr => ?_
  match r, hr with
  | .error e, hr => exact hr
  | .ok .next, hr => exact hr.elim
  | .ok .brk, hr => exact hr.elim
  | .ok .cont, hr => exact hr.elim
  | .ok (.ret obj), hr =>
    obtain ⟨led, rfl, rfl⟩ := hr
    have hS : (s.heap.push (set0 led)).get? s.heap.objs.size = some (set0 led) := Heap.get?_push_size _ rfl
    have hT : Shared.TypeIs { s with heap := s.heap.push (set0 led) } (.ref s.heap.objs.size) "set" := ⟨_, hS, rfl⟩
    have i1 := F.called_set.init.lookup
    have i2 := F.called_set.init.bind (.ref s.heap.objs.size)
    repeat (any_goals (first | assumption | wp_step))
    refine codeAny_mono (codeAny_call_builtin (R := wants (fun r s₂ => r = .none ∧ ∃ h' tk, s₂ = { s with heap := h', toks := tk } ∧ h'.SetOf (strKind prog w) s.heap.objs.size (seen xs xs.length) (many xs xs.length) ∧
      ∀ b o, b < s.heap.objs.size → s.heap.get? b = some o → h'.get? b = some o) E) F.called_set.init.plain F.entry_set_init (check_set_init_1 hT ?_)) fun r₂ s₂ hr₂ => ?_
    · obtain ⟨⟨oc, od, oda, osl⟩, hol, hcl, nl, hdl⟩ := hl
      simp only at hcl hdl
      subst hcl
      subst hdl
      have hlS : l < s.heap.objs.size := Heap.lt_size hol
      have hol' : (s.heap.push (set0 led)).get? l = some { cls := .type "list", dict := od, data := .seq items nl, slots := osl } := Heap.get?_push_of_some _ hol
      have k1 := F.sub_list_set
      have k2 := F.sub_list_frozenset
      have k3 : (Value.type "list" == Value.type "dict") = false := by decide
      have hl1 : (s.heap.push (set0 led)).IsList l items := ⟨_, hol', rfl, nl, rfl⟩
      unfold Builtin.«set.__init__» noKeywords Builtin.Frozenset.updateFrom
      generalize hPI : pyIter = PI
      wp_walk
      subst hPI
      refine wpAny_pyIter_list hl1 (wpAny_bind (wpAny_runValue ?_))
      have h3 : A.in1.in1.in1.handled = none := by simp [hh]
      have ne1 : l ≠ (s.heap.push (set0 led)).objs.size := by
        rw [Heap.size_push]
        exact Nat.ne_of_lt (Nat.lt_succ_of_lt hlS)
      have nf : s.heap.objs.size ∉ [(s.heap.push (set0 led)).objs.size, l] := by
        rw [Heap.size_push]
        simp only [List.mem_cons, List.not_mem_nil, or_false, not_or]
        exact ⟨Nat.ne_of_lt (Nat.lt_succ_self _), Nat.ne_of_gt hlS⟩
      have hsz : xs.length = items.size := by rw [← StrsAre.len_eq hi, Array.length_toList]
      refine upd_loop ((Walks.list h3 _ l ne1 items).toS) s.heap.objs.size nf xs hsz hn (fun i v hv => strs_val hi i v (by rw [Array.getElem?_toList]; exact hv)) (items.size - 0) 0 _ (by omega) (Nat.zero_le _) ⟨⟨_, Heap.get?_push_size _ rfl, rfl, rfl⟩, (hl1.push _)⟩ ?_ ?_
      · have hget : ((s.heap.push (set0 led)).push { cls := .type "list_iterator", data := .fields #[.ref l, .int 0 0] }).get? s.heap.objs.size = some (set0 led) := Heap.get?_push_of_some _ hS
        exact SetOf_congr ((setObjOf_fresh (knd := strKind prog w) led).setOf hget (by unfold scanBound; omega)) (fun _ => rfl) rfl
      · rintro ⟨h', g', d', tk', os'⟩ hm hS'
        obtain rfl : g' = s.gens := hm.gens
        obtain rfl : d' = s.drawn := hm.drawn
        obtain rfl : os' = s.os := hm.os
        show wpAny _ _ _ _ _ _
        refine wpAny_pure ?_
        show wpAny _ _ (ret Value.none) _ _ _
        refine wpAny_pure ⟨rfl, h', tk', rfl, hS', fun b o hb e => hm.heap b o ?_ (Heap.get?_push_of_some _ (Heap.get?_push_of_some _ e))⟩
        rw [Heap.size_push]
        simp only [List.mem_cons, List.not_mem_nil, or_false, not_or]
        exact ⟨Nat.ne_of_lt hb, Nat.ne_of_lt (Nat.lt_succ_of_lt hb)⟩
    · match r₂, hr₂ with
      | .error e, hr₂ => exact hr₂
      | .ok .next, hr₂ => exact hr₂.elim
      | .ok .brk, hr₂ => exact hr₂.elim
      | .ok .cont, hr₂ => exact hr₂.elim
      | .ok (.ret r), hr₂ =>
        obtain ⟨rfl, h', tk, rfl, hS', hk'⟩ := hr₂
        repeat (any_goals (first | assumption | wp_step))
        exact h _ _ hS' hk'
theorem set_tuple {l : Addr} {items : Array Value} {xs : List Str} {Q : Value → Shared → Prop} (hh : A.handled = none) (hl : s.heap.IsTuple l items) (hi : StrsAre items.toList xs) (hn : xs.length ≤ 1000)
    (h : ∀ (h' : Heap) (tk : Nat), h'.SetOf (strKind prog w) s.heap.objs.size (seen xs xs.length) (many xs xs.length) → (∀ b o, b < s.heap.objs.size → s.heap.get? b = some o → h'.get? b = some o) → Q (.ref s.heap.objs.size) { s with heap := h', toks := tk }) :
    wpAny (model prog w) A (call (.type "set") [.ref l]) Q E s := by
  obtain ⟨c, tl, m0⟩ := F.called_set.mro
  have m1 := F.called_set.made
  have m2 := F.called_set.sub
  have m3 := F.called_set.notType
  have m4 := F.called_set.canCreate
  have m5 := F.typeCall_set_1 (.ref l)
  refine wpAny_call (codeAny_of_tree ?_)
  show wpAny _ _ (callAny (.type "set") _) _ _ _
  refine wpAny_pure ⟨Code.quiet_builtin _ (by decide +kernel), codeAny_builtin F.entry_type_call ?_⟩
  rw [Around.under_plain (weight_type_call_type "set" [.ref l] []) rfl]
  repeat (any_goals (first | assumption | wp_step))
  -- the empty set
  refine codeAny_mono (code_set_new_1 (.ref l) (E := E) (Q₁ := fun obj s₁ => ∃ led : Bool, obj = .ref s.heap.objs.size ∧ s₁ = { s with heap := s.heap.push (set0 led) }) fun led => ⟨led, rfl, rfl⟩) fun r s₁ hr => ?_
  match r, hr with
  | .error e, hr => exact hr
  | .ok .next, hr => exact hr.elim
  | .ok .brk, hr => exact hr.elim
  | .ok .cont, hr => exact hr.elim
  | .ok (.ret obj), hr =>
    obtain ⟨led, rfl, rfl⟩ := hr
    have hS : (s.heap.push (set0 led)).get? s.heap.objs.size = some (set0 led) := Heap.get?_push_size _ rfl
    have hT : Shared.TypeIs { s with heap := s.heap.push (set0 led) } (.ref s.heap.objs.size) "set" := ⟨_, hS, rfl⟩
    have i1 := F.called_set.init.lookup
    have i2 := F.called_set.init.bind (.ref s.heap.objs.size)
    repeat (any_goals (first | assumption | wp_step))
    refine codeAny_mono (codeAny_call_builtin (R := wants (fun r s₂ => r = .none ∧ ∃ h' tk, s₂ = { s with heap := h', toks := tk } ∧ h'.SetOf (strKind prog w) s.heap.objs.size (seen xs xs.length) (many xs xs.length) ∧
      ∀ b o, b < s.heap.objs.size → s.heap.get? b = some o → h'.get? b = some o) E) F.called_set.init.plain F.entry_set_init (check_set_init_1 hT ?_)) fun r₂ s₂ hr₂ => ?_
    · obtain ⟨⟨oc, od, oda, osl⟩, hol, hcl, nl, hdl⟩ := hl
      simp only at hcl hdl
      subst hcl
      subst hdl
      have hlS : l < s.heap.objs.size := Heap.lt_size hol
      have hol' : (s.heap.push (set0 led)).get? l = some { cls := .type "tuple", dict := od, data := .seq items nl, slots := osl } := Heap.get?_push_of_some _ hol
      have k1 := F.sub_tuple_set
      have k2 := F.sub_tuple_frozenset
      have k3 : (Value.type "tuple" == Value.type "dict") = false := by decide
      have hl1 : (s.heap.push (set0 led)).IsTuple l items := ⟨_, hol', rfl, nl, rfl⟩
      unfold Builtin.«set.__init__» noKeywords Builtin.Frozenset.updateFrom
      generalize hPI : pyIter = PI
      wp_walk
      subst hPI
      refine wpAny_pyIter_tuple hl1 (wpAny_bind (wpAny_runValue ?_))
      have h3 : A.in1.in1.in1.handled = none := by simp [hh]
      have ne1 : l ≠ (s.heap.push (set0 led)).objs.size := by
        rw [Heap.size_push]
        exact Nat.ne_of_lt (Nat.lt_succ_of_lt hlS)
      have nf : s.heap.objs.size ∉ [(s.heap.push (set0 led)).objs.size, l] := by
        rw [Heap.size_push]
        simp only [List.mem_cons, List.not_mem_nil, or_false, not_or]
        exact ⟨Nat.ne_of_lt (Nat.lt_succ_self _), Nat.ne_of_gt hlS⟩
      have hsz : xs.length = items.size := by rw [← StrsAre.len_eq hi, Array.length_toList]
      refine upd_loop ((Walks.tuple h3 _ l ne1 items).toS) s.heap.objs.size nf xs hsz hn (fun i v hv => strs_val hi i v (by rw [Array.getElem?_toList]; exact hv)) (items.size - 0) 0 _ (by omega) (Nat.zero_le _) ⟨⟨_, Heap.get?_push_size _ rfl, rfl, rfl⟩, (hl1.push _)⟩ ?_ ?_
      · have hget : ((s.heap.push (set0 led)).push { cls := .type "tuple_iterator", data := .fields #[.ref l, .int 0 0] }).get? s.heap.objs.size = some (set0 led) := Heap.get?_push_of_some _ hS
        exact SetOf_congr ((setObjOf_fresh (knd := strKind prog w) led).setOf hget (by unfold scanBound; omega)) (fun _ => rfl) rfl
      · rintro ⟨h', g', d', tk', os'⟩ hm hS'
        obtain rfl : g' = s.gens := hm.gens
        obtain rfl : d' = s.drawn := hm.drawn
        obtain rfl : os' = s.os := hm.os
        show wpAny _ _ _ _ _ _
        refine wpAny_pure ?_
        show wpAny _ _ (ret Value.none) _ _ _
        refine wpAny_pure ⟨rfl, h', tk', rfl, hS', fun b o hb e => hm.heap b o ?_ (Heap.get?_push_of_some _ (Heap.get?_push_of_some _ e))⟩
        rw [Heap.size_push]
        simp only [List.mem_cons, List.not_mem_nil, or_false, not_or]
        exact ⟨Nat.ne_of_lt hb, Nat.ne_of_lt (Nat.lt_succ_of_lt hb)⟩
    · match r₂, hr₂ with
      | .error e, hr₂ => exact hr₂
      | .ok .next, hr₂ => exact hr₂.elim
      | .ok .brk, hr₂ => exact hr₂.elim
      | .ok .cont, hr₂ => exact hr₂.elim
      | .ok (.ret r), hr₂ =>
        obtain ⟨rfl, h', tk, rfl, hS', hk'⟩ := hr₂
        repeat (any_goals (first | assumption | wp_step))
        exact h _ _ hS' hk'
end
end SetM
end PySem
namespace ML
open PySem PySem.Spec PyProof.Rows L2
def strsOf : List D → Option (List Str)
  | [] => some []
  | .str s :: r => (match strsOf r with
    | some l => some (s :: l)
    | none => none)
  | _ => none
/-- len(set(xs)) -/
def lensetF : D → MH → R D := fun x h => match seqOf h x with
  | some (_, l) => (match strsOf l with
    | some ss => if ss.length ≤ 1000 then .ok (.int (SetM.many ss ss.length)) h else .bad
    | none => .bad)
  | none => .bad
theorem strsOf_v {g : Gd} {ρ : List Addr} {H : Hp} : ∀ {l : List D} {ss : List Str} {vs : List V}, RDs g ρ H l vs → strsOf l = some ss → vs = ss.map V.str
  | [], ss, vs, q, e => by
    cases e
    exact q.invNil
  | d :: l, ss, vs, q, e => by
    obtain ⟨v, r, e1, q1, q2⟩ := q.inv
    cases d <;> first | (cases e; done) | skip
    unfold strsOf at e
    split at e
    · rename_i l' hl
      cases e
      rw [e1, strsOf_v q2 hl, RD_str q1]
      rfl
    · cases e
theorem strs_are : ∀ {ys : List Str} {us : List Value}, Vals (ys.map V.str) us → StrsAre us ys
  | [], _, r => by cases r; exact .nil
  | y :: ys, _, r => by
    cases r with
    | cons r1 r2 =>
      obtain ⟨k, rfl⟩ := r1
      exact .cons y k (strs_are r2)
section
variable {X : Cx} {W : Wx} {a : Expr} {m : EM} {p p2 q pos : Pos}
theorem e_lenset (hc : X.calm = true) (hg : Gl X "len") (hm : X.mg "len" = none) (hg2 : Gl X "set") (hm2 : X.mg "set" = none) (ha : PE X a (tE (gd X) W m)) (na : starEach [a] X.env = (false, eval a X.env) :: starEach [] X.env := by rfl) :
    PE X (.Call (.Name "len" p) [.Call (.Name "set" p2) [a] [] q] [] pos) (tE (gd X) W (un lensetF m)) := by
  refine ⟨fun pins s σ H Q I h => ?_⟩
  have q0 : tE (gd X) W m σ H fun x H1 => ∃ l, ∃ ss : List Str, x = .ref l ∧ (SqL X.K H1 l (ss.map V.str) ∨ SqT X.K H1 l (ss.map V.str)) ∧ ss.length ≤ 1000 ∧ Q (.int (SetM.many ss ss.length)) H1 := by
    refine one h fun ρ e H h x vx s hh rx p => ?_
    unfold lensetF at p
    split at p
    · rename_i k l hl
      split at p
      · rename_i ss hss
        split at p
        · rename_i hz
          obtain ⟨l0, vs, e1, rs, alt⟩ := seq_v hh rx hl
          rw [strsOf_v rs hss] at alt
          refine ⟨l0, ss, e1, ?_, hz, p.okk hh .intN⟩
          rcases alt with ⟨_, z⟩ | ⟨_, z⟩
          · exact .inr z
          · exact .inl z
        · exact p.elim
      · exact p.elim
    · exact p.elim
  refine Call_ (ld_blt I hg hm boot_len (PyProof.Rows.callWith_builtin1 (PyProof.Rows.args_cons ?_ rfl) rfl rfl))
  refine Call_ (ld_blt I hg2 hm2 boot_set (PyProof.Rows.callWith_type1 (PyProof.Rows.args_cons (thn (ha.run pins s σ H _ I q0) fun v s1 ⟨x, H1, I1, r1, l, ss, ex, hq, hz, q1⟩ => PyProof.Rows.args_nil ?_) na) na rfl))
  subst ex
  obtain rfl : v = Value.ref l := r1
  have fin : ∀ (h' : Heap) (tk : Nat), h'.SetOf (strKind X.prog X.w) s1.heap.objs.size (SetM.seen ss ss.length) (SetM.many ss ss.length) → (∀ b o, b < s1.heap.objs.size → s1.heap.get? b = some o → h'.get? b = some o) →
      wpAny (model X.prog X.w) X.A (spliced (backTo pos (starEach [] X.env))) (fun vs s₂ => wpAny (model X.prog X.w) X.A (call (.builtin "len") (Value.ref s1.heap.objs.size :: vs)) (EP X pins σ Q) X.xe s₂) X.xe { s1 with heap := h', toks := tk } := fun h' tk hS hk => by
    obtain ⟨o, es, ep, t, ho, hex, hd, _, _, _, hf, hn⟩ := hS
    have hle := SetM.many_le ss ss.length
    have I2 : Inv X pins σ H1 { s1 with heap := h', toks := tk } := I1.kept fun b o e => hk b o (Heap.lt_size e) e
    exact PyProof.Rows.args_nil (call_len_set ho hex hd hf (by rw [hn]; omega) ⟨.int (SetM.many ss ss.length), H1, I2.tok _, ⟨_, by rw [hn]⟩, q1⟩)
  rcases hq with hq | hq
  · obtain ⟨its, r, pl, _⟩ := I1.list hq
    exact SetM.set_list (I1.ok.hd hc) pl.isList (by simpa using strs_are r) hz fin
  · obtain ⟨its, r, pl, _⟩ := I1.tuple hq
    exact SetM.set_tuple (I1.ok.hd hc) pl (by simpa using strs_are r) hz fin
end
end ML
namespace PySem
namespace RevM
open PyProof.Rows PySem.Calls HT
section
variable {prog : Program} {w : World} {A : Around} {E : Value → Shared → Prop} {s : Shared}
theorem parts {sl : Addr} {t : Tok} {n : Nat} {Q : Int × Int × Nat → Shared → Prop} (hs : s.heap.IsSliceOf sl .none .none (.int (-1) t)) (h : Q ((n : Int) - 1, -1, n) s) : wpAny (model prog w) A (Builtin.Slice.sliceApplied (.ref sl) (pure (n : Int))) Q E s := by
  obtain ⟨os, hos, hcs, hds⟩ := id hs
  unfold Builtin.Slice.sliceApplied Builtin.Slice.sliceFields
  refine wpAny_bind (wpAny_bind (wpAny_field hos hds (x := .none) rfl (wpAny_bind (wpAny_field hos hds (x := .none) rfl (wpAny_bind (wpAny_field hos hds (x := .int (-1) t) rfl (wpAny_pure ?_)))))))
  refine wpAny_bind (slicePart_int ?_)
  show wpAny _ _ (if ((-1 : Int) == 0) = true then _ else _) _ _ s
  rw [if_neg (by decide)]
  refine wpAny_bind (slicePart_none (wpAny_bind (slicePart_none (wpAny_bind (wpAny_pure (wpAny_pure ?_))))))
  have e : Builtin.Slice.slicePlaces ((n : Int) - 1) (-1) (-1) = n := by
    unfold Builtin.Slice.slicePlaces
    rw [if_neg (by decide)]
    by_cases q : (n : Int) - 1 > -1
    · rw [if_pos q]
      have : ((n : Int) - 1 - -1 - 1) / (- -1) = (n : Int) - 1 := by
        have e1 : (- -1 : Int) = 1 := by decide
        rw [e1, Int.ediv_one]
        omega
      rw [this]
      omega
    · rw [if_neg q]
      have : n = 0 := by omega
      subst this
      rfl
  show Q (((n : Int) - 1), -1, Builtin.Slice.slicePlaces ((n : Int) - 1) (-1) (-1)) s
  rw [e]
  exact h
theorem fm_map {α β : Type} {f : α → Option β} {g : α → β} : ∀ (l : List α), (∀ x ∈ l, f x = some (g x)) → l.filterMap f = l.map g
  | [], _ => rfl
  | x :: l, h => by
    rw [List.filterMap_cons, h x List.mem_cons_self, List.map_cons, fm_map l fun y hy => h y (List.mem_cons_of_mem _ hy)]
theorem picked (its : List Value) : ((List.range its.toArray.size).filterMap fun (k : Nat) => its.toArray[(((its.toArray.size : Nat) : Int) - 1 + (k : Int) * -1).toNat]?) = its.reverse := by
  apply List.ext_getElem?
  intro i
  have hs : its.toArray.size = its.length := by simp
  rw [hs]
  have e : ((List.range its.length).filterMap fun (k : Nat) => its.toArray[(((its.length : Nat) : Int) - 1 + (k : Int) * -1).toNat]?) = (List.range its.length).map fun k => its.getD (its.length - 1 - k) Value.none := by
    refine fm_map _ fun k hk => ?_
    have hk' := List.mem_range.mp hk
    have e1 : (((its.length : Nat) : Int) - 1 + (k : Int) * -1).toNat = its.length - 1 - k := by omega
    rw [e1]
    have h2 : its.length - 1 - k < its.length := by omega
    simp [List.getD, h2]
  rw [e, List.getElem?_map]
  by_cases hi : i < its.length
  · rw [List.getElem?_range hi, List.getElem?_reverse hi]
    have h2 : its.length - 1 - i < its.length := by omega
    simp [List.getD, h2]
  · rw [List.getElem?_eq_none (by simp; omega), List.getElem?_eq_none (by simp; omega)]
    rfl
theorem tup_rev {t sl : Addr} {its : List Value} {u : Tok} {Q : Value → Shared → Prop} (ht : IsTup s.heap t its.toArray) (hs : s.heap.IsSliceOf sl .none .none (.int (-1) u)) (hz : its.length ≤ sizeLine)
    (h : Q (.ref s.heap.objs.size) { s with heap := s.heap.push { cls := .type "tuple", data := .seq its.reverse.toArray } }) : wpAny (model prog w) A (getItem (.ref t) (.ref sl)) Q E s := by
  have hsz : sizeOk (.seq its.reverse.toArray) := by
    show its.reverse.toArray.size ≤ sizeLine
    rw [List.size_toArray, List.length_reverse]
    exact hz
  obtain ⟨os, hos, hcs, hds⟩ := id hs
  have hTs : s.TypeIs (.ref sl) "slice" := ⟨os, hos, hcs⟩
  unfold getItem
  try with_reducible refine wpAny_holding ?_
  first | refine wpAny_bind (wpAny_pure ?_) | skip
  refine wpAny_bind (wpAny_sequenceKey ht.typeIs (by decide) (wpAny_bind (wpAny_callSpecial?_slot (name := Str.ofString "__getitem__") ht.typeIs PyProof.Rows.slot_tuple_getitem (wpAny_call_entry PyProof.Rows.slot_tuple_getitem ht.typeIs entry_tuple_getitem ?_ (args_tuple_getitem _ _)))))
  show wpAny _ _ (Builtin.Tuple.tupleItemsOf (.ref t) >>= _) _ _ s
  refine wpAny_bind (tupleItemsOf_ ht (wpAny_bind (wpAny_typeOf hTs ?_)))
  rw [if_pos (by decide)]
  refine wpAny_bind (parts (n := its.toArray.size) hs ?_)
  show wpAny _ _ (if ((((its.toArray.size : Nat) : Int) - 1) == 0 && (-1 : Int) == 1 && (its.toArray.size == its.toArray.size)) = true then _ else _) _ _ s
  rw [if_neg (by simp), picked]
  first
    | exact wpAny_bind (m := Builtin.Tuple.tupleExact _) (wpAny_newObj_type (wpAny_pure ⟨_, rfl, wpAny_pure h⟩) hsz)
    | exact wpAny_bind (m := Builtin.Tuple.tupleExact _) (wpAny_newObj_type (wpAny_bind (wpAny_pure (wpAny_pure ⟨_, rfl, wpAny_pure h⟩))) hsz)
    | exact wpAny_bind (wpAny_bind (m := Builtin.Tuple.tupleExact _) (wpAny_newObj_type (wpAny_pure (wpAny_pure ⟨_, rfl, wpAny_pure h⟩)) hsz))
    | exact wpAny_bind (wpAny_bind (m := Builtin.Tuple.tupleExact _) (wpAny_newObj_type (wpAny_pure ⟨_, rfl, wpAny_pure h⟩) hsz))
end
end RevM
end PySem
namespace ML
open PySem PySem.Spec PyProof.Rows L2
theorem rev_text (x : Str) (u : Tok) : (((PySem.Builtin.Str.strSliceIndices none none (-1) x.length).filterMap (x.cps[·]?)).toArray : Array Nat) = x.cps.reverse := by
  rw [picked_rev]
  apply Array.ext'
  rw [List.toList_toArray, RevM.fm_map (g := fun i => x.cps.getD i 0)]
  · rw [List.map_map]
    apply List.ext_getElem?
    intro i
    rw [List.getElem?_map, Array.toList_reverse]
    by_cases hi : i < x.length
    · have hi' : i < x.cps.toList.length := by rw [Array.length_toList]; exact hi
      rw [List.getElem?_range hi, List.getElem?_reverse hi']
      have h2 : x.length - 1 - i < x.cps.size := by
        have : x.length = x.cps.size := rfl
        omega
      show some (x.cps.getD (x.length - 1 - i) 0) = x.cps.toList[x.cps.toList.length - 1 - i]?
      rw [Array.length_toList, Array.getElem?_toList]
      have e : x.cps.size - 1 - i = x.length - 1 - i := rfl
      rw [e]
      simp [Array.getD, h2]
    · have hi' : ¬ i < x.cps.size := hi
      rw [List.getElem?_eq_none (by simp; omega), List.getElem?_eq_none (by simp; omega)]
      rfl
  · intro i hi
    obtain ⟨k, hk, rfl⟩ := List.mem_map.mp hi
    have hk' : k < x.length := List.mem_range.mp hk
    have h2 : x.length - 1 - k < x.cps.size := by
      have : x.length = x.cps.size := rfl
      omega
    simp [Array.getD, h2]
/-- what [::-1] answers -/
def rRev (K : PySem.W.Frag) (x : V) (H : Hp) (Q : VK) : Prop :=
  (∃ a xs, x = .ref a ∧ SqL K H a xs ∧ ∀ p, H p = none → Q (.ref p) (L2.upd H p (.lst xs.reverse))) ∨
  (∃ a xs, x = .ref a ∧ SqT K H a xs ∧ ∀ p, H p = none → Q (.ref p) (L2.upd H p (.tup xs.reverse))) ∨
  (∃ z : Str, x = .str z ∧ z.length ≤ sizeLine ∧ Q (.str ⟨z.cps.reverse⟩) H)
section
variable {X : Cx} {W : Wx} {m : EM}
theorem pe_rev {e : Expr} {te : TE} {k : Nat} {p1 p2 p3 pos : Pos} (he : PE X e te) : PE X (.Subscript e (.Slice none none (some (.UnaryOp .USub (.Constant (.int 1) k p1) p2)) p3) pos) (fun σ H Q => te σ H fun x H1 => rRev X.K x H1 Q) := by
  refine ⟨fun pins s σ H Q I h => ?_⟩
  refine Subscript_ (thn (he.run pins s σ H _ I h) fun v s1 ⟨x, H1, I1, r1, q1⟩ => ?_)
  have hst : PO X (some (.UnaryOp .USub (.Constant (.int 1) k p1) p2)) (tPart (tUn (rU fun i => .int (-i)) (tC (.int 1)))) := po_some (pe_un un_neg pe_int)
  refine wpAny_Slice (thn (po_none.run pins s1 σ H1 (fun o H2 => o = none ∧ H2 = H1) I1 ⟨rfl, rfl⟩) fun vl s2 ⟨l, H2, I2, pl, el, e2⟩ => ?_)
  subst el e2
  refine thn (po_none.run pins s2 σ H2 (fun o H3 => o = none ∧ H3 = H2) I2 ⟨rfl, rfl⟩) fun vu s3 ⟨u, H3, I3, pu, eu, e3⟩ => ?_
  subst eu e3
  refine thn (hst.run pins s3 σ H3 (fun o H4 => o = some (-1) ∧ H4 = H3) I3 ⟨1, rfl, -1, rfl, rfl, rfl⟩) fun vs s4 ⟨o, H4, I4, ps, eo, e4⟩ => ?_
  subst eo e4
  have I5 : Inv X pins σ H4 { s4 with heap := s4.heap.push { cls := .type "slice", data := .fields #[vl, vu, vs] } } := I4.kept (t' := s4.toks) fun b ob q => Heap.get?_push_of_some _ q
  show wpAny (model X.prog X.w) X.A (subscriptTail e (.Slice none none (some (.UnaryOp .USub (.Constant (.int 1) k p1) p2)) p3) v (.ref s4.heap.objs.size)) (EP X pins σ Q) X.xe { s4 with heap := s4.heap.push { cls := .type "slice", data := .fields #[vl, vu, vs] } }
  rcases q1 with ⟨a, xs, ex, hx, q⟩ | ⟨a, xs, ex, hx, q⟩ | ⟨z, ex, hz, q⟩
  · subst ex
    cases r1
    obtain ⟨its, r, ht, hz⟩ := I5.list hx
    have hlen := r.length
    refine tail_any (ops := [.ref a, .ref s4.heap.objs.size]) ht.isList.typeIs (PySem.slot_list_getitem.lookup) ?_ (by with_unfolding_all rfl)
    refine wpAny_getItem_list_slice ht.isList (Heap.IsSliceOf.new _ vl vu vs) pl pu ps (by decide) ?_ (by rw [List.size_toArray]; omega)
    rw [PySem.W.krv_pick]
    refine ⟨.ref _, _, I5.laid (t' := s4.toks) (o := .lst xs.reverse) (fun b ob q => Heap.get?_push_of_some _ q) (Nat.le_refl _) ?_, rfl, q _ (I5.hok.fresh (Nat.le_refl _))⟩
    exact ⟨by rw [List.length_reverse]; exact hz, _, 0, r.reverse, Heap.get?_push_size _ rfl⟩
  · subst ex
    cases r1
    obtain ⟨its, r, ht, hz⟩ := I5.tuple hx
    have hlen := r.length
    refine tail_any (ops := [.ref a, .ref s4.heap.objs.size]) ht.typeIs (PyProof.Rows.slot_tuple_getitem.lookup) ?_ (by with_unfolding_all rfl)
    obtain ⟨l, rfl, hl⟩ := IsPart.raw pl
    obtain ⟨u, rfl, hu⟩ := IsPart.raw pu
    obtain ⟨st, rfl, hst'⟩ := IsPart.raw ps
    cases l with
    | some l => cases hl
    | none =>
    cases u with
    | some u => cases hu
    | none =>
    cases st with
    | none => cases hst'
    | some st =>
    obtain ⟨i, t⟩ := st
    cases hst'
    refine RevM.tup_rev (u := t) ht (Heap.IsSliceOf.new _ _ _ _) (by omega) ?_
    refine ⟨.ref _, _, I5.laid (t' := s4.toks) (o := .tup xs.reverse) (fun b ob q => Heap.get?_push_of_some _ q) (Nat.le_refl _) ?_, rfl, q _ (I5.hok.fresh (Nat.le_refl _))⟩
    exact ⟨by rw [List.length_reverse]; exact hz, _, r.reverse, IsTup.new _ _⟩
  · subst ex
    obtain ⟨t, rfl⟩ := r1
    obtain ⟨l, rfl, hl⟩ := IsPart.raw pl
    obtain ⟨u, rfl, hu⟩ := IsPart.raw pu
    obtain ⟨st, rfl, hst'⟩ := IsPart.raw ps
    cases l with
    | some l => cases hl
    | none =>
    cases u with
    | some u => cases hu
    | none =>
    cases st with
    | none => cases hst'
    | some st =>
    obtain ⟨i, t2⟩ := st
    cases hst'
    refine tail_any (ops := [.str z t, .ref s4.heap.objs.size]) (typeIs_str _ _ _) (F.slot_str_getitem.lookup) ?_ (by with_unfolding_all rfl)
    refine wpAny_getItem_str_slice (l := none) (u := none) (st := some (-1, t2)) ⟨_, Heap.get?_push_size _ rfl, rfl, rfl⟩ rfl ?_
    show Made.post (if ((-1 : Int) == 1 && _) = true then _ else Made.str ⟨((PySem.Builtin.Str.strSliceIndices none none (-1) z.length).filterMap (z.cps[·]?)).toArray⟩) _ _
    rw [if_neg (by simp), rev_text z t2]
    exact ⟨by show z.cps.reverse.size ≤ sizeLine; rw [Array.size_reverse]; exact hz, .str _, H4, I5.tok _, ⟨_, rfl⟩, q⟩
theorem rf_rev {ρ : List Addr} {H : Hp} {h : MH} {Wf : XK} {Q : VK} {x : D} {vx : V} (hh : RH (gd X) ρ H h) (rx : RD (gd X) ρ H x vx) (p : Post (gd X) (RD (gd X)) Wf ρ H (revF x h) Q) (hz : ∀ z, x = .str z → z.length ≤ 1000000) : rRev X.K vx H Q := by
  unfold revF at p
  split at p
  · rename_i l
    obtain ⟨a, vs, e1, sq, rs⟩ := RD_tup rx
    exact .inr (.inl ⟨a, vs, e1, sq, fun q hq => p.newTup hh hq rs.reverse⟩)
  · rename_i z
    exact .inr (.inr ⟨z, RD_str rx, big_le (hz z rfl), p.okk hh .strN⟩)
  · split at p
    · rename_i l hl
      obtain ⟨n, a, vs, e0, _, _, e1, e2, rs⟩ := lst_v hh rx hl
      exact .inl ⟨a, vs, e1, .inl (.inl e2), fun q hq => p.newLst hh hq rs.reverse⟩
    · exact p.elim
/-- x[::-1] -/
def revE (m : EM) : EM := fun e h => (m e h).bind fun x h1 => match x with
  | .str z => if z.length ≤ 1000000 then revF (.str z) h1 else .bad
  | x => revF x h1
theorem e_rev {e : Expr} {k : Nat} {p1 p2 p3 pos : Pos} (ha : PE X e (tE (gd X) W m)) : PE X (.Subscript e (.Slice none none (some (.UnaryOp .USub (.Constant (.int 1) k p1) p2)) p3) pos) (tE (gd X) W (revE m)) :=
  PE_of (pe_rev ha) fun σ H Q q => one q fun ρ e H h x vx s hh rx p => by
    split at p
    · rename_i z
      split at p
      · rename_i hz
        exact rf_rev hh rx p fun z' e => by cases e; exact hz
      · exact p.elim
    · rename_i x' hx
      exact rf_rev hh rx p fun z' e => absurd e (hx z')
end
end ML
namespace ML
open PySem PySem.Spec PyProof.Rows L2
def clsB (K : PySem.W.Frag) (C fI : Addr) (fs : List Str) : Bool :=
  PySem.W.plainGet K C Str.empty && (PySem.W.hasDictIn K C && (PySem.W.plainOver K C && (decide (PySem.W.findIn K (.ref C) "__setattr__" = some (some (.builtin "object.__setattr__"))) &&
  (decide (PySem.W.findIn K (.ref C) "__class__" = some (some (.builtin "object.__class__"))) && (decide (PySem.W.specialIn K (.builtin "object.__class__") "__get__" = some (some (.builtin "getset_descriptor.__get__"))) &&
  (decide (PySem.W.takesIn K (.builtin "object.__class__") = some true) && (decide (PySem.W.mroIn K C (.type "object") = some true) && (PySem.W.makesIn K C && (decide (PySem.W.findIn K (.ref C) "__init__" = some (some (.ref fI))) &&
  (PySem.W.isFn K (.ref fI) && (PySem.W.keepIn K (.ref C) && fs.all fun f => decide (PySem.W.findIn K (.ref C) f = some none))))))))))))
structure ClsB (K : PySem.W.Frag) (C fI : Addr) (fs : List Str) : Prop where
  cl : Cls K C
  ii : IsI K C
  makes : Mk K C fI
  no : ∀ f ∈ fs, NoAttr K C f
theorem clsB_ok {K : PySem.W.Frag} {C fI : Addr} {fs : List Str} (h : clsB K C fI fs = true) : ClsB K C fI fs := by
  unfold clsB at h
  simp only [Bool.and_eq_true, decide_eq_true_eq] at h
  obtain ⟨h1, h2, h3, h4, h5, h6, h7, h8, h9, h10, h11, h12, h13⟩ := h
  have c : Cls K C := ⟨h1, h2, h3, h4⟩
  exact ⟨c, ⟨c, h5, h6, h7, h8⟩, ⟨h9, h10, h11, h12⟩, fun f hf => of_decide_eq_true (p := PySem.W.findIn K (.ref C) f = some none) (List.all_eq_true.mp h13 f hf)⟩
section
variable {P : Program} {w : World} {K : PySem.W.Frag} {mg : Str → Option Value} {base : Heap}
/-- fields of own classes (ci) and of error classes (cx) -/
theorem fld_mk2 {ci cx : List (Str × Addr)} {f : Str} (hi : ∀ p ∈ ci, mg p.1 = some (.ref p.2)) (hc : ∀ p ∈ ci, Cls K p.2 ∧ NoAttr K p.2 f) (hm : ∀ p ∈ cx, mg p.1 = some (.ref p.2)) (hx : ∀ p ∈ cx, XfC K p.2 ∧ PySem.W.findIn K (.ref p.2) f = some none) : FldOk K mg (ci.map (·.1)) (cx.map (·.1)) f := by
  refine ⟨fun c h C hC => ?_, (fld_mk hm hx).2⟩
  obtain ⟨p, hp, e1⟩ := List.mem_map.mp h
  subst e1
  have := hi p hp
  rw [hC] at this
  cases this
  exact hc p hp
/-- the class, as its makers know it -/
theorem in_mk {c : Str} {C f : Addr} {fd : FuncData} {ps : List Str} {k np nn : Nat} {b : SM} (hm : mg c = some (.ref C)) (M : Mk K C f) (hb : Binds K fd ps []) (G : FnOk P w K mg base (L2.CX P w) k f fd ps (spM ⟨K, mg, P, w⟩ ps.length (fnM np nn b))) (hnp : ps.length = np) : InC P w K mg base c k np (fnM np nn b) :=
  ⟨C, f, fd, ps, hm, M, hb, hnp, G⟩
/-- the constants -/
def isStrs : List Str → List Value → Bool
  | [], [] => true
  | s :: l, .str t _ :: r => decide (s = t) && isStrs l r
  | _, _ => false
theorem isStrs_ok : ∀ {l : List Str} {r : List Value}, isStrs l r = true → Vals (l.map V.str) r
  | [], [], _ => .nil
  | s :: l, .str t u :: r, h => by
    unfold isStrs at h
    simp only [Bool.and_eq_true, decide_eq_true_eq] at h
    obtain ⟨h1, h2⟩ := h
    subst h1
    exact .cons ⟨u, rfl⟩ (isStrs_ok h2)
def tupB (K : PySem.W.Frag) (a : Addr) (l : List Str) : Bool := match K.lookup a with
  | some ⟨.type t, _, .seq its _, _⟩ => decide (t = "tuple") && (decide (its.size ≤ sizeLine) && isStrs l its.toList)
  | _ => false
theorem tup_mk {x : Str} {a : Addr} {l : List Str} (hm : mg x = some (.ref a)) (h : tupB K a l = true) : TupG K mg x l := by
  unfold tupB at h
  split at h
  · rename_i t dd its n sl hk
    simp only [Bool.and_eq_true, decide_eq_true_eq] at h
    obtain ⟨h1, h2, h3⟩ := h
    subst h1
    exact ⟨a, dd, its, n, sl, hm, hk, h2, isStrs_ok h3⟩
  · cases h
theorem str_mk {x s : Str} {t : Tok} (hm : mg x = some (.str s t)) : StrG mg x s := ⟨t, hm⟩
theorem int_mk {x : Str} {i : Int} {t : Tok} (hm : mg x = some (.int i t)) : IntG mg x i := ⟨t, hm⟩
end
end ML
namespace PySem
open Sem (wp)
theorem meets_enumerate_new1B {v : Value} {o : Obj} {H : Heap → Prop} (B : Begins v o H) :
    Meets (Builtin.«enumerate.__new__» ⟨[.type "enumerate", v], []⟩) (fun _ R s => H s.heap ∧
      R (.ok (.ret (.ref (s.heap.push o).objs.size))) { s with heap := (s.heap.push o).push { cls := .type "enumerate", data := .fields #[.none, .bool false, .ref s.heap.objs.size, rawInt 0, .none, .none] } }) :=
  .of_wp fun prog w A R s h => by
    obtain ⟨hp, g, d, tk, os⟩ := s; obtain ⟨h1, h⟩ := h
    have hsub := sub_enumerate
    have q1 : ∀ {A' : Around} {E : Value → Shared → Prop} {Q : Value → Shared → Prop}, Q (.ref hp.objs.size) ⟨hp.push o, g, d, tk, os⟩ → wpAny (model prog w) A' (pyIter v) Q E ⟨hp, g, d, tk, os⟩ :=
      fun q => B.iter prog w _ _ ⟨hp, g, d, tk, os⟩ _ h1 q
    wp_walk using q1
    refine wpAny_stack_any fun st => wpAny_pure ?_
    split
    · rename_i c _ _ _ _ _
      cases (c == Value.type "enumerate")
      · wp_walk using q1
        exact ⟨_, rfl, h⟩
      · wp_walk using q1
        exact ⟨_, rfl, h⟩
    · wp_walk using q1
      exact ⟨_, rfl, h⟩
section
variable {prog : Program} {w : World} {A : Around} {E : Value → Shared → Prop} {s : Shared}
theorem enum_begins1 {v : Value} {o : Obj} {H : Heap → Prop} {Q : Value → Shared → Prop} (B : Begins v o H) (h1 : H s.heap)
    (h : ∀ h', IsEnum h' (s.heap.objs.size + 1) s.heap.objs.size 0 .none → h'.get? s.heap.objs.size = some o → h'.objs.size = s.heap.objs.size + 2 →
      (∀ b o, s.heap.get? b = some o → h'.get? b = some o) → Q (.ref (s.heap.objs.size + 1)) { s with heap := h' }) :
    wpAny (model prog w) A (call (.type "enumerate") [v]) Q E s := by
  refine callType_new F.called_enumerate (by decide) (F.typeCall_enumerate_1 _) (F.newCall_enumerate_1 _) (fun obj => F.args_object_init_2 obj _) F.entry_enumerate_new
    (meets_enumerate_new1B B) ⟨h1, ?_⟩
  have hz : (s.heap.push o).objs.size = s.heap.objs.size + 1 := Heap.size_push ..
  show _ ∧ _
  rw [hz]
  have he : IsEnum ((s.heap.push o).push { cls := .type "enumerate", data := .fields #[.none, .bool false, .ref s.heap.objs.size, rawInt 0, .none, .none] }) (s.heap.objs.size + 1) s.heap.objs.size 0 .none := by
    have := Heap.get?_push_size (s.heap.push o) (o := { cls := .type "enumerate", data := .fields #[.none, .bool false, .ref s.heap.objs.size, rawInt 0, .none, .none] }) rfl
    rw [hz] at this; exact this
  refine ⟨⟨_, he, rfl⟩, h _ he (Heap.get?_push_of_some _ (Heap.get?_push_size _ B.free)) (by rw [Heap.size_push, hz]) fun b o x => Heap.get?_push_of_some _ (Heap.get?_push_of_some _ x)⟩
end
end PySem
namespace ML
open PySem PySem.Spec PyProof.Rows L2
/-- the tuple at a, each item in a new pair -/
def IteT (K : PySem.W.Frag) (a : Addr) : It :=
  ⟨fun i H => ∃ (xs : List V) (x : V), SqT K H a xs ∧ xs[i]? = some x, fun i H v H' => ∃ T x, v = .ref T ∧ H T = none ∧ H' = L2.upd H T (.tup [.int (i : Nat), x]) ∧ ∀ xs, SqT K H a xs → xs[i]? = some x, fun i H => ∃ xs : List V, SqT K H a xs ∧ xs.length ≤ i⟩
theorem turn_enumT {P : Program} {w : World} {K : PySem.W.Frag} {elts : List Expr} {kk : Nat} {tpos : Pos} (a e it : Addr) :
    Turn P w K (.Tuple elts kk tpos) (IteT K a) [e, it] e (fun i h => (∃ old, IsEnum h e it ((i : Nat) : Int) old) ∧ h.IsTupleIter it a i ∧ e ≠ it ∧ e ≠ a ∧ a ≠ it) where
  mem := by simp
  obj := fun i h st b hb => by
    obtain ⟨⟨old, he⟩, ⟨o, ho, hc, hd⟩, _⟩ := st
    have e' : b = e ∨ b = it := by simpa using hb
    rcases e' with z | z
    · rw [z]; exact ⟨_, he, fun v q => nomatch q⟩
    · rw [z]; exact ⟨o, ho, fun v q => by rw [hd] at q; cases q⟩
  keep := fun i h h' st k => let ⟨⟨old, he⟩, hi, hne⟩ := st; ⟨⟨old, k e (by simp) _ he⟩, hi.at fun o q => k it (by simp) o q, hne⟩
  item := by
    intro X hP hw hK hc i pins s σ H E I hf st hg
    subst hP hw hK
    obtain ⟨⟨old, he⟩, hit, hne, hea, hai⟩ := st
    obtain ⟨xs, x, hq, hx⟩ := hg
    obtain ⟨its, rv, p, hz⟩ := I.tuple hq
    obtain ⟨u, hu, ru⟩ := rv.get hx
    have hel : e < s.heap.objs.size := Heap.lt_size he
    have hil : it < s.heap.objs.size := by obtain ⟨_, q, _⟩ := hit; exact Heap.lt_size q
    have hn : its.toArray[i]? = some u := by simpa using hu
    have D := Draws.tuple (prog := X.prog) (w := X.w) (A := X.A.in1) (I.ok.hd hc) it a hai its.toArray
    have hlt : i < its.toArray.size := by
      have := (Array.getElem?_eq_some_iff.mp hn).1
      exact this
    refine wpAny_pyNext_enum_itemC D he ⟨hit, show s.heap.IsTuple a its.toArray from p⟩ hlt hne (by simp; exact ⟨hne, hea⟩) fun x' h' tk hP ho hst' hT hsz hk => ?_
    rw [hn] at hP
    cases hP
    refine ⟨_, rfl, wpAny_letOwnedTupleGo_enum (s := { s with heap := h', toks := tk + 1 }) ho fun h'' he' sb => ?_⟩
    have hT2 : h''.get? s.heap.objs.size = some { cls := .type "tuple", data := .seq #[.int i tk, u] } := (sb.2 _ (Nat.ne_of_gt hel)).trans hT
    have new : ObjOk X.prog X.w (L2.upd H s.heap.objs.size (.tup [.int (i : Nat), x])) h'' s.heap.objs.size (.tup [.int (i : Nat), x]) :=
      ⟨by show 2 ≤ sizeLine; decide, [.int i tk, u], .cons ⟨_, rfl⟩ (.cons ru .nil), ⟨_, hT2, rfl, _, rfl⟩⟩
    have I1 : Inv X pins σ (L2.upd H s.heap.objs.size (.tup [.int (i : Nat), x])) { s with heap := h'', toks := tk + 1 } :=
      I.turnedNew (ch := [e, it]) (fun b ob hb q => (sb.2 b (fun z => hb (by simp [z]))).trans (hk b ob (fun z => hb (by simp [z])) (fun z => hb (by simp [z])) q)) hf (Nat.le_refl _) new
    refine ⟨.ref s.heap.objs.size, _, I1, rfl, ⟨_, x, rfl, I.hok.fresh (Nat.le_refl _), rfl, fun ys hy => by rw [I.tuple_inj hy hq]; exact hx⟩, ⟨⟨u, ?_⟩, hst'.1.at fun o q => (sb.2 it (Ne.symm hne)).trans q, hne, hea, hai⟩, fun b hb => ?_⟩
    · have e1 : ((i + 1 : Nat) : Int) = (i : Int) + 1 := by omega
      rw [e1]; exact he'
    · have hb' : b < s.heap.objs.size := by
        have e' : b = e ∨ b = it := by simpa using hb
        rcases e' with z | z
        · rw [z]; exact hel
        · rw [z]; exact hil
      rw [upd_ne (Nat.ne_of_lt hb')]
      exact (hf b hb).1
  done := by
    intro X hP hw hK hc i pins s σ H E I hf st hg
    subst hP hw hK
    obtain ⟨⟨old, he⟩, hit, hne, hea, hai⟩ := st
    obtain ⟨xs, hq, hx⟩ := hg
    obtain ⟨its, rv, p, hz⟩ := I.tuple hq
    obtain ⟨f0, f1, f2, f3, f4, f5⟩ := hf it (by simp)
    have hl := rv.length
    have hT : s.TypeIs (.ref e) "enumerate" := ⟨_, he, rfl⟩
    have nx : its.toArray[i]? = none := by simp; omega
    unfold pyNext
    refine wpAny_bind (wpAny_attempt (wpAny_callSpecial?_slot (name := Str.ofString "__next__") hT F.slot_enumerate_next
      (wpAny_call_entry F.slot_enumerate_next hT F.entry_enumerate_next ?_ (F.args_enumerate_next_1 _))))
    show wpAny _ _ (field (.ref e) 2 >>= _) _ _ _
    refine wpAny_bind (wpAny_field he rfl (x := .ref it) rfl ?_)
    refine wpAny_bind (wpAny_nextOf_tuple_end (I.ok.hd hc) hit (show s.heap.IsTuple a its.toArray from p) nx fun h' x he' hx' => ?_)
    obtain ⟨o, ho, hcl⟩ := hx'
    refine wpAny_bind (wpAny_isInstance (T := "StopIteration") (b := true) ⟨o, ho, hcl⟩ isSubtype_stop ?_)
    exact wpAny_pure ⟨rfl, I.turned (t' := s.toks) (fun b o hb q => he' b o hb q) f0 f1 f3 f4 f5⟩
  self := fun A i s Q E st h => let ⟨⟨_, he⟩, _⟩ := st; wpAny_pyIter_enum he h
/-- enumerate of a list or of a tuple -/
def iEnumB (K : PySem.W.Frag) (ta : TA) : TI := fun σ H R => ta σ H fun vs H1 => ∃ a xs, vs = [.ref a] ∧ ((SqL K H1 a xs ∧ R (Ite K a) H1) ∨ (SqT K H1 a xs ∧ R (IteT K a) H1))
theorem pi_enumB {X : Cx} {e : Expr} {ta : TA} {p pos tpos : Pos} {elts : List Expr} {kk : Nat} (hg : Gl X "enumerate") (hm : X.mg "enumerate" = none) (ha : PA X [e] ta) (hs : starEach [e] X.env = [(false, eval e X.env)] := by rfl) :
    PI X (.Tuple elts kk tpos) (.Call (.Name "enumerate" p) [e] [] pos) (iEnumB X.K ta) := by
  refine ⟨fun pins s σ H R I h => ?_⟩
  refine Call_ (ld_blt I hg hm boot_enumerate (PyProof.Rows.callWith_type1 (thn (ha.run pos pins s σ H _ I h) fun us s1 ⟨vs, H1, I1, r1, q1⟩ => ?_) hs rfl))
  obtain ⟨a, xs, ex, q⟩ := q1
  subst ex
  cases r1 with
  | cons r rr =>
    cases rr
    cases r
    rcases q with ⟨hq, q⟩ | ⟨hq, q⟩
    · obtain ⟨its, rv, p', hz⟩ := I1.list hq
      refine call_enumerate_list p'.isList fun h' he hit hsz hk => wpAny_pyIter_enum he ?_
      have I2 : Inv X pins σ H1 { s1 with heap := h' } := I1.kept (t' := s1.toks) hk
      refine ⟨s1.heap.objs.size + 1, [s1.heap.objs.size + 1, s1.heap.objs.size], _, _, H1, rfl, I2, turn_enum a (s1.heap.objs.size + 1) s1.heap.objs.size, ⟨⟨.none, he⟩, hit, Nat.succ_ne_self _⟩, fun b hb => ?_, q⟩
      have e' : b = s1.heap.objs.size + 1 ∨ b = s1.heap.objs.size := by simpa using hb
      have hle : s1.heap.objs.size ≤ b := by
        rcases e' with z | z
        · rw [z]; exact Nat.le_add_right _ _
        · rw [z]; exact Nat.le_refl _
      exact I1.fpOk hle (I1.hok.fresh hle)
    · obtain ⟨its, rv, p', hz⟩ := I1.tuple hq
      have al : a < s1.heap.objs.size := by obtain ⟨_, q, _⟩ := id p'; exact Heap.lt_size q
      refine enum_begins1 (begins_tuple a its.toArray) (show s1.heap.IsTuple a its.toArray from p') fun h' he hit hsz hk => wpAny_pyIter_enum he ?_
      have I2 : Inv X pins σ H1 { s1 with heap := h' } := I1.kept (t' := s1.toks) hk
      have ti : h'.IsTupleIter s1.heap.objs.size a 0 := ⟨_, hit, rfl, rfl⟩
      refine ⟨s1.heap.objs.size + 1, [s1.heap.objs.size + 1, s1.heap.objs.size], _, _, H1, rfl, I2, turn_enumT a (s1.heap.objs.size + 1) s1.heap.objs.size, ⟨⟨.none, he⟩, ti, Nat.succ_ne_self _, Nat.ne_of_gt (Nat.lt_succ_of_lt al), Nat.ne_of_lt al⟩, fun b hb => ?_, q⟩
      have e' : b = s1.heap.objs.size + 1 ∨ b = s1.heap.objs.size := by simpa using hb
      have hle : s1.heap.objs.size ≤ b := by
        rcases e' with z | z
        · rw [z]; exact Nat.le_add_right _ _
        · rw [z]; exact Nat.le_refl _
      exact I1.fpOk hle (I1.hok.fresh hle)
section
variable {X : Cx} {W : Wx} {g : Gd} {ρ : List Addr} {H : Hp} {h : MH}
theorem wk_enumT {a : Addr} {l : List D} {vs : List V} (sq : SqT g.K H a vs) (r : RDs g ρ H l vs) : WkD g ρ H ⟨enumD l, []⟩ (IteT g.K a) := by
  refine ⟨fun H => SqT g.K H a vs, (IteT g.K a).yld, ⟨fun i H hi q => ⟨vs, vs[i]'(by rw [enumD_len] at hi; rw [← r.length]; exact hi), q, List.getElem?_eq_getElem _⟩, fun H q => ⟨vs, q, Nat.le_of_eq (by show vs.length = (enumD l).length; rw [enumD_len, r.length])⟩, fun _ _ _ _ _ _ y => y⟩,
    fun ρ2 H2 h2 l2 hh ok => l2.sqT sq, fun i H2 x H3 ρ2 h2 d l2 hh ok y e => ?_⟩
  obtain ⟨T, z, e2, e3, e4, y⟩ := y
  obtain ⟨d', e5, e6⟩ := enumD_at e
  obtain ⟨v, e7, r7⟩ := r.get e5
  have e8 := y vs (l2.sqT sq)
  rw [e7] at e8
  cases e8
  subst e2 e6
  exact enum_step hh e3 e4 (l2.rd d' r7)
def enumF2 : List D → MH → R IT := fun ds h => match ds with
  | [.tup l] => .ok ⟨enumD l, []⟩ h
  | ds => enumF ds h
def enumI2 (m : AM) : IM := fun e h => (m e h).bind enumF2
theorem i_enum2 {e : Expr} {ma : AM} {p pos tpos : Pos} {elts : List Expr} {kk : Nat} (hg : Gl X "enumerate") (hm : X.mg "enumerate" = none) (ha : PA X [e] (tA (gd X) W ma)) (hs : starEach [e] X.env = [(false, eval e X.env)] := by rfl) :
    PI X (.Tuple elts kk tpos) (.Call (.Name "enumerate" p) [e] [] pos) (iM (gd X) W (enumI2 ma)) := PI_of (pi_enumB hg hm ha hs) fun σ H Q q => by
  refine one q fun ρ e H h xs vs s hh rx p => ?_
  unfold enumF2 at p
  split at p
  · rename_i l
    obtain ⟨v, e1, r1⟩ := rx.inv1
    obtain ⟨a, ws, e2, sq, r⟩ := RD_tup r1
    subst e2
    exact ⟨a, ws, e1, .inr ⟨sq, p.okk hh (wk_enumT sq r)⟩⟩
  · unfold enumF at p
    split at p
    · rename_i n _
      obtain ⟨v, e1, r1⟩ := rx.inv1
      obtain ⟨a, e2, e3⟩ := RD_ref r1
      subst e3
      split at p
      · rename_i l hl
        obtain ⟨ws, e4, r⟩ := hh.obj n _ a hl e2
        exact ⟨a, ws, e1, .inl ⟨.of e4, p.okk hh (wk_enumL e2)⟩⟩
      · rename_i l hl
        obtain ⟨ws, e4, r⟩ := hh.obj n _ a hl e2
        exact ⟨a, ws, e1, .inl ⟨e4.sq, p.okk hh (wk_enumR e4 r)⟩⟩
      · exact p.elim
    · exact p.elim
end
end ML
namespace PySem.W
open PySem
section
variable {prog : Program} {w : World} {A A₀ : Around} {E : Value → Shared → Prop} {s : Shared} {K : Frag} {x C L f : Addr} {h₀ : Heap} {m : Str → Option Value} {ox : Obj} {od : Option Obj} {name : Str} {b tb : Value}
theorem ifBound_KB {M : Model} {B id : String} {args : List Value} {Q : Option Value → Shared → Prop} (X : K.In s.heap) (I : InstAt s.heap x ox C od) (hs : findIn K (.ref C) name = some (some (.builtin id))) (S : Slot B name id)
    (h : wpAny M A (call (.builtin id) (.ref x :: args)) (fun v => Q (some v)) E s) : wpAny M A (callSpecialIfBound? (.ref x) name args) Q E s := by
  simp only [callSpecialIfBound?, bindSpecialIfBound?]
  refine wpAny_holding (wpAny_bind (wpAny_bind (wpAny_bind (I.type.here ((looks_findIn X hs).here ?_)))))
  simp only [S.bind]
  refine wpAny_bind (wpAny_askSetting (wpAny_ite ?_))
  have fin : wpAny M A (call (.builtin id) ([.ref x] ++ args) >>= fun v => pure (some v)) Q E s := wpAny_bind (wpAny_mono h (fun v s' h' => wpAny_pure h') fun _ _ h' => h')
  split
  · exact wpAny_bind (wpAny_pure (wpAny_pure fin))
  · exact wpAny_tryCatch (wpAny_bind (wpAny_pure (wpAny_pure fin)))
theorem objNe_K {Q : Fin → Shared → Prop} (X : K.In s.heap) (I : InstAt s.heap x ox C od) (hs : findIn K (.ref C) "__eq__" = some (some (.ref f))) (hf : isFn K (.ref f) = true) (hu : A.units < cLine)
    (hcall : wpAny (model prog w) A (call (.ref f) [.ref x, b]) (fun v s' => ∃ r, v = .bool r ∧ Q (.done (.ret (.bool (!r)))) s') E s) :
    wpAny (model prog w) A (Builtin.«object.__ne__» ⟨[.ref x, b], []⟩) Q E s := by
  obtain ⟨h, g, d, t, os⟩ := s
  unfold Builtin.«object.__ne__»
  repeat (first
    | with_reducible refine wpAny_cRoomFor hu ?_
    | (refine wpAny_bind (m := callSpecialIfBound? (.ref x) (Str.ofString "__eq__") [b])
        (ifBound_K X I hs hf (wpAny_mono hcall (fun r s' hr => by
          obtain ⟨b, rfl, hq⟩ := hr
          repeat (first | exact hq | exact wpAny_pure hq | exact wpAny_truthy_bool hq | (refine wpAny_bind (m := truthy (.bool _)) (wpAny_truthy_bool ?_)) | wp_step)) fun _ _ e => e)))
    | wp_step)
theorem ne_K {Q : Value → Shared → Prop} (hu : A.units + 1 < cLine) (X : K.In s.heap) (I : InstAt s.heap x ox C od) (hb : Looks (model prog w) s.heap (typeOf b) tb) (hn : notFirst K C tb = true)
    (hne : findIn K (.ref C) "__ne__" = some (some (.builtin "object.__ne__"))) (hob : mroIn K C (.type "object") = some true) (hs : findIn K (.ref C) "__eq__" = some (some (.ref f))) (hf : isFn K (.ref f) = true)
    (h : wpAny (model prog w) A.in1 (call (.ref f) [.ref x, b]) (fun v s' => ∃ r, v = .bool r ∧ Q (.bool (!r)) s') E s) : wpAny (model prog w) A (richCompare .NotEq (.ref x) b) Q E s := by
  have one : wpAny (model prog w) A (tryCompare (.ref x) "__ne__" b) (fun r s' => ∃ v, r = some v ∧ Q v s') E s := by
    unfold tryCompare
    refine wpAny_bind (ifBound_KB X I hne F.cmp_object.ne (wpAny_call (codeAny_call_builtin F.cmp_object.ne.plain F.cmpEntry_ne
      (check_slot F.cmpKind_ne F.cmpSplit_ne ((I.type).andThen (looks_mroIn X hob)) (F.cmpArgs_ne _ _)
        (objNe_K (A := A.in1) X I hs hf hu (wpAny_mono h (fun v s' hv => ?_) fun _ _ e => e))))))
    obtain ⟨r, rfl, hq⟩ := hv
    exact ⟨r, rfl, by first | exact wpAny_pure ⟨_, rfl, hq⟩ | exact wpAny_pure (wpAny_pure ⟨_, rfl, hq⟩)⟩
  unfold richCompare
  simp only [oneThing_ref]
  refine wpAny_holding (wpAny_bind (wpAny_cRoomFor (Nat.lt_of_succ_lt hu) ?_))
  refine wpAny_bind (I.type.here (wpAny_bind (hb.here ?_)))
  split
  · rename_i q
    have e : subIn K tb (.ref C) = some false := by
      rcases Bool.or_eq_true_iff.mp hn with e | e
      · rw [beq_iff_eq.mp e] at q; simp at q
      · exact beq_iff_eq.mp e
    refine wpAny_bind ((looks_subIn X e).here ?_)
    simp only [Bool.false_eq_true, if_false]
    refine wpAny_bind (wpAny_mono one (fun r s' z => ?_) fun _ _ e => e)
    obtain ⟨v, rfl, hq⟩ := z
    exact wpAny_pure hq
  · refine wpAny_bind (wpAny_pure ?_)
    simp only [Bool.false_eq_true, if_false]
    refine wpAny_bind (wpAny_mono one (fun r s' z => ?_) fun _ _ e => e)
    obtain ⟨v, rfl, hq⟩ := z
    exact wpAny_pure hq
end
end PySem.W
namespace PySem.W
open PySem PySem.SeqAt
end PySem.W
namespace PySem.W
open PySem PySem.SeqAt
end PySem.W
namespace ML
open PySem PySem.Spec PyProof.Rows L2
/-- an own class with its __eq__, as its comparers know it; cs: the own classes whose instances may stand beside one -/
structure EqC (P : Program) (w : World) (K : PySem.W.Frag) (mg : Str → Option Value) (base : Heap) (c : Str) (k : Nat) (cs : List Str) (m : FM) : Prop where
  ex : ∃ C f fd ps, mg c = some (.ref C) ∧ PySem.W.findIn K (.ref C) "__eq__" = some (some (.ref f)) ∧ PySem.W.isFn K (.ref f) = true ∧ PySem.W.findIn K (.ref C) "__ne__" = some (some (.builtin "object.__ne__")) ∧ PySem.W.mroIn K C (.type "object") = some true ∧
    Binds K fd ps [] ∧ ps.length = 2 ∧ FnOk P w K mg base (L2.CX P w) k f fd ps (spM ⟨K, mg, P, w⟩ ps.length m) ∧
    (∀ T ∈ kinds, PySem.W.subIn K (.type T) (.ref C) = some false ∧ PySem.W.subIn K (.ref C) (.type T) = some false) ∧ ∀ c' ∈ cs, ∀ C', mg c' = some (.ref C') → PySem.W.notFirst K C (.ref C') = true
section
variable {X : Cx} {pins : List (Addr × Obj)} {σ : L2.St} {H : Hp} {s : Shared} {k : Nat} {f C : Addr} {fd : FuncData} {ps : List Str} {sp : Sp}
abbrev noE : XK := fun _ _ _ => False
/-- the own __eq__ is called -/
theorem run_eq {A : Around} {x y : V} {u v : Value} {Q : Bool → Hp → Prop} (F : FnOk X.prog X.w X.K X.mg X.base (L2.CX X.prog X.w) k f fd ps sp) (hb : Binds X.K fd ps []) (hl : ps.length = 2) (sb : Sub X k A) (I : Inv X pins σ H s) (rx : RelV x u) (ry : RelV y v)
    (h : sp [x, y] H (fun z H' => ∃ b, z = .bl b ∧ Q b H') noE) : wpAny (model X.prog X.w) A (call (.ref f) [u, v]) (fun z s' => ∃ b, z = .bool b ∧ ∃ H', Inv X pins σ H' s' ∧ Q b H') X.xe s := by
  have e0 : Env0 X.prog X.w X.K X.mg X.base A X.stack s H := by
    have e := I.env0
    exact ⟨by rw [sb.fr]; exact e.frames, e.mod, e.bs, e.bsz, e.funs, e.frf, e.hok, e.bare⟩
  have r2 : Vals [x, y] [u, v] := .cons rx (.cons ry .nil)
  refine wpAny_call (codeAny_mono (F.run A X.stack s H ⟨[u, v], []⟩ [u, v] [x, y] _ noE sb.room e0 (by
    have := hb s [u, v] I.kIn (by simpa using hl.symm)
    simpa using this) r2 h) fun r s' hq => ?_)
  cases r with
  | error e => exact (cx_no hq).elim
  | ok fl =>
    cases fl with
    | ret w =>
      obtain ⟨z, H', I', rz, b, ez, q⟩ := I.after hq
      subst ez
      cases rz
      exact ⟨b, rfl, H', I', q⟩
    | next => exact False.elim hq
    | brk => exact False.elim hq
    | cont => exact False.elim hq
/-- what may stand behind: a thing of a built-in kind, or an instance of no class below -/
def OthV (K : PySem.W.Frag) (C : Addr) (H : Hp) (y : V) : Prop := (∃ T ∈ kinds, TyX K H y (.type T)) ∨ ∃ b C' dy gs, y = .ref b ∧ H b = some (.ins C' dy gs) ∧ PySem.W.notFirst K C (.ref C') = true
theorem oth_looks {y : V} {v : Value} (I : Inv X pins σ H s) (ry : RelV y v) (hk : ∀ T ∈ kinds, PySem.W.subIn X.K (.type T) (.ref C) = some false) (o : OthV X.K C H y) : ∃ tb, PySem.W.Looks (model X.prog X.w) s.heap (typeOf v) tb ∧ PySem.W.notFirst X.K C tb = true := by
  rcases o with ⟨T, hT, ty⟩ | ⟨b, C', dy, gs, e, hb, hn⟩
  · obtain ⟨P, Z, hP, _⟩ := kit_of I ry ty
    refine ⟨.type T, Z.ty _ _ I.kIn hP, ?_⟩
    unfold PySem.W.notFirst
    rw [hk T hT]
    simp
  · subst e
    cases ry
    obtain ⟨mB, J', _⟩ := ins_get I.hok hb
    obtain ⟨od', J', _⟩ := J'.look
    exact ⟨.ref C', J'.type, hn⟩
def rEqI (K : PySem.W.Frag) (C : Addr) (sp : Sp) (neg : Bool) : R2 := fun x y H Q => ∃ a dx fs, x = .ref a ∧ H a = some (.ins C dx fs) ∧ OthV K C H y ∧ sp [x, y] H (fun z H' => ∃ b, z = .bl b ∧ Q (.bl (if neg then !b else b)) H') noE
theorem op_neI (F : FnOk X.prog X.w X.K X.mg X.base (L2.CX X.prog X.w) k f fd ps sp) (hb : Binds X.K fd ps []) (hl : ps.length = 2) (hr : Room (k + 1) X.A) (hs : PySem.W.findIn X.K (.ref C) "__eq__" = some (some (.ref f))) (hf : PySem.W.isFn X.K (.ref f) = true)
    (hne : PySem.W.findIn X.K (.ref C) "__ne__" = some (some (.builtin "object.__ne__"))) (hob : PySem.W.mroIn X.K C (.type "object") = some true)
    (hk : ∀ T ∈ kinds, PySem.W.subIn X.K (.type T) (.ref C) = some false) : OpR X (compareOp .NotEq) (rEqI X.K C sp true) := by
  intro pins s σ H x y u v Q I rx ry h
  obtain ⟨a, dx, fs, rfl, ha, o, q⟩ := h
  obtain ⟨tb, L, hn⟩ := oth_looks I ry hk o
  cases (show u = Value.ref a from rx)
  obtain ⟨mA, J, _⟩ := ins_get I.hok ha
  obtain ⟨od, J, _⟩ := J.look
  show wpAny (model X.prog X.w) X.A (richCompare .NotEq (.ref a) v) (EP X pins σ Q) X.xe s
  refine PySem.W.ne_K (tb := tb) hr.in1.units0 I.kIn J L hn hne hob hs hf ?_
  refine wpAny_mono (run_eq (Q := fun b H' => Q (.bl (!b)) H') F hb hl (Sub.in1 ⟨hr, rfl⟩) I (show RelV (.ref a) (.ref a) from rfl) ry (by simpa using q)) (fun z s' p => ?_) fun _ _ e => e
  obtain ⟨b, rfl, H', I', qb⟩ := p
  exact ⟨b, rfl, .bl (!b), H', I', rfl, qb⟩
end
end ML
namespace ML
open PySem PySem.Spec PyProof.Rows L2
def insOf (h : MH) : D → Option Str
  | .ref n => (match h[n]? with
    | some (.ins c _) => some c
    | _ => none)
  | _ => none
def othOk (cs : List Str) (h : MH) (y : D) : Bool := (tyD h y).isSome || (match insOf h y with
  | some c => cs.contains c
  | none => false)
def boolR (neg : Bool) : R D → R D
  | .ok (.bl b) h => .ok (.bl (if neg then !b else b)) h
  | _ => .bad
/-- x == y (x != y): x an instance of c, whose __eq__ is m; cs: the classes of what may stand behind it -/
def eqIF (neg : Bool) (c : Str) (cs : List Str) (m : FM) (f0 : D → D → MH → R D) : D → D → MH → R D := fun x y h => if insOf h x = some c then (if othOk cs h y = true then boolR neg (m [x, y] h) else .bad) else f0 x y h
theorem insOf_v {g : Gd} {ρ : List Addr} {H : Hp} {h : MH} {x : D} {v : V} {c : Str} (hh : RH g ρ H h) (r : RD g ρ H x v) (e : insOf h x = some c) : ∃ a C dx fs, v = .ref a ∧ g.mg c = some (.ref C) ∧ H a = some (.ins C dx fs) := by
  cases x <;> first | (cases e; done) | skip
  rename_i n
  obtain ⟨a, e1, e2⟩ := RD_ref r
  subst e2
  unfold insOf at e
  dsimp only at e
  split at e
  · rename_i c' fs hn
    cases e
    obtain ⟨C, dx, gs, mgC, e3, _⟩ := hh.obj n _ a hn e1
    exact ⟨a, C, dx, gs, rfl, mgC, e3⟩
  · cases e
theorem oth_v {g : Gd} {ρ : List Addr} {H : Hp} {h : MH} {y : D} {v : V} {cs : List Str} {C : Addr} (hh : RH g ρ H h) (r : RD g ρ H y v) (hc : ∀ c' ∈ cs, ∀ C', g.mg c' = some (.ref C') → PySem.W.notFirst g.K C (.ref C') = true) (e : othOk cs h y = true) : OthV g.K C H v := by
  unfold othOk at e
  cases t : tyD h y with
  | some T =>
    obtain ⟨t1, t2⟩ := tyD_v hh r t
    exact .inl ⟨T, t2, t1⟩
  | none =>
    rw [t] at e
    cases i : insOf h y with
    | none => rw [i] at e; cases e
    | some c =>
      rw [i] at e
      obtain ⟨a, C', dx, fs, e1, e2, e3⟩ := insOf_v hh r i
      exact .inr ⟨a, C', dx, fs, e1, e3, hc c (by simpa using e) C' e2⟩
theorem bool_post {g : Gd} {Wf : XK} {ρ : List Addr} {H : Hp} {r : R D} {neg : Bool} {Q : VK} (p : Post g (RD g) Wf ρ H (boolR neg r) Q) : Post g (RD g) noE ρ H r (fun z H' => ∃ b, z = .bl b ∧ Q (.bl (if neg then !b else b)) H') := by
  unfold boolR at p
  split at p
  · rename_i b h'
    intro ρ' v H' l hh rv
    refine ⟨b, RD_bl rv rfl, ?_⟩
    refine p ρ' (.bl (if neg then !b else b)) H' l hh (by unfold RD; rfl)
  · exact p.elim
/-- a comparison with its mirror -/
def OpM (X : Cx) (op : CmpOp) (f : D → D → MH → R D) : Prop := ∃ r, OpR X (compareOp op) r ∧ RF2 (gd X) f r
section
variable {X : Cx} {W : Wx} {a b : Expr} {ma mb : EM} {pos : Pos} {op : CmpOp} {f0 : D → D → MH → R D} {c : Str} {cs : List Str} {k : Nat} {m : FM}
theorem opm_ne (hu : X.A.units + 64 < cLine) : OpM X .NotEq neF := ⟨_, op_neM hu, rf_ne⟩
theorem rf_I {C : Addr} {ps : List Str} {neg : Bool} {r0 : R2} (h0 : RF2 (gd X) f0 r0) (hm : X.mg c = some (.ref C)) (hl : ps.length = 2) (hc : ∀ c' ∈ cs, ∀ C', X.mg c' = some (.ref C') → PySem.W.notFirst X.K C (.ref C') = true) :
    RF2 (gd X) (eqIF neg c cs m f0) (fun x y H Q => rEqI X.K C (spM (gd X) ps.length m) neg x y H Q ∨ r0 x y H Q) := fun Wf Q ρ H h x y vx vy hh rx ry p => by
  unfold eqIF at p
  split at p
  · rename_i hx
    split at p
    · rename_i hy
      obtain ⟨a, C', dx, fs, e1, e2, e3⟩ := insOf_v hh rx hx
      have e4 : (some (Value.ref C') : Option Value) = some (.ref C) := e2.symm.trans hm
      cases e4
      subst e1
      refine .inl ⟨a, dx, fs, rfl, e3, oth_v hh ry hc hy, ?_⟩
      exact ⟨by rw [hl]; rfl, ρ, [x, y], h, .cons rx (.cons ry .nil), hh, bool_post p⟩
    · exact p.elim
  · exact .inr (h0 _ _ _ _ _ _ _ _ _ hh rx ry p)
theorem opm_N (E : EqC X.prog X.w X.K X.mg X.base c k cs m) (hr : Room (k + 1) X.A) (h : OpM X .NotEq f0) : OpM X .NotEq (eqIF true c cs m f0) := by
  obtain ⟨C, f, fd, ps, hm, hs, hf, hne, hob, hb, hl, G, hk, hc⟩ := E.ex
  obtain ⟨r, h1, h2⟩ := h
  exact ⟨_, OpR.or (op_neI G hb hl hr hs hf hne hob fun T hT => (hk T hT).1) h1, rf_I h2 hm hl hc⟩
end
def eqcB (K : PySem.W.Frag) (C f : Addr) (Cs : List Addr) : Bool :=
  decide (PySem.W.findIn K (.ref C) "__eq__" = some (some (.ref f))) && (PySem.W.isFn K (.ref f) && (decide (PySem.W.findIn K (.ref C) "__ne__" = some (some (.builtin "object.__ne__"))) && (decide (PySem.W.mroIn K C (.type "object") = some true) &&
  ((kinds.all fun T => decide (PySem.W.subIn K (.type T) (.ref C) = some false) && decide (PySem.W.subIn K (.ref C) (.type T) = some false)) && Cs.all fun C' => PySem.W.notFirst K C (.ref C')))))
theorem eqc_mk {P : Program} {w : World} {K : PySem.W.Frag} {mg : Str → Option Value} {base : Heap} {c : Str} {k : Nat} {m : FM} {C f : Addr} {fd : FuncData} {ps : List Str} {cs : List (Str × Addr)} (hm : mg c = some (.ref C)) (q : eqcB K C f (cs.map (·.2)) = true) (hb : Binds K fd ps []) (hl : ps.length = 2)
    (G : FnOk P w K mg base (L2.CX P w) k f fd ps (spM ⟨K, mg, P, w⟩ ps.length m)) (hc : ∀ p ∈ cs, mg p.1 = some (.ref p.2)) : EqC P w K mg base c k (cs.map (·.1)) m := by
  unfold eqcB at q
  simp only [Bool.and_eq_true, decide_eq_true_eq] at q
  obtain ⟨q1, q2, q3, q4, q5, q6⟩ := q
  refine ⟨C, f, fd, ps, hm, q1, q2, q3, q4, hb, hl, G, fun T hT => ?_, fun c' h' C' e => ?_⟩
  · have := List.all_eq_true.mp q5 T hT
    simpa using this
  · obtain ⟨p, hp, e1⟩ := List.mem_map.mp h'
    subst e1
    have e2 := (hc p hp).symm.trans e
    cases e2
    exact List.all_eq_true.mp q6 p.2 (List.mem_map.mpr ⟨p, hp, rfl⟩)
end ML
namespace ML
open PySem PySem.Spec PyProof.Rows L2
def isi1 (K : PySem.W.Frag) (C : Addr) : Bool := decide (PySem.W.findIn K (.ref C) "__class__" = some (some (.builtin "object.__class__"))) && (decide (PySem.W.specialIn K (.builtin "object.__class__") "__get__" = some (some (.builtin "getset_descriptor.__get__"))) &&
  (decide (PySem.W.takesIn K (.builtin "object.__class__") = some true) && decide (PySem.W.mroIn K C (.type "object") = some true)))
def isiB (K : PySem.W.Frag) (C : Addr) (cs : List (Str × Addr)) (c : Str) : Bool := (kinds.all fun T => decide (PySem.W.kitOne K (.type T) (.ref C) = some false)) && cs.all fun p => decide (PySem.W.kitOne K (.ref p.2) (.ref C) = some (decide (p.1 = c))) && isi1 K p.2
def noKinds : List (String × Bool) := kinds.map fun T => (T, false)
theorem noKinds_at {T : String} {r : Bool} (e : noKinds.lookup T = some r) : T ∈ kinds ∧ r = false := by
  unfold noKinds at e
  revert e
  generalize kinds = l
  intro e
  induction l with
  | nil => cases e
  | cons n ns ih =>
    rw [List.map_cons] at e
    unfold List.lookup at e
    split at e
    · rename_i h
      cases e
      have h' : T = n := by simpa using h
      subst h'
      exact ⟨List.mem_cons_self, rfl⟩
    · obtain ⟨a, b⟩ := ih e
      exact ⟨List.mem_cons_of_mem _ a, b⟩
theorem isTabI {K : PySem.W.Frag} {mg : Str → Option Value} {cs : List (Str × Addr)} {C : Addr} {c : Str} (hm : ∀ p ∈ cs, mg p.1 = some (.ref p.2)) (hc : ∀ p ∈ cs, Cls K p.2) (q : isiB K C cs c = true) :
    IsTab K mg (.ref C) noKinds (tabOf (cs.map (·.1)) fun n => decide (n = c)) [] := by
  unfold isiB at q
  obtain ⟨q1, q2⟩ := Bool.and_eq_true_iff.mp q
  refine ⟨fun T r e => ?_, fun c' r e C' hC => ?_, fun c r e => (by cases e)⟩
  · obtain ⟨h1, h2⟩ := noKinds_at e
    subst h2
    exact of_decide_eq_true (List.all_eq_true.mp q1 T h1)
  · obtain ⟨h1, h2⟩ := tabOf_at e
    subst h2
    obtain ⟨p, hp, e1⟩ := List.mem_map.mp h1
    subst e1
    have e2 := (hm p hp).symm.trans hC
    cases e2
    have := List.all_eq_true.mp q2 p hp
    unfold isi1 at this
    simp only [Bool.and_eq_true, decide_eq_true_eq] at this
    obtain ⟨z1, z2, z3, z4, z5⟩ := this
    exact ⟨⟨hc p hp, z2, z3, z4, z5⟩, z1⟩
section
variable {X : Cx} {W : Wx} {a b : Expr} {ma mb : EM} {pos : Pos} {op : CmpOp}
theorem t_cmpM {f : D → D → MH → R D} (ho : OpM X op f) (ha : PE X a (tE (gd X) W ma)) (hb : PE X b (tE (gd X) W mb)) (hm : behindInMarks op b = false) : PT X (.Compare a [op] [b] pos) (tT (gd X) W (valT (bin f ma mb))) := by
  obtain ⟨r, h1, h2⟩ := ho
  exact t_cmp h1 h2 ha hb hm
end
end ML
namespace ML
open PySem PySem.Spec PyProof.Rows L2
/-- a method of an own class, as its callers know it -/
structure MethC (P : Program) (w : World) (K : PySem.W.Frag) (mg : Str → Option Value) (base : Heap) (c m : Str) (k : Nat) (f : FM) : Prop where
  ex : ∃ C g fd ps, mg c = some (.ref C) ∧ Cls K C ∧ Meth K C m g ∧ Binds K fd ps [] ∧ FnOk P w K mg base (L2.CX P w) k g fd ps (spM ⟨K, mg, P, w⟩ ps.length f) ∧ ∀ ds h, ds.length ≠ ps.length → f ds h = .bad
section
variable {X : Cx} {W : Wx} {o e : Expr} {es : List Expr} {mo : EM} {mas : AM} {pos apos : Pos} {m : Str} {k : Nat} {t : List (Str × FM)}
theorem lookMem {f : FM} {c : Str} : ∀ {t : List (Str × FM)}, t.lookup c = some f → (c, f) ∈ t
  | [], e => by cases e
  | (d, g) :: t, e => by
    unfold List.lookup at e
    split at e
    · rename_i h
      cases e
      have h' : c = d := by simpa using h
      subst h'
      exact List.mem_cons_self
    · exact List.mem_cons_of_mem _ (lookMem e)
end
def insCl (x : D) (h : MH) : Option Str := match x with
  | .ref n => (match h[n]? with
    | some (.ins c _) => some c
    | _ => none)
  | _ => none
def propF (t : List (Str × FM)) : D → MH → R D := fun x h => match insCl x h with
  | some c => (match t.lookup c with
    | some f => (match f [x] h with
      | .ok d h' => .ok d h'
      | _ => .bad)
    | none => .bad)
  | none => .bad
structure PropC (P : Program) (w : World) (K : PySem.W.Frag) (mg : Str → Option Value) (base : Heap) (c m : Str) (k : Nat) (f : FM) : Prop where
  ex : ∃ C p g fd ps, mg c = some (.ref C) ∧ Cls K C ∧ PropOf K C m p g ∧ Binds K fd ps [] ∧ ps.length = 1 ∧ FnOk P w K mg base (L2.CX P w) k g fd ps (spM ⟨K, mg, P, w⟩ ps.length f)
section
variable {X : Cx} {W : Wx} {o : Expr} {mo : EM} {pos : Pos} {m : Str} {k : Nat} {t : List (Str × FM)}
theorem e_prop (F : ∀ p ∈ t, PropC X.prog X.w X.K X.mg X.base p.1 m k p.2) (hr : Room (k + 1) X.A) (ho : PE X o (tE (gd X) W mo)) (hab : attributeBase o m X.env (eval o X.env) = eval o X.env := by rfl) :
    PE X (.Attribute o m pos) (tE (gd X) W (un (propF t) mo)) := by
  refine ⟨fun pins s σ H Q I q => ?_⟩
  have q0 : tE (gd X) W mo σ H fun vx H1 => ∃ ρ h x, RH (gd X) ρ H1 h ∧ RD (gd X) ρ H1 x vx ∧ ∃ c f d h', insCl x h = some c ∧ t.lookup c = some f ∧ f [x] h = .ok d h' ∧ Post (gd X) (RD (gd X)) (fun c d H' => W.W c d σ H') ρ H1 (.ok d h') Q := by
    refine one q fun ρ e H h x vx s hh rx p => ?_
    refine ⟨ρ, h, x, hh, rx, ?_⟩
    unfold propF at p
    split at p
    · rename_i c hc
      split at p
      · rename_i f hf
        split at p
        · rename_i d h' he
          exact ⟨c, f, d, h', hc, hf, he, p⟩
        · exact p.elim
      · exact p.elim
    · exact p.elim
  refine attr_of hab (thn (ho.run pins s σ H _ I q0) fun u s1 ⟨vx, H1, I1, rv, ρ, h, x, hh, rx, c, f, d, h', hc, hf, he, p⟩ => ?_)
  unfold insCl at hc
  split at hc
  · rename_i n
    obtain ⟨a, e1, e2⟩ := RD_ref rx
    split at hc
    · rename_i c' fs hn
      cases hc
      obtain ⟨C, dx, gs, mc, ea, rp⟩ := hh.obj n _ a hn e1
      obtain ⟨C', pa, g, fd, ps, mc', cC, hp, hb, h1, G⟩ := (F _ (lookMem hf)).ex
      have mcc := (show X.mg _ = some (.ref C) from mc).symm.trans mc'
      cases mcc
      subst e2
      obtain rfl : u = Value.ref a := rv
      refine getprop_ok (ds := []) (dvs := []) (E := fun _ _ _ => False) I1 ea cC hp G hr hb .nil (fun _ _ _ _ _ _ _ z => (cx_no z).elim) ?_
      refine ⟨by rw [h1]; rfl, ρ, [.ref n], h, .one rx, hh, ?_⟩
      show Post _ _ _ ρ H1 (f [.ref n] h) Q
      rw [he]
      exact p
    · cases hc
  · cases hc
end
def makeX (c : Str) (m : FM) : FM := fun ds h => match m (.ref h.length :: ds) (h ++ [.ins c []]) with
  | .ok .non h' => .ok (.ref h.length) h'
  | .exc c' fs h' => .exc c' fs h'
  | _ => .bad
section
variable {X : Cx} {W : Wx} {e : Expr} {es : List Expr} {mas : AM} {pos p : Pos} {c : Str} {k np : Nat} {m : FM}
theorem run_makeS {C f : Addr} {fd : FuncData} {ps : List Str} {sp : Sp} {E : L2.St → XK} {pins : List (Addr × Obj)} {σ : L2.St} {H : Hp} {s : Shared} {Q : VK} {us : List Value} {vs : List V} (M : Mk X.K C f) (F : FnOk X.prog X.w X.K X.mg X.base (L2.CX X.prog X.w) k f fd ps sp) (hr : Room (k + 1) X.A) (hb : Binds X.K fd ps [])
    (hx : PassesAt (L2.CX X.prog X.w) X σ (E σ)) (I : Inv X pins σ H s) (r : Vals vs us)
    (h : ∀ x dx, H x = none → H dx = none → dx ≠ x → sp (.ref x :: vs) (upd (upd H dx (.own x)) x (.ins C dx [])) (fun v H2 => v = .non ∧ Q (.ref x) H2) (E σ)) :
    wpAny (model X.prog X.w) X.A (call (.ref C) us) (EP X pins σ Q) X.xe s := by
  have hq := h (s.heap.objs.size + 1) s.heap.objs.size (I.hok.fresh (Nat.le_succ _)) (I.hok.fresh (Nat.le_refl _)) (Nat.ne_of_lt (Nat.lt_succ_self _))
  have I2 := Inv.made (C := C) I
  have r2 : Vals (V.ref (s.heap.objs.size + 1) :: vs) (Value.ref (s.heap.objs.size + 1) :: us) := .cons rfl r
  have hl : (Value.ref (s.heap.objs.size + 1) :: us ++ []).length = ps.length := by
    have e := r2.length
    rw [F.len _ _ _ _ hq] at e
    rw [List.append_nil]
    exact e.symm
  have b := hb _ (Value.ref (s.heap.objs.size + 1) :: us) I2.kIn hl
  rw [List.append_nil] at b
  refine wpAny_call (make_map (f := f) I.kIn M.makes M.init (beq_iff_eq.mp M.fn) (codeAny_mono (F.run _ X.stack _ _ ⟨Value.ref (s.heap.objs.size + 1) :: us, []⟩ (Value.ref (s.heap.objs.size + 1) :: us) _ _ (E σ) (hr.make C us [])
    (I2.env0.make C us []) b r2 hq) fun r s' hq' => ?_))
  cases r with
  | error e => exact hx pins _ _ e s' I2 hq'
  | ok fl =>
    cases fl with
    | ret u =>
      obtain ⟨v, H', I3, rv, ev, q3⟩ := I2.after hq'
      subst ev
      exact ⟨rv, ⟨V.ref (s.heap.objs.size + 1), H', I3, rfl, q3⟩⟩
    | next => exact False.elim hq'
    | brk => exact False.elim hq'
    | cont => exact False.elim hq'
theorem make_readX {C : Addr} {ps : List Str} (mgC : X.mg c = some (.ref C)) {σ : L2.St} {H : Hp} {Q : VK} (hn : ∀ ds h, ds.length ≠ ps.length → m ds h = .bad) (q : tE (gd X) W (onA (makeX c m) mas) σ H Q) :
    tA (gd X) W mas σ H fun vs H1 => ∀ x dx, H1 x = none → H1 dx = none → dx ≠ x → spM (gd X) ps.length m (.ref x :: vs) (upd (upd H1 dx (.own x)) x (.ins C dx [])) (fun v H2 => v = .non ∧ Q (.ref x) H2) (WE W.W σ) := by
  refine one q fun ρ e H h xs vs s hh rx p => ?_
  intro x dx h1 h2 h3
  obtain ⟨l1, l2, l3⟩ := hh.newIns (c := c) h1 h2 h3 mgC
  unfold makeX at p
  have rd : RDs (gd X) (ρ ++ [x]) (L2.upd (L2.upd H dx (.own x)) x (.ins C dx [])) (.ref h.length :: xs) (.ref x :: vs) := .cons l3 (l1.rds xs rx)
  refine ⟨?_, ρ ++ [x], _, _, rd, l2, ?_⟩
  · by_cases hl : (D.ref h.length :: xs).length = ps.length
    · rw [← hl, ← rd.length]
    · rw [hn _ _ hl] at p
      exact p.elim
  · revert p
    generalize m (.ref h.length :: xs) (h ++ [.ins c []]) = r
    intro p
    cases r with
    | bad => exact p.elim
    | exc c' fs h' => exact fun ρ2 H2 C2 dd gs a => p ρ2 H2 C2 dd gs (l1.trans a)
    | ok d h' =>
      cases d <;> first | exact p.elim | skip
      intro ρ2 v H2 a b r
      refine ⟨by unfold RD at r; exact r, ?_⟩
      exact p ρ2 (.ref x) H2 (l1.trans a) b (a.rd _ l3)
theorem e_makeX (F : InC X.prog X.w X.K X.mg X.base c k np m) (hn : ∀ ds h, ds.length ≠ np → m ds h = .bad) (hr : Room (k + 1) X.A) (tk : Takes X W.W) (hg : Gl X c) (ha : PA X (e :: es) (tA (gd X) W mas)) (hdb : (c == ("__debug__" : Str)) = false := by decide)
    (he : starEach (e :: es) X.env = (false, eval e X.env) :: starEach es X.env := by rfl) (hpl : (backTo pos (starEach es X.env)).any (·.1) = false := by rfl) : PE X (.Call (.Name c p) (e :: es) [] pos) (tE (gd X) W (onA (makeX c m) mas)) := by
  obtain ⟨C, f, fd, ps, mgC, M, hb, hnp, G⟩ := F.ex
  subst hnp
  refine ⟨fun pins s σ H Q I q => ?_⟩
  refine wpAny_Call_Name_kw (ld_glob I hg mgC ?_ hdb)
  refine PySem.W.callWith_K (h₀ := X.base) I.ok.mod.kin M.kp (thn (ha.run pos pins s σ H _ I (make_readX mgC hn q)) fun us s1 ⟨vs, H1, I1, r, q⟩ => ⟨I1.kIn, ?_⟩) he hpl
  exact run_makeS (E := WE W.W) M G hr hb (passAt tk σ) I1 r q
end
theorem RDs.rep {g : Gd} {ρ : List Addr} {H : Hp} {l : List D} {vs : List V} (q : RDs g ρ H l vs) : ∀ n : Nat, RDs g ρ H (List.replicate n l).flatten (List.replicate n vs).flatten
  | 0 => .nil
  | n + 1 => by
    rw [List.replicate_succ, List.replicate_succ, List.flatten_cons, List.flatten_cons]
    exact q.append (RDs.rep q n)
end ML
namespace L2
open PySem PySem.Spec PyProof.Rows
inductive HdsA (X : Cx) : List ExceptHandler → List (Value × Nat × (Addr → Value → Option Addr → TS)) → Prop
  | nil : HdsA X [] []
  | cons {x n : Str} {c : Value} {i : Nat} {ts : Addr → Value → Option Addr → TS} {b₀ : Stmt} {suite : List Stmt} {np pos' : Pos} {hds : List ExceptHandler} {l : List (Value × Nat × (Addr → Value → Option Addr → TS))} (hi : X.N[i]? = some n) (hln : X.env.kindOf n = some .local) (hc : Names X x c)
      (hsu : ∀ (a : Addr) (oe : Obj) (cls : Value) (d : Option Addr) (pn : List (Addr × Obj)), Zc cls d oe → (∃ vs, oe.data = .fields vs) → PSs (X.suite a ((a, oe) :: pn)) (b₀ :: suite) (ts a cls d)) (r : HdsA X hds l) :
      HdsA X (.ExceptHandler (some (.Name x np)) (some n) (b₀ :: suite) pos' :: hds) ((c, i, ts) :: l)
end L2
namespace ML
open PySem PySem.Spec PyProof.Rows L2
/-- one clause: which classes it catches, its slot, its suite -/
abbrev Cl : Type := List (Str × Bool) × Nat × (Str → List (Str × D) → SM)
section
variable {X : Cx} {Wout : WX} {x y : Str} {body : List Stmt} {mb : SM} {np pos pos' py sp : Pos} {ex : Expr} {m : Str → List (Str × D) → EM} {j : Nat}
/-- the clauses of a try against their mirrors -/
inductive Hds (X : Cx) : List ExceptHandler → List Cl → List (Value × Nat × (Addr → Value → Option Addr → TS)) → Prop
  | nil : Hds X [] [] []
  | cons {x n : Str} {c : Value} {ct : List (Str × Bool)} {i : Nat} {sm : Str → List (Str × D) → SM} {b₀ : Stmt} {suite : List Stmt} {np pos' : Pos} {hds : List ExceptHandler} {cl : List Cl} {l : List (Value × Nat × (Addr → Value → Option Addr → TS))} (hi : X.N[i]? = some n) (hln : X.env.kindOf n = some .local) (hc : Names X x c) (F : CatTab X.K X.mg c ct)
      (hsu : ∀ (a : Addr) (oe : Obj) (cls : Value) (d : Option Addr) (pn : List (Addr × Obj)), Zc cls d oe → (∃ vs, oe.data = .fields vs) → PSs (X.suite a ((a, oe) :: pn)) (b₀ :: suite) (tSuf X i sm a cls d)) (r : Hds X hds cl l) :
      Hds X (.ExceptHandler (some (.Name x np)) (some n) (b₀ :: suite) pos' :: hds) ((ct, i, sm) :: cl) ((c, i, fun a cls d => tSuf X i sm a cls d) :: l)
theorem Hds.A {hds : List ExceptHandler} {cl : List Cl} {l : List (Value × Nat × (Addr → Value → Option Addr → TS))} (h : Hds X hds cl l) : HdsA X hds l := by
  induction h with
  | nil => exact .nil
  | cons hi hln hc F hsu r ih => exact .cons hi hln hc hsu ih
end
end ML
namespace ML
open PySem PySem.Spec PyProof.Rows L2
/-- the getter of the property that a class has under a name -/
def gp (K : PySem.W.Frag) (C : Addr) (m : Str) : Addr := match PySem.W.recIn K (He.ma K C m) "property" with
  | some (.ref g :: _) => g
  | _ => 0
def recB (K : PySem.W.Frag) (p g : Addr) : Bool := match PySem.W.recIn K p "property" with
  | some (.ref g' :: _) => decide (g' = g)
  | _ => false
def propB (K : PySem.W.Frag) (C g : Addr) (m : Str) : Bool := decide (PySem.W.findIn K (.ref C) m = some (some (.ref (He.ma K C m)))) && (decide (PySem.W.specialIn K (.ref (He.ma K C m)) "__get__" = some (some (.builtin "property.__get__"))) &&
  (decide (PySem.W.takesIn K (.ref (He.ma K C m)) = some true) && recB K (He.ma K C m) g))
section
variable {P : Program} {w : World} {K : PySem.W.Frag} {mg : Str → Option Value} {base : Heap} {C g fI : Addr} {fd : FuncData} {ps fs : List Str} {c m : Str} {k np n : Nat} {b : SM}
theorem propc_mk (hm : mg c = some (.ref C)) (B : ClsB K C fI fs) (q : propB K C g m = true) (hb : Binds K fd ps []) (G : FnOk P w K mg base (L2.CX P w) k g fd ps (spM ⟨K, mg, P, w⟩ ps.length (fnM np n b))) (h1 : ps.length = 1) : PropC P w K mg base c m k (fnM np n b) := by
  unfold propB at q
  simp only [Bool.and_eq_true, decide_eq_true_eq] at q
  obtain ⟨q1, q2, q3, q4⟩ := q
  refine ⟨C, He.ma K C m, g, fd, ps, hm, B.cl, ⟨q1, q2, q3, ?_⟩, hb, h1, G⟩
  unfold recB at q4
  split at q4
  · rename_i g' r h
    have := of_decide_eq_true q4
    subst this
    exact ⟨r, h⟩
  · cases q4
end
end ML
namespace ML
open PySem PySem.Spec PyProof.Rows L2
theorem all_nil {α : Type} {q : α → Prop} : ∀ p ∈ ([] : List α), q p := fun _ z => (nomatch z)
theorem all_cons {α : Type} {q : α → Prop} {a : α} {l : List α} (h : q a) (r : ∀ p ∈ l, q p) : ∀ p ∈ a :: l, q p := List.forall_mem_cons.mpr ⟨h, r⟩
section
variable {P : Program} {w : World} {K : PySem.W.Frag} {mg : Str → Option Value} {base : Heap} {c m : Str} {j k : Nat} {f : FM}
theorem MethC.up (M : MethC P w K mg base c m j f) (h : j ≤ k) : MethC P w K mg base c m k f := by
  obtain ⟨C, g, fd, ps, a, b, d, e, G, n⟩ := M.ex
  exact ⟨C, g, fd, ps, a, b, d, e, G.mono h, n⟩
theorem PropC.up (M : PropC P w K mg base c m j f) (h : j ≤ k) : PropC P w K mg base c m k f := by
  obtain ⟨C, p, g, fd, ps, a, b, d, e, n, G⟩ := M.ex
  exact ⟨C, p, g, fd, ps, a, b, d, e, n, G.mono h⟩
end
end ML
namespace L2
open PySem PySem.Spec PyProof.Rows
end L2
namespace ML
open PySem PySem.Spec PyProof.Rows L2
def gtp2 (ms : List GM) : GM := fun d e h => match d with
  | .tup ds => if ds.length = ms.length then asgAll ms ds e h else none
  | .ref n => (match h[n]? with
    | some (.lst ds) => if ds.length = ms.length then asgAll ms ds e h else none
    | _ => none)
  | _ => none
theorem pg_or {X : Cx} {e : Expr} {t u : TG} (h1 : PG X e t) (h2 : PG X e u) : PG X e (fun v σ H Q => t v σ H Q ∨ u v σ H Q) := ⟨fun pins s σ H v w Q I r q => by
  rcases q with q | q
  · exact h1.run pins s σ H v w Q I r q
  · exact h2.run pins s σ H v w Q I r q⟩
theorem g_tup2 {X : Cx} {pos : Pos} {own : List Nat} {ms : List GM} {es : List Expr} {k n : Nat} (hc : X.calm = true) (h : PGs X es (tGms (gd X) own ms)) (hn : (assignEach es X.env).length = n := by rfl) (hst : (assignEach es X.env).findIdx? (·.1) = none := by rfl) (hl : ms.length = n := by rfl) :
    PG X (.Tuple es k pos) (tGm (gd X) own (gtp2 ms)) := PG_of (pg_or (pg_tup hc h hn hst) (pg_unl hc h hn hst)) fun v σ H Q q => by
  obtain ⟨ρ, e, h, d, e', s, hh, r, em, kk⟩ := q
  cases d <;> first | cases em | skip
  · rename_i ds
    obtain ⟨a, vs, e1, sq, rs⟩ := RD_tup r
    unfold gtp2 at em
    dsimp only at em
    split at em
    · rename_i hds
      exact .inl ⟨a, vs, e1, sq, by rw [← rs.length, hds, hl], ρ, e, h, ds, e', s, hh, rs, em, kk⟩
    · cases em
  · rename_i m
    obtain ⟨a, e1, e2⟩ := RD_ref r
    unfold gtp2 at em
    dsimp only at em
    split at em
    · rename_i ds hds
      split at em
      · rename_i hl2
        obtain ⟨vs, e3, rs⟩ := hh.obj m _ a hds e1
        exact .inr ⟨a, vs, e2, .of e3, by rw [← rs.length, hl2, hl], ρ, e, h, ds, e', s, hh, rs, em, kk⟩
      · cases em
    · cases em
end ML
namespace ML
open PySem PySem.Spec PyProof.Rows L2
/-- a method of an own class: n arguments by place behind self, then the keywords ks -/
structure MethK (P : Program) (w : World) (K : PySem.W.Frag) (mg : Str → Option Value) (base : Heap) (c m : Str) (n : Nat) (ks : List Str) (k : Nat) (f : FM) : Prop where
  ex : ∃ C g fd ps, mg c = some (.ref C) ∧ Cls K C ∧ Meth K C m g ∧ KBinds K fd ps ks (gCut (n + 1) ks.length) (gCut (n + 1) ks.length) ∧ FnOk P w K mg base (L2.CX P w) k g fd ps (spM ⟨K, mg, P, w⟩ ps.length f) ∧ ps.length = n + 1 + ks.length ∧ ∀ ds h, ds.length ≠ ps.length → f ds h = .bad
end ML
namespace ML
open PySem PySem.Spec PyProof.Rows L2
structure GetC (P : Program) (w : World) (K : PySem.W.Frag) (mg : Str → Option Value) (base : Heap) (c : Str) (k : Nat) (f : FM) : Prop where
  ex : ∃ C g fd ps, mg c = some (.ref C) ∧ Meth K C "__getitem__" g ∧ PySem.W.fnIn K g = true ∧ Binds K fd ps [] ∧ ps.length = 2 ∧ FnOk P w K mg base (L2.CX P w) k g fd ps (spM ⟨K, mg, P, w⟩ ps.length f)
end ML
namespace ML
open PySem PySem.Spec PyProof.Rows L2
theorem RP.keys {g : Gd} {ρ : List Addr} {H : Hp} : ∀ {kvs : List (Key × D)} {ws : List (Key × V)}, RP g ρ H kvs ws → kvs.map (·.1) = ws.map (·.1)
  | [], ws, q => by have q' : ws = [] := q; subst q'; rfl
  | (k, d) :: kvs, ws, q => by
    obtain ⟨v, t, e, _, q2⟩ := q
    subst e
    rw [List.map_cons, List.map_cons, RP.keys q2]
end ML
namespace ML
open PySem PySem.Spec PyProof.Rows L2
section
variable {P : Program} {w : World} {K : PySem.W.Frag} {mg : Str → Option Value} {base : Heap} {c m : Str} {n j k : Nat} {ks : List Str} {f : FM}
theorem MethK.up (M : MethK P w K mg base c m n ks j f) (h : j ≤ k) : MethK P w K mg base c m n ks k f := by
  obtain ⟨C, g, fd, ps, a, b, d, e, G, l, z⟩ := M.ex
  exact ⟨C, g, fd, ps, a, b, d, e, G.mono h, l, z⟩
theorem GetC.up (M : GetC P w K mg base c j f) (h : j ≤ k) : GetC P w K mg base c k f := by
  obtain ⟨C, g, fd, ps, a, b, d, e, l, G⟩ := M.ex
  exact ⟨C, g, fd, ps, a, b, d, e, l, G.mono h⟩
end
end ML
namespace PySem
open Sem (wp)
section
variable {prog : Program} {w : World} {A : Around} {s : Shared} {ki dd : Addr} {ii cnt epo : Nat} {ox : Obj} {ents : Array DictEntry}
theorem keyZ_item {E : Value → Shared → Prop} {Q : Value → Shared → Prop} {x : DictEntry} (ik : s.heap.IsKeyIter ki dd ii cnt epo) (gx : s.heap.get? dd = some ox) (dx : ox.data = .dict ents epo) (nx : ents.size = cnt) (ex : ents[ii]? = some x)
    (fin : ∀ k', k'.IsKeyIter ki dd (ii + 1) cnt epo → Heap.SameBut ki s.heap k' → Q x.key { s with heap := k' }) : wpAny (model prog w) A (Builtin.SmallTypes.nextOf (.ref ki)) Q E s := by
  obtain ⟨oi, gi, ci, fi⟩ := id ik
  have ty := ik.typeIs
  have own : Builtin.Dict_items.ownsTuple "dict_keyiterator" = false := by decide
  have lt : ii < ents.size := (Array.getElem?_eq_some_iff.mp ex).1
  have ikn : (s.heap.update ki (Obj.mapFields (·.setIfInBounds 1 (rawInt ((ii : Int) + 1))))).IsKeyIter ki dd (ii + 1) cnt epo :=
    ⟨_, Heap.get?_update_self _ gi (Obj.isFreed_of_fields (Obj.data_mapFields fi _)), (Obj.cls_mapFields ..).trans ci, by rw [Obj.data_mapFields fi]; simp [rawInt]⟩
  unfold Builtin.SmallTypes.nextOf
  refine wpAny_bind (wpAny_callSpecial?_slot (name := Str.ofString "__next__") ty F.slot_dict_keyiterator_next (wpAny_call_entry F.slot_dict_keyiterator_next ty F.entry_dict_keyiterator_next ?_ (F.args_dict_keyiterator_next_1 _)))
  refine wpAny_bind (wpAny_pure (wpAny_bind (wpAny_bind ?_)))
  first
    | refine wpAny_bind (wpAny_typeNameOfWhole_keyiter ty (wpAny_pure (wpAny_bind (wpAny_fieldsOf gi fi ?_))))
    | refine wpAny_bind (wpAny_typeNameOf_keyiter ty (wpAny_pure (wpAny_bind (wpAny_fieldsOf gi fi ?_))))
  simp only [own, Bool.false_eq_true, if_false]
  show wpAny _ _ (if (Value.ref dd == Value.none) = true then _ else _) _ _ s
  rw [if_neg (show ¬ ((Value.ref dd == Value.none) = true) from Bool.false_ne_true)]
  refine wpAny_bind (wpAny_pure (wpAny_bind (wpAny_dictEntries gx dx ?_)))
  rw [if_neg (by rw [nx]; simp)]
  refine wpAny_bind (wpAny_pure (wpAny_bind (wpAny_dictEpoch gx dx ?_)))
  rw [if_neg (by simp)]
  refine wpAny_pure ?_
  simp only [show ¬ ((ii : Int) < 0) from by omega, if_false, Int.toNat_natCast, ex]
  refine wpAny_bind ?_
  first
    | refine wpAny_bind (wpAny_typeNameOfWhole_keyiter ty (wpAny_pure (wpAny_isOneOf_keyiter ty ?_)))
    | refine wpAny_bind (wpAny_typeNameOf_keyiter ty (wpAny_pure (wpAny_isOneOf_keyiter ty ?_)))
    | refine wpAny_bind (wpAny_typeNameOfWhole_keyiter ty (wpAny_pure ?_))
    | refine wpAny_bind (wpAny_typeNameOf_keyiter ty (wpAny_pure ?_))
  refine wpAny_bind (wpAny_isOneOf_keyiter ty ?_)
  show wpAny _ _ (setField (.ref ki) 1 (rawInt ((ii : Int) + 1)) >>= _) _ _ s
  refine wpAny_bind (wpAny_setField gi fi (by simp) (wpAny_bind (wpAny_holding ?_)))
  refine wpAny_bind (wpAny_isOneOf_keyiter (s := { s with heap := s.heap.update ki (Obj.mapFields (·.setIfInBounds 1 (rawInt ((ii : Int) + 1)))) }) ikn.typeIs ?_)
  show wpAny _ _ (pure x.key) _ _ _
  exact wpAny_pure (wpAny_pure ⟨_, rfl, wpAny_pure (fin _ ikn (Heap.SameBut.update ..))⟩)
theorem keyZ_end {E : Value → Shared → Prop} {Q : Value → Shared → Prop} (nh : A.handled = none) (ik : s.heap.IsKeyIter ki dd ii cnt epo) (gx : s.heap.get? dd = some ox) (dx : ox.data = .dict ents epo) (nx : ents.size = cnt) (ge : cnt ≤ ii)
    (fin : ∀ k' e, Heap.ExtBut ki s.heap k' → (∃ o, k'.get? e = some o ∧ o.cls = .type "StopIteration") → E (.ref e) { s with heap := k' }) : wpAny (model prog w) A (Builtin.SmallTypes.nextOf (.ref ki)) Q E s := by
  obtain ⟨oi, gi, ci, fi⟩ := id ik
  have ty := ik.typeIs
  have own : Builtin.Dict_items.ownsTuple "dict_keyiterator" = false := by decide
  have ex : ents[ii]? = none := Array.getElem?_eq_none (by omega)
  unfold Builtin.SmallTypes.nextOf
  refine wpAny_bind (wpAny_callSpecial?_slot (name := Str.ofString "__next__") ty F.slot_dict_keyiterator_next (wpAny_call_entry F.slot_dict_keyiterator_next ty F.entry_dict_keyiterator_next ?_ (F.args_dict_keyiterator_next_1 _)))
  refine wpAny_bind (wpAny_pure (wpAny_bind (wpAny_bind ?_)))
  first
    | refine wpAny_bind (wpAny_typeNameOfWhole_keyiter ty (wpAny_pure (wpAny_bind (wpAny_fieldsOf gi fi ?_))))
    | refine wpAny_bind (wpAny_typeNameOf_keyiter ty (wpAny_pure (wpAny_bind (wpAny_fieldsOf gi fi ?_))))
  simp only [own, Bool.false_eq_true, if_false]
  show wpAny _ _ (if (Value.ref dd == Value.none) = true then _ else _) _ _ s
  rw [if_neg (show ¬ ((Value.ref dd == Value.none) = true) from Bool.false_ne_true)]
  refine wpAny_bind (wpAny_pure (wpAny_bind (wpAny_dictEntries gx dx ?_)))
  rw [if_neg (by rw [nx]; simp)]
  refine wpAny_bind (wpAny_pure (wpAny_bind (wpAny_dictEpoch gx dx ?_)))
  rw [if_neg (by simp)]
  refine wpAny_pure ?_
  simp only [show ¬ ((ii : Int) < 0) from by omega, if_false, Int.toNat_natCast, ex]
  refine wpAny_bind ?_
  first
    | refine wpAny_bind (wpAny_typeNameOfWhole_keyiter ty (wpAny_pure ?_))
    | refine wpAny_bind (wpAny_typeNameOf_keyiter ty (wpAny_pure ?_))
  show wpAny _ _ (setField (.ref ki) 0 .none >>= _) _ _ s
  refine wpAny_bind (wpAny_setField gi fi (by simp) ?_)
  show wpAny _ _ (newExc (.type "StopIteration") [] >>= _) _ _ _
  refine wpAny_bind ?_
  simp only [newExc, newTuple]
  refine wpAny_bind (wpAny_newObj_type (wpAny_bind (m := firstArgMember _ _) (wpAny_of_eq (a := Value.none) (by first | rfl | (simp only [firstArgMember]; rfl)) (wpAny_newObj_type ?_ (by size_fits)))) (by size_fits))
  simp only [raiseNew]
  refine wpAny_bind (wpAny_handled ?_)
  first | rw [show A.in1.handled = none from nh] | rw [nh]
  refine wpAny_bind (wpAny_pure (wpAny_throw ?_))
  exact fin _ _ (((Heap.SameBut.update ..).extBut.push _).push _) ⟨_, Heap.get?_push_size _ rfl, rfl⟩
theorem Draws.keys (nh : A.handled = none) (ne : dd ≠ ki) (dx : ox.data = .dict ents epo) (nx : ents.size = cnt) :
    Draws prog w A ki [ki, dd] cnt (fun i v => ∃ x, ents[i]? = some x ∧ v = x.key) (fun i h => h.IsKeyIter ki dd i cnt epo ∧ h.get? dd = some ox) where
  live := fun _ _ st => let ⟨o, ho, _⟩ := st.1; ⟨o, ho⟩
  frame := fun _ _ _ st hk => ⟨st.1.at fun o e => hk ki (by simp) o e, hk dd (by simp) _ st.2⟩
  item := fun i s Q E hi st hQ => by
    have hi' : i < ents.size := by omega
    refine keyZ_item st.1 st.2 dx nx (x := ents[i]) (by simp [hi']) fun k' a b => ?_
    exact hQ _ k' s.toks ⟨ents[i], by simp [hi'], rfl⟩ ⟨a, b.extBut _ _ ne st.2⟩ b
  done := fun s Q E st hE => keyZ_end nh st.1 st.2 dx nx (Nat.le_refl _) hE
end
end PySem
namespace ML
open PySem PySem.Spec PyProof.Rows L2
section
variable {g : Gd} {ρ : List Addr} {H : Hp} {h : MH}
theorem RN.keys : ∀ {l : List (D × D)} {xs : List (NestedKey × Addr × V)}, RN g ρ H l xs → xs.map (·.1) = l.map fun kv => nkD kv.1
  | [], xs, q => by have q' : xs = [] := q; subst q'; rfl
  | (k, d) :: l, xs, q => by
    obtain ⟨a, v, r, e, _, _, _, q2⟩ := q
    subst e
    rw [List.map_cons, List.map_cons, RN.keys q2]
theorem RN.length {l : List (D × D)} {xs : List (NestedKey × Addr × V)} (q : RN g ρ H l xs) : xs.length = l.length := by simpa using congrArg List.length q.keys
theorem RN.app : ∀ {l : List (D × D)} {xs : List (NestedKey × Addr × V)} {k d : D} {a : Addr} {v : V}, RN g ρ H l xs → nkey k = true → RD g ρ H k (.ref a) → RD g ρ H d v → RN g ρ H (l ++ [(k, d)]) (xs ++ [(nkD k, a, v)])
  | [], xs, k, d, a, v, q, nk, r1, r2 => by have q' : xs = [] := q; subst q'; exact ⟨a, v, [], rfl, nk, r1, r2, rfl⟩
  | (k', d') :: l, xs, k, d, a, v, q, nk, r1, r2 => by
    obtain ⟨a', v', r, e, nk', p0, p1, p2⟩ := q
    subst e
    exact ⟨a', v', _, rfl, nk', p0, p1, RN.app p2 nk r1 r2⟩
theorem RN.put : ∀ {l : List (D × D)} {xs : List (NestedKey × Addr × V)} {k : NestedKey} {d : D} {v : V}, RN g ρ H l xs → RD g ρ H d v → RN g ρ H (l.map fun kv => if nkD kv.1 = k then (kv.1, d) else kv) (xs.map fun x => if x.1 = k then (x.1, x.2.1, v) else x)
  | [], xs, k, d, v, q, r => by have q' : xs = [] := q; subst q'; exact q
  | (k', d') :: l, xs, k, d, v, q, r => by
    obtain ⟨a', v', s, e, nk', p0, p1, p2⟩ := q
    subst e
    rw [List.map_cons, List.map_cons]
    by_cases hk : nkD k' = k
    · rw [if_pos hk, if_pos hk]
      exact ⟨a', v, _, rfl, nk', p0, r, RN.put p2 r⟩
    · rw [if_neg hk, if_neg hk]
      exact ⟨a', v', _, rfl, nk', p0, p1, RN.put p2 r⟩
theorem RN.at : ∀ {l : List (D × D)} {xs : List (NestedKey × Addr × V)} {x : NestedKey × Addr × V}, RN g ρ H l xs → x ∈ xs → ∃ k d, (k, d) ∈ l ∧ x.1 = nkD k ∧ nkey k = true ∧ RD g ρ H k (.ref x.2.1)
  | [], xs, x, q, hx => by have q' : xs = [] := q; subst q'; cases hx
  | (k', d') :: l, xs, x, q, hx => by
    obtain ⟨a', v', s, e, nk', p0, p1, p2⟩ := q
    subst e
    rcases List.mem_cons.mp hx with z | z
    · subst z
      exact ⟨k', d', .head _, rfl, nk', p0⟩
    · obtain ⟨k, d, h1, h2⟩ := RN.at p2 z
      exact ⟨k, d, .tail _ h1, h2⟩
end
end ML
namespace PySem
open Sem (wp)
end PySem
namespace PySem
open Sem (wp)
end PySem
namespace L2
open PySem PySem.Spec PyProof.Rows
end L2
namespace L2
open PySem PySem.Spec PyProof.Rows
end L2
namespace ML
open PySem PySem.Spec PyProof.Rows L2
theorem RP.zip {g : Gd} {ρ : List Addr} {H : Hp} : ∀ {ks : List Key} {ys : List D} {vs : List V}, RDs g ρ H ys vs → RP g ρ H (ks.zip ys) (ks.zip vs)
  | [], _, _, _ => rfl
  | k :: ks, [], _, r => by rw [r.invNil]; rfl
  | k :: ks, y :: ys, _, r => by
    obtain ⟨v, vs', e1, r1, r2⟩ := r.inv
    subst e1
    exact ⟨v, _, rfl, r1, RP.zip r2⟩
end ML
namespace PySem
namespace SetS
open PyProof.Rows PySem.Calls L2
def kS (e : Int × Value) : Str := match e.2 with
  | .str k _ => k
  | _ => Str.empty
def Gd1 (prog : Program) (w : World) (e : Int × Value) : Prop := ∃ k tk, e.2 = Value.str k tk ∧ e.1 = (strKind prog w).hash k
structure Row (prog : Program) (w : World) (es : Array (Int × Value)) (ks : List Str) : Prop where
  good : ∀ e ∈ es.toList, Gd1 prog w e
  nd : (es.toList.map kS).Nodup
  mem : ∀ k, k ∈ ks ↔ k ∈ es.toList.map kS
  few : es.size ≤ ks.length
structure Tbl (w : World) (t : SetTable) (n : Nat) : Prop where
  fits : t.fits n = true
  ris : Ris t.place.toList
  led : w.params.followText "set-order" = true ∨ t.led = true
/-- the set of the texts ks at a -/
def Sts (prog : Program) (w : World) (h : Heap) (a : Addr) (ks : List Str) : Prop := ∃ o es ep t, h.get? a = some o ∧ o.ExactSet ∧ o.data = .set es ep t ∧ Row prog w es ks ∧ Tbl w t es.size
section
variable {prog : Program} {w : World} {h h' : Heap} {a : Addr} {ks : List Str} {es es1 : Array (Int × Value)} {k : Str} {tk : Tok}
theorem Sts.at (R : Sts prog w h a ks) (g : ∀ o, h.get? a = some o → h'.get? a = some o) : Sts prog w h' a ks := by
  obtain ⟨o, es, ep, t, e, r⟩ := R
  exact ⟨o, es, ep, t, g o e, r⟩
end
end SetS
end PySem
namespace ML
open PySem PySem.Spec PyProof.Rows L2
theorem strs_rds {g : Gd} {ρ : List Addr} {H : Hp} : ∀ ss : List Str, RDs g ρ H (ss.map D.str) (ss.map V.str)
  | [] => .nil
  | s :: ss => .cons (by unfold RD; rfl) (strs_rds ss)
end ML
namespace L2
open PySem PySem.Spec PyProof.Rows
/-- a try whose body raises nothing -/
theorem ps_tryN {X : Cx} {body : List Stmt} {h₀ : ExceptHandler} {hds : List ExceptHandler} {pos : Pos} {tb : TS} (hs : X.stack = X.env :: X.outer) (hf : X.env.frame = some X.env.locals)
    (hb : ∀ (pn : List (Addr × Obj)) (xe : Value → Shared → Prop), Takes (X.tr pn xe) (fun _ _ _ _ => False) → PassesOwn (model X.prog X.w) X.A X.env xe → PSs (X.tr pn xe) body tb) :
    PS X (.Try body (h₀ :: hds) [] [] pos) tb := by
  refine ⟨fun pins s σ H D I h => ?_⟩
  have ok := I.ok
  refine wpAny_Try_except ?_
  refine wpAny_mono ((hb (X.pn ++ pins) (fun e s₁ => wpAny (model X.prog X.w) X.A (noteFrame e X.env) (fun _ s₂ => wpAny (model X.prog X.w) X.A (setFlight e none) (fun _ s₃ =>
    wpAny (model X.prog X.w) X.A (handleBy e X.env (h₀ :: hds)) (SP X pins D) X.xe s₃) X.xe s₂) X.xe s₁) takes_none5 PassesOwn.looking).run [] s σ H D (I.toTry _) h) (fun f s1 hsp => ?_) (fun e s1 he => he)
  cases f with
  | next =>
    obtain ⟨σ', H', J', q⟩ := hsp
    exact wpAny_execs_nil ⟨σ', H', J'.ofTry ok, q⟩
  | brk =>
    obtain ⟨σ', H', J', q⟩ := hsp
    exact ⟨σ', H', J'.ofTry ok, q⟩
  | cont =>
    obtain ⟨σ', H', J', q⟩ := hsp
    exact ⟨σ', H', J'.ofTry ok, q⟩
  | ret u =>
    obtain ⟨v, σ', H', J', r, q⟩ := hsp
    exact ⟨v, σ', H', J'.ofTry ok, r, q⟩
end L2
namespace ML
open PySem PySem.Spec PyProof.Rows L2
def joinF : D → List D → MH → R D := fun x xs h => match x, xs with
  | .str a, [y] => (match seqOf h y with
    | some (_, l) => (match strsOf l with
      | some ss => if (ss.map (·.length)).sum + ss.length * a.length ≤ 1000000 then .ok (.str (Txt.join a ss)) h else .bad
      | none => .bad)
    | none => .bad)
  | _, _ => .bad
def splitF : D → List D → MH → R D := fun x xs h => match x, xs with
  | .str a, [.str b] => if (b.length == 0) = false ∧ a.length ≤ 1000000 then .ok (.ref h.length) (h ++ [.lst ((Txt.split a b).map .str)]) else .bad
  | _, _ => .bad
def partF : D → List D → MH → R D := fun x xs h => match x, xs with
  | .str a, [.str b] => if (b.length == 0) = false ∧ a.length ≤ 1000000 then .ok (.tup [.str (Txt.partition a b).1, .str (Txt.partition a b).2.1, .str (Txt.partition a b).2.2]) h else .bad
  | _, _ => .bad
def startsF : D → List D → MH → R D := fun x xs h => match x, xs with
  | .str a, [.str b] => .ok (.bl (Txt.startswith a b)) h
  | _, _ => .bad
section
variable {X : Cx}
theorem rf_join : RFm (gd X) joinF (fun x xs H Q => ∃ a p, ∃ ys : List Str, x = .str a ∧ xs = [.ref p] ∧ (SqL X.K H p (ys.map V.str) ∨ SqT X.K H p (ys.map V.str)) ∧ (ys.map (·.length)).sum + ys.length * a.length ≤ 16777216 ∧ Q (.str (Txt.join a ys)) H) := fun Wf Q ρ H h x xs vx vs hh rx rxs p => by
  unfold joinF at p
  split at p
  · rename_i a y
    split at p
    · rename_i k l hl
      split at p
      · rename_i ss hss
        split at p
        · rename_i hz
          obtain ⟨v, e4, r4⟩ := rxs.inv1
          obtain ⟨b, ws, e3, rs, alt⟩ := seq_v hh r4 hl
          rw [strsOf_v rs hss] at alt
          refine ⟨a, b, ss, RD_str rx, by rw [e4, e3], ?_, by omega, p.okk hh .strN⟩
          rcases alt with ⟨_, z⟩ | ⟨_, z⟩
          · exact .inr z
          · exact .inl z
        · exact p.elim
      · exact p.elim
    · exact p.elim
  · exact p.elim
theorem rf_split : RFm (gd X) splitF (fun x xs H Q => ∃ a b, x = .str a ∧ xs = [.str b] ∧ (b.length == 0) = false ∧ a.length + 2 ≤ sizeLine ∧ rNewStrs (Txt.split a b) H Q) := fun Wf Q ρ H h x xs vx vs hh rx rxs p => by
  unfold splitF at p
  split at p
  · rename_i a b
    split at p
    · rename_i c
      obtain ⟨v, e4, r4⟩ := rxs.inv1
      exact ⟨a, b, RD_str rx, by rw [e4, RD_str r4], c.1, by rw [sizeLine_eq]; have := c.2; omega, fun q hq => p.newLst hh hq (strs_rds _)⟩
    · exact p.elim
  · exact p.elim
theorem rf_part : RFm (gd X) partF (fun x xs H Q => ∃ a b, x = .str a ∧ xs = [.str b] ∧ (b.length == 0) = false ∧ a.length ≤ sizeLine ∧
    ∀ p, H p = none → Q (.ref p) (upd H p (.tup [.str (Txt.partition a b).1, .str (Txt.partition a b).2.1, .str (Txt.partition a b).2.2]))) := fun Wf Q ρ H h x xs vx vs hh rx rxs p => by
  unfold partF at p
  split at p
  · rename_i a b
    split at p
    · rename_i c
      obtain ⟨v, e4, r4⟩ := rxs.inv1
      exact ⟨a, b, RD_str rx, by rw [e4, RD_str r4], c.1, big_le c.2, fun q hq => p.newTup hh hq (strs_rds [(Txt.partition a b).1, (Txt.partition a b).2.1, (Txt.partition a b).2.2])⟩
    · exact p.elim
  · exact p.elim
theorem rf_starts : RFm (gd X) startsF (fun x xs H Q => ∃ a b, x = .str a ∧ xs = [.str b] ∧ Q (.bl (Txt.startswith a b)) H) := fun Wf Q ρ H h x xs vx vs hh rx rxs p => by
  unfold startsF at p
  split at p
  · rename_i a b
    obtain ⟨v, e4, r4⟩ := rxs.inv1
    exact ⟨a, b, RD_str rx, by rw [e4, RD_str r4], p.okk hh .blN⟩
  · exact p.elim
end
def fmtF : D → MH → R D := fun x h => match x with
  | .str y => if y.length ≤ 1000000 then .ok (.str y) h else .bad
  | _ => .bad
def jsG : List EM → Str → EM
  | [], acc => fun _ h => .ok (.str acc) h
  | m :: ms, acc => fun e h => (m e h).bind fun x h1 => match x with
    | .str y => if (acc ++ y).length ≤ 1000000 then jsG ms (acc ++ y) e h1 else .bad
    | _ => .bad
def jsE (ms : List EM) : EM := jsG ms Str.empty
section
variable {X : Cx} {W : Wx}
theorem e_fmt {e : Expr} {m : EM} {pos : Pos} (he : PE X e (tE (gd X) W m)) : PE X (.FormattedValue e (-1) none pos) (tE (gd X) W (un fmtF m)) := PE_of (pe_fmt he) fun σ H Q q => by
  refine one q fun ρ e H h x vx s hh rx p => ?_
  unfold fmtF at p
  split at p
  · rename_i y
    split at p
    · rename_i c
      exact .inl ⟨y, RD_str rx, big_le c, p.okk hh .strN⟩
    · exact p.elim
  · exact p.elim
inductive PJM (X : Cx) (W : Wx) : List Expr → List EM → Prop
  | nil : PJM X W [] []
  | cons {e : Expr} {m : EM} {es : List Expr} {ms : List EM} (h : PE X e (tE (gd X) W m)) (r : PJM X W es ms) : PJM X W (e :: es) (m :: ms)
theorem PJM.pj {es : List Expr} {ms : List EM} (h : PJM X W es ms) : PJ X es (ms.map fun m => tE (gd X) W m) := by
  induction h with
  | nil => exact .nil
  | cons h r ih => exact .cons h ih
theorem js_run {Q : VK} : ∀ (ms : List EM) (acc : Str) {σ : L2.St} {H : Hp}, tE (gd X) W (jsG ms acc) σ H Q → tJs (ms.map fun m => tE (gd X) W m) acc σ H fun out H1 => Q (.str out) H1
  | [], acc, σ, H, q => by
    obtain ⟨ρ, e, h, s, hh, p⟩ := q
    exact p.okk hh .strN
  | m :: ms, acc, σ, H, q => by
    refine one q fun ρ e H h x vx s hh rx p => ?_
    split at p
    · rename_i y
      split at p
      · rename_i c
        exact ⟨y, RD_str rx, big_le c, js_run ms (acc ++ y) ⟨ρ, e, h, s, hh, p⟩⟩
      · exact p.elim
    · exact p.elim
theorem e_js {v1 v2 : Expr} {rest : List Expr} {ms : List EM} {pos : Pos} (h : PJM X W (v1 :: v2 :: rest) ms) : PE X (.JoinedStr (v1 :: v2 :: rest) pos) (tE (gd X) W (jsE ms)) := PE_of (pe_joined h.pj) fun σ H Q q => js_run ms Str.empty q
end
section
variable {X : Cx} {W : Wx}
theorem e_gdef {x : Str} {f : Addr} {pos : Pos} (hg : Gl X x) (hm : X.mg x = some (.ref f)) (hd : (x == ("__debug__" : Str)) = false := by decide) : PE X (.Name x pos) (tE (gd X) W (conE (.glb x))) :=
  e_con (pe_glob (v := .ref f) hg hm rfl hd) fun ρ H => by unfold RD; exact ⟨f, hm, rfl⟩
theorem e_gdefC {x : Str} {k : Nat} {m : FM} {pos : Pos} (C : Cal X.prog X.w X.K X.mg X.base x k m) (hg : Gl X x) (hd : (x == ("__debug__" : Str)) = false := by decide) : PE X (.Name x pos) (tE (gd X) W (conE (.glb x))) := by
  obtain ⟨f, fd, ps, mgf, _⟩ := C.ex
  exact e_gdef hg mgf hd
theorem Cal.up {P : Program} {w : World} {K : PySem.W.Frag} {mg : Str → Option Value} {base : Heap} {x : Str} {j k : Nat} {m : FM} (C : Cal P w K mg base x j m) (h : j ≤ k) : Cal P w K mg base x k m := by
  obtain ⟨f, fd, ps, a, b, c, G, n⟩ := C.ex
  exact ⟨f, fd, ps, a, b, c, G.mono h, n⟩
/-- the defs that the i-th name may hold -/
def callV (tab : List (Str × FM)) (i : Nat) (as : AM) : EM := fun e h => match e[i]? with
  | some (some (.glb x)) => (match tab.lookup x with
    | some m => (as e h).bind fun xs h1 => m xs h1
    | none => .bad)
  | _ => .bad
inductive TabC (P : Program) (w : World) (K : PySem.W.Frag) (mg : Str → Option Value) (base : Heap) (k : Nat) : List (Str × FM) → Prop
  | nil : TabC P w K mg base k []
  | cons {x : Str} {m : FM} {l : List (Str × FM)} (C : Cal P w K mg base x k m) (r : TabC P w K mg base k l) : TabC P w K mg base k ((x, m) :: l)
theorem TabC.at {P : Program} {w : World} {K : PySem.W.Frag} {mg : Str → Option Value} {base : Heap} {k : Nat} {l : List (Str × FM)} (t : TabC P w K mg base k l) {x : Str} {m : FM} (e : l.lookup x = some m) : Cal P w K mg base x k m := by
  induction t with
  | nil => cases e
  | @cons y m2 l C r ih =>
    rw [List.lookup_cons] at e
    split at e
    · rename_i q
      cases e
      have : x = y := by simpa using q
      rw [this]
      exact C
    · exact ih e
theorem e_callV {E : XK} {tab : List (Str × FM)} {k i : Nat} {x : Str} {p pos : Pos} {e : Expr} {es : List Expr} {mas : AM} (T : TabC X.prog X.w X.K X.mg X.base k tab) (hr : Room k X.A) (tk : Takes X (fun cls d _ H => E cls d H)) (hN : X.N[i]? = some x) (hv : Vis X.env.scope x) (ha : PA X (e :: es) (tA (gd X) (pl fun cls d _ H => E cls d H) mas))
    (hdb : (x == ("__debug__" : Str)) = false := by decide) (hcd : (x == ("__classdict__" : Str)) = false := by decide)
    (he : starEach (e :: es) X.env = (false, eval e X.env) :: starEach es X.env := by rfl) (hpl : (backTo pos (starEach es X.env)).any (·.1) = false := by rfl) : PE X (.Call (.Name x p) (e :: es) [] pos) (tE (gd X) (pl fun cls d _ H => E cls d H) (callV tab i mas)) := by
  refine ⟨fun pins s σ H Q I q => ?_⟩
  obtain ⟨ρ, e0, h, rx, hh, pp⟩ := q
  unfold callV at pp
  split at pp
  · rename_i y hy
    split at pp
    · rename_i m hm
      obtain ⟨f, fd, ps, mgf, kp, b, G, hn⟩ := (T.at hm).ex
      obtain ⟨v, e1, r1⟩ := rx.s.get i _ hy
      have ev : v = .ref f := by
        unfold RD at r1
        obtain ⟨a, e2, e3⟩ := r1
        have e2 : X.mg y = some (.ref a) := e2
        rw [mgf] at e2
        injection e2 with e2
        injection e2 with e2
        rw [e3, e2]
      rw [ev] at e1
      refine (pe_callL (i := i) (f := f) (sp := spM (gd X) ps.length m) (dvs := []) (E := E) G hr hN hv kp b .nil (passes_call tk fun _ _ _ _ q => q) ha hdb hcd he hpl).run pins s σ H Q I ⟨e1, ?_⟩
      refine one (f := fun _ xs h1 => m xs h1) ⟨ρ, e0, h, rx, hh, pp⟩ fun ρ e H h xs vs s hh rx p => ?_
      rw [List.append_nil]
      refine ⟨?_, ρ, xs, h, rx, hh, p⟩
      by_cases hl : xs.length = ps.length
      · rw [← rx.length]; exact hl
      · rw [hn xs h hl] at p
        exact p.elim
    · exact pp.elim
  · exact pp.elim
end
def tryN (b : SM) : SM := fun e h => match b e h with
  | .exc _ _ _ _ => .bad
  | r => r
section
variable {X : Cx} {Wout : WX} {body : List Stmt} {mb : SM} {pos : Pos}
theorem s_tryN {h₀ : ExceptHandler} {hds : List ExceptHandler}
    (hb : ∀ (W : WX) (pn : List (Addr × Obj)) (xe : Value → Shared → Prop), Takes (X.tr pn xe) W → PassesOwn (model X.prog X.w) X.A X.env xe → PSs (X.tr pn xe) body (tS (gd X) W mb)) (hs : X.stack = X.env :: X.outer := by rfl) (hf : X.env.frame = some X.env.locals := by rfl) : PS X (.Try body (h₀ :: hds) [] [] pos) (tS (gd X) Wout (tryN mb)) :=
  PS_of (ps_tryN hs hf fun pn xe tk px => hb _ pn xe tk px) fun N σ H q => by
    obtain ⟨ρ, e, h, s, hh', p⟩ := q
    refine ⟨ρ, e, h, s, hh', ?_⟩
    unfold tryN at p
    revert p
    generalize mb e h = r
    intro p
    cases r with
    | nx e1 h1 => exact p
    | rt d h1 => exact p
    | bk e1 h1 => exact p
    | ct e1 h1 => exact p
    | bad => exact p.elim
    | exc c fs e1 h1 => exact p.elim
end
end ML
namespace L2
open PySem PySem.Spec PyProof.Rows
theorem tuple_mul1 (l : Addr) (items : Array Value) (n : Nat) (dd : Option Addr) (sl : Array (Option Value)) (u : Tok) :
    Meets (Builtin.«tuple.__mul__» ⟨[.ref l, .int 1 u], []⟩) (fun _ R s => s.heap.get? l = some { cls := .type "tuple", dict := dd, data := .seq items n, slots := sl } ∧ R (.ok (.ret (Value.ref l))) s) :=
  .of_wp fun prog w A R s h => by
    obtain ⟨hp, g, d, tk, os⟩ := s
    obtain ⟨hl, h⟩ := h
    have f1 := AutoSeq1.idx_int
    have c1 : (items.isEmpty || (1 : Int) == 1) = true := by simp
    wp_walk using wpAny_loadPart' hl
    repeat (first
      | (refine wpAny_ite_true (by first | decide | exact c1 | (rw [c1])) ?_; wp_walk using wpAny_loadPart' hl)
      | (refine wpAny_ite_false (by first | decide | (rw [c1]; decide)) ?_; wp_walk using wpAny_loadPart' hl))
    exact ⟨_, rfl, h⟩
theorem tuple_mul0 (l : Addr) (items : Array Value) (n : Nat) (dd : Option Addr) (sl : Array (Option Value)) (u : Tok) (hi : items.isEmpty = false) :
    Meets (Builtin.«tuple.__mul__» ⟨[.ref l, .int 0 u], []⟩) (fun _ R s => s.heap.get? l = some { cls := .type "tuple", dict := dd, data := .seq items n, slots := sl } ∧
      R (.ok (.ret (Value.ref s.heap.objs.size))) { s with heap := s.heap.push { cls := Value.type "tuple", data := Data.seq #[] }, toks := s.toks }) :=
  .of_wp fun prog w A R s h => by
    obtain ⟨hp, g, d, tk, os⟩ := s
    obtain ⟨hl, h⟩ := h
    have f1 := AutoSeq1.idx_int
    have c1 : (items.isEmpty || (0 : Int) == 1) = false := by rw [hi]; rfl
    wp_walk using wpAny_loadPart' hl
    repeat (first
      | (refine wpAny_ite_false (decide_eq_false (by rw [c1]; exact Bool.false_ne_true)) ?_; wp_walk using wpAny_loadPart' hl)
      | (refine wpAny_ite_false (by decide) ?_; wp_walk using wpAny_loadPart' hl)
      | (refine wpAny_ite_true (by decide) ?_; wp_walk using wpAny_loadPart' hl))
    exact ⟨_, rfl, h⟩
end L2
namespace L2
open PySem PySem.Spec PyProof.Rows
def rRep01 (K : PySem.W.Frag) : R2 := fun x y H Q => ∃ l k xs, x = .ref l ∧ y = .int k ∧ SqT K H l xs ∧ xs ≠ [] ∧ ((k = 1 ∧ Q (.ref l) H) ∨ (k = 0 ∧ ∀ p, H p = none → Q (.ref p) (upd H p (.tup []))))
section
variable {X : Cx}
theorem op_rep01 : OpR X (binaryOp .Mult) (rRep01 X.K) := by
  intro pins s σ H x y v u Q I rx ry h
  obtain ⟨l, k, xs, rfl, rfl, hT, hne, q⟩ := h
  cases rx
  obtain ⟨t, rfl⟩ := ry
  obtain ⟨its, r, ⟨⟨cls, dd, data, sl⟩, ho, hc, n, hd⟩, hs⟩ := I.tuple hT
  simp only at hc hd
  subst hc hd
  have hle : its.length = xs.length := r.length.symm
  have hi : its.toArray.isEmpty = false := by
    cases its with
    | nil => exact absurd (List.eq_nil_of_length_eq_zero hle.symm) hne
    | cons a b => rfl
  rcases q with ⟨rfl, q⟩ | ⟨rfl, q⟩
  · exact wpAny_binaryOp_repeat_ref (T := "tuple") (U := "int") (by decide) ⟨_, ho, rfl⟩ (fun s' => typeIs_int s' 1 t) noFill_tuple_mul F.fills_int_mul F.slot_int_rmul repeat_tuple F.slot_int_index.lookup
      (call_meets F.slot_int_rmul (typeIs_int s 1 t) F.entry_int_rmul (F.args_int_rmul_2 _ _) (int_rmul_tuple 1 t l its.toArray n dd sl)
        ⟨ho, rfl, ⟨_, ho, rfl⟩, call_meets F.slot_tuple_mul ⟨_, ho, rfl⟩ F.entry_tuple_mul (F.args_tuple_mul_2 _ _) (tuple_mul1 l its.toArray n dd sl t) ⟨ho, ⟨.ref l, H, I, rfl, q⟩⟩⟩)
  · exact wpAny_binaryOp_repeat_ref (T := "tuple") (U := "int") (by decide) ⟨_, ho, rfl⟩ (fun s' => typeIs_int s' 0 t) noFill_tuple_mul F.fills_int_mul F.slot_int_rmul repeat_tuple F.slot_int_index.lookup
      (call_meets F.slot_int_rmul (typeIs_int s 0 t) F.entry_int_rmul (F.args_int_rmul_2 _ _) (int_rmul_tuple 0 t l its.toArray n dd sl)
        ⟨ho, rfl, ⟨_, ho, rfl⟩, call_meets F.slot_tuple_mul ⟨_, ho, rfl⟩ F.entry_tuple_mul (F.args_tuple_mul_2 _ _) (tuple_mul0 l its.toArray n dd sl t hi) ⟨ho, ⟨.ref s.heap.objs.size, _, I.laid (t' := s.toks) (o := .tup []) (fun b ob q => Heap.get?_push_of_some _ q) (Nat.le_refl _) ⟨Nat.zero_le _, [], .nil, IsTup.new _ _⟩, rfl, q _ (I.hok.fresh (Nat.le_refl _))⟩⟩⟩)
end
end L2
namespace ML
open PySem PySem.Spec PyProof.Rows L2
def mul01F : D → D → MH → R D := fun x y h => match x, y with
  | .tup l, .int k => if l ≠ [] then (if k = 1 then .ok (.tup l) h else if k = 0 then .ok (.tup []) h else .bad) else .bad
  | _, _ => .bad
section
variable {X : Cx}
theorem rf_mul01 : RF2 (gd X) mul01F (rRep01 X.K) := fun Wf Q ρ H h x y vx vy hh rx ry p => by
  unfold mul01F at p
  split at p
  · rename_i l k
    split at p
    · rename_i hn
      obtain ⟨a, vs, e1, sq, rs⟩ := RD_tup rx
      have nv : vs ≠ [] := fun e => hn (by
        have := rs.length
        rw [e] at this
        exact List.eq_nil_of_length_eq_zero this)
      refine ⟨a, k, vs, e1, RD_int ry, sq, nv, ?_⟩
      split at p
      · rename_i c
        exact .inl ⟨c, p.okk hh (e1 ▸ rx)⟩
      · split at p
        · rename_i c
          exact .inr ⟨c, fun q hq => p.newTup hh hq .nil⟩
        · exact p.elim
    · exact p.elim
  · exact p.elim
end
end ML
namespace L2
open PySem PySem.Spec PyProof.Rows
section
variable {X : Cx} {CX : CXT} {k : Nat} {f : Addr} {fd : FuncData} {ps ks : List Str} {sp : Sp} {E : XK} {x : Str} {p pos : Pos} {kws : List Keyword} {tk : TA} {g : List Value → List Value → List Value} {gV : List V → List V → List V}
/-- f(k = v, ..) -/
theorem pe_callK0 (F : FnOk X.prog X.w X.K X.mg X.base CX k f fd ps sp) (hr : Room k X.A) (hg : Gl X x) (hm : X.mg x = some (.ref f)) (hk : PySem.W.keepIn X.K (.ref f) = true) (hb : KBinds X.K fd ps ks g gV) (hx : Passes CX X E)
    (hkw : PK X kws tk) (hall : (backToKw pos (keywordEach kws X.env)).all (·.1.isSome) = true := by rfl) (hks : (backToKw pos (keywordEach kws X.env)).filterMap (·.1) = ks := by rfl)
    (hdb : (x == ("__debug__" : Str)) = false := by decide)
    (hpl : ((backTo pos (starEach [] X.env)).any (·.1) || (backToKw pos (keywordEach kws X.env)).any (·.1.isNone)) = false := by rfl) :
    PE X (.Call (.Name x p) [] kws pos) (tCallK sp gV E tNil tk) := by
  refine ⟨fun pins s σ H Q I h => ?_⟩
  refine wpAny_Call_Name_kw (ld_glob I hg hm ?_ hdb)
  refine PySem.W.callWith_KW0 (h₀ := X.base) I.ok.mod.kin hk hall ?_ hpl
  refine thn (hkw.run pos pins s σ H _ I h) fun ws s2 ⟨zs, H2, I2, rz, q2⟩ => ⟨I2.kIn, ?_⟩
  rw [hks]
  exact run_fnk F hr hb hx I2 .nil rz q2
end
end L2
namespace ML
open PySem PySem.Spec PyProof.Rows L2
section
variable {X : Cx} {E : XK} {mks : AM} {kws : List Keyword} {pos p : Pos} {x : Str} {k : Nat} {ks : List Str} {m : FM}
theorem e_callK0 (F : CalK X.prog X.w X.K X.mg X.base x 0 ks k m) (hr : Room k X.A) (tk : Takes X (fun cls d _ H => E cls d H)) (hg : Gl X x) (hkw : PK X kws (tA (gd X) (pl fun cls d _ H => E cls d H) mks))
    (hall : (backToKw pos (keywordEach kws X.env)).all (·.1.isSome) = true := by rfl) (hks : (backToKw pos (keywordEach kws X.env)).filterMap (·.1) = ks := by rfl)
    (hdb : (x == ("__debug__" : Str)) = false := by decide)
    (hpl : ((backTo pos (starEach [] X.env)).any (·.1) || (backToKw pos (keywordEach kws X.env)).any (·.1.isNone)) = false := by rfl) :
    PE X (.Call (.Name x p) [] kws pos) (tE (gd X) (pl fun cls d _ H => E cls d H) (onK 0 ks.length m nilA mks)) := by
  obtain ⟨f, fd, ps, mgf, kp, hb, G, hl, hn⟩ := F.ex
  refine PE_of (pe_callK0 G hr hg mgf kp hb (passes_call tk fun _ _ _ _ q => q) hkw hall hks hdb hpl) fun σ H Q q => ?_
  obtain ⟨ρ, e, h, s, hh, p⟩ := q
  have p' := (show Post _ _ _ _ _ ((mks e h).bind fun ys h2 => if ([] : List D).length = 0 ∧ ys.length = ks.length then m ([] ++ ys) h2 else .bad) _ from p)
  refine ⟨ρ, e, h, s, hh, p'.bind.mono fun zs H1 q1 => ?_⟩
  obtain ⟨ρ1, ys, h1, l1, hh1, ry, p1⟩ := q1
  split at p1
  · rename_i c
    unfold gCut
    rw [if_pos ⟨rfl, by rw [← ry.length]; exact c.2⟩]
    refine ⟨?_, ρ1, [] ++ ys, h1, ry, hh1, p1⟩
    show zs.length = ps.length
    rw [← ry.length, c.2, hl, Nat.zero_add]
  · exact p1.elim
end
end ML
namespace ML
open PySem PySem.Spec PyProof.Rows L2
structure FnM where
  adr : PySem.W.Frag → Addr
  name : Str
  qual : Str
  st : Stmt
def FnM.obs (K : PySem.W.Frag) (d : FnM) : He.FnV := match K.lookup (d.adr K) with
  | some ⟨_, _, .func fd, _⟩ => some (fd.name, fd.qualname, fd.params, fd.body, fd.scope, fd.globals, fd.closure, fd.defaults, fd.builtins)
  | _ => none
def FnM.val (d : FnM) : He.FnV := some (d.name, d.qual, defArgs d.st, .stmts (defBody d.st), defScope d.st, mainGlobals, [], .none, builtinsNs)
def FnM.ok (K : PySem.W.Frag) (d : FnM) : Bool := match K.lookup (d.adr K) with
  | some ⟨_, _, .func fd, _⟩ => PySem.W.codeIn K fd.code d.qual && PySem.W.keepIn K (.ref (d.adr K))
  | _ => false
theorem FnM.fun_ {K : PySem.W.Frag} {d : FnM} (e : d.obs K = d.val) (c : d.ok K = true) : ∃ fd, Fun K d.name d.qual d.st (d.adr K) fd := by
  unfold FnM.ok at c
  unfold FnM.obs FnM.val at e
  cases q : K.lookup (d.adr K) with
  | none =>
    rw [q] at c
    cases c
  | some o =>
    obtain ⟨oc, od, dt, osl⟩ := o
    rw [q] at c e
    cases dt with
    | func fd =>
      obtain ⟨n1, n2, n3, n4, n5, n6, n7, n8, n9, n10, n11, n12, n13, n14, n15⟩ := fd
      obtain ⟨adr, name, qual, st⟩ := d
      have e2 : (some (n1, n2, n3, n4, n5, n6, n7, n8, n15) : He.FnV) = some (name, qual, defArgs st, .stmts (defBody st), defScope st, mainGlobals, [], .none, builtinsNs) := e
      simp only [Option.some.injEq, Prod.mk.injEq] at e2
      obtain ⟨h1, h2, h3, h4, h5, h6, h7, h8, h9⟩ := e2
      subst h1 h2 h3 h4 h5 h6 h7 h8 h9
      obtain ⟨c1, c2⟩ := He.ba c
      exact fun_ex q c1 c2
    | _ => cases c
def xcoB (K : PySem.W.Frag) (C : Addr) : Bool := match K.lookup C with
  | some ⟨.type "type", _, .cls cd, sl⟩ => (match cd.mro, sl.toList with
    | .ref C' :: bm, [_, _, _, _, some (.builtin n), _] => C' == C && (n == "ValueError.__new__" && (!cd.hasDel && (cd.hasDict && PySem.HandSPX.refsVE bm)))
    | _, _ => false)
  | _ => false
theorem xco_of {K : PySem.W.Frag} {C : Addr} (q : xcoB K C = true) : XcO K C := by
  unfold xcoB at q
  split at q
  · rename_i dd cd sl ho
    split at q
    · rename_i C' bm k0 k1 k2 k3 n k5 hm hs
      simp only [Bool.and_eq_true, beq_iff_eq, Bool.not_eq_true'] at q
      obtain ⟨rfl, rfl, hdel, hdct, hr⟩ := q
      obtain ⟨nm, bs, mro, ns, qn, hd, sn, sub, ab, col, del⟩ := cd
      dsimp only at hm hdel hdct
      subst hm hdel hdct
      have hsl : sl = #[k0, k1, k2, k3, some (.builtin "ValueError.__new__"), k5] := by
        obtain ⟨l⟩ := sl
        simp only at hs
        rw [hs]
      subst hsl
      exact ⟨nm, qn, ns, bs, bm, sn, sub, ab, col, dd, k0, k1, k2, k3, k5, ho, hr⟩
    · cases q
  · cases q
def tokI (K : PySem.W.Frag) (x : Str) : Tok := match PySem.W.nsIn K mainGlobals x with
  | some (some (.int _ t)) => t
  | _ => 0
def tokS (K : PySem.W.Frag) (x : Str) : Tok := match PySem.W.nsIn K mainGlobals x with
  | some (some (.str _ t)) => t
  | _ => 0
def intB (K : PySem.W.Frag) (x : Str) (i : Int) : Bool := match PySem.W.nsIn K mainGlobals x with
  | some (some (.int j _)) => decide (j = i)
  | _ => false
def strB (K : PySem.W.Frag) (x z : Str) : Bool := match PySem.W.nsIn K mainGlobals x with
  | some (some (.str y _)) => decide (y = z)
  | _ => false
theorem int_of {K : PySem.W.Frag} {x : Str} {i : Int} (q : intB K x i = true) : PySem.W.nsIn K mainGlobals x = some (some (.int i (tokI K x))) := by
  unfold intB at q
  unfold tokI
  split at q
  · rename_i j t h
    rw [h, of_decide_eq_true q]
  · cases q
theorem str_of {K : PySem.W.Frag} {x z : Str} (q : strB K x z = true) : PySem.W.nsIn K mainGlobals x = some (some (.str z (tokS K x))) := by
  unfold strB at q
  unfold tokS
  split at q
  · rename_i j t h
    rw [h, of_decide_eq_true q]
  · cases q
def frN {α : Type} (n : Nat) (k : Nat → α) : α := match n with
  | 0 => k 0
  | m + 1 => k (m + 1)
theorem frN_eq {α : Type} (n : Nat) (k : Nat → α) : frN n k = k n := by cases n <;> rfl
def frAs {α : Type} : List Addr → (List Addr → α) → α
  | [], k => k []
  | a :: r, k => frN a fun a => frAs r fun r => k (a :: r)
theorem frAs_eq {α : Type} : ∀ (l : List Addr) (k : List Addr → α), frAs l k = k l
  | [], _ => rfl
  | a :: r, k => by
    show (frN a fun a => frAs r fun r => k (a :: r)) = _
    rw [frN_eq, frAs_eq r]
def frEs {α β : Type} : List β → (List β → α) → α
  | [], k => k []
  | a :: r, k => frEs r fun r => k (a :: r)
theorem frEs_eq {α β : Type} : ∀ (l : List β) (k : List β → α), frEs l k = k l
  | [], _ => rfl
  | a :: r, k => by
    show (frEs r fun r => k (a :: r)) = _
    rw [frEs_eq r]
def frO {α : Type} (o : Obj) (k : Obj → α) : α := match o with
  | ⟨c, d, .cls ⟨nm, bs, mro, ns, qn, hd, sn, sub, ab, col, del⟩, sl⟩ => frN ns fun ns => frEs mro fun mro => k ⟨c, d, .cls ⟨nm, bs, mro, ns, qn, hd, sn, sub, ab, col, del⟩, sl⟩
  | ⟨c, d, .func ⟨n1, n2, n3, n4, n5, n6, n7, n8, n9, n10, n11, n12, n13, n14, n15⟩, sl⟩ => k ⟨c, d, .func ⟨n1, n2, n3, n4, n5, n6, n7, n8, n9, n10, n11, n12, n13, n14, n15⟩, sl⟩
  | ⟨c, d, .dict ⟨es⟩ n, sl⟩ => frEs es fun es => k ⟨c, d, .dict ⟨es⟩ n, sl⟩
  | ⟨c, d, .seq ⟨es⟩ n, sl⟩ => frEs es fun es => k ⟨c, d, .seq ⟨es⟩ n, sl⟩
  | ⟨c, d, .fields ⟨es⟩, sl⟩ => frEs es fun es => k ⟨c, d, .fields ⟨es⟩, sl⟩
  | o => k o
theorem frO_eq {α : Type} (o : Obj) (k : Obj → α) : frO o k = k o := by
  unfold frO
  split
  · rw [frN_eq, frEs_eq]
  · rfl
  · rw [frEs_eq]
  · rw [frEs_eq]
  · rw [frEs_eq]
  · rfl
/-- the objects at these addresses -/
def frK {α : Type} (g : Addr → Option Obj) : List Addr → (PySem.W.Frag → α) → α
  | [], k => k []
  | a :: r, k => match g a with
    | some o => frO o fun o => frK g r fun r => k ((a, o) :: r)
    | none => frK g r k
theorem frK_eq {α : Type} (g : Addr → Option Obj) : ∀ (l : List Addr) (k : PySem.W.Frag → α), frK g l k = k (He.frG g l)
  | [], _ => rfl
  | a :: r, k => by
    unfold frK He.frG
    cases q : g a with
    | none =>
      dsimp only
      rw [frK_eq g r, List.filterMap_cons, q]
      rfl
    | some o =>
      dsimp only
      rw [frO_eq, frK_eq g r, List.filterMap_cons, q]
      rfl
def refsR (o : Obj) : List Addr := match o with
  | ⟨_, _, .func fd, _⟩ => He.refV fd.code ++ He.refV fd.kwdefaults
  | ⟨_, _, .cls cd, _⟩ => [cd.ns]
  | ⟨_, _, .dict es _, _⟩ => es.toList.flatMap fun e => He.refV e.val
  | ⟨.type "property", _, .fields vs, _⟩ => vs.toList.flatMap He.refV
  | _ => []
def nextR (g : Addr → Option Obj) (as : List Addr) : List Addr := as.flatMap fun a => match g a with
  | some o => refsR o
  | none => []
def glA (es : List DictEntry) (x : Str) : List Addr := match es.find? (·.key.isStr x) with
  | some e => He.refV e.val
  | none => []
def glE {α : Type} (g : Addr → Option Obj) (k : List DictEntry → α) : α := match g mainGlobals with
  | some ⟨_, _, .dict ⟨es⟩ _, _⟩ => frEs es k
  | _ => k []
/-- they, what they name, and so on, four times -/
def asM {α : Type} (g : Addr → Option Obj) (xs : List Str) (k : List Addr → α) : α := glE g fun es =>
  frAs (xs.flatMap (glA es)) fun a0 => frAs (nextR g a0) fun a1 => frAs (nextR g a1) fun a2 => frAs (nextR g a2) fun a3 => frAs (nextR g a3) fun a4 => k (mainGlobals :: (a0 ++ (a1 ++ (a2 ++ (a3 ++ a4)))))
theorem asM_eq {α : Type} (g : Addr → Option Obj) (xs : List Str) (k : List Addr → α) : ∃ as, asM g xs k = k as := by
  unfold asM glE
  simp only [frEs_eq, frAs_eq]
  split
  · exact ⟨_, rfl⟩
  · exact ⟨_, rfl⟩
abbrev AlM : Type := Bool × List He.FnV
def obsM (chk : PySem.W.Frag → List Bool) (fn : List FnM) (K : PySem.W.Frag) : AlM := (((chk K).all fun b => b) && fn.all fun d => d.ok K, fn.map fun d => d.obs K)
def valM (fn : List FnM) : AlM := (true, fn.map FnM.val)
def SaysM (chk : PySem.W.Frag → List Bool) (fn : List FnM) (K : PySem.W.Frag) : Prop := obsM chk fn K = valM fn
def runM (xs : List Str) (chk : PySem.W.Frag → List Bool) (fn : List FnM) (g : Addr → Option Obj) : AlM := asM g xs fun as => frK g as fun K => obsM chk fn K
theorem runM_eq {xs : List Str} {chk : PySem.W.Frag → List Bool} {fn : List FnM} {g : Addr → Option Obj} : ∃ as, runM xs chk fn g = obsM chk fn (He.frG g as) := by
  unfold runM
  obtain ⟨as, e⟩ := asM_eq g xs fun as => frK g as fun K => obsM chk fn K
  exact ⟨as, by rw [e, frK_eq]⟩
def hookM (xs : List Str) (chk : PySem.W.Frag → List Bool) (fn : List FnM) : PySem.W.Hook where
  α := AlM
  obs := fun s => runM xs chk fn s.heap.get?
  val := fun _ => valM fn
  says := fun _ h => ∃ K : PySem.W.Frag, K.In h ∧ SaysM chk fn K
  of := fun _ s e => by
    obtain ⟨as, e2⟩ := runM_eq (xs := xs) (chk := chk) (fn := fn) (g := s.heap.get?)
    exact ⟨_, He.frG_in (as := as), e2.symm.trans e⟩
  keeps := fun _ _ _ ⟨K, hK, c⟩ k => ⟨K, PySem.W.Frag.In.keeps hK k, c⟩
def obM (xs : List Str) (chk : PySem.W.Frag → List Bool) (fn : List FnM) (s : PySem.W.SharedT) : AlM := runM xs chk fn (HandSHeadRun.getT s)
theorem obM_eq {xs : List Str} {chk : PySem.W.Frag → List Bool} {fn : List FnM} (s : PySem.W.SharedT) : obM xs chk fn s = (hookM xs chk fn).obs s.abs := by
  have e : HandSHeadRun.getT s = s.abs.heap.get? := funext (HandSHeadRun.getT_eq s)
  unfold obM
  rw [e]
  rfl
section
variable {chk : PySem.W.Frag → List Bool} {fn : List FnM} {K : PySem.W.Frag}
theorem SaysM.fact (c : SaysM chk fn K) (i : Nat) {b : Bool} (h : (chk K)[i]? = some b := by rfl) : b = true := by
  have c1 := (He.ba (show (((chk K).all fun b => b) && fn.all fun d => d.ok K) = true from congrArg (fun z : AlM => z.1) c)).1
  exact List.all_eq_true.mp c1 b (List.mem_of_getElem? h)
theorem SaysM.def_ (c : SaysM chk fn K) (i : Nat) {d : FnM} (h : fn[i]? = some d := by rfl) : ∃ fd, Fun K d.name d.qual d.st (d.adr K) fd := by
  have c2 := (He.ba (show (((chk K).all fun b => b) && fn.all fun d => d.ok K) = true from congrArg (fun z : AlM => z.1) c)).2
  have e : fn.map (fun d => d.obs K) = fn.map FnM.val := congrArg (fun z : AlM => z.2) c
  have e2 : (fn.map fun d => d.obs K)[i]? = (fn.map FnM.val)[i]? := by rw [e]
  rw [List.getElem?_map, List.getElem?_map, h] at e2
  exact FnM.fun_ (Option.some.inj e2) (List.all_eq_true.mp c2 d (List.mem_of_getElem? h))
end
theorem eq_of {a b : Option (Option Value)} (h : He.eqO a b = true) : a = b := He.eqO_ok h
theorem walkE {l : PySem.W.OpenLaw} {q : Program} {loose : List Str} {XP : (Str → Option Value) → Heap → Prop} {YP : World → Heap → Prop} {d : DefRec} {Z : PySem.W.Frag → Prop} (hn : l.most = some 63) (hdf : d.params.defaults = []) (hY : ∀ (w : World) (h : Heap), YP w h → ∃ K : PySem.W.Frag, K.In h ∧ Z K)
    (F : ∀ (w : World) (K : PySem.W.Frag) (mg : Str → Option Value) (fa : Addr) (h : Heap), K.In h → Z K → h.Ns mainGlobals mg → mg d.name = some (.ref fa) →
      ∀ (base : Heap) (s : Shared) (H : Hp) (a : Addr) (ns : List Int), ns.length ≤ 63 → (∀ z ∈ ns, Builtin.Int.intBits z ≤ 1048576) → Env0 l.prog w K mg base callerA [] s H → RdL K H a (ns.map V.int) →
        codeAny (model l.prog w) callerA (.call (.ref fa) ⟨[.ref a], []⟩) (CR (L2.CX l.prog w) [] l.prog w H s (fun v _ => v = .bl true) fun _ _ _ => False) s) :
    PySem.W.WalkO q loose XP YP l.row.toRowW d [] (fun f vs => PySem.call f vs) := by
  refine Att.attach_callB hn hdf fun w s₀ s₁ mg mb fa o pm cd doc a vs ns G Y ho hd hcd hmg hobj hints hlen hbits hg => ?_
  obtain ⟨K, KX, z⟩ := hY w _ Y
  exact law_top KX G.T.g G.T.b G.T.builtins G.T.nolimit hg hobj hints (Nat.le_trans hlen (by decide)) fun base H e0 hS => F w K mg fa _ KX z G.T.g hmg base s₁ H a ns hlen hbits e0 hS
end ML
namespace ML
open PySem PySem.Spec PyProof.Rows L2
def top (i : Nat) : Stmt := PySem.Challenge.pw_stillmine_k80_texts_of_rules.main.body.getD i (.Pass ⟨0, 0, 0, 0⟩)
abbrev s_is_name : Stmt := top 14
abbrev s_need_registers : Stmt := top 15
abbrev s_is_one_of : Stmt := top 16
abbrev s_is_test : Stmt := top 17
abbrev s_is_step : Stmt := top 18
abbrev s_are_steps : Stmt := top 19
abbrev s_is_line : Stmt := top 20
abbrev s_Rule_init : Stmt := inClass (top 21) 0
abbrev s_Rule_registers : Stmt := inClass (top 21) 1
abbrev s_Rule_lines : Stmt := inClass (top 21) 2
abbrev s_Rule_eq : Stmt := inClass (top 21) 6
abbrev s_test_text : Stmt := top 24
abbrev s_steps_text : Stmt := top 25
abbrev s_line_text : Stmt := top 26
abbrev s_rule_text : Stmt := top 27
abbrev s_read_test : Stmt := top 28
abbrev s_read_step : Stmt := top 29
abbrev s_read_parts : Stmt := top 30
abbrev s_read_steps : Stmt := top 31
abbrev s_read_line : Stmt := top 32
abbrev s_rule_of : Stmt := top 33
abbrev s_read_rule : Stmt := top 34
abbrev s_law_source : Stmt := top 36
abbrev s_law_draw : Stmt := top 37
abbrev s_law_pick : Stmt := top 38
abbrev s_law_mixed : Stmt := top 39
abbrev s_law_steps : Stmt := top 40
abbrev s_law_tests : Stmt := top 41
abbrev s_law_good : Stmt := top 42
abbrev s_law_noted_as : Stmt := top 43
abbrev s_law_plan : Stmt := top 44
abbrev s_law_rule : Stmt := top 45
abbrev s_law_written : Stmt := top 46
abbrev s_law_lines : Stmt := top 47
abbrev s_law_great : Stmt := top 48
abbrev s_law : Stmt := top 49
abbrev hR : PySem.W.OpenRow := PySem.W.OpenLaw.row PySem.Challenge.rw_stillmine_k80_texts_of_rules
abbrev hV : Program := PySem.W.view hR.prog [49]
def hn0 : List Str := [Str.ofString "_wall", Str.ofString "UpgradeError", Str.ofString "BadRegisters", Str.ofString "BadLines", Str.ofString "BadLine", Str.ofString "BadText", Str.ofString "LETTERS", Str.ofString "BARRED", Str.ofString "MOST_REGISTERS", Str.ofString "MOST_LINES", Str.ofString "MOST_TESTS", Str.ofString "MOST_STEPS", Str.ofString "is_name", Str.ofString "need_registers", Str.ofString "is_one_of", Str.ofString "is_test", Str.ofString "is_step", Str.ofString "are_steps", Str.ofString "is_line", Str.ofString "Rule", Str.ofString "NOTHING", Str.ofString "test_text", Str.ofString "steps_text", Str.ofString "line_text", Str.ofString "rule_text", Str.ofString "read_test", Str.ofString "read_step", Str.ofString "read_parts", Str.ofString "read_steps", Str.ofString "read_line"]
def hn1 : List Str := [Str.ofString "rule_of", Str.ofString "read_rule", Str.ofString "_law_source", Str.ofString "_law_draw", Str.ofString "_law_pick", Str.ofString "_law_mixed", Str.ofString "_law_steps", Str.ofString "_law_tests", Str.ofString "_law_good", Str.ofString "_law_noted_as", Str.ofString "_law_plan", Str.ofString "_law_rule", Str.ofString "_law_written", Str.ofString "_law_lines", Str.ofString "_law_great"]
def hnames : List Str := hn0 ++ (hn1)
def hx0 : List Str := [Str.ofString "BadRegisters", Str.ofString "BadLines", Str.ofString "BadLine", Str.ofString "BadText", Str.ofString "UpgradeError", Str.ofString "Rule", Str.ofString "is_name", Str.ofString "need_registers", Str.ofString "is_one_of", Str.ofString "is_test", Str.ofString "is_step", Str.ofString "are_steps", Str.ofString "is_line", Str.ofString "test_text", Str.ofString "steps_text", Str.ofString "line_text", Str.ofString "rule_text", Str.ofString "read_test", Str.ofString "read_step", Str.ofString "read_parts", Str.ofString "read_steps", Str.ofString "read_line", Str.ofString "rule_of", Str.ofString "read_rule", Str.ofString "_law_source", Str.ofString "_law_draw", Str.ofString "_law_pick", Str.ofString "_law_mixed", Str.ofString "_law_steps", Str.ofString "_law_tests"]
def hx1 : List Str := [Str.ofString "_law_good", Str.ofString "_law_noted_as", Str.ofString "_law_plan", Str.ofString "_law_rule", Str.ofString "_law_written", Str.ofString "_law_lines", Str.ofString "_law_great", Str.ofString "law", Str.ofString "BARRED"]
def hxs : List Str := hx0 ++ (hx1)
abbrev hd_BadRegisters : FnM := ⟨fun K => (He.ma K (He.ga K "BadRegisters") "__init__"), "__init__", "BadRegisters.__init__", (inClass (top 3) 0)⟩
abbrev hd_BadLines : FnM := ⟨fun K => (He.ma K (He.ga K "BadLines") "__init__"), "__init__", "BadLines.__init__", (inClass (top 4) 0)⟩
abbrev hd_BadLine : FnM := ⟨fun K => (He.ma K (He.ga K "BadLine") "__init__"), "__init__", "BadLine.__init__", (inClass (top 5) 0)⟩
abbrev hd_BadText : FnM := ⟨fun K => (He.ma K (He.ga K "BadText") "__init__"), "__init__", "BadText.__init__", (inClass (top 6) 0)⟩
abbrev hd_is_name : FnM := ⟨fun K => (He.ga K "is_name"), "is_name", "is_name", s_is_name⟩
abbrev hd_need_registers : FnM := ⟨fun K => (He.ga K "need_registers"), "need_registers", "need_registers", s_need_registers⟩
abbrev hd_is_one_of : FnM := ⟨fun K => (He.ga K "is_one_of"), "is_one_of", "is_one_of", s_is_one_of⟩
abbrev hd_is_test : FnM := ⟨fun K => (He.ga K "is_test"), "is_test", "is_test", s_is_test⟩
abbrev hd_is_step : FnM := ⟨fun K => (He.ga K "is_step"), "is_step", "is_step", s_is_step⟩
abbrev hd_are_steps : FnM := ⟨fun K => (He.ga K "are_steps"), "are_steps", "are_steps", s_are_steps⟩
abbrev hd_is_line : FnM := ⟨fun K => (He.ga K "is_line"), "is_line", "is_line", s_is_line⟩
abbrev hd_Rule_init : FnM := ⟨fun K => (He.ma K (He.ga K "Rule") "__init__"), "__init__", "Rule.__init__", s_Rule_init⟩
abbrev hd_Rule_registers : FnM := ⟨fun K => (gp K (He.ga K "Rule") "registers"), "registers", "Rule.registers", s_Rule_registers⟩
abbrev hd_Rule_lines : FnM := ⟨fun K => (gp K (He.ga K "Rule") "lines"), "lines", "Rule.lines", s_Rule_lines⟩
abbrev hd_Rule_eq : FnM := ⟨fun K => (He.ma K (He.ga K "Rule") "__eq__"), "__eq__", "Rule.__eq__", s_Rule_eq⟩
abbrev hd_test_text : FnM := ⟨fun K => (He.ga K "test_text"), "test_text", "test_text", s_test_text⟩
abbrev hd_steps_text : FnM := ⟨fun K => (He.ga K "steps_text"), "steps_text", "steps_text", s_steps_text⟩
abbrev hd_line_text : FnM := ⟨fun K => (He.ga K "line_text"), "line_text", "line_text", s_line_text⟩
abbrev hd_rule_text : FnM := ⟨fun K => (He.ga K "rule_text"), "rule_text", "rule_text", s_rule_text⟩
abbrev hd_read_test : FnM := ⟨fun K => (He.ga K "read_test"), "read_test", "read_test", s_read_test⟩
abbrev hd_read_step : FnM := ⟨fun K => (He.ga K "read_step"), "read_step", "read_step", s_read_step⟩
abbrev hd_read_parts : FnM := ⟨fun K => (He.ga K "read_parts"), "read_parts", "read_parts", s_read_parts⟩
abbrev hd_read_steps : FnM := ⟨fun K => (He.ga K "read_steps"), "read_steps", "read_steps", s_read_steps⟩
abbrev hd_read_line : FnM := ⟨fun K => (He.ga K "read_line"), "read_line", "read_line", s_read_line⟩
abbrev hd_rule_of : FnM := ⟨fun K => (He.ga K "rule_of"), "rule_of", "rule_of", s_rule_of⟩
abbrev hd_read_rule : FnM := ⟨fun K => (He.ga K "read_rule"), "read_rule", "read_rule", s_read_rule⟩
abbrev hd_law_source : FnM := ⟨fun K => (He.ga K "_law_source"), "_law_source", "_law_source", s_law_source⟩
abbrev hd_law_draw : FnM := ⟨fun K => (He.ga K "_law_draw"), "_law_draw", "_law_draw", s_law_draw⟩
abbrev hd_law_pick : FnM := ⟨fun K => (He.ga K "_law_pick"), "_law_pick", "_law_pick", s_law_pick⟩
abbrev hd_law_mixed : FnM := ⟨fun K => (He.ga K "_law_mixed"), "_law_mixed", "_law_mixed", s_law_mixed⟩
abbrev hd_law_steps : FnM := ⟨fun K => (He.ga K "_law_steps"), "_law_steps", "_law_steps", s_law_steps⟩
abbrev hd_law_tests : FnM := ⟨fun K => (He.ga K "_law_tests"), "_law_tests", "_law_tests", s_law_tests⟩
abbrev hd_law_good : FnM := ⟨fun K => (He.ga K "_law_good"), "_law_good", "_law_good", s_law_good⟩
abbrev hd_law_noted_as : FnM := ⟨fun K => (He.ga K "_law_noted_as"), "_law_noted_as", "_law_noted_as", s_law_noted_as⟩
abbrev hd_law_plan : FnM := ⟨fun K => (He.ga K "_law_plan"), "_law_plan", "_law_plan", s_law_plan⟩
abbrev hd_law_rule : FnM := ⟨fun K => (He.ga K "_law_rule"), "_law_rule", "_law_rule", s_law_rule⟩
abbrev hd_law_written : FnM := ⟨fun K => (He.ga K "_law_written"), "_law_written", "_law_written", s_law_written⟩
abbrev hd_law_lines : FnM := ⟨fun K => (He.ga K "_law_lines"), "_law_lines", "_law_lines", s_law_lines⟩
abbrev hd_law_great : FnM := ⟨fun K => (He.ga K "_law_great"), "_law_great", "_law_great", s_law_great⟩
abbrev hd_law : FnM := ⟨fun K => (He.ga K "law"), "law", "law", s_law⟩
def hfn : List FnM := [hd_BadRegisters, hd_BadLines, hd_BadLine, hd_BadText, hd_is_name, hd_need_registers, hd_is_one_of, hd_is_test, hd_is_step, hd_are_steps, hd_is_line, hd_Rule_init, hd_Rule_registers, hd_Rule_lines, hd_Rule_eq, hd_test_text, hd_steps_text, hd_line_text, hd_rule_text, hd_read_test, hd_read_step, hd_read_parts, hd_read_steps, hd_read_line, hd_rule_of, hd_read_rule, hd_law_source, hd_law_draw, hd_law_pick, hd_law_mixed, hd_law_steps, hd_law_tests, hd_law_good, hd_law_noted_as, hd_law_plan, hd_law_rule, hd_law_written, hd_law_lines, hd_law_great, hd_law]
def hchk (K : PySem.W.Frag) : List Bool := [
  He.eqO (PySem.W.nsIn K mainGlobals "BadRegisters") (some (some (.ref (He.ga K "BadRegisters")))),
  He.eqO (PySem.W.findIn K (.ref (He.ga K "BadRegisters")) "__init__") (some (some (.ref (He.ma K (He.ga K "BadRegisters") "__init__")))),
  xcoB K (He.ga K "BadRegisters"),
  xcB K (He.ga K "BadRegisters") (He.ma K (He.ga K "BadRegisters") "__init__") "value",
  He.eqO (PySem.W.nsIn K mainGlobals "BadLines") (some (some (.ref (He.ga K "BadLines")))),
  He.eqO (PySem.W.findIn K (.ref (He.ga K "BadLines")) "__init__") (some (some (.ref (He.ma K (He.ga K "BadLines") "__init__")))),
  xcoB K (He.ga K "BadLines"),
  xcB K (He.ga K "BadLines") (He.ma K (He.ga K "BadLines") "__init__") "value",
  He.eqO (PySem.W.nsIn K mainGlobals "BadLine") (some (some (.ref (He.ga K "BadLine")))),
  He.eqO (PySem.W.findIn K (.ref (He.ga K "BadLine")) "__init__") (some (some (.ref (He.ma K (He.ga K "BadLine") "__init__")))),
  xcoB K (He.ga K "BadLine"),
  xcB K (He.ga K "BadLine") (He.ma K (He.ga K "BadLine") "__init__") "position",
  He.eqO (PySem.W.nsIn K mainGlobals "BadText") (some (some (.ref (He.ga K "BadText")))),
  He.eqO (PySem.W.findIn K (.ref (He.ga K "BadText")) "__init__") (some (some (.ref (He.ma K (He.ga K "BadText") "__init__")))),
  xcoB K (He.ga K "BadText"),
  xcB K (He.ga K "BadText") (He.ma K (He.ga K "BadText") "__init__") "line",
  He.eqO (PySem.W.nsIn K mainGlobals "UpgradeError") (some (some (.ref (He.ga K "UpgradeError")))),
  kindB K [("BadRegisters", (He.ga K "BadRegisters")), ("BadLines", (He.ga K "BadLines")), ("BadLine", (He.ga K "BadLine")), ("BadText", (He.ga K "BadText"))] (He.ga K "UpgradeError"),
  He.eqO (PySem.W.nsIn K mainGlobals "all") (some none),
  He.eqO (PySem.W.nsIn K mainGlobals "bool") (some none),
  He.eqO (PySem.W.nsIn K mainGlobals "enumerate") (some none),
  He.eqO (PySem.W.nsIn K mainGlobals "int") (some none),
  He.eqO (PySem.W.nsIn K mainGlobals "isinstance") (some none),
  He.eqO (PySem.W.nsIn K mainGlobals "len") (some none),
  He.eqO (PySem.W.nsIn K mainGlobals "list") (some none),
  He.eqO (PySem.W.nsIn K mainGlobals "max") (some none),
  He.eqO (PySem.W.nsIn K mainGlobals "min") (some none),
  He.eqO (PySem.W.nsIn K mainGlobals "range") (some none),
  He.eqO (PySem.W.nsIn K mainGlobals "set") (some none),
  He.eqO (PySem.W.nsIn K mainGlobals "str") (some none),
  He.eqO (PySem.W.nsIn K mainGlobals "tuple") (some none),
  He.eqO (PySem.W.nsIn K mainGlobals "BARRED") (some (some (.ref (He.ga K "BARRED")))),
  tupB K (He.ga K "BARRED") ["here", "new", "nothing", "is", "not", "from", "or", "ask", "do", "otherwise"],
  strB K "LETTERS" "abcdefghijklmnopqrstuvwxyz",
  intB K "MOST_LINES" 8,
  intB K "MOST_REGISTERS" 3,
  intB K "MOST_STEPS" 4,
  intB K "MOST_TESTS" 4,
  strB K "NOTHING" "do nothing",
  He.eqO (PySem.W.nsIn K mainGlobals "Rule") (some (some (.ref (He.ga K "Rule")))),
  He.eqO (PySem.W.findIn K (.ref (He.ga K "Rule")) "__init__") (some (some (.ref (He.ma K (He.ga K "Rule") "__init__")))),
  clsB K (He.ga K "Rule") (He.ma K (He.ga K "Rule") "__init__") ["own_names", "rows"],
  eqcB K (He.ga K "Rule") (He.ma K (He.ga K "Rule") "__eq__") ([(He.ga K "Rule")]),
  propB K (He.ga K "Rule") (gp K (He.ga K "Rule") "lines") "lines",
  propB K (He.ga K "Rule") (gp K (He.ga K "Rule") "registers") "registers",
  isiB K (He.ga K "Rule") [("Rule", (He.ga K "Rule"))] "Rule",
  He.eqO (PySem.W.nsIn K mainGlobals "is_name") (some (some (.ref (He.ga K "is_name")))),
  He.eqO (PySem.W.nsIn K mainGlobals "need_registers") (some (some (.ref (He.ga K "need_registers")))),
  He.eqO (PySem.W.nsIn K mainGlobals "is_one_of") (some (some (.ref (He.ga K "is_one_of")))),
  He.eqO (PySem.W.nsIn K mainGlobals "is_test") (some (some (.ref (He.ga K "is_test")))),
  He.eqO (PySem.W.nsIn K mainGlobals "is_step") (some (some (.ref (He.ga K "is_step")))),
  He.eqO (PySem.W.nsIn K mainGlobals "are_steps") (some (some (.ref (He.ga K "are_steps")))),
  He.eqO (PySem.W.nsIn K mainGlobals "is_line") (some (some (.ref (He.ga K "is_line")))),
  He.eqO (PySem.W.nsIn K mainGlobals "test_text") (some (some (.ref (He.ga K "test_text")))),
  He.eqO (PySem.W.nsIn K mainGlobals "steps_text") (some (some (.ref (He.ga K "steps_text")))),
  He.eqO (PySem.W.nsIn K mainGlobals "line_text") (some (some (.ref (He.ga K "line_text")))),
  He.eqO (PySem.W.nsIn K mainGlobals "rule_text") (some (some (.ref (He.ga K "rule_text")))),
  He.eqO (PySem.W.nsIn K mainGlobals "read_test") (some (some (.ref (He.ga K "read_test")))),
  He.eqO (PySem.W.nsIn K mainGlobals "read_step") (some (some (.ref (He.ga K "read_step")))),
  He.eqO (PySem.W.nsIn K mainGlobals "read_parts") (some (some (.ref (He.ga K "read_parts")))),
  He.eqO (PySem.W.nsIn K mainGlobals "read_steps") (some (some (.ref (He.ga K "read_steps")))),
  He.eqO (PySem.W.nsIn K mainGlobals "read_line") (some (some (.ref (He.ga K "read_line")))),
  He.eqO (PySem.W.nsIn K mainGlobals "rule_of") (some (some (.ref (He.ga K "rule_of")))),
  He.eqO (PySem.W.nsIn K mainGlobals "read_rule") (some (some (.ref (He.ga K "read_rule")))),
  He.eqO (PySem.W.nsIn K mainGlobals "_law_source") (some (some (.ref (He.ga K "_law_source")))),
  He.eqO (PySem.W.nsIn K mainGlobals "_law_draw") (some (some (.ref (He.ga K "_law_draw")))),
  He.eqO (PySem.W.nsIn K mainGlobals "_law_pick") (some (some (.ref (He.ga K "_law_pick")))),
  He.eqO (PySem.W.nsIn K mainGlobals "_law_mixed") (some (some (.ref (He.ga K "_law_mixed")))),
  He.eqO (PySem.W.nsIn K mainGlobals "_law_steps") (some (some (.ref (He.ga K "_law_steps")))),
  He.eqO (PySem.W.nsIn K mainGlobals "_law_tests") (some (some (.ref (He.ga K "_law_tests")))),
  He.eqO (PySem.W.nsIn K mainGlobals "_law_good") (some (some (.ref (He.ga K "_law_good")))),
  He.eqO (PySem.W.nsIn K mainGlobals "_law_noted_as") (some (some (.ref (He.ga K "_law_noted_as")))),
  He.eqO (PySem.W.nsIn K mainGlobals "_law_plan") (some (some (.ref (He.ga K "_law_plan")))),
  He.eqO (PySem.W.nsIn K mainGlobals "_law_rule") (some (some (.ref (He.ga K "_law_rule")))),
  He.eqO (PySem.W.nsIn K mainGlobals "_law_written") (some (some (.ref (He.ga K "_law_written")))),
  He.eqO (PySem.W.nsIn K mainGlobals "_law_lines") (some (some (.ref (He.ga K "_law_lines")))),
  He.eqO (PySem.W.nsIn K mainGlobals "_law_great") (some (some (.ref (He.ga K "_law_great")))),
  He.eqO (PySem.W.nsIn K mainGlobals "law") (some (some (.ref (He.ga K "law"))))]
set_option maxHeartbeats 0 in
theorem h_run (w : World) : HandSHeadRun.RunEq hR hV (hookM hxs hchk hfn) (obM hxs hchk hfn) 9000 hnames w := by
  intro os
  kernel_rfl
end ML
namespace ML
open PySem PySem.Spec PyProof.Rows L2
/-- the source stands at k -/
def Src (h : MH) (k : Nat) : Prop := ∃ r m : Int, h[k]? = some (.lst [.int r, .int m]) ∧ 0 ≤ r ∧ 0 ≤ m ∧ m < 2147483648
/-- all but k stays -/
def KG (k : Nat) (h h' : MH) : Prop := h.length ≤ h'.length ∧ ∀ (n : Nat) o, n ≠ k → h[n]? = some o → h'[n]? = some o
theorem KG.refl {k : Nat} {h : MH} : KG k h h := ⟨Nat.le_refl _, fun _ _ _ e => e⟩
theorem KG.trans {k : Nat} {a b c : MH} (p : KG k a b) (q : KG k b c) : KG k a c := ⟨Nat.le_trans p.1 q.1, fun n o hn e => q.2 n o hn (p.2 n o hn e)⟩
theorem KG.set {k : Nat} {h : MH} {o : O} : KG k h (h.set k o) := ⟨by simp, fun n x hn e => by rw [List.getElem?_set_ne (Ne.symm hn)]; exact e⟩
theorem KG.app {k : Nat} {h t : MH} : KG k h (h ++ t) := ⟨by simp, fun n o _ e => by rw [List.getElem?_append_left (List.getElem?_eq_some_iff.mp e).1]; exact e⟩
theorem Src.lt {h : MH} {k : Nat} (S : Src h k) : k < h.length := by
  obtain ⟨r, m, e, _⟩ := S
  exact (List.getElem?_eq_some_iff.mp e).1
theorem Src.app {h t : MH} {k : Nat} (S : Src h k) : Src (h ++ t) k := by
  obtain ⟨r, m, e, q⟩ := S
  exact ⟨r, m, by rw [List.getElem?_append_left (List.getElem?_eq_some_iff.mp e).1]; exact e, q⟩
theorem Src.other {h : MH} {k n : Nat} {o : O} (S : Src h k) (hn : n ≠ k) : Src (h.set n o) k := by
  obtain ⟨r, m, e, q⟩ := S
  exact ⟨r, m, by rw [List.getElem?_set_ne hn]; exact e, q⟩
/-- a note: its first sign, then up to seven small letters -/
def NoteT (c : Nat) (z : Str) : Prop := ∃ l : List Nat, z.cps.toList = c :: l ∧ l.length ≤ 7 ∧ ∀ x ∈ l, 97 ≤ x ∧ x ≤ 122
def barred : List Str := ["here", "new", "nothing", "is", "not", "from", "or", "ask", "do", "otherwise"]
/-- what is_name and BARRED let through -/
def GoodN (z : Str) : Prop := 1 ≤ z.length ∧ z.length ≤ 8 ∧ (∀ c ∈ z.cps.toList, 97 ≤ c ∧ c ≤ 122) ∧ z ∉ barred
def RegsOk (l : List Str) : Prop := l.length ≤ 3 ∧ l.Nodup ∧ ∀ z ∈ l, GoodN z
theorem NoteT.ne {c d : Nat} {y z : Str} (p : NoteT c y) (q : NoteT d z) (h : c ≠ d) : y ≠ z := fun e => by
  obtain ⟨l, e1, _⟩ := p
  obtain ⟨m, e2, _⟩ := q
  subst e
  rw [e1] at e2
  cases e2
  exact h rfl
/-- a list of registers that stands in the heap, at b or behind -/
def RegD (h : MH) (b : Nat) (d : D) : Prop := ∃ n l, d = .ref n ∧ b ≤ n ∧ h[n]? = some (.lst (l.map .str)) ∧ RegsOk l
theorem RegD.kg {h h' : MH} {b k : Nat} {d : D} (p : RegD h b d) (g : KG k h h') (hk : k < b) : RegD h' b d := by
  obtain ⟨n, l, e, hn, e1, q⟩ := p
  exact ⟨n, l, e, hn, g.2 _ _ (by omega) e1, q⟩
/-- a display of such lists -/
def Rests (k b : Nat) (e : Env) (rest : AM) (n : Nat) : Prop := ∀ h : MH, b ≤ h.length → Src h k → ∃ ds h', rest e h = .ok ds h' ∧ ds.length = n ∧ (∀ d ∈ ds, RegD h' b d) ∧ Src h' k ∧ KG k h h'
theorem Rests.nil {k b : Nat} {e : Env} : Rests k b e nilA 0 := fun h _ S => ⟨[], h, rfl, rfl, fun _ q => (nomatch q), S, KG.refl⟩
theorem Rests.cons {k b : Nat} {e : Env} {a rest : AM} {l : List Str} {n : Nat} (hb : k < b) (ha : ∀ h, a e h = .ok (l.map .str) h) (r : RegsOk l) (p : Rests k b e rest n) : Rests k b e (consA (onA lstF a) rest) (n + 1) := fun h hl S => by
  have e1 : onA lstF a e h = .ok (.ref h.length) (h ++ [.lst (l.map .str)]) := ev_on (ha h) (lst_new (by rw [List.length_map]; have := r.1; omega))
  obtain ⟨ds, h', e2, e3, e4, S', g⟩ := p (h ++ [.lst (l.map .str)]) (by simp; omega) S.app
  refine ⟨_, h', ev_cons e1 e2, by simp [e3], fun d hd => ?_, S', KG.app.trans g⟩
  rcases List.mem_cons.mp hd with q | q
  · subst q
    exact ⟨_, l, rfl, hl, g.2 _ _ (by omega) last_at', r⟩
  · exact e4 d q
where last_at' {h : MH} {o : O} : (h ++ [o])[h.length]? = some o := by simp
/-- a list of such lists -/
def RegL (h : MH) (b : Nat) (d : D) (n : Nat) : Prop := ∃ r ds, d = .ref r ∧ b ≤ r ∧ h[r]? = some (.lst ds) ∧ ds.length = n ∧ ∀ d ∈ ds, RegD h b d
theorem RegL.kg {h h' : MH} {b k n : Nat} {d : D} (p : RegL h b d n) (g : KG k h h') (hk : k < b) : RegL h' b d n := by
  obtain ⟨r, ds, e, hn, e1, l, q⟩ := p
  exact ⟨r, ds, e, hn, g.2 _ _ (by omega) e1, l, fun d hd => (q d hd).kg g hk⟩
theorem Rests.list {k b n : Nat} {e : Env} {rest : AM} (p : Rests k b e rest n) (hb : k < b) (hn : n ≤ 1000) {h : MH} (hl : b ≤ h.length) (S : Src h k) : ∃ d h', onA lstF rest e h = .ok d h' ∧ RegL h' b d n ∧ Src h' k ∧ KG k h h' := by
  obtain ⟨ds, h1, e1, e2, e3, S1, g1⟩ := p h hl S
  refine ⟨_, _, ev_on e1 (lst_new (by omega)), ⟨_, ds, rfl, by have := g1.1; omega, by simp, e2, fun d hd => (e3 d hd).kg (KG.app (k := k)) hb⟩, S1.app, g1.trans KG.app⟩
theorem RegL.add {k b n m : Nat} {x y : D} {h : MH} (p : RegL h b x n) (q : RegL h b y m) (hb : k < b) (hl : b ≤ h.length) (hn : n + m ≤ 1000) (S : Src h k) : ∃ d h', addF x y h = .ok d h' ∧ RegL h' b d (n + m) ∧ Src h' k ∧ KG k h h' := by
  obtain ⟨r, ds, rfl, r1, r2, r3, r4⟩ := p
  obtain ⟨t, es, rfl, t1, t2, t3, t4⟩ := q
  have e : addF (.ref r) (.ref t) h = .ok (.ref h.length) (h ++ [.lst (ds ++ es)]) := by
    unfold addF lstOf
    dsimp only
    rw [r2, t2]
    dsimp only
    rw [if_pos (by omega)]
  refine ⟨_, _, e, ⟨_, ds ++ es, rfl, hl, by simp, by simp [r3, t3], fun d hd => ?_⟩, S.app, KG.app⟩
  rcases List.mem_append.mp hd with z | z
  · exact (r4 d z).kg (KG.app (k := k)) hb
  · exact (t4 d z).kg (KG.app (k := k)) hb
theorem RegD.ne {h : MH} {b r : Nat} {ds : List D} {y : D} (p : RegD h b y) (e : h[r]? = some (.lst ds)) (h0 : 0 < ds.length) (q : ∀ d ∈ ds, RegD h b d) : y ≠ .ref r := fun z => by
  obtain ⟨n, l, e1, _, e2, _⟩ := p
  rw [z] at e1
  cases e1
  rw [e] at e2
  cases e2
  cases l with
  | nil => simp at h0
  | cons s l =>
    obtain ⟨_, _, e3, _⟩ := q (.str s) (by simp)
    cases e3
theorem RegD.other {h : MH} {b r : Nat} {ds : List D} {y : D} {o : O} (p : RegD h b y) (e : h[r]? = some (.lst ds)) (h0 : 0 < ds.length) (q : ∀ d ∈ ds, RegD h b d) : RegD (h.set r o) b y := by
  have ne := p.ne e h0 q
  obtain ⟨n, l, e1, h1, e2, h2⟩ := p
  exact ⟨n, l, e1, h1, by rw [List.getElem?_set_ne (fun z => ne (by rw [e1, z]))]; exact e2, h2⟩
/-- what stands ahead of b stays, but k -/
def KB (k b : Nat) (h h' : MH) : Prop := h.length ≤ h'.length ∧ ∀ (n : Nat) o, n < b → n ≠ k → h[n]? = some o → h'[n]? = some o
theorem KG.kb {k b : Nat} {h h' : MH} (g : KG k h h') : KB k b h h' := ⟨g.1, fun n o _ hn e => g.2 n o hn e⟩
theorem KB.trans {k b : Nat} {h1 h2 h3 : MH} (p : KB k b h1 h2) (q : KB k b h2 h3) : KB k b h1 h3 := ⟨Nat.le_trans p.1 q.1, fun n o hb hn e => q.2 n o hb hn (p.2 n o hb hn e)⟩
theorem KB.kg {k : Nat} {h h' : MH} (p : KB k h.length h h') : KG k h h' := ⟨p.1, fun n o hn e => p.2 n o (List.getElem?_eq_some_iff.mp e).1 hn e⟩
/-- x.append(y) -/
theorem RegL.push {k b n : Nat} {r : Nat} {y : D} {h : MH} (p : RegL h b (.ref r) n) (q : RegD h b y) (hb : k < b) (h0 : 0 < n) (hn : n ≤ 1000) (S : Src h k) : ∃ h', appF (.ref r) [y] h = .ok .non h' ∧ RegL h' b (.ref r) (n + 1) ∧ Src h' k ∧ KB k b h h' ∧ ∀ x m, RegL h b x m → x ≠ .ref r → RegL h' b x m := by
  obtain ⟨r', ds, er, r1, r2, r3, r4⟩ := p
  cases er
  have e : appF (.ref r) [y] h = .ok .non (h.set r (.lst (ds ++ [y]))) := by
    unfold appF
    dsimp only
    rw [r2]
    dsimp only
    rw [if_pos (by omega)]
  have d0 : 0 < ds.length := by omega
  refine ⟨_, e, ⟨r, _, rfl, r1, set_get r2, by simp [r3], fun d hd => ?_⟩, S.other (by omega), ⟨by simp, fun n o hn _ e => by rw [List.getElem?_set_ne (by omega)]; exact e⟩, fun x m ⟨t, es, ex, t1, t2, t3, t4⟩ hx => ⟨t, es, ex, t1, by rw [List.getElem?_set_ne (fun z => hx (by rw [ex, z]))]; exact t2, t3, fun d hd => (t4 d hd).other r2 d0 r4⟩⟩
  rcases List.mem_append.mp hd with z | z
  · exact (r4 d z).other r2 d0 r4
  · simp only [List.mem_cons, List.not_mem_nil, or_false] at z
    subst z
    exact q.other r2 d0 r4
theorem RegL.ne {h : MH} {b n m : Nat} {x y : D} (p : RegL h b x n) (q : RegL h b y m) (hn : n ≠ m) : x ≠ y := fun e => by
  obtain ⟨r, ds, e1, _, e2, e3, _⟩ := p
  obtain ⟨t, es, e4, _, e5, e6, _⟩ := q
  subst e
  rw [e1] at e4
  cases e4
  rw [e2] at e5
  cases e5
  omega
def LeftN (l : List Str) (s : Str) : Prop := s = "here" ∨ s = "new" ∨ s ∈ l
def TgtN (l : List Str) (s : Str) : Prop := s = "here" ∨ s ∈ l
def SrcN (l : List Str) (s : Str) : Prop := s = "here" ∨ s = "new" ∨ s = "nothing" ∨ s ∈ l
def TestD (l : List Str) (d : D) : Prop := ∃ a b v, d = .tup [.str a, .str b, .bl v] ∧ LeftN l a ∧ SrcN l b
def StepD (l : List Str) (d : D) : Prop := ∃ a b, d = .tup [.str a, .str b] ∧ TgtN l a ∧ SrcN l b
def StepsD (l : List Str) (d : D) : Prop := ∃ ss, d = .tup ss ∧ ss.length ≤ 4 ∧ ∀ s ∈ ss, StepD l s
/-- a line: tests, then one or two steps; last: no tests -/
def LineD (l : List Str) (last : Bool) (d : D) : Prop := ∃ ts st, d = .tup (.tup ts :: st) ∧ ts.length ≤ 4 ∧ (last = true → ts = []) ∧ (∀ t ∈ ts, TestD l t) ∧ (st.length = 1 ∨ st.length = 2) ∧ ∀ s ∈ st, StepsD l s
/-- a list of texts in the heap, beside the source -/
def StrL (h : MH) (k : Nat) (x : D) (L : List Str) : Prop := ∃ r, x = .ref r ∧ r ≠ k ∧ h[r]? = some (.lst (L.map .str))
theorem StrL.kg {h h' : MH} {k : Nat} {x : D} {L : List Str} (p : StrL h k x L) (g : KG k h h') : StrL h' k x L := by
  obtain ⟨r, e, hn, e1⟩ := p
  exact ⟨r, e, hn, g.2 _ _ hn e1⟩
theorem StrL.new {h : MH} {k : Nat} {L : List Str} (hl : L.length ≤ 1000) (S : Src h k) : ∃ d h', lstF (L.map .str) h = .ok d h' ∧ StrL h' k d L ∧ Src h' k ∧ KG k h h' :=
  ⟨_, _, lst_new (by rw [List.length_map]; omega), ⟨_, rfl, Nat.ne_of_gt S.lt, by simp⟩, S.app, KG.app⟩
theorem StrL.add {h : MH} {k : Nat} {x y : D} {A B : List Str} (p : StrL h k x A) (q : StrL h k y B) (hl : A.length + B.length ≤ 1000) (S : Src h k) : ∃ d h', addF x y h = .ok d h' ∧ StrL h' k d (A ++ B) ∧ Src h' k ∧ KG k h h' := by
  obtain ⟨r, rfl, r1, r2⟩ := p
  obtain ⟨t, rfl, t1, t2⟩ := q
  have e : addF (.ref r) (.ref t) h = .ok (.ref h.length) (h ++ [.lst (A.map .str ++ B.map .str)]) := by
    unfold addF lstOf
    dsimp only
    rw [r2, t2]
    dsimp only
    rw [if_pos (by simp; omega)]
  exact ⟨_, _, e, ⟨_, rfl, Nat.ne_of_gt S.lt, by simp⟩, S.app, KG.app⟩
theorem gt_i {a b : Int} {h : MH} : gtF (.int a) (.int b) h = .ok (.bl (decide (b < a))) h := by unfold gtF ordF; rfl
/-- all but k and f stays -/
def KX (k f : Nat) (h h' : MH) : Prop := h.length ≤ h'.length ∧ ∀ (n : Nat) o, n ≠ k → n ≠ f → h[n]? = some o → h'[n]? = some o
theorem KX.refl {k f : Nat} {h : MH} : KX k f h h := ⟨Nat.le_refl _, fun _ _ _ _ e => e⟩
theorem KX.trans {k f : Nat} {a b c : MH} (p : KX k f a b) (q : KX k f b c) : KX k f a c := ⟨Nat.le_trans p.1 q.1, fun n o h1 h2 e => q.2 n o h1 h2 (p.2 n o h1 h2 e)⟩
theorem KG.kx {k f : Nat} {h h' : MH} (g : KG k h h') : KX k f h h' := ⟨g.1, fun n o h1 _ e => g.2 n o h1 e⟩
theorem KX.set {k f : Nat} {h : MH} {o : O} : KX k f h (h.set f o) := ⟨by simp, fun n x _ hn e => by rw [List.getElem?_set_ne (Ne.symm hn)]; exact e⟩
theorem KX.kg {k f : Nat} {h h1 h' : MH} (g : KG k h h1) (hf : h.length ≤ f) (p : KX k f h1 h') : KG k h h' := ⟨Nat.le_trans g.1 p.1, fun n o hn e => p.2 n o hn (by have := (List.getElem?_eq_some_iff.mp e).1; omega) (g.2 n o hn e)⟩
theorem StrL.kx {h h' : MH} {k f : Nat} {x : D} {L : List Str} (p : StrL h k x L) (g : KX k f h h') (hx : x ≠ .ref f) : StrL h' k x L := by
  obtain ⟨r, e, hn, e1⟩ := p
  exact ⟨r, e, hn, g.2 _ _ hn (fun z => hx (by rw [e, z])) e1⟩
theorem append_i {h : MH} {f : Nat} {ss : List D} {y : D} (e : h[f]? = some (.lst ss)) (hl : ss.length < 1000000) : appF (.ref f) [y] h = .ok .non (h.set f (.lst (ss ++ [y]))) := by
  unfold appF
  dsimp only
  rw [e]
  dsimp only
  rw [if_pos hl]
theorem ty_lst {h : MH} {f : Nat} {ss : List D} (e : h[f]? = some (.lst ss)) : tyD h (.ref f) = some "list" := by
  unfold tyD
  dsimp only
  rw [e]
theorem eq_i {a b : Int} {h : MH} : eqF (.int a) (.int b) h = .ok (.bl (scalEq (.int a) (.int b))) h := rfl
theorem stands1 {h : MH} {n : Nat} {l : List D} (e : h[n]? = some (.lst l)) : IT.ok h [(n, l)] = true := by
  unfold IT.ok stands
  simp only [List.all_cons, List.all_nil, Bool.and_true, e]
  exact sames_refl l
theorem any_strs {h : MH} {s : Str} : ∀ (L : List Str), anyF (fun z => eqv h deep z (.str s)) (L.map D.str) = some (L.any fun y => scalEq (.str y) (.str s))
  | [] => rfl
  | y :: L => by
    rw [List.map_cons]
    unfold anyF
    rw [any_strs L]
    rfl
theorem in_tup {h : MH} {s : Str} {L : List Str} : inF (.str s) (.tup (L.map D.str)) h = .ok (.bl (L.any fun y => scalEq (.str y) (.str s))) h := by
  have ed : dctOf h (.tup (L.map D.str)) = none := rfl
  unfold inF inT
  dsimp only
  rw [ed]
  unfold memT seqOf
  dsimp only
  rw [any_strs]
theorem scal_str {y s : Str} : scalEq (.str y) (.str s) = decide (y = s) := by
  unfold scalEq
  first | rfl | simp
theorem any_mem {L : List Str} {s : Str} (h : s ∈ L) : (L.any fun y => scalEq (.str y) (.str s)) = true := List.any_eq_true.mpr ⟨s, h, by rw [scal_str]; simp⟩
theorem ev_andE {a b : EM} {e : Env} {h h1 : MH} {r : R D} (p : a e h = .ok (.bl true) h1) (q : b e h1 = r) : andE a b e h = r := by unfold andE; rw [p]; exact q
theorem ev_star {a : EM} {rest : AM} {e : Env} {h h1 h2 : MH} {x : D} {k : Bool} {l ys : List D} (p : a e h = .ok x h1) (q : seqOf h1 x = some (k, l)) (r : rest e h1 = .ok ys h2) : starA a rest e h = .ok (l ++ ys) h2 := by
  unfold starA
  rw [p]
  show (match seqOf h1 x with | some (_, l) => (rest e h1).bind fun ys h2 => R.ok (l ++ ys) h2 | none => .bad) = _
  rw [q]
  dsimp only
  rw [r]
  rfl
theorem StrL.seq {h : MH} {k : Nat} {x : D} {L : List Str} (p : StrL h k x L) : seqOf h x = some (false, L.map D.str) := by
  obtain ⟨r, rfl, _, e⟩ := p
  unfold seqOf
  dsimp only
  rw [e]
theorem it_nil {h : MH} : IT.ok h [] = true := rfl
theorem bools_true : ∀ j : Nat, bools (List.replicate j (.bl true)) = some (List.replicate j true)
  | 0 => rfl
  | j + 1 => by
    rw [List.replicate_succ, List.replicate_succ]
    unfold bools
    rw [bools_true j]
theorem all_true {h : MH} {n : Nat} {j : Nat} (e : h[n]? = some (.lst (List.replicate j (.bl true)))) : allF [.ref n] h = .ok (.bl true) h := by
  unfold allF lstOf
  dsimp only
  rw [e]
  dsimp only
  rw [bools_true]
  dsimp only
  have : (List.replicate j true).all (fun b => b) = true := by simp
  rw [this]
/-- all stays -/
def GA (h h' : MH) : Prop := h.length ≤ h'.length ∧ ∀ (n : Nat) o, h[n]? = some o → h'[n]? = some o
theorem GA.refl {h : MH} : GA h h := ⟨Nat.le_refl _, fun _ _ e => e⟩
theorem GA.trans {a b c : MH} (p : GA a b) (q : GA b c) : GA a c := ⟨Nat.le_trans p.1 q.1, fun n o e => q.2 n o (p.2 n o e)⟩
theorem GA.app {h t : MH} : GA h (h ++ t) := ⟨by simp, fun n o e => by rw [List.getElem?_append_left (List.getElem?_eq_some_iff.mp e).1]; exact e⟩
theorem GA.kg {k : Nat} {h h' : MH} (g : GA h h') : KG k h h' := ⟨g.1, fun n o _ e => g.2 n o e⟩
/-- names in the heap, at a place ahead of b -/
def NamL (h : MH) (b : Nat) (x : D) (l : List Str) : Prop := ∃ r, x = .ref r ∧ r < b ∧ h[r]? = some (.lst (l.map .str))
theorem NamL.ga {h h' : MH} {b : Nat} {x : D} {l : List Str} (p : NamL h b x l) (g : GA h h') : NamL h' b x l := by
  obtain ⟨r, e, hb, e1⟩ := p
  exact ⟨r, e, hb, g.2 _ _ e1⟩
theorem NamL.up {h : MH} {b b' : Nat} {x : D} {l : List Str} (p : NamL h b x l) (hb : b ≤ b') : NamL h b' x l := by
  obtain ⟨r, e, h1, e1⟩ := p
  exact ⟨r, e, by omega, e1⟩
theorem NamL.str {h : MH} {b : Nat} {x : D} {l : List Str} (p : NamL h b x l) : StrL h b x l := by
  obtain ⟨r, e, h1, e1⟩ := p
  exact ⟨r, e, by omega, e1⟩
theorem i_tup {a : EM} {e : Env} {h : MH} {ds : List D} (p : a e h = .ok (.tup ds) h) : seqI a e h = .ok ⟨ds, []⟩ h := by unfold seqI; rw [p]; rfl
theorem le_T {a b : Int} {h : MH} (p : a ≤ b) : leF (.int a) (.int b) h = .ok (.bl true) h := by unfold leF ordF; dsimp only; rw [decide_eq_true p]
theorem gt_F {a b : Int} {h : MH} (p : ¬ b < a) : gtF (.int a) (.int b) h = .ok (.bl false) h := by rw [gt_i, decide_eq_false p]
theorem ef_nx {np n : Nat} {ds : List D} {b : SM} {h h1 : MH} {e1 : Env} (hl : ds.length = np) (p : b (ds.map some ++ List.replicate (n - ds.length) none) h = .nx e1 h1) : fnM np n b ds h = .ok .non h1 := by unfold fnM; rw [if_pos hl, p]
theorem GA.setB {h h1 : MH} {n : Nat} {o : O} (g : GA h h1) (hn : h.length ≤ n) : GA h (h1.set n o) := ⟨by simpa using g.1, fun m x e => by rw [List.getElem?_set_ne (by have := (List.getElem?_eq_some_iff.mp e).1; omega)]; exact g.2 m x e⟩
theorem lc_allA {srcs : List (Nat × List D)} {elt : EM} {n i : Nat} {e0 : Env} {h0 : MH} (hs : ∀ h, GA h0 h → IT.ok h srcs = true) (hn : h0.length ≤ n) : ∀ (ds : List D) (j : Nat) (h : MH), GA h0 h → h[n]? = some (.lst (List.replicate j (.bl true))) → j + ds.length < 1000 → (∀ d ∈ ds, ∀ h, GA h0 h → ∃ h', elt (e0.set i (some d)) h = .ok (.bl true) h' ∧ GA h h') →
    ∃ h', lcLoop srcs (gnm i) yesT elt n e0 ds h = .ok (.ref n) h' ∧ h'[n]? = some (.lst (List.replicate (j + ds.length) (.bl true))) ∧ GA h0 h'
  | [], j, h, p, e, hl, hd => ⟨h, by unfold lcLoop; rw [if_pos (hs h p)], by simpa using e, p⟩
  | d :: ds, j, h, p, e, hl, hd => by
    obtain ⟨h1, e1, g1⟩ := hd d List.mem_cons_self h p
    have q1 := g1.2 _ _ e
    obtain ⟨h', e2, e3, p'⟩ := lc_allA hs hn ds (j + 1) (h1.set n (.lst (List.replicate j (.bl true) ++ [.bl true]))) ((p.trans g1).setB hn) (by rw [set_get q1, List.replicate_succ']) (by simp only [List.length_cons] at hl; omega) (fun x hx => hd x (List.mem_cons_of_mem _ hx))
    refine ⟨h', ?_, by rw [e3]; simp only [List.length_cons]; rw [show j + 1 + ds.length = j + (ds.length + 1) by omega], p'⟩
    rw [← e2]
    conv => lhs; unfold lcLoop
    rw [if_pos (hs h p)]
    have tg : gnm i d e0 h = some (e0.set i (some d)) := rfl
    rw [tg]
    dsimp only [yesT]
    rw [e1]
    dsimp only
    rw [q1]
    dsimp only
    rw [if_pos (by rw [List.length_replicate]; simp only [List.length_cons] at hl; omega)]
/-- all([f(d) for d in ds]) -/
theorem ev_allA {elt : EM} {i : Nat} {e : Env} {own : List Nat} {it : IM} {ds : List D} {srcs : List (Nat × List D)} {h : MH} (hi : it e h = .ok ⟨ds, srcs⟩ h) (hs : ∀ h1, GA h h1 → IT.ok h1 srcs = true) (hl : ds.length < 900) (hd : ∀ d ∈ ds, ∀ h1, GA h h1 → ∃ h2, elt ((wipeM e own).set i (some d)) h1 = .ok (.bl true) h2 ∧ GA h1 h2) :
    ∃ h', onA allF (consA (lcE own it (gnm i) yesT elt) nilA) e h = .ok (.bl true) h' ∧ GA h h' := by
  obtain ⟨h', e1, e2, p'⟩ := lc_allA (n := h.length) (i := i) (elt := elt) (e0 := wipeM e own) hs (Nat.le_refl _) ds 0 (h ++ [O.lst []]) GA.app (by simp) (by omega) hd
  refine ⟨h', ?_, p'⟩
  refine ev_on (ev_cons (x := .ref h.length) (h1 := h') ?_ ev_nil) (all_true e2)
  unfold lcE
  rw [hi]
  exact e1
theorem ev_sl {a : EM} {lo hi : OM} {e : Env} {h h1 h2 h3 : MH} {x : D} {l u : Option Int} {r : R D} (p : a e h = .ok x h1) (q : lo e h1 = .ok l h2) (k : hi e h2 = .ok u h3) (w : slF x l u h3 = r) : slE a lo hi e h = r := by
  unfold slE
  rw [p]
  show R.bind (lo e h1) _ = r
  rw [q]
  show R.bind (hi e h2) _ = r
  rw [k]
  exact w
theorem ev_noO {e : Env} {h : MH} : noO e h = .ok none h := rfl
theorem ev_someO {a : EM} {e : Env} {h h1 : MH} {i : Int} (p : a e h = .ok (.int i) h1) : someO a e h = .ok (some i) h1 := by unfold someO; rw [p]; rfl
theorem in_abc {c : Nat} (h1 : 97 ≤ c ∧ c ≤ 122) {h : MH} : inF (.str ⟨#[c]⟩) (.str "abcdefghijklmnopqrstuvwxyz") h = .ok (.bl true) h := by
  have : c ∈ (Str.ofString "abcdefghijklmnopqrstuvwxyz").cps.toList := (by decide +kernel : ∀ c, c < 123 → 97 ≤ c → c ∈ (Str.ofString "abcdefghijklmnopqrstuvwxyz").cps.toList) c (by omega) h1.1
  unfold inF inT
  dsimp only
  show R.ok (D.bl (decide _)) h = _
  rw [decide_eq_true this]
theorem ev_chain {f g : D → D → MH → R D} {a b c : EM} {e : Env} {h h1 h2 h3 h4 : MH} {x y w : D} {r : R D} (p : a e h = .ok x h1) (q : b e h1 = .ok y h2) (k : f x y h2 = .ok (.bl true) h3) (z : c e h3 = .ok w h4) (j : g y w h4 = r) : chainE f g a b c e h = r := by
  unfold chainE
  rw [p]
  show R.bind (b e h1) _ = r
  rw [q]
  show R.bind (f x y h2) _ = r
  rw [k]
  show R.bind (c e h3) _ = r
  rw [z]
  exact j
theorem nin_barred {z : Str} {h : MH} (g : z ∉ barred) : ninF (.str z) (strsD ["here", "new", "nothing", "is", "not", "from", "or", "ask", "do", "otherwise"]) h = .ok (.bl true) h := by
  have e := in_tup (h := h) (s := z) (L := barred)
  have a0 : (barred.any fun y => scalEq (.str y) (.str z)) = false := by
    cases c : barred.any fun y => scalEq (.str y) (.str z) with
    | false => rfl
    | true =>
      obtain ⟨y, hy, q⟩ := List.any_eq_true.mp c
      rw [scal_str] at q
      exact absurd (of_decide_eq_true q ▸ hy) g
  rw [a0] at e
  unfold inF at e
  unfold ninF
  show (match inT h (.str z) (.tup (barred.map D.str)) with | some b => R.ok (D.bl (!b)) h | none => .bad) = _
  cases q : inT h (.str z) (.tup (barred.map D.str)) with
  | none => rw [q] at e; cases e
  | some b =>
    rw [q] at e
    cases e
    rfl
theorem many_nodup {xs : List Str} (nd : xs.Nodup) : ∀ i, i ≤ xs.length → SetM.many xs i = i
  | 0, _ => rfl
  | i + 1, hi => by
    have ih := many_nodup nd i (by omega)
    unfold SetM.many
    have : SetM.seen xs i (xs.getD i Str.empty) = false := by
      unfold SetM.seen
      cases c : (xs.take i).any (· == xs.getD i Str.empty) with
      | false => rfl
      | true =>
        obtain ⟨y, hy, q⟩ := List.any_eq_true.mp c
        obtain ⟨j, hj, ej⟩ := List.mem_iff_getElem.mp hy
        have q := eq_of_beq q
        rw [List.getElem_take] at ej
        rw [List.length_take] at hj
        have e2 : xs.getD i Str.empty = xs[i]'(by omega) := by rw [List.getD_eq_getElem?_getD, List.getElem?_eq_getElem (by omega)]; rfl
        rw [e2] at q
        have := (List.getElem_inj nd).mp (ej.trans q)
        omega
    rw [this, ih]
    rfl
theorem strs_of : ∀ l : List Str, strsOf (l.map D.str) = some l
  | [] => rfl
  | s :: l => by
    rw [List.map_cons]
    unfold strsOf
    rw [strs_of l]
def LinesD (l : List Str) (ls : List D) : Prop := 1 ≤ ls.length ∧ ls.length ≤ 8 ∧ (∀ d ∈ ls, LineD l false d) ∧ ∀ d, ls.getLast? = some d → LineD l true d
theorem es_fld {ci : List Str} {f : Str} {o a : EM} {e : Env} {h h1 h2 h3 : MH} {v x : D} (p : a e h = .ok v h1) (q : o e h1 = .ok x h2) (w : putO ci f x v h2 = some h3) : stFld ci f o a e h = .nx e h3 := by
  unfold stFld ofE
  rw [p]
  dsimp only
  rw [q]
  dsimp only
  rw [w]
theorem putI {ci : List Str} {f c : Str} {n : Nat} {v : D} {h : MH} {fs : List (Str × D)} (e : h[n]? = some (.ins c fs)) (hc : c ∈ ci) (hl : fs.length < 1000) : putO ci f (.ref n) v h = some (h.set n (.ins c (putFD f v fs))) := by
  unfold putO
  dsimp only
  rw [e]
  dsimp only
  rw [if_pos ⟨hc, hl⟩]
/-- a rule in the heap -/
def RuleD (h : MH) (d : D) (l : List Str) (ls : List D) : Prop := ∃ s, d = .ref s ∧ h[s]? = some (.ins "Rule" [("own_names", .tup (l.map .str)), ("rows", .tup ls)])
theorem fa0 {P : D → Prop} : ∀ d ∈ ([] : List D), P d := fun _ h => (nomatch h)
theorem fa1 {P : D → Prop} {x : D} {l : List D} (p : P x) (q : ∀ d ∈ l, P d) : ∀ d ∈ x :: l, P d := fun d h => by
  rcases List.mem_cons.mp h with z | z
  · rw [z]; exact p
  · exact q d z
theorem faA {P : D → Prop} {l m : List D} (p : ∀ d ∈ l, P d) (q : ∀ d ∈ m, P d) : ∀ d ∈ l ++ m, P d := fun d h => by
  rcases List.mem_append.mp h with z | z
  · exact p d z
  · exact q d z
theorem mkT {l : List Str} {a b : Str} {v : Bool} (p : LeftN l a) (q : SrcN l b) : TestD l (.tup [.str a, .str b, .bl v]) := ⟨a, b, v, rfl, p, q⟩
theorem mkS {l : List Str} {a b : Str} (p : TgtN l a) (q : SrcN l b) : StepD l (.tup [.str a, .str b]) := ⟨a, b, rfl, p, q⟩
theorem mkSs {l : List Str} {ss : List D} (h : ss.length ≤ 4) (p : ∀ d ∈ ss, StepD l d) : StepsD l (.tup ss) := ⟨ss, rfl, h, p⟩
theorem mkL1 {l : List Str} {b : Bool} {ts : List D} {s : D} (h : ts.length ≤ 4) (n : b = true → ts = []) (p : ∀ d ∈ ts, TestD l d) (q : StepsD l s) : LineD l b (.tup [.tup ts, s]) := ⟨ts, [s], rfl, h, n, p, .inl rfl, fa1 q fa0⟩
theorem mkL2 {l : List Str} {b : Bool} {ts : List D} {s u : D} (h : ts.length ≤ 4) (n : b = true → ts = []) (p : ∀ d ∈ ts, TestD l d) (q : StepsD l s) (q2 : StepsD l u) : LineD l b (.tup [.tup ts, s, u]) := ⟨ts, [s, u], rfl, h, n, p, .inr rfl, fa1 q (fa1 q2 fa0)⟩
theorem LineD.up {l : List Str} {b : Bool} {d : D} (p : LineD l b d) : LineD l false d := by
  obtain ⟨ts, st, e, h, _, p⟩ := p
  exact ⟨ts, st, e, h, fun z => (nomatch z), p⟩
theorem lh {l : List Str} : LeftN l "here" := .inl rfl
theorem ln {l : List Str} : LeftN l "new" := .inr (.inl rfl)
theorem th {l : List Str} : TgtN l "here" := .inl rfl
theorem sh {l : List Str} : SrcN l "here" := .inl rfl
theorem sn {l : List Str} : SrcN l "new" := .inr (.inl rfl)
theorem LinesD.snoc {l : List Str} {ls : List D} {d : D} (h : ls.length ≤ 7) (p : ∀ d ∈ ls, LineD l false d) (q : LineD l true d) : LinesD l (ls ++ [d]) := ⟨by simp, by simp; omega, faA p (fa1 q.up fa0), fun x hx => by
  rw [List.getLast?_append] at hx
  simp at hx
  rw [← hx]
  exact q⟩
theorem ne_lnil {h : MH} {n m : Nat} {xs : List D} (e : h[n]? = some (.lst xs)) (f : h[m]? = some (.lst [])) : neF (.ref n) (.ref m) h = .ok (.bl !xs.isEmpty) h := by
  unfold neF eqT eqTop isScal seqOf
  dsimp only
  rw [e, f]
  dsimp only
  rw [if_pos rfl]
  cases xs with
  | nil => rfl
  | cons x xs => rfl
theorem add_tup {l m : List D} {h : MH} (hl : l.length + m.length ≤ 1000000) : addF (.tup l) (.tup m) h = .ok (.tup (l ++ m)) h := by unfold addF; dsimp only; rw [if_pos hl]
theorem SrcN.own {l : List Str} {s : Str} (h : s ∈ l) : SrcN l s := .inr (.inr (.inr h))
theorem LeftN.own {l : List Str} {s : Str} (h : s ∈ l) : LeftN l s := .inr (.inr h)
theorem TgtN.own {l : List Str} {s : Str} (h : s ∈ l) : TgtN l s := .inr h
theorem tup1 {a : EM} {e : Env} {h : MH} {x : D} (p : a e h = .ok x h) : onA tupF (consA a nilA) e h = .ok (.tup [x]) h := ev_on (ev_cons p ev_nil) (tup_new (by decide : 1 ≤ 1000000))
theorem tup2 {a b : EM} {e : Env} {h : MH} {x y : D} (p : a e h = .ok x h) (q : b e h = .ok y h) : onA tupF (consA a (consA b nilA)) e h = .ok (.tup [x, y]) h := ev_on (ev_cons p (ev_cons q ev_nil)) (tup_new (by decide : 2 ≤ 1000000))
theorem tup3 {a b c : EM} {e : Env} {h : MH} {x y z : D} (p : a e h = .ok x h) (q : b e h = .ok y h) (r : c e h = .ok z h) : onA tupF (consA a (consA b (consA c nilA))) e h = .ok (.tup [x, y, z]) h := ev_on (ev_cons p (ev_cons q (ev_cons r ev_nil))) (tup_new (by decide : 3 ≤ 1000000))
theorem tup0 {e : Env} {h : MH} : onA tupF nilA e h = .ok (.tup []) h := ev_on ev_nil (tup_new (by decide : 0 ≤ 1000000))
/-- the lines of a rule in the heap -/
def LinL (h : MH) (k b : Nat) (d : D) (l : List Str) : Prop := ∃ n ls, d = .ref n ∧ n ≠ k ∧ b ≤ n ∧ h[n]? = some (.lst ls) ∧ LinesD l ls
theorem LinL.kg {h h' : MH} {k b : Nat} {d : D} {l : List Str} (p : LinL h k b d l) (g : KG k h h') : LinL h' k b d l := by
  obtain ⟨n, ls, e, hn, hb, e1, q⟩ := p
  exact ⟨n, ls, e, hn, hb, g.2 _ _ hn e1, q⟩
theorem eq_iT {a : Int} {h : MH} : eqF (.int a) (.int a) h = .ok (.bl true) h := by rw [eq_i]; unfold scalEq; simp
theorem eq_iF {a b : Int} {h : MH} (n : a ≠ b) : eqF (.int a) (.int b) h = .ok (.bl false) h := by rw [eq_i]; unfold scalEq; simp [n]
theorem slL {h : MH} {n : Nat} {l : List D} {lo hi : Option Int} (e : h[n]? = some (.lst l)) : slF (.ref n) lo hi h = .ok (.ref h.length) (h ++ [.lst (cutD l lo hi)]) := by
  unfold slF seqOf
  dsimp only
  rw [e]
theorem addL {h : MH} {n m : Nat} {A B : List D} (e : h[n]? = some (.lst A)) (f : h[m]? = some (.lst B)) (hl : A.length + B.length ≤ 1000) : addF (.ref n) (.ref m) h = .ok (.ref h.length) (h ++ [.lst (A ++ B)]) := by
  unfold addF lstOf
  dsimp only
  rw [e, f]
  dsimp only
  rw [if_pos (by omega)]
theorem new0 {h h1 : MH} (d : h1 = h ++ [O.lst []]) : lstF [] h = .ok (.ref h.length) h1 := by rw [d]; exact lst_new (by decide : 0 ≤ 1000000)
theorem new1 {h h1 : MH} {w : D} (d : h1 = h ++ [O.lst [w]]) : lstF [w] h = .ok (.ref h.length) h1 := by rw [d]; exact lst_new (by simp)
theorem LinesD.at {l : List Str} {A C : List D} {L : D} (p : LinesD l (A ++ L :: C)) : LineD l (decide (C = [])) L := by
  obtain ⟨p1, p2, p3, p4⟩ := p
  by_cases c : C = []
  · rw [decide_eq_true c]
    refine p4 L ?_
    rw [c, List.getLast?_append]
    simp
  · rw [decide_eq_false c]
    exact p3 L (by simp)
def troubles : List Str := ["needless", "lost", "revived", "stale", "left"]
/-- a value that is no trouble; not the source -/
def ThD (h : MH) (k : Nat) (d : D) : Prop := d = .non ∨ (∃ b, d = .bl b) ∨ (∃ i, d = .int i) ∨ (∃ z, d = .str z ∧ z ∉ troubles) ∨ d = .tup [.str "lost"] ∨ (∃ n l, d = .ref n ∧ n ≠ k ∧ h[n]? = some (.lst l)) ∨ (∃ n l, d = .ref n ∧ n ≠ k ∧ h[n]? = some (.dct l))
theorem ThD.kg {h h' : MH} {k : Nat} {d : D} (p : ThD h k d) (g : KG k h h') : ThD h' k d := by
  rcases p with p | p | p | p | p | ⟨n, l, e, hn, q⟩ | ⟨n, l, e, hn, q⟩
  · exact .inl p
  · exact .inr (.inl p)
  · exact .inr (.inr (.inl p))
  · exact .inr (.inr (.inr (.inl p)))
  · exact .inr (.inr (.inr (.inr (.inl p))))
  · exact .inr (.inr (.inr (.inr (.inr (.inl ⟨n, l, e, hn, g.2 _ _ hn q⟩)))))
  · exact .inr (.inr (.inr (.inr (.inr (.inr ⟨n, l, e, hn, g.2 _ _ hn q⟩)))))
theorem ThD.same {h : MH} {k : Nat} {d : D} (p : ThD h k d) : eqv h deep d d = some true := by
  rcases p with rfl | ⟨b, rfl⟩ | ⟨i, rfl⟩ | ⟨z, rfl, _⟩ | rfl | ⟨n, l, rfl, _⟩ | ⟨n, l, rfl, _⟩
  · rfl
  · cases b <;> rfl
  · unfold deep eqv idRef eqTop isScal
    simp [scalEq]
  · unfold deep eqv idRef eqTop isScal
    simp [scalEq]
  · rfl
  · unfold deep eqv idRef
    simp
  · unfold deep eqv idRef
    simp
theorem RuleD.kg {h h' : MH} {k : Nat} {d : D} {l : List Str} {ls : List D} (p : RuleD h d l ls) (S : Src h k) (g : KG k h h') : RuleD h' d l ls := by
  obtain ⟨s, rfl, e⟩ := p
  refine ⟨s, rfl, g.2 _ _ (fun z => ?_) e⟩
  obtain ⟨r, m, e1, _⟩ := S
  rw [z, e1] at e
  cases e
theorem ThD.str {h : MH} {k : Nat} {z : Str} (p : z ∉ troubles) : ThD h k (.str z) := .inr (.inr (.inr (.inl ⟨z, rfl, p⟩)))
end ML
namespace ML
open PySem PySem.Spec PyProof.Rows L2
inductive PV where
  | non | bl (b : Bool) | int (i : Int) | str (s : Str) | ty (n : String) | glb (x : Str)
  | tup (l : List PV) | lst (l : List PV) | dct (k : Nat) (l : List (NestedKey × PV)) | ins (c : Str) (l : List (Str × PV))
/-- all old things stay -/
def GV (h h' : MH) : Prop := h.length ≤ h'.length ∧ ∀ (n : Nat) o, h[n]? = some o → h'[n]? = some o
theorem GV.refl {h : MH} : GV h h := ⟨Nat.le_refl _, fun _ _ e => e⟩
theorem GV.trans {a b c : MH} (p : GV a b) (q : GV b c) : GV a c := ⟨Nat.le_trans p.1 q.1, fun n o e => q.2 n o (p.2 n o e)⟩
theorem GV.app {h t : MH} : GV h (h ++ t) := ⟨by simp, fun n o e => by rw [List.getElem?_append_left (List.getElem?_eq_some_iff.mp e).1]; exact e⟩
theorem GV.setB {h h1 : MH} {n : Nat} {o : O} (g : GV h h1) (hn : h.length ≤ n) : GV h (h1.set n o) := ⟨by simpa using g.1, fun m x e => by rw [List.getElem?_set_ne (by have := (List.getElem?_eq_some_iff.mp e).1; omega)]; exact g.2 m x e⟩
def nkK : Key → NestedKey
  | .inl i => .num i
  | .inr s => .text s
def nkL : Leaf → NestedKey
  | .none => .none
  | .num i => .num i
  | .text s => .text s
theorem nkK_inj {a b : Key} : nkK a = nkK b ↔ a = b := by
  cases a <;> cases b <;> simp [nkK]
/-- the entries of a dict of any kind -/
def kvP : O → Option (Nat × List (NestedKey × D))
  | .dct l => some (0, l.map fun kv => (nkK kv.1, kv.2))
  | .ndc l => some (1, l.map fun kv => (nkL kv.1, kv.2))
  | .nkd l => some (2, l.map fun kv => (nkD kv.1, .tup [kv.1, kv.2]))
  | _ => none
section
variable (A : Nat → Prop) (h : MH)
mutual
/-- d stands for v in h; A: the places that must not be met -/
def Rep : PV → D → Prop
  | .non, d => d = .non
  | .bl b, d => d = .bl b
  | .int i, d => d = .int i
  | .str s, d => d = .str s
  | .ty n, d => d = .ty n
  | .glb x, d => d = .glb x
  | .tup l, d => ∃ ds, d = .tup ds ∧ Reps l ds
  | .lst l, d => ∃ n ds, d = .ref n ∧ ¬ A n ∧ h[n]? = some (.lst ds) ∧ Reps l ds
  | .dct k l, d => ∃ n o ds, d = .ref n ∧ ¬ A n ∧ h[n]? = some o ∧ kvP o = some (k, ds) ∧ RepK l ds
  | .ins c l, d => ∃ n ds, d = .ref n ∧ ¬ A n ∧ h[n]? = some (.ins c ds) ∧ RepF l ds
def Reps : List PV → List D → Prop
  | [], ds => ds = []
  | v :: l, ds => ∃ d r, ds = d :: r ∧ Rep v d ∧ Reps l r
def RepK : List (NestedKey × PV) → List (NestedKey × D) → Prop
  | [], ds => ds = []
  | (k, v) :: l, ds => ∃ d r, ds = (k, d) :: r ∧ Rep v d ∧ RepK l r
def RepF : List (Str × PV) → List (Str × D) → Prop
  | [], ds => ds = []
  | (k, v) :: l, ds => ∃ d r, ds = (k, d) :: r ∧ Rep v d ∧ RepF l r
end
end
section
variable {A A' : Nat → Prop} {h h' : MH}
/-- what is met stays -/
def Stay (A : Nat → Prop) (h : MH) (A' : Nat → Prop) (h' : MH) : Prop := ∀ n o, h[n]? = some o → ¬ A n → ¬ A' n ∧ h'[n]? = some o
mutual
theorem Rep.to (s : Stay A h A' h') : ∀ (v : PV) {d : D}, Rep A h v d → Rep A' h' v d
  | .non, _, q => by unfold Rep at q ⊢; exact q
  | .bl _, _, q => by unfold Rep at q ⊢; exact q
  | .int _, _, q => by unfold Rep at q ⊢; exact q
  | .str _, _, q => by unfold Rep at q ⊢; exact q
  | .ty _, _, q => by unfold Rep at q ⊢; exact q
  | .glb _, _, q => by unfold Rep at q ⊢; exact q
  | .tup l, _, q => by
    unfold Rep at q ⊢
    obtain ⟨ds, e, r⟩ := q
    exact ⟨ds, e, Reps.to s l r⟩
  | .lst l, _, q => by
    unfold Rep at q ⊢
    obtain ⟨n, ds, e, a, x, r⟩ := q
    exact ⟨n, ds, e, (s _ _ x a).1, (s _ _ x a).2, Reps.to s l r⟩
  | .dct k l, _, q => by
    unfold Rep at q ⊢
    obtain ⟨n, o, ds, e, a, x, y, r⟩ := q
    exact ⟨n, o, ds, e, (s _ _ x a).1, (s _ _ x a).2, y, RepK.to s l r⟩
  | .ins c l, _, q => by
    unfold Rep at q ⊢
    obtain ⟨n, ds, e, a, x, r⟩ := q
    exact ⟨n, ds, e, (s _ _ x a).1, (s _ _ x a).2, RepF.to s l r⟩
theorem Reps.to (s : Stay A h A' h') : ∀ (v : List PV) {d : List D}, Reps A h v d → Reps A' h' v d
  | [], _, q => by unfold Reps at q ⊢; exact q
  | v :: l, _, q => by
    unfold Reps at q ⊢
    obtain ⟨d, r, e, a, b⟩ := q
    exact ⟨d, r, e, Rep.to s v a, Reps.to s l b⟩
theorem RepK.to (s : Stay A h A' h') : ∀ (v : List (NestedKey × PV)) {d : List (NestedKey × D)}, RepK A h v d → RepK A' h' v d
  | [], _, q => by unfold RepK at q ⊢; exact q
  | (k, v) :: l, _, q => by
    unfold RepK at q ⊢
    obtain ⟨d, r, e, a, b⟩ := q
    exact ⟨d, r, e, Rep.to s v a, RepK.to s l b⟩
theorem RepF.to (s : Stay A h A' h') : ∀ (v : List (Str × PV)) {d : List (Str × D)}, RepF A h v d → RepF A' h' v d
  | [], _, q => by unfold RepF at q ⊢; exact q
  | (k, v) :: l, _, q => by
    unfold RepF at q ⊢
    obtain ⟨d, r, e, a, b⟩ := q
    exact ⟨d, r, e, Rep.to s v a, RepF.to s l b⟩
end
theorem GV.stay (g : GV h h') : Stay A h A h' := fun n o e a => ⟨a, g.2 n o e⟩
theorem GV.stay' (g : GV h h') (w : ∀ n, n < h.length → A' n → A n) : Stay A h A' h' := fun n o e a => ⟨fun z => a (w n (List.getElem?_eq_some_iff.mp e).1 z), g.2 n o e⟩
theorem Rep.up {v : PV} {d : D} (q : Rep A h v d) (g : GV h h') : Rep A h' v d := Rep.to g.stay v q
theorem Reps.up {v : List PV} {d : List D} (q : Reps A h v d) (g : GV h h') : Reps A h' v d := Reps.to g.stay v q
theorem RepF.up {v : List (Str × PV)} {d : List (Str × D)} (q : RepF A h v d) (g : GV h h') : RepF A h' v d := RepF.to g.stay v q
theorem RepK.up {v : List (NestedKey × PV)} {d : List (NestedKey × D)} (q : RepK A h v d) (g : GV h h') : RepK A h' v d := RepK.to g.stay v q
theorem Rep.less {v : PV} {d : D} (q : Rep A h v d) (w : ∀ n, A' n → A n) : Rep A' h v d := Rep.to (GV.refl.stay' fun n _ z => w n z) v q
theorem Reps.less {v : List PV} {d : List D} (q : Reps A h v d) (w : ∀ n, A' n → A n) : Reps A' h v d := Reps.to (GV.refl.stay' fun n _ z => w n z) v q
theorem RepF.less {v : List (Str × PV)} {d : List (Str × D)} (q : RepF A h v d) (w : ∀ n, A' n → A n) : RepF A' h v d := RepF.to (GV.refl.stay' fun n _ z => w n z) v q
mutual
/-- a mirror value stands for one pure value -/
theorem Rep.one : ∀ (v : PV) {v' : PV} {d : D}, Rep A h v d → Rep A' h v' d → v = v'
  | .non, v', _, p, q => by unfold Rep at p; subst p; cases v' <;> simp_all [Rep]
  | .bl _, v', _, p, q => by unfold Rep at p; subst p; cases v' <;> simp_all [Rep]
  | .int _, v', _, p, q => by unfold Rep at p; subst p; cases v' <;> simp_all [Rep]
  | .str _, v', _, p, q => by unfold Rep at p; subst p; cases v' <;> simp_all [Rep]
  | .ty _, v', _, p, q => by unfold Rep at p; subst p; cases v' <;> simp_all [Rep]
  | .glb _, v', _, p, q => by unfold Rep at p; subst p; cases v' <;> simp_all [Rep]
  | .tup l, v', _, p, q => by
    unfold Rep at p
    obtain ⟨ds, e, r⟩ := p
    subst e
    cases v' <;> simp [Rep] at q
    rw [Reps.one l r q]
  | .lst l, v', _, p, q => by
    unfold Rep at p
    obtain ⟨n, ds, e, _, x, r⟩ := p
    subst e
    cases v' <;> simp [Rep] at q
    · obtain ⟨_, ds', x', r'⟩ := q
      rw [x] at x'
      cases x'
      rw [Reps.one l r r']
    · obtain ⟨_, o, x', ds', y', r'⟩ := q
      rw [x] at x'
      cases x'
      simp [kvP] at y'
    · obtain ⟨_, ds', x', r'⟩ := q
      rw [x] at x'
      cases x'
  | .dct k l, v', _, p, q => by
    unfold Rep at p
    obtain ⟨n, o, ds, e, _, x, y, r⟩ := p
    subst e
    cases v' <;> simp [Rep] at q
    · obtain ⟨_, ds', x', r'⟩ := q
      rw [x] at x'
      cases x'
      cases y
    · obtain ⟨_, o', x', ds', y', r'⟩ := q
      rw [x] at x'
      cases x'
      rw [y] at y'
      cases y'
      rw [RepK.one l r r']
    · obtain ⟨_, ds', x', r'⟩ := q
      rw [x] at x'
      cases x'
      cases y
  | .ins c l, v', _, p, q => by
    unfold Rep at p
    obtain ⟨n, ds, e, _, x, r⟩ := p
    subst e
    cases v' <;> simp [Rep] at q
    · obtain ⟨_, ds', x', r'⟩ := q
      rw [x] at x'
      cases x'
    · obtain ⟨_, o, x', ds', y', r'⟩ := q
      rw [x] at x'
      cases x'
      simp [kvP] at y'
    · obtain ⟨_, ds', x', r'⟩ := q
      rw [x] at x'
      cases x'
      rw [RepF.one l r r']
theorem Reps.one : ∀ (v : List PV) {v' : List PV} {d : List D}, Reps A h v d → Reps A' h v' d → v = v'
  | [], v', _, p, q => by
    unfold Reps at p
    subst p
    cases v' with
    | nil => rfl
    | cons a b => simp [Reps] at q
  | v :: l, v', _, p, q => by
    unfold Reps at p
    obtain ⟨d, r, e, a, b⟩ := p
    subst e
    cases v' with
    | nil => simp [Reps] at q
    | cons a' b' =>
      obtain ⟨_, _, e, q1, q2⟩ := (show ∃ d_1 r_1, d :: r = d_1 :: r_1 ∧ Rep A' h a' d_1 ∧ Reps A' h b' r_1 by unfold Reps at q; exact q)
      cases e
      rw [Rep.one v a q1, Reps.one l b q2]
theorem RepK.one : ∀ (v : List (NestedKey × PV)) {v' : List (NestedKey × PV)} {d : List (NestedKey × D)}, RepK A h v d → RepK A' h v' d → v = v'
  | [], v', _, p, q => by
    unfold RepK at p
    subst p
    cases v' with
    | nil => rfl
    | cons a b => obtain ⟨k, w⟩ := a; simp [RepK] at q
  | (k, v) :: l, v', _, p, q => by
    unfold RepK at p
    obtain ⟨d, r, e, a, b⟩ := p
    subst e
    cases v' with
    | nil => simp [RepK] at q
    | cons a' b' =>
      obtain ⟨k', w⟩ := a'
      simp [RepK] at q
      obtain ⟨d', r', ⟨⟨e1, e2⟩, e3⟩, q1, q2⟩ := q
      subst e1 e2 e3
      rw [Rep.one v a q1, RepK.one l b q2]
theorem RepF.one : ∀ (v : List (Str × PV)) {v' : List (Str × PV)} {d : List (Str × D)}, RepF A h v d → RepF A' h v' d → v = v'
  | [], v', _, p, q => by
    unfold RepF at p
    subst p
    cases v' with
    | nil => rfl
    | cons a b => obtain ⟨k, w⟩ := a; simp [RepF] at q
  | (k, v) :: l, v', _, p, q => by
    unfold RepF at p
    obtain ⟨d, r, e, a, b⟩ := p
    subst e
    cases v' with
    | nil => simp [RepF] at q
    | cons a' b' =>
      obtain ⟨k', w⟩ := a'
      simp [RepF] at q
      obtain ⟨d', r', ⟨⟨e1, e2⟩, e3⟩, q1, q2⟩ := q
      subst e1 e2 e3
      rw [Rep.one v a q1, RepF.one l b q2]
end
theorem Reps.nil : Reps A h [] [] := by unfold Reps; rfl
theorem Reps.cons {v : PV} {d : D} {l : List PV} {ds : List D} (a : Rep A h v d) (b : Reps A h l ds) : Reps A h (v :: l) (d :: ds) := by unfold Reps; exact ⟨d, ds, rfl, a, b⟩
theorem Reps.inv {v : PV} {l : List PV} {ds : List D} (q : Reps A h (v :: l) ds) : ∃ d r, ds = d :: r ∧ Rep A h v d ∧ Reps A h l r := by unfold Reps at q; exact q
theorem Reps.invNil {ds : List D} (q : Reps A h [] ds) : ds = [] := by unfold Reps at q; exact q
theorem Reps.length : ∀ {l : List PV} {ds : List D}, Reps A h l ds → ds.length = l.length
  | [], _, q => by rw [q.invNil]; rfl
  | v :: l, _, q => by
    obtain ⟨d, r, e, _, b⟩ := q.inv
    subst e
    simp [b.length]
theorem Reps.get : ∀ {l : List PV} {ds : List D} {i : Nat} {v : PV}, Reps A h l ds → l[i]? = some v → ∃ d, ds[i]? = some d ∧ Rep A h v d
  | [], _, i, v, q, e => by simp at e
  | x :: l, _, 0, v, q, e => by
    obtain ⟨d, r, e1, a, b⟩ := q.inv
    subst e1
    simp at e
    subst e
    exact ⟨d, rfl, a⟩
  | x :: l, _, i + 1, v, q, e => by
    obtain ⟨d, r, e1, a, b⟩ := q.inv
    subst e1
    obtain ⟨y, p1, p2⟩ := b.get (i := i) (by simpa using e)
    exact ⟨y, by simpa using p1, p2⟩
theorem Reps.append : ∀ {l m : List PV} {ds es : List D}, Reps A h l ds → Reps A h m es → Reps A h (l ++ m) (ds ++ es)
  | [], _, _, _, q, r => by rw [q.invNil]; exact r
  | v :: l, m, _, es, q, r => by
    obtain ⟨d, s, e, a, b⟩ := q.inv
    subst e
    exact .cons a (b.append r)
theorem Reps.single {v : PV} {d : D} (a : Rep A h v d) : Reps A h [v] [d] := .cons a .nil
theorem Reps.take : ∀ {l : List PV} {ds : List D} (n : Nat), Reps A h l ds → Reps A h (l.take n) (ds.take n)
  | _, _, 0, _ => by simp only [List.take_zero]; exact .nil
  | [], _, n + 1, q => by rw [q.invNil]; exact .nil
  | v :: l, _, n + 1, q => by
    obtain ⟨d, s, e, a, b⟩ := q.inv
    subst e
    exact .cons a (Reps.take n b)
theorem Reps.drop : ∀ {l : List PV} {ds : List D} (n : Nat), Reps A h l ds → Reps A h (l.drop n) (ds.drop n)
  | _, _, 0, q => q
  | [], _, n + 1, q => by rw [q.invNil]; exact .nil
  | v :: l, _, n + 1, q => by
    obtain ⟨d, s, e, a, b⟩ := q.inv
    subst e
    exact Reps.drop n b
theorem Reps.reverse {l : List PV} {ds : List D} (q : Reps A h l ds) : Reps A h l.reverse ds.reverse := by
  induction l generalizing ds with
  | nil => rw [q.invNil]; exact .nil
  | cons v l ih =>
    obtain ⟨d, s, e, a, b⟩ := q.inv
    subst e
    rw [List.reverse_cons, List.reverse_cons]
    exact (ih b).append (.single a)
theorem Reps.set : ∀ {l : List PV} {ds : List D} {v : PV} {d : D} (n : Nat), Reps A h l ds → Rep A h v d → Reps A h (l.set n v) (ds.set n d)
  | [], _, _, _, n, q, _ => by rw [q.invNil]; exact .nil
  | x :: l, _, v, d, 0, q, r => by
    obtain ⟨y, s, e, a, b⟩ := q.inv
    subst e
    exact .cons r b
  | x :: l, _, v, d, n + 1, q, r => by
    obtain ⟨y, s, e, a, b⟩ := q.inv
    subst e
    exact .cons a (Reps.set n b r)
theorem Reps.dropLast : ∀ {l : List PV} {ds : List D}, Reps A h l ds → Reps A h l.dropLast ds.dropLast := fun {l ds} q => by
  rw [List.dropLast_eq_take, List.dropLast_eq_take, q.length]
  exact q.take _
theorem RepF.look {l : List (Str × PV)} {ds : List (Str × D)} (f : Str) (q : RepF A h l ds) : match l.lookup f with
    | some v => ∃ d, ds.lookup f = some d ∧ Rep A h v d
    | none => ds.lookup f = none := by
  induction l generalizing ds with
  | nil => unfold RepF at q; subst q; rfl
  | cons x l ih =>
    obtain ⟨k, v⟩ := x
    unfold RepF at q
    obtain ⟨d, r, e, a, b⟩ := q
    subst e
    rw [List.lookup_cons, List.lookup_cons]
    by_cases c : (f == k) = true
    · rw [c]
      exact ⟨d, rfl, a⟩
    · rw [Bool.not_eq_true] at c
      rw [c]
      exact ih b
theorem RepF.length {l : List (Str × PV)} {ds : List (Str × D)} (q : RepF A h l ds) : ds.length = l.length := by
  induction l generalizing ds with
  | nil => unfold RepF at q; subst q; rfl
  | cons x l ih =>
    obtain ⟨k, v⟩ := x
    unfold RepF at q
    obtain ⟨d, r, e, a, b⟩ := q
    subst e
    simp [ih b]
theorem RepK.length {l : List (NestedKey × PV)} {ds : List (NestedKey × D)} (q : RepK A h l ds) : ds.length = l.length := by
  induction l generalizing ds with
  | nil => unfold RepK at q; subst q; rfl
  | cons x l ih =>
    obtain ⟨k, v⟩ := x
    unfold RepK at q
    obtain ⟨d, r, e, a, b⟩ := q
    subst e
    simp [ih b]
end
end ML
namespace ML
open PySem PySem.Spec PyProof.Rows L2
inductive PR (α : Type) where
  | ok (a : α) | exc (c : Str) (fs : List (Str × PV)) | bad
def PR.bind {α β : Type} (r : PR α) (f : α → PR β) : PR β := match r with
  | .ok a => f a
  | .exc c fs => .exc c fs
  | .bad => .bad
@[simp] theorem PR.bind_ok {α β : Type} (a : α) (f : α → PR β) : (PR.ok a).bind f = f a := rfl
@[simp] theorem PR.bind_bad {α β : Type} (f : α → PR β) : (PR.bad : PR α).bind f = .bad := rfl
@[simp] theorem PR.bind_exc {α β : Type} (c : Str) (fs : List (Str × PV)) (f : α → PR β) : (PR.exc c fs : PR α).bind f = .exc c fs := rfl
inductive Slot where
  | no | val (v : PV) | own (v : PV)
abbrev PEnv := List Slot
inductive PS where
  | nx (e : PEnv) | rt (v : PV) | bk (e : PEnv) | ct (e : PEnv) | exc (c : Str) (fs : List (Str × PV)) | bad
abbrev PX := PEnv → PR PV
abbrev PT := PEnv → PR Bool
abbrev PA := PEnv → PR (List PV)
abbrev PSM := PEnv → PS
abbrev PFM := List PV → PR PV
/-- a thing that is held by one name alone -/
def OwnRep (A : Nat → Prop) (h : MH) (v : PV) (n : Nat) : Prop := match v with
  | .lst l => ∃ ds, h[n]? = some (.lst ds) ∧ Reps A h l ds
  | .dct k l => ∃ o ds, h[n]? = some o ∧ kvP o = some (k, ds) ∧ RepK A h l ds
  | .ins c l => ∃ ds, h[n]? = some (.ins c ds) ∧ RepF A h l ds
  | _ => False
def Rep1 (A : Nat → Prop) (h : MH) (v : PV) (d : D) : Prop := Rep A h v d ∨ ∃ n, d = .ref n ∧ OwnRep A h v n
/-- something new -/
def Fr (A : Nat → Prop) (h0 h : MH) (v : PV) (d : D) : Prop := ∃ n, d = .ref n ∧ h0.length ≤ n ∧ OwnRep (fun m => A m ∨ m = n) h v n
def Ow (pe : PEnv) (e : Env) (n : Nat) : Prop := ∃ (i : Nat) (v : PV), pe[i]? = some (Slot.own v) ∧ e[i]? = some (some (D.ref n))
def Av (A : Nat → Prop) (pe : PEnv) (e : Env) (n : Nat) : Prop := A n ∨ Ow pe e n
structure ER (A : Nat → Prop) (pe : PEnv) (e : Env) (h : MH) : Prop where
  len : e.length = pe.length
  val : ∀ (i : Nat) v, pe[i]? = some (.val v) → ∃ d, e[i]? = some (some d) ∧ Rep (Av A pe e) h v d
  own : ∀ (i : Nat) v, pe[i]? = some (.own v) → ∃ n, e[i]? = some (some (.ref n)) ∧ ¬ A n ∧ OwnRep (Av A pe e) h v n
  inj : ∀ (i j : Nat) v w n, pe[i]? = some (.own v) → pe[j]? = some (.own w) → e[i]? = some (some (.ref n)) → e[j]? = some (some (.ref n)) → i = j
  low : ∀ n, A n → n < h.length
def Sim {α β : Type} (A : Nat → Prop) (Rel : MH → α → β → Prop) (h : MH) (p : PR α) (r : R β) : Prop := match p with
  | .ok v => ∃ d h', r = .ok d h' ∧ GV h h' ∧ Rel h' v d
  | .exc c fs => ∃ ds h', r = .exc c ds h' ∧ GV h h' ∧ RepF A h' fs ds
  | .bad => True
section
variable {A A' : Nat → Prop} {h h' h0 : MH} {pe : PEnv} {e : Env}
theorem OwnRep.to (s : Stay A h A' h') {v : PV} {n : Nat} (k : ∀ o, h[n]? = some o → h'[n]? = some o) (q : OwnRep A h v n) : OwnRep A' h' v n := by
  unfold OwnRep at q ⊢
  cases v with
  | lst l => obtain ⟨ds, a, b⟩ := q; exact ⟨ds, k _ a, Reps.to s l b⟩
  | dct j l => obtain ⟨o, ds, a, c, b⟩ := q; exact ⟨o, ds, k _ a, c, RepK.to s l b⟩
  | ins c l => obtain ⟨ds, a, b⟩ := q; exact ⟨ds, k _ a, RepF.to s l b⟩
  | _ => exact q.elim
theorem OwnRep.less {v : PV} {n : Nat} (q : OwnRep A h v n) (w : ∀ n, A' n → A n) : OwnRep A' h v n := q.to (GV.refl.stay' fun n _ z => w n z) fun _ z => z
theorem OwnRep.up {v : PV} {n : Nat} (q : OwnRep A h v n) (g : GV h h') : OwnRep A h' v n := q.to g.stay fun o z => g.2 _ o z
theorem OwnRep.lt {v : PV} {n : Nat} (q : OwnRep A h v n) : n < h.length := by
  unfold OwnRep at q
  cases v with
  | lst l => obtain ⟨ds, a, b⟩ := q; exact (List.getElem?_eq_some_iff.mp a).1
  | dct j l => obtain ⟨o, ds, a, c, b⟩ := q; exact (List.getElem?_eq_some_iff.mp a).1
  | ins c l => obtain ⟨ds, a, b⟩ := q; exact (List.getElem?_eq_some_iff.mp a).1
  | _ => exact q.elim
theorem OwnRep.rep {v : PV} {n : Nat} (q : OwnRep A h v n) (a : ¬ A n) : Rep A h v (.ref n) := by
  unfold OwnRep at q
  cases v with
  | lst l => obtain ⟨ds, x, b⟩ := q; unfold Rep; exact ⟨n, ds, rfl, a, x, b⟩
  | dct j l => obtain ⟨o, ds, x, c, b⟩ := q; unfold Rep; exact ⟨n, o, ds, rfl, a, x, c, b⟩
  | ins c l => obtain ⟨ds, x, b⟩ := q; unfold Rep; exact ⟨n, ds, rfl, a, x, b⟩
  | _ => exact q.elim
theorem Rep1.up {v : PV} {d : D} (q : Rep1 A h v d) (g : GV h h') : Rep1 A h' v d := by
  rcases q with q | ⟨n, e, q⟩
  · exact .inl (q.up g)
  · exact .inr ⟨n, e, q.up g⟩
theorem Fr.rep {v : PV} {d : D} (q : Fr A h0 h v d) (w : ∀ n, A n → n < h0.length) : Rep A h v d := by
  obtain ⟨n, e, l, o⟩ := q
  subst e
  exact (o.less fun m z => .inl z).rep fun z => by have := w n z; omega
theorem ER.up (s : ER A pe e h) (g : GV h h') : ER A pe e h' where
  len := s.len
  val i v q := by
    obtain ⟨d, a, b⟩ := s.val i v q
    exact ⟨d, a, b.up g⟩
  own i v q := by
    obtain ⟨d, a, c, b⟩ := s.own i v q
    exact ⟨d, a, c, b.up g⟩
  inj := s.inj
  low n a := Nat.lt_of_lt_of_le (s.low n a) g.1
theorem ER.av (s : ER A pe e h) {n : Nat} (q : Av A pe e n) : n < h.length := by
  rcases q with q | ⟨i, v, a, b⟩
  · exact s.low n q
  · obtain ⟨m, c, _, d⟩ := s.own i v a
    rw [b] at c
    cases c
    exact d.lt
theorem Sim.bind {α β γ δ : Type} {Rel : MH → α → β → Prop} {Rel2 : MH → γ → δ → Prop} {p : PR α} {r : R β} {f : α → PR γ} {g : β → MH → R δ} (q : Sim A Rel h p r)
    (k : ∀ v d h', GV h h' → Rel h' v d → Sim A Rel2 h' (f v) (g d h')) : Sim A Rel2 h (p.bind f) (r.bind g) := by
  cases p with
  | ok v =>
    obtain ⟨d, h', e1, g1, r1⟩ := q
    subst e1
    have := k v d h' g1 r1
    show Sim A Rel2 h (f v) (g d h')
    unfold Sim at this ⊢
    revert this
    cases f v with
    | ok w => intro ⟨d2, h2, e2, g2, r2⟩; exact ⟨d2, h2, e2, g1.trans g2, r2⟩
    | exc c fs => intro ⟨d2, h2, e2, g2, r2⟩; exact ⟨d2, h2, e2, g1.trans g2, r2⟩
    | bad => intro _; trivial
  | exc c fs =>
    obtain ⟨ds, h', e1, g1, r1⟩ := q
    subst e1
    exact ⟨ds, h', rfl, g1, r1⟩
  | bad => trivial
theorem Sim.mono {α β : Type} {Rel Rel2 : MH → α → β → Prop} {p : PR α} {r : R β} (q : Sim A Rel h p r) (k : ∀ h' v d, GV h h' → Rel h' v d → Rel2 h' v d) : Sim A Rel2 h p r := by
  cases p with
  | ok v => obtain ⟨d, h', e1, g1, r1⟩ := q; exact ⟨d, h', e1, g1, k _ _ _ g1 r1⟩
  | exc c fs => exact q
  | bad => trivial
theorem Sim.okk {α β : Type} {Rel : MH → α → β → Prop} {v : α} {d : β} (r : Rel h v d) : Sim A Rel h (.ok v) (.ok d h) := ⟨d, h, rfl, GV.refl, r⟩
theorem Sim.less {α β : Type} {Rel : MH → α → β → Prop} {p : PR α} {r : R β} (q : Sim A Rel h p r) (k : ∀ n, A' n → A n) : Sim A' Rel h p r := by
  cases p with
  | ok v => exact q
  | exc c fs => obtain ⟨ds, h', e, g, f⟩ := q; exact ⟨ds, h', e, g, f.less k⟩
  | bad => trivial
end
def okX (m : EM) (p : PX) : Prop := ∀ A pe e h, ER A pe e h → Sim (Av A pe e) (Rep (Av A pe e)) h (p pe) (m e h)
def okB (m : EM) (p : PX) : Prop := ∀ A pe e h, ER A pe e h → Sim (Av A pe e) (Rep1 (Av A pe e)) h (p pe) (m e h)
def okF (m : EM) (p : PX) : Prop := ∀ A pe e h, ER A pe e h → Sim (Av A pe e) (Fr (Av A pe e) h) h (p pe) (m e h)
def okT (m : TM) (p : PT) : Prop := ∀ A pe e h, ER A pe e h → Sim (Av A pe e) (fun _ a b => b = a) h (p pe) (m e h)
def okA (m : AM) (p : PA) : Prop := ∀ A pe e h, ER A pe e h → Sim (Av A pe e) (Reps (Av A pe e)) h (p pe) (m e h)
/-- arguments of operators that only look: a list that one name holds may be met -/
def Reps1 (A : Nat → Prop) (h : MH) : List PV → List D → Prop
  | [], ds => ds = []
  | v :: l, ds => ∃ d r, ds = d :: r ∧ Rep1 A h v d ∧ Reps1 A h l r
def okA1 (m : AM) (p : PA) : Prop := ∀ A pe e h, ER A pe e h → Sim (Av A pe e) (Reps1 (Av A pe e)) h (p pe) (m e h)
def Op2 (f : D → D → MH → R D) (p : PV → PV → PR PV) : Prop := ∀ A h x y vx vy, (∀ n, A n → n < h.length) → Rep1 A h vx x → Rep1 A h vy y → Sim A (Rep A) h (p vx vy) (f x y h)
def Op1 (f : D → MH → R D) (p : PV → PR PV) : Prop := ∀ A h x vx, (∀ n, A n → n < h.length) → Rep1 A h vx x → Sim A (Rep A) h (p vx) (f x h)
def Ops (f : List D → MH → R D) (p : List PV → PR PV) : Prop := ∀ A h xs vs, (∀ n, A n → n < h.length) → Reps1 A h vs xs → Sim A (Rep A) h (p vs) (f xs h)
def FOp2 (f : D → D → MH → R D) (p : PV → PV → PR PV) : Prop := ∀ A h x y vx vy, (∀ n, A n → n < h.length) → Rep1 A h vx x → Rep1 A h vy y → Sim A (Fr A h) h (p vx vy) (f x y h)
def FOps (f : List D → MH → R D) (p : List PV → PR PV) : Prop := ∀ A h xs vs, (∀ n, A n → n < h.length) → Reps1 A h vs xs → Sim A (Fr A h) h (p vs) (f xs h)
/-- a def -/
def FOK (m : FM) (p : PFM) : Prop := ∀ A h vs ds, (∀ n, A n → n < h.length) → Reps A h vs ds → Sim A (Rep A) h (p vs) (m ds h)
def varP (i : Nat) : PX := fun e => match e[i]? with
  | some (.val v) => .ok v
  | _ => .bad
def bvarP (i : Nat) : PX := fun e => match e[i]? with
  | some (.val v) => .ok v
  | some (.own v) => .ok v
  | _ => .bad
def conP (v : PV) : PX := fun _ => .ok v
def binP (f : PV → PV → PR PV) (a b : PX) : PX := fun e => (a e).bind fun x => (b e).bind fun y => f x y
def unP (f : PV → PR PV) (a : PX) : PX := fun e => (a e).bind f
def toBP : PV → PR Bool
  | .bl b => .ok b
  | _ => .bad
def valP (a : PX) : PT := fun e => (a e).bind toBP
def andTP (a b : PT) : PT := fun e => (a e).bind fun x => if x then b e else .ok false
def orTP (a b : PT) : PT := fun e => (a e).bind fun x => if x then .ok true else b e
def notTP (a : PT) : PT := fun e => (a e).bind fun x => .ok (!x)
def andEP (a b : PX) : PX := fun e => (a e).bind fun x => (toBP x).bind fun c => if c then b e else .ok (.bl false)
def ifEP (t : PT) (a b : PX) : PX := fun e => (t e).bind fun c => if c then a e else b e
def nilP : PA := fun _ => .ok []
def consP (a : PX) (r : PA) : PA := fun e => (a e).bind fun x => (r e).bind fun xs => .ok (x :: xs)
def onP (f : List PV → PR PV) (a : PA) : PX := fun e => (a e).bind f
def onKP (n j : Nat) (m : PFM) (a b : PA) : PX := fun e => (a e).bind fun xs => (b e).bind fun ys => if xs.length = n ∧ ys.length = j then m (xs ++ ys) else .bad
section
variable {m a b c : EM} {p pa pb pc : PX} {t t2 : TM} {pt pt2 : PT} {as bs : AM} {ps qs : PA} {f g : D → D → MH → R D} {pf pg : PV → PV → PR PV}
theorem x_b (q : okX m p) : okB m p := fun A pe e h s => (q A pe e h s).mono fun _ _ _ _ r => .inl r
theorem x_f (q : okF m p) : okX m p := fun A pe e h s => (q A pe e h s).mono fun _ _ _ _ r => r.rep fun n z => s.av z
theorem x_var (i : Nat) : okX (varE i) (varP i) := fun A pe e h s => by
  unfold varP varE
  split
  · rename_i v hv
    obtain ⟨d, a, b⟩ := s.val i v hv
    rw [a]
    exact Sim.okk b
  · trivial
theorem b_var (i : Nat) : okB (varE i) (bvarP i) := fun A pe e h s => by
  unfold bvarP varE
  split
  · rename_i v hv
    obtain ⟨d, a, b⟩ := s.val i v hv
    rw [a]
    exact Sim.okk (.inl b)
  · rename_i v hv
    obtain ⟨n, a, _, b⟩ := s.own i v hv
    rw [a]
    exact Sim.okk (.inr ⟨n, rfl, b⟩)
  · trivial
theorem x_con {v : PV} {d : D} (r : ∀ A h, Rep A h v d) : okX (conE d) (conP v) := fun A pe e h s => Sim.okk (r _ _)
theorem x_int {i} : okX (conE (.int i)) (conP (.int i)) := x_con fun _ _ => by unfold Rep; rfl
theorem x_str {i} : okX (conE (.str i)) (conP (.str i)) := x_con fun _ _ => by unfold Rep; rfl
theorem x_bl {i} : okX (conE (.bl i)) (conP (.bl i)) := x_con fun _ _ => by unfold Rep; rfl
theorem x_non : okX (conE .non) (conP .non) := x_con fun _ _ => by unfold Rep; rfl
theorem x_ty {i} : okX (conE (.ty i)) (conP (.ty i)) := x_con fun _ _ => by unfold Rep; rfl
theorem x_glb {i} : okX (conE (.glb i)) (conP (.glb i)) := x_con fun _ _ => by unfold Rep; rfl
theorem reps_strs {A : Nat → Prop} {h : MH} (l : List Str) : Reps A h (l.map .str) (l.map .str) := by
  induction l with
  | nil => exact .nil
  | cons x l ih => exact .cons (by unfold Rep; rfl) ih
theorem x_bin (hf : Op2 f pf) (ha : okB a pa) (hb : okB b pb) : okX (bin f a b) (binP pf pa pb) := fun A pe e h s =>
  (ha A pe e h s).bind fun vx x h1 g1 r1 => (hb A pe e h1 (s.up g1)).bind fun vy y h2 g2 r2 => hf _ _ _ _ _ _ (fun n z => Nat.lt_of_lt_of_le (s.av z) (g1.trans g2).1) (r1.up g2) r2
theorem x_un {f : D → MH → R D} {pf : PV → PR PV} (hf : Op1 f pf) (ha : okB a pa) : okX (un f a) (unP pf pa) := fun A pe e h s =>
  (ha A pe e h s).bind fun vx x h1 g1 r1 => hf _ _ _ _ (fun n z => Nat.lt_of_lt_of_le (s.av z) g1.1) r1
theorem toB_sim {A : Nat → Prop} {h : MH} {v : PV} {d : D} (r : Rep A h v d) : Sim A (fun _ a b => b = a) h (toBP v) (toB d h) := by
  unfold toBP
  split
  · unfold Rep at r
    subst r
    exact Sim.okk rfl
  · trivial
theorem t_valP (ha : okX a pa) : okT (valT a) (valP pa) := fun A pe e h s => (ha A pe e h s).bind fun vx x h1 g1 r1 => toB_sim r1
theorem t_andP (ha : okT t pt) (hb : okT t2 pt2) : okT (andT t t2) (andTP pt pt2) := fun A pe e h s =>
  (ha A pe e h s).bind fun vx x h1 g1 r1 => by
    subst r1
    cases x with
    | true => exact hb A pe e h1 (s.up g1)
    | false => exact Sim.okk rfl
theorem t_orP (ha : okT t pt) (hb : okT t2 pt2) : okT (orT t t2) (orTP pt pt2) := fun A pe e h s =>
  (ha A pe e h s).bind fun vx x h1 g1 r1 => by
    subst r1
    cases x with
    | false => exact hb A pe e h1 (s.up g1)
    | true => exact Sim.okk rfl
theorem t_notP (ha : okT t pt) : okT (notT t) (notTP pt) := fun A pe e h s =>
  (ha A pe e h s).bind fun vx x h1 g1 r1 => by
    subst r1
    exact Sim.okk rfl
theorem rep_bl {A : Nat → Prop} {h : MH} {b : Bool} : Rep A h (.bl b) (.bl b) := by unfold Rep; rfl
theorem rep_int {A : Nat → Prop} {h : MH} {b : Int} : Rep A h (.int b) (.int b) := by unfold Rep; rfl
theorem rep_str {A : Nat → Prop} {h : MH} {b : Str} : Rep A h (.str b) (.str b) := by unfold Rep; rfl
theorem rep_non {A : Nat → Prop} {h : MH} : Rep A h .non .non := by unfold Rep; rfl
theorem x_andP (ha : okX a pa) (hb : okX b pb) : okX (andE a b) (andEP pa pb) := fun A pe e h s =>
  (ha A pe e h s).bind fun vx x h1 g1 r1 => (toB_sim r1).bind fun v d h2 g2 r2 => by
    subst r2
    cases d with
    | true => exact hb A pe e h2 (s.up (g1.trans g2))
    | false => exact Sim.okk rep_bl
theorem x_ifP (ht : okT t pt) (ha : okX a pa) (hb : okX b pb) : okX (ifE t a b) (ifEP pt pa pb) := fun A pe e h s =>
  (ht A pe e h s).bind fun v d h2 g2 r2 => by
    subst r2
    cases d with
    | true => exact ha A pe e h2 (s.up g2)
    | false => exact hb A pe e h2 (s.up g2)
theorem a_nilP : okA nilA nilP := fun A pe e h s => Sim.okk .nil
theorem a_consP (ha : okX a pa) (hr : okA as ps) : okA (consA a as) (consP pa ps) := fun A pe e h s =>
  (ha A pe e h s).bind fun vx x h1 g1 r1 => (hr A pe e h1 (s.up g1)).bind fun vy y h2 g2 r2 => Sim.okk (.cons (r1.up g2) r2)
theorem Reps1.up {A : Nat → Prop} {h h' : MH} : ∀ {l : List PV} {ds : List D}, Reps1 A h l ds → GV h h' → Reps1 A h' l ds
  | [], _, q, _ => q
  | v :: l, _, q, g => by
    obtain ⟨d, r, e, a, b⟩ := q
    exact ⟨d, r, e, a.up g, b.up g⟩
theorem a1_nil : okA1 nilA nilP := fun A pe e h s => Sim.okk rfl
theorem a1_cons (ha : okB a pa) (hr : okA1 as ps) : okA1 (consA a as) (consP pa ps) := fun A pe e h s =>
  (ha A pe e h s).bind fun vx x h1 g1 r1 => (hr A pe e h1 (s.up g1)).bind fun vy y h2 g2 r2 => Sim.okk ⟨_, _, rfl, r1.up g2, r2⟩
theorem x_on {f : FM} {pf : PFM} (hf : FOK f pf) (ha : okA as ps) : okX (onA f as) (onP pf ps) := fun A pe e h s =>
  (ha A pe e h s).bind fun vx x h1 g1 r1 => hf _ _ _ _ (fun n z => Nat.lt_of_lt_of_le (s.av z) g1.1) r1
theorem x_ops {f : List D → MH → R D} {pf : List PV → PR PV} (hf : Ops f pf) (ha : okA1 as ps) : okX (onA f as) (onP pf ps) := fun A pe e h s =>
  (ha A pe e h s).bind fun vx x h1 g1 r1 => hf _ _ _ _ (fun n z => Nat.lt_of_lt_of_le (s.av z) g1.1) r1
theorem f_ops {f : List D → MH → R D} {pf : List PV → PR PV} (hf : FOps f pf) (ha : okA1 as ps) : okF (onA f as) (onP pf ps) := fun A pe e h s =>
  (ha A pe e h s).bind fun vx x h1 g1 r1 => (hf _ _ _ _ (fun n z => Nat.lt_of_lt_of_le (s.av z) g1.1) r1).mono fun h3 v d g3 ⟨n, e1, l, o⟩ => ⟨n, e1, Nat.le_trans g1.1 l, o⟩
theorem x_onK {n j : Nat} {f : FM} {pf : PFM} (hf : FOK f pf) (ha : okA as ps) (hb : okA bs qs) : okX (onK n j f as bs) (onKP n j pf ps qs) := fun A pe e h s =>
  (ha A pe e h s).bind fun vx x h1 g1 r1 => (hb A pe e h1 (s.up g1)).bind fun vy y h2 g2 r2 => by
    rw [r1.length, r2.length]
    split
    · exact hf _ _ _ _ (fun n z => Nat.lt_of_lt_of_le (s.av z) (g1.trans g2).1) ((r1.up g2).append r2)
    · trivial
def tupP : List PV → PR PV := fun xs => if xs.length ≤ 1000000 then .ok (.tup xs) else .bad
def lstP : List PV → PR PV := fun xs => if xs.length ≤ 1000000 then .ok (.lst xs) else .bad
theorem x_tup (ha : okA as ps) : okX (onA tupF as) (onP tupP ps) := fun A pe e h s =>
  (ha A pe e h s).bind fun vx x h1 g1 r1 => by
    unfold tupP tupF
    rw [r1.length]
    split
    · exact Sim.okk (by unfold Rep; exact ⟨_, rfl, r1⟩)
    · trivial
theorem new_stay {A : Nat → Prop} {h t : MH} : Stay A h (fun m => A m ∨ m = h.length) (h ++ t) := fun n o e a => ⟨fun z => by
    rcases z with z | z
    · exact a z
    · have := (List.getElem?_eq_some_iff.mp e).1
      omega, GV.app.2 _ _ e⟩
theorem own_lst {A : Nat → Prop} {h : MH} {l : List PV} {ds : List D} (r : Reps A h l ds) : OwnRep (fun m => A m ∨ m = h.length) (h ++ [.lst ds]) (.lst l) h.length := ⟨ds, by simp, Reps.to new_stay l r⟩
theorem f_lst (ha : okA as ps) : okF (onA lstF as) (onP lstP ps) := fun A pe e h s =>
  (ha A pe e h s).bind fun vx x h1 g1 r1 => by
    unfold lstP lstF
    rw [r1.length]
    split
    · exact ⟨_, _, rfl, GV.app, h1.length, rfl, g1.1, own_lst r1⟩
    · trivial
end
end ML
namespace ML
open PySem PySem.Spec PyProof.Rows L2
/-- what a statement leaves: all that no name holds alone -/
structure Fm (pe : PEnv) (e : Env) (h : MH) (pe' : PEnv) (e' : Env) (h' : MH) : Prop where
  len : h.length ≤ h'.length
  st : ∀ (n : Nat) o, h[n]? = some o → ¬ Ow pe e n → h'[n]? = some o ∧ ¬ Ow pe' e' n
structure Fm0 (pe : PEnv) (e : Env) (h h' : MH) : Prop where
  len : h.length ≤ h'.length
  st : ∀ (n : Nat) o, h[n]? = some o → ¬ Ow pe e n → h'[n]? = some o
def SimS (A : Nat → Prop) (pe : PEnv) (e : Env) (h : MH) (p : PS) (s : S) : Prop := match p with
  | .nx pe' => ∃ e' h', s = .nx e' h' ∧ ER A pe' e' h' ∧ Fm pe e h pe' e' h'
  | .bk pe' => ∃ e' h', s = .bk e' h' ∧ ER A pe' e' h' ∧ Fm pe e h pe' e' h'
  | .ct pe' => ∃ e' h', s = .ct e' h' ∧ ER A pe' e' h' ∧ Fm pe e h pe' e' h'
  | .rt v => ∃ d h', s = .rt d h' ∧ Fm0 pe e h h' ∧ Rep A h' v d
  | .exc c fs => ∃ ds e' h', s = .exc c ds e' h' ∧ Fm0 pe e h h' ∧ RepF A h' fs ds
  | .bad => True
def okS (m : SM) (p : PSM) : Prop := ∀ A pe e h, ER A pe e h → SimS A pe e h (p pe) (m e h)
section
variable {A A' : Nat → Prop} {h h' h1 h2 h0 : MH} {pe pe1 pe2 pe' : PEnv} {e e1 e2 e' : Env}
theorem Fm.refl : Fm pe e h pe e h := ⟨Nat.le_refl _, fun n o z w => ⟨z, w⟩⟩
theorem Fm.ofGV (g : GV h h') : Fm pe e h pe e h' := ⟨g.1, fun n o z w => ⟨g.2 _ _ z, w⟩⟩
theorem Fm0.ofGV (g : GV h h') : Fm0 pe e h h' := ⟨g.1, fun n o z w => g.2 _ _ z⟩
theorem Fm.trans (a : Fm pe e h pe1 e1 h1) (b : Fm pe1 e1 h1 pe2 e2 h2) : Fm pe e h pe2 e2 h2 := ⟨Nat.le_trans a.len b.len, fun n o z w => b.st n o (a.st n o z w).1 (a.st n o z w).2⟩
theorem Fm.trans0 (a : Fm pe e h pe1 e1 h1) (b : Fm0 pe1 e1 h1 h2) : Fm0 pe e h h2 := ⟨Nat.le_trans a.len b.len, fun n o z w => b.st n o (a.st n o z w).1 (a.st n o z w).2⟩
theorem Fm.stay (f : Fm pe e h pe' e' h') : Stay (Av A pe e) h (Av A pe' e') h' := fun n o z w => ⟨fun q => by
    rcases q with q | q
    · exact w (.inl q)
    · exact (f.st n o z fun y => w (.inr y)).2 q, (f.st n o z fun y => w (.inr y)).1⟩
theorem SimS.trans {p : PS} {s : S} (a : Fm pe e h pe1 e1 h1) (b : SimS A pe1 e1 h1 p s) : SimS A pe e h p s := by
  cases p with
  | nx x => obtain ⟨e', h', q, r, f⟩ := b; exact ⟨e', h', q, r, a.trans f⟩
  | bk x => obtain ⟨e', h', q, r, f⟩ := b; exact ⟨e', h', q, r, a.trans f⟩
  | ct x => obtain ⟨e', h', q, r, f⟩ := b; exact ⟨e', h', q, r, a.trans f⟩
  | rt x => obtain ⟨d, h', q, f, r⟩ := b; exact ⟨d, h', q, a.trans0 f, r⟩
  | exc c fs => obtain ⟨ds, e', h', q, f, r⟩ := b; exact ⟨ds, e', h', q, a.trans0 f, r⟩
  | bad => trivial
/-- a name gets something -/
def RelSl (A : Nat → Prop) (h0 h : MH) (s : Slot) (d : D) : Prop := match s with
  | .val v => Rep A h v d
  | .own v => Fr A h0 h v d
  | .no => False
theorem ow_set {i n : Nat} {sl : Slot} {d : D} (q : Ow (pe.set i sl) (e.set i (some d)) n) : Ow pe e n ∨ ∃ v, sl = .own v ∧ d = .ref n := by
  obtain ⟨j, v, a, b⟩ := q
  by_cases hj : j = i
  · subst hj
    by_cases hl : j < pe.length
    · rw [List.getElem?_set_self hl] at a
      by_cases hk : j < e.length
      · rw [List.getElem?_set_self hk] at b
        cases a
        cases b
        exact .inr ⟨v, rfl, rfl⟩
      · rw [List.getElem?_eq_none (by simpa using hk)] at b
        cases b
    · rw [List.getElem?_eq_none (by simpa using hl)] at a
      cases a
  · rw [List.getElem?_set_ne (Ne.symm hj)] at a b
    exact .inl ⟨j, v, a, b⟩
theorem ER.put {i : Nat} {sl : Slot} {d : D} (s : ER A pe e h0) (g : GV h0 h1) (r : RelSl (Av A pe e) h0 h1 sl d) : ER A (pe.set i sl) (e.set i (some d)) h1 ∧ Fm pe e h0 (pe.set i sl) (e.set i (some d)) h1 := by
  have new : ∀ {v n}, sl = .own v → d = .ref n → h0.length ≤ n := fun {v n} e1 e2 => by
    subst e1
    obtain ⟨m, q, l, _⟩ := r
    rw [e2] at q
    cases q
    exact l
  have fm : Fm pe e h0 (pe.set i sl) (e.set i (some d)) h1 := ⟨g.1, fun n o z w => ⟨g.2 _ _ z, fun q => by
    rcases ow_set q with q | ⟨v, e1, e2⟩
    · exact w q
    · have := new e1 e2
      have := (List.getElem?_eq_some_iff.mp z).1
      omega⟩⟩
  have st : Stay (Av A pe e) h0 (Av A (pe.set i sl) (e.set i (some d))) h1 := fm.stay
  have leav : (∀ v, sl ≠ .own v) → ∀ n, Av A (pe.set i sl) (e.set i (some d)) n → Av A pe e n := fun no n q => by
    rcases q with q | q
    · exact .inl q
    · rcases ow_set q with q | ⟨v, e1, _⟩
      · exact .inr q
      · exact absurd e1 (no v)
  refine ⟨⟨by simp [s.len], fun j v q => ?_, fun j v q => ?_, fun j k v w n q1 q2 q3 q4 => ?_, fun n a => Nat.lt_of_lt_of_le (s.low n a) g.1⟩, fm⟩
  · by_cases hj : j = i
    · subst hj
      have hl : j < pe.length := by
        have := (List.getElem?_eq_some_iff.mp q).1
        simpa using this
      rw [List.getElem?_set_self hl] at q
      cases q
      refine ⟨d, by rw [List.getElem?_set_self (by rw [s.len]; exact hl)], ?_⟩
      exact Rep.less r (leav fun v z => nomatch z)
    · rw [List.getElem?_set_ne (Ne.symm hj)] at q
      obtain ⟨x, a, b⟩ := s.val j v q
      exact ⟨x, by rw [List.getElem?_set_ne (Ne.symm hj)]; exact a, Rep.to st v b⟩
  · by_cases hj : j = i
    · subst hj
      have hl : j < pe.length := by
        have := (List.getElem?_eq_some_iff.mp q).1
        simpa using this
      rw [List.getElem?_set_self hl] at q
      cases q
      obtain ⟨n, e1, l, o⟩ := r
      refine ⟨n, by rw [List.getElem?_set_self (by rw [s.len]; exact hl), e1], fun z => by have := s.low n z; omega, o.less fun m z => ?_⟩
      rcases z with z | z
      · exact .inl (.inl z)
      · rcases ow_set z with z | ⟨w, _, e2⟩
        · exact .inl (.inr z)
        · rw [e1] at e2
          cases e2
          exact .inr rfl
    · rw [List.getElem?_set_ne (Ne.symm hj)] at q
      obtain ⟨x, a, c, b⟩ := s.own j v q
      exact ⟨x, by rw [List.getElem?_set_ne (Ne.symm hj)]; exact a, c, b.to st fun o z => g.2 _ _ z⟩
  · have old : ∀ {j v n}, j ≠ i → (pe.set i sl)[j]? = some (.own v) → (e.set i (some d))[j]? = some (some (.ref n)) → n < h0.length := fun {j v n} hj a b => by
      rw [List.getElem?_set_ne (Ne.symm hj)] at a b
      exact s.av (.inr ⟨j, v, a, b⟩)
    have nw : ∀ {j v n}, j = i → (pe.set i sl)[j]? = some (.own v) → (e.set i (some d))[j]? = some (some (.ref n)) → h0.length ≤ n := fun {j v n} hj a b => by
      subst hj
      have hl : j < pe.length := by
        have := (List.getElem?_eq_some_iff.mp a).1
        simpa using this
      rw [List.getElem?_set_self hl] at a
      rw [List.getElem?_set_self (by rw [s.len]; exact hl)] at b
      cases a
      cases b
      exact new rfl rfl
    by_cases hj : j = i
    · by_cases hk : k = i
      · rw [hj, hk]
      · have := nw hj q1 q3
        have := old hk q2 q4
        omega
    · by_cases hk : k = i
      · have := nw hk q2 q4
        have := old hj q1 q3
        omega
      · rw [List.getElem?_set_ne (Ne.symm hj)] at q1 q3
        rw [List.getElem?_set_ne (Ne.symm hk)] at q2 q4
        exact s.inj j k v w n q1 q2 q3 q4
/-- what one name holds alone is changed -/
theorem ER.upd {i n : Nat} {v v' : PV} {o : O} (s : ER A pe e h) (q1 : pe[i]? = some (.own v)) (q2 : e[i]? = some (some (.ref n))) (r : OwnRep (Av A pe e) (h.set n o) v' n) :
    ER A (pe.set i (.own v')) e (h.set n o) ∧ Fm pe e h (pe.set i (.own v')) e (h.set n o) := by
  have hi := (List.getElem?_eq_some_iff.mp q1).1
  have on : Ow pe e n := ⟨i, v, q1, q2⟩
  have ow : ∀ m, Ow (pe.set i (.own v')) e m ↔ Ow pe e m := fun m => by
    constructor
    · rintro ⟨j, w, a, b⟩
      by_cases hj : j = i
      · subst hj
        exact ⟨j, v, q1, b⟩
      · rw [List.getElem?_set_ne (Ne.symm hj)] at a
        exact ⟨j, w, a, b⟩
    · rintro ⟨j, w, a, b⟩
      by_cases hj : j = i
      · subst hj
        exact ⟨j, v', by rw [List.getElem?_set_self hi], b⟩
      · exact ⟨j, w, by rw [List.getElem?_set_ne (Ne.symm hj)]; exact a, b⟩
  have av : ∀ m, Av A (pe.set i (.own v')) e m → Av A pe e m := fun m z => z.imp (fun y => y) (ow m).mp
  have fm : Fm pe e h (pe.set i (.own v')) e (h.set n o) := ⟨by simp, fun m x z w => ⟨by
    rw [List.getElem?_set_ne]
    · exact z
    · intro q
      exact w (q ▸ on), fun y => w ((ow m).mp y)⟩⟩
  have st : Stay (Av A pe e) h (Av A (pe.set i (.own v')) e) (h.set n o) := fm.stay
  refine ⟨⟨by simp [s.len], fun j w q => ?_, fun j w q => ?_, fun j k w u m a b c d => ?_, fun m a => by simpa using s.low m a⟩, fm⟩
  · by_cases hj : j = i
    · subst hj
      rw [List.getElem?_set_self hi] at q
      cases q
    · rw [List.getElem?_set_ne (Ne.symm hj)] at q
      obtain ⟨x, a, b⟩ := s.val j w q
      exact ⟨x, a, Rep.to st w b⟩
  · by_cases hj : j = i
    · subst hj
      rw [List.getElem?_set_self hi] at q
      cases q
      refine ⟨n, q2, ?_, r.less av⟩
      obtain ⟨m, a, b, _⟩ := s.own j v q1
      rw [q2] at a
      cases a
      exact b
    · rw [List.getElem?_set_ne (Ne.symm hj)] at q
      obtain ⟨x, a, c, b⟩ := s.own j w q
      refine ⟨x, a, c, b.to st fun o' z => ?_⟩
      rw [List.getElem?_set_ne]
      · exact z
      · intro y
        subst y
        exact hj (s.inj j i w v n q q1 a q2)
  · have back : ∀ {j : Nat} {w : PV}, (pe.set i (.own v'))[j]? = some (Slot.own w) → ∃ w' : PV, pe[j]? = some (Slot.own w') := fun {j w} z => by
      by_cases hj : j = i
      · subst hj
        exact ⟨v, q1⟩
      · rw [List.getElem?_set_ne (Ne.symm hj)] at z
        exact ⟨w, z⟩
    obtain ⟨_, a'⟩ := back a
    obtain ⟨_, b'⟩ := back b
    exact s.inj j k _ _ m a' b' c d
/-- a thing that one name held alone is held by it no more -/
def frz1 (i : Nat) (pe : PEnv) : PEnv := match pe[i]? with
  | some (.own v) => pe.set i (.val v)
  | _ => pe
def frzE : List Nat → PEnv → PEnv
  | [], pe => pe
  | i :: is, pe => frzE is (frz1 i pe)
theorem ER.frz1 {i : Nat} (s : ER A pe e h) : ER A (frz1 i pe) e h ∧ Fm pe e h (frz1 i pe) e h := by
  unfold ML.frz1
  split
  · rename_i v hv
    have hi := (List.getElem?_eq_some_iff.mp hv).1
    obtain ⟨n, en, an, on⟩ := s.own i v hv
    have ow : ∀ m, Ow (pe.set i (.val v)) e m → Ow pe e m ∧ m ≠ n := fun m ⟨j, w, a, b⟩ => by
      have hj : j ≠ i := fun z => by
        subst z
        rw [List.getElem?_set_self hi] at a
        cases a
      rw [List.getElem?_set_ne (Ne.symm hj)] at a
      exact ⟨⟨j, w, a, b⟩, fun z => by subst z; exact hj (s.inj j i w v m a hv b en)⟩
    have av : ∀ m, Av A (pe.set i (.val v)) e m → Av A pe e m := fun m z => z.imp (fun y => y) fun y => (ow m y).1
    refine ⟨⟨by simp [s.len], fun j w q => ?_, fun j w q => ?_, fun j k w u m a b c d => ?_, s.low⟩, ⟨Nat.le_refl _, fun m o z w => ⟨z, fun y => w (ow m y).1⟩⟩⟩
    · by_cases hj : j = i
      · subst hj
        rw [List.getElem?_set_self hi] at q
        cases q
        refine ⟨_, en, (on.less av).rep fun z => ?_⟩
        rcases z with z | z
        · exact an z
        · exact (ow n z).2 rfl
      · rw [List.getElem?_set_ne (Ne.symm hj)] at q
        obtain ⟨x, a, b⟩ := s.val j w q
        exact ⟨x, a, b.less av⟩
    · by_cases hj : j = i
      · subst hj
        rw [List.getElem?_set_self hi] at q
        cases q
      · rw [List.getElem?_set_ne (Ne.symm hj)] at q
        obtain ⟨x, a, c, b⟩ := s.own j w q
        exact ⟨x, a, c, b.less av⟩
    · have ne : ∀ {j : Nat} {w : PV}, (pe.set i (.val v))[j]? = some (Slot.own w) → pe[j]? = some (Slot.own w) := fun {j w} z => by
        by_cases hj : j = i
        · subst hj
          rw [List.getElem?_set_self hi] at z
          cases z
        · rw [List.getElem?_set_ne (Ne.symm hj)] at z
          exact z
      exact s.inj j k w u m (ne a) (ne b) c d
  · exact ⟨s, Fm.refl⟩
theorem ER.frz : ∀ (is : List Nat) {pe : PEnv}, ER A pe e h → ER A (frzE is pe) e h ∧ Fm pe e h (frzE is pe) e h
  | [], _, s => ⟨s, Fm.refl⟩
  | i :: is, pe, s => by
    obtain ⟨a, b⟩ := s.frz1 (i := i)
    obtain ⟨c, d⟩ := ER.frz is a
    exact ⟨c, b.trans d⟩
end
def frzS (is : List Nat) (p : PSM) : PSM := fun e => p (frzE is e)
def slV (p : PX) : PEnv → PR Slot := fun e => (p e).bind fun v => .ok (.val v)
def slO (p : PX) : PEnv → PR Slot := fun e => (p e).bind fun v => .ok (.own v)
def setP (i : Nat) (p : PEnv → PR Slot) : PSM := fun e => match p e with
  | .ok s => .nx (e.set i s)
  | .exc c fs => .exc c fs
  | .bad => .bad
def par2P (i j : Nat) (p q : PEnv → PR Slot) : PSM := fun e => match p e with
  | .ok s => (match q e with
    | .ok t => .nx ((e.set i s).set j t)
    | .exc c fs => .exc c fs
    | .bad => .bad)
  | .exc c fs => .exc c fs
  | .bad => .bad
def seqP (a b : PSM) : PSM := fun e => match a e with
  | .nx e1 => b e1
  | r => r
def passP : PSM := fun e => .nx e
def retP (p : PX) : PSM := fun e => match p e with
  | .ok v => .rt v
  | .exc c fs => .exc c fs
  | .bad => .bad
def ifP (t : PT) (a b : PSM) : PSM := fun e => match t e with
  | .ok c => if c then a e else b e
  | .exc c fs => .exc c fs
  | .bad => .bad
def raiseP (c f : Str) (p : PX) : PSM := fun e => match p e with
  | .ok v => .exc c [(f, v)]
  | .exc c fs => .exc c fs
  | .bad => .bad
/-- the own thing of a name is changed by a value -/
def ownP (sh : PV → Bool) (i : Nat) (f : PV → PV → Option PV) (p : PX) : PSM := fun e => match e[i]? with
  | some (.own w) => if sh w = true then (match p e with
    | .ok v => (match f w v with
      | some w' => .nx (e.set i (.own w'))
      | none => .bad)
    | .exc c fs => .exc c fs
    | .bad => .bad) else .bad
  | _ => .bad
def isLstP : PV → Bool
  | .lst _ => true
  | _ => false
def appendP : PV → PV → Option PV
  | .lst l, v => if l.length < 1000000 then some (.lst (l ++ [v])) else none
  | _, _ => none
abbrev PG := PV → PEnv → Option PEnv
def isOwnS (pe : PEnv) (i : Nat) : Bool := match pe[i]? with
  | some (.own _) => true
  | _ => false
def gnmP (i : Nat) : PG := fun v e => if isOwnS e i = true then none else some (e.set i (.val v))
def asgAllP : List PG → List PV → PEnv → Option PEnv
  | [], [], e => some e
  | m :: ms, d :: ds, e => (m d e).bind fun e1 => asgAllP ms ds e1
  | _, _, _ => none
def gtpP (ms : List PG) : PG := fun v e => match v with
  | .tup ds => if ds.length = ms.length then asgAllP ms ds e else none
  | _ => none
def gtp2P (ms : List PG) : PG := fun v e => match v with
  | .tup ds => if ds.length = ms.length then asgAllP ms ds e else none
  | .lst ds => if ds.length = ms.length then asgAllP ms ds e else none
  | _ => none
def asgP (g : PG) (p : PX) : PSM := fun e => match p e with
  | .ok v => (match g v e with
    | some e1 => .nx e1
    | none => .bad)
  | .exc c fs => .exc c fs
  | .bad => .bad
def loopP (tg : PG) (body : PSM) : List PV → PSM
  | [] => fun e => .nx e
  | v :: r => fun e => match tg v e with
    | some e1 => (match body e1 with
      | .nx e2 => loopP tg body r e2
      | .ct e2 => loopP tg body r e2
      | .bk e2 => .nx e2
      | .rt x => .rt x
      | .exc c fs => .exc c fs
      | .bad => .bad)
    | none => .bad
def forP (it : PA) (tg : PG) (body : PSM) : PSM := fun e => match it e with
  | .ok l => loopP tg body l e
  | .exc c fs => .exc c fs
  | .bad => .bad
def fnP (np n : Nat) (b : PSM) : PFM := fun vs => if vs.length = np then (match b (vs.map .val ++ List.replicate (n - vs.length) .no) with
    | .nx _ => .ok .non
    | .rt v => .ok v
    | .exc c fs => .exc c fs
    | _ => .bad) else .bad
def okSl (m : EM) (p : PEnv → PR Slot) : Prop := ∀ A pe e h, ER A pe e h → Sim (Av A pe e) (fun h' => RelSl (Av A pe e) h h') h (p pe) (m e h)
def RelI (A : Nat → Prop) (h : MH) (vs : List PV) (it : IT) : Prop := Reps A h vs it.items ∧ ∀ q ∈ it.srcs, ¬ A q.1 ∧ h[q.1]? = some (.lst q.2)
def okI (m : IM) (p : PA) : Prop := ∀ A pe e h, ER A pe e h → Sim (Av A pe e) (RelI (Av A pe e)) h (p pe) (m e h)
def okG (g : GM) (p : PG) : Prop := ∀ A pe e h v d pe', ER A pe e h → Rep (Av A pe e) h v d → p v pe = some pe' → ∃ e', g d e h = some e' ∧ ER A pe' e' h ∧ ∀ n, Ow pe' e' n ↔ Ow pe e n
def okGs (g : List GM) (p : List PG) : Prop := g.length = p.length ∧ ∀ A pe e h v d pe', ER A pe e h → Reps (Av A pe e) h v d → asgAllP p v pe = some pe' → ∃ e', asgAll g d e h = some e' ∧ ER A pe' e' h ∧ ∀ n, Ow pe' e' n ↔ Ow pe e n
end ML
namespace ML
open PySem PySem.Spec PyProof.Rows L2
section
variable {A A' : Nat → Prop} {h h' h1 h2 h0 : MH} {pe pe1 pe2 pe' : PEnv} {e e1 e2 e' : Env}
theorem ER.more {B : Nat → Prop} (s : ER A pe e h) (g : GV h h1) (hb : ∀ n, B n → h.length ≤ n ∧ n < h1.length) : ER (fun n => A n ∨ B n) pe e h1 := by
  have st : Stay (Av A pe e) h (Av (fun n => A n ∨ B n) pe e) h1 := fun n o z w => ⟨fun q => by
    have hn := (List.getElem?_eq_some_iff.mp z).1
    rcases q with (q | q) | q
    · exact w (.inl q)
    · have := hb n q; omega
    · exact w (.inr q), g.2 _ _ z⟩
  refine ⟨s.len, fun i v q => ?_, fun i v q => ?_, s.inj, fun n z => ?_⟩
  · obtain ⟨d, a, b⟩ := s.val i v q
    exact ⟨d, a, Rep.to st v b⟩
  · obtain ⟨n, a, c, b⟩ := s.own i v q
    refine ⟨n, a, fun z => ?_, b.to st fun o z => g.2 _ _ z⟩
    rcases z with z | z
    · exact c z
    · have := hb n z
      have := b.lt
      omega
  · rcases z with z | z
    · exact Nat.lt_of_lt_of_le (s.low n z) g.1
    · exact (hb n z).2
theorem Av.more {B : Nat → Prop} {n : Nat} (q : Av A pe e n) : Av (fun n => A n ∨ B n) pe e n := q.imp (fun z => .inl z) fun z => z
end
section
variable {m a b : EM} {p q pa pb : PX} {t : TM} {pt : PT} {s s2 : SM} {ps ps2 : PSM} {sp sq : PEnv → PR Slot} {i j : Nat}
theorem s_frz {is : List Nat} (k : okS s ps) : okS s (frzS is ps) := fun A pe e h r => SimS.trans (r.frz is).2 (k A _ e h (r.frz is).1)
theorem sl_v (k : okX m p) : okSl m (slV p) := fun A pe e h r => by
  have := k A pe e h r
  unfold slV
  revert this
  cases p pe with
  | ok v => exact fun x => x
  | exc c fs => exact fun x => x
  | bad => exact fun x => x
theorem sl_o (k : okF m p) : okSl m (slO p) := fun A pe e h r => by
  have := k A pe e h r
  unfold slO
  revert this
  cases p pe with
  | ok v => exact fun x => x
  | exc c fs => exact fun x => x
  | bad => exact fun x => x
theorem s_setP (i : Nat) (k : okSl m sp) : okS (setS i m) (setP i sp) := fun A pe e h r => by
  have := k A pe e h r
  unfold setP
  revert this
  cases sp pe with
  | ok v =>
    rintro ⟨d, h', e1, g, w⟩
    refine ⟨e.set i (some d), h', ?_, (r.put g w).1, (r.put g w).2⟩
    unfold setS ofE
    rw [e1]
  | exc c fs =>
    rintro ⟨d, h', e1, g, w⟩
    refine ⟨d, e, h', ?_, Fm0.ofGV g, w.less fun n z => .inl z⟩
    unfold setS ofE
    rw [e1]
  | bad => exact fun x => trivial
theorem s_par2P (i j : Nat) (ka : okSl a sp) (kb : okSl b sq) : okS (parS [i, j] (consA a (consA b nilA))) (par2P i j sp sq) := fun A pe e h r => by
  have ha := ka A pe e h r
  unfold par2P
  revert ha
  cases sp pe with
  | ok v =>
    rintro ⟨d, h', e1, g, w⟩
    have r' := r.more (B := fun n => h.length ≤ n ∧ n < h'.length) g fun n z => z
    have hb := kb _ pe e h' r'
    dsimp only
    revert hb
    cases sq pe with
    | ok v2 =>
      rintro ⟨d2, h2, e2, g2, w2⟩
      have P1 := r.put (i := i) g w
      have av : ∀ n, Av A (pe.set i v) (e.set i (some d)) n → Av (fun n => A n ∨ h.length ≤ n ∧ n < h'.length) pe e n := fun n z => by
        have lt := P1.1.av z
        rcases z with z | z
        · exact .inl (.inl z)
        · rcases ow_set z with z | ⟨x, ex, ed⟩
          · exact .inr z
          · subst ex
            obtain ⟨k, ek, lk, _⟩ := w
            rw [ed] at ek
            cases ek
            exact .inl (.inr ⟨lk, lt⟩)
      have w2' : RelSl (Av A (pe.set i v) (e.set i (some d))) h' h2 v2 d2 := by
        revert w2
        cases v2 with
        | no => exact fun x => x
        | val x => exact fun y => Rep.less y av
        | own x =>
          rintro ⟨k, ek, lk, ok⟩
          exact ⟨k, ek, lk, ok.less fun n z => z.imp (av n) fun y => y⟩
      have P2 := P1.1.put (i := j) g2 w2'
      refine ⟨_, h2, ?_, P2.1, P1.2.trans P2.2⟩
      unfold parS ofA consA nilA
      rw [e1]
      dsimp only [R.bind]
      rw [e2]
      try rfl
    | exc c fs =>
      rintro ⟨d2, h2, e2, g2, w2⟩
      refine ⟨d2, e, h2, ?_, Fm0.ofGV (g.trans g2), w2.less fun n z => .inl (.inl z)⟩
      unfold parS ofA consA nilA
      rw [e1]
      dsimp only [R.bind]
      rw [e2]
      try rfl
    | bad => exact fun x => trivial
  | exc c fs =>
    rintro ⟨d, h', e1, g, w⟩
    refine ⟨d, e, h', ?_, Fm0.ofGV g, w.less fun n z => .inl z⟩
    unfold parS ofA consA nilA
    rw [e1]
    rfl
  | bad => exact fun x => trivial
theorem s_seqP (k : okS s ps) (k2 : okS s2 ps2) : okS (seqS s s2) (seqP ps ps2) := fun A pe e h r => by
  have := k A pe e h r
  unfold seqP seqS
  revert this
  cases ps pe with
  | nx e1 =>
    rintro ⟨e', h', q, w, f⟩
    rw [q]
    exact SimS.trans f (k2 A e1 e' h' w)
  | bk e1 => rintro ⟨e', h', q, w, f⟩; rw [q]; exact ⟨e', h', rfl, w, f⟩
  | ct e1 => rintro ⟨e', h', q, w, f⟩; rw [q]; exact ⟨e', h', rfl, w, f⟩
  | rt v => rintro ⟨d, h', q, f, w⟩; rw [q]; exact ⟨d, h', rfl, f, w⟩
  | exc c fs => rintro ⟨ds, e', h', q, f, w⟩; rw [q]; exact ⟨ds, e', h', rfl, f, w⟩
  | bad => exact fun _ => trivial
theorem s_passP : okS passS passP := fun A pe e h r => ⟨e, h, rfl, r, Fm.refl⟩
theorem s_retP (k : okX m p) : okS (retS m) (retP p) := fun A pe e h r => by
  have := k A pe e h r
  unfold retP retS ofE
  revert this
  cases p pe with
  | ok v => rintro ⟨d, h', q, g, w⟩; rw [q]; exact ⟨d, h', rfl, Fm0.ofGV g, w.less fun n z => .inl z⟩
  | exc c fs => rintro ⟨d, h', q, g, w⟩; rw [q]; exact ⟨d, e, h', rfl, Fm0.ofGV g, w.less fun n z => .inl z⟩
  | bad => exact fun _ => trivial
theorem s_ifP (kt : okT t pt) (k : okS s ps) (k2 : okS s2 ps2) : okS (ifS t s s2) (ifP pt ps ps2) := fun A pe e h r => by
  have := kt A pe e h r
  unfold ifP ifS ofT
  revert this
  cases pt pe with
  | ok v =>
    rintro ⟨d, h', q, g, w⟩
    rw [q]
    subst w
    cases d with
    | true => exact SimS.trans (Fm.ofGV g) (k A pe e h' (r.up g))
    | false => exact SimS.trans (Fm.ofGV g) (k2 A pe e h' (r.up g))
  | exc c fs => rintro ⟨d, h', q, g, w⟩; rw [q]; exact ⟨d, e, h', rfl, Fm0.ofGV g, w.less fun n z => .inl z⟩
  | bad => exact fun _ => trivial
theorem s_raiseP {c f : Str} (k : okX a p) : okS (raiseS c f (consA a nilA)) (raiseP c f p) := fun A pe e h r => by
  have := k A pe e h r
  unfold raiseP raiseS ofA consA nilA
  revert this
  cases p pe with
  | ok v =>
    rintro ⟨d, h', q, g, w⟩
    rw [q]
    exact ⟨[(f, d)], e, h', rfl, Fm0.ofGV g, by unfold RepF; exact ⟨d, [], rfl, w.less fun n z => .inl z, by unfold RepF; rfl⟩⟩
  | exc c fs => rintro ⟨d, h', q, g, w⟩; rw [q]; exact ⟨d, e, h', rfl, Fm0.ofGV g, w.less fun n z => .inl z⟩
  | bad => exact fun _ => trivial
theorem Stay.setA {A : Nat → Prop} {h : MH} {n : Nat} {o : O} (a : A n) : Stay A h A (h.set n o) := fun m x z w => ⟨w, by
  rw [List.getElem?_set_ne]
  · exact z
  · intro q
    exact w (q ▸ a)⟩
theorem own_core {f : PV → PV → Option PV} {sh : PV → Bool} {s : SM} (hf : ∀ A pe e h n w, ER A pe e h → pe[i]? = some (.own w) → e[i]? = some (some (.ref n)) → OwnRep (Av A pe e) h w n → sh w = true → Sim (Av A pe e) (Rep (Av A pe e)) h (p pe) (m e h) →
      match p pe with
      | .ok v => ∀ d h' w', m e h = .ok d h' → GV h h' → Rep (Av A pe e) h' v d → OwnRep (Av A pe e) h' w n → f w v = some w' → ∃ o, s e h = .nx e (h'.set n o) ∧ OwnRep (Av A pe e) (h'.set n o) w' n
      | .exc c fs => ∀ ds h', m e h = .exc c ds h' → s e h = .exc c ds e h'
      | .bad => True) (k : okX m p) : okS s (ownP sh i f p) := fun A pe e h r => by
  unfold ownP
  split
  · rename_i w hw
    split
    · rename_i hs
      obtain ⟨n, en, _, on⟩ := r.own i w hw
      have sim := k A pe e h r
      have key := hf A pe e h n w r hw en on hs sim
      revert sim key
      cases p pe with
      | ok v =>
        rintro ⟨d, h', q, g, u⟩ key
        dsimp only
        split
        · rename_i w' hf'
          obtain ⟨o, e1, o1⟩ := key d h' w' q g u (on.up g) hf'
          have U := (r.up g).upd (o := o) hw en o1
          exact ⟨e, _, e1, U.1, (Fm.ofGV g).trans U.2⟩
        · trivial
      | exc c fs =>
        rintro ⟨ds, h', q, g, u⟩ key
        exact ⟨ds, e, h', key ds h' q, Fm0.ofGV g, u.less fun n z => .inl z⟩
      | bad => exact fun _ _ => trivial
    · trivial
  · trivial
theorem s_append (k : okX m p) : okS (expS (bmE "list" appF (varE i) (consA m nilA))) (ownP isLstP i appendP p) := own_core (fun A pe e h n w r hw en on hs sim => by
  unfold isLstP at hs
  split at hs
  · rename_i l
    obtain ⟨ds0, x0, y0⟩ := on
    have ty : tyD h (.ref n) = some "list" := by unfold tyD; dsimp only; rw [x0]
    split
    · rename_i v hv
      intro d h' w' q g u on' fe
      obtain ⟨ds, x, y⟩ := on'
      simp only [appendP] at fe
      split at fe
      · rename_i hl
        cases fe
        refine ⟨.lst (ds ++ [d]), ?_, ds ++ [d], by rw [List.getElem?_set_self (List.getElem?_eq_some_iff.mp x).1], Reps.to (Stay.setA (.inr ⟨i, _, hw, en⟩)) _ (Reps.append y (.single u))⟩
        unfold expS ofE bmE varE consA nilA
        rw [en]
        dsimp only [R.bind]
        rw [if_pos ty, q]
        dsimp only [R.bind]
        unfold appF
        dsimp only
        rw [x]
        dsimp only
        rw [if_pos (by rw [y.length]; exact hl)]
      · cases fe
    · intro ds h' q
      unfold expS ofE bmE varE consA nilA
      rw [en]
      dsimp only [R.bind]
      rw [if_pos ty, q]
    · trivial
  · cases hs) k
theorem g_gnmP (i : Nat) : okG (gnm i) (gnmP i) := fun A pe e h v d pe' r w q => by
  unfold gnmP at q
  split at q
  · cases q
  · rename_i ho
    cases q
    have P := r.put (i := i) (sl := .val v) (d := d) GV.refl w
    refine ⟨_, rfl, P.1, fun n => ⟨fun z => ?_, fun ⟨j, u, a, b⟩ => ?_⟩⟩
    · rcases ow_set z with z | ⟨x, z, _⟩
      · exact z
      · cases z
    · have hj : j ≠ i := fun z => by
        subst z
        unfold isOwnS at ho
        rw [a] at ho
        exact ho rfl
      exact ⟨j, u, by rw [List.getElem?_set_ne (Ne.symm hj)]; exact a, by rw [List.getElem?_set_ne (Ne.symm hj)]; exact b⟩
theorem gs_nilP : okGs [] [] := ⟨rfl, fun A pe e h v d pe' r w q => by
  cases v with
  | nil =>
    cases q
    rw [w.invNil]
    exact ⟨e, rfl, r, fun _ => Iff.rfl⟩
  | cons x l => cases q⟩
theorem gs_consP {g : GM} {gp : PG} {gs : List GM} {gps : List PG} (k : okG g gp) (ks : okGs gs gps) : okGs (g :: gs) (gp :: gps) := ⟨by simp [ks.1], fun A pe e h v d pe' r w q => by
  cases v with
  | nil => cases q
  | cons x l =>
    obtain ⟨y, ds, ed, a, b⟩ := w.inv
    subst ed
    unfold asgAllP at q
    cases hx : gp x pe with
    | none => rw [hx] at q; cases q
    | some pe1 =>
      rw [hx] at q
      obtain ⟨e1, p1, p2, p3⟩ := k A pe e h x y pe1 r a hx
      have av : ∀ n, Av A pe1 e1 n → Av A pe e n := fun n z => z.imp (fun t => t) (p3 n).mp
      obtain ⟨e2, q1, q2, q3⟩ := ks.2 A pe1 e1 h l ds pe' p2 (b.less av) q
      refine ⟨e2, ?_, q2, fun n => (q3 n).trans (p3 n)⟩
      unfold asgAll
      rw [p1]
      exact q1⟩
theorem g_gtpP {gs : List GM} {gps : List PG} (ks : okGs gs gps) : okG (gtp gs) (gtpP gps) := fun A pe e h v d pe' r w q => by
  cases v <;> simp only [gtpP] at q <;> try contradiction
  rename_i l
  unfold Rep at w
  obtain ⟨ds, rfl, w⟩ := w
  split at q
  · rename_i hl
    obtain ⟨e2, q1, q2, q3⟩ := ks.2 A pe e h l ds pe' r w q
    exact ⟨e2, by unfold gtp; dsimp only; rw [if_pos (by rw [w.length, ks.1]; exact hl)]; exact q1, q2, q3⟩
  · cases q
theorem g_gtp2P {gs : List GM} {gps : List PG} (ks : okGs gs gps) : okG (gtp2 gs) (gtp2P gps) := fun A pe e h v d pe' r w q => by
  cases v <;> simp only [gtp2P] at q <;> try contradiction
  · rename_i l
    unfold Rep at w
    obtain ⟨ds, rfl, w⟩ := w
    split at q
    · rename_i hl
      obtain ⟨e2, q1, q2, q3⟩ := ks.2 A pe e h l ds pe' r w q
      exact ⟨e2, by unfold gtp2; dsimp only; rw [if_pos (by rw [w.length, ks.1]; exact hl)]; exact q1, q2, q3⟩
    · cases q
  · rename_i l
    unfold Rep at w
    obtain ⟨n, ds, rfl, _, x, w⟩ := w
    split at q
    · rename_i hl
      obtain ⟨e2, q1, q2, q3⟩ := ks.2 A pe e h l ds pe' r w q
      exact ⟨e2, by unfold gtp2; dsimp only; rw [x]; dsimp only; rw [if_pos (by rw [w.length, ks.1]; exact hl)]; exact q1, q2, q3⟩
    · cases q
theorem Fm.ofOw {A : Nat → Prop} {h : MH} {pe pe' : PEnv} {e e' : Env} (k : ∀ n, Ow pe' e' n ↔ Ow pe e n) : Fm pe e h pe' e' h := ⟨Nat.le_refl _, fun n o z w => ⟨z, fun y => w ((k n).mp y)⟩⟩
theorem s_asgP {g : GM} {gp : PG} (kg : okG g gp) (k : okX m p) : okS (asgS g m) (asgP gp p) := fun A pe e h r => by
  have := k A pe e h r
  unfold asgP asgS ofE
  revert this
  cases p pe with
  | ok v =>
    rintro ⟨d, h', q, g1, w⟩
    rw [q]
    dsimp only
    split
    · rename_i pe' hg
      obtain ⟨e1, a, b, c⟩ := kg A pe e h' v d pe' (r.up g1) w hg
      rw [a]
      exact ⟨e1, h', rfl, b, (Fm.ofGV g1).trans (Fm.ofOw (A := A) c)⟩
    · trivial
  | exc c fs => rintro ⟨d, h', q, g, w⟩; rw [q]; exact ⟨d, e, h', rfl, Fm0.ofGV g, w.less fun n z => .inl z⟩
  | bad => exact fun _ => trivial
theorem srcs_ok {h : MH} {srcs : List (Nat × List D)} (w : ∀ q ∈ srcs, h[q.1]? = some (.lst q.2)) : IT.ok h srcs = true := by
  unfold IT.ok
  rw [List.all_eq_true]
  intro q hq
  unfold stands
  rw [w q hq]
  exact sames_refl _
theorem loop_ok {A : Nat → Prop} {g : GM} {gp : PG} {srcs : List (Nat × List D)} (kg : okG g gp) (kb : okS s ps) : ∀ (vs : List PV) (ds : List D) (pe : PEnv) (e : Env) (h : MH), ER A pe e h → Reps (Av A pe e) h vs ds →
    (∀ q ∈ srcs, ¬ Av A pe e q.1 ∧ h[q.1]? = some (.lst q.2)) → SimS A pe e h (loopP gp ps vs pe) (loopS srcs g s ds e h)
  | [], ds, pe, e, h, r, w, hs => by
    rw [w.invNil]
    unfold loopP loopS
    rw [if_pos (srcs_ok fun q hq => (hs q hq).2)]
    exact ⟨e, h, rfl, r, Fm.refl⟩
  | v :: vs, ds, pe, e, h, r, w, hs => by
    obtain ⟨d, ds, rfl, a, b⟩ := w.inv
    unfold loopP loopS
    rw [if_pos (srcs_ok fun q hq => (hs q hq).2)]
    split
    · rename_i pe1 hg
      obtain ⟨e1, q1, q2, q3⟩ := kg A pe e h v d pe1 r a hg
      rw [q1]
      dsimp only
      have f0 : Fm pe e h pe1 e1 h := Fm.ofOw (A := A) q3
      have := kb A pe1 e1 h q2
      have go : ∀ pe2 e2 h2, ER A pe2 e2 h2 → Fm pe1 e1 h pe2 e2 h2 → SimS A pe e h (loopP gp ps vs pe2) (loopS srcs g s ds e2 h2) := fun pe2 e2 h2 r2 f2 => by
        have f := f0.trans f2
        refine SimS.trans f (loop_ok kg kb vs ds pe2 e2 h2 r2 (Reps.to f.stay vs b) fun q hq => ?_)
        have := f.stay (A := A) q.1 _ (hs q hq).2 (hs q hq).1
        exact ⟨this.1, this.2⟩
      revert this
      cases ps pe1 with
      | nx pe2 => rintro ⟨e2, h2, z, r2, f2⟩; rw [z]; exact go pe2 e2 h2 r2 f2
      | ct pe2 => rintro ⟨e2, h2, z, r2, f2⟩; rw [z]; exact go pe2 e2 h2 r2 f2
      | bk pe2 => rintro ⟨e2, h2, z, r2, f2⟩; rw [z]; exact ⟨e2, h2, rfl, r2, f0.trans f2⟩
      | rt x => rintro ⟨d2, h2, z, f2, r2⟩; rw [z]; exact ⟨d2, h2, rfl, f0.trans0 f2, r2⟩
      | exc c fs => rintro ⟨d2, e2, h2, z, f2, r2⟩; rw [z]; exact ⟨d2, e2, h2, rfl, f0.trans0 f2, r2⟩
      | bad => exact fun _ => trivial
    · trivial
theorem s_forP {it : IM} {pit : PA} {g : GM} {gp : PG} (ki : okI it pit) (kg : okG g gp) (kb : okS s ps) : okS (forS it g s) (forP pit gp ps) := fun A pe e h r => by
  have := ki A pe e h r
  unfold forP forS
  revert this
  cases pit pe with
  | ok vs =>
    rintro ⟨I, h', q, g1, w1, w2⟩
    rw [q]
    exact SimS.trans (Fm.ofGV g1) (loop_ok kg kb vs I.items pe e h' (r.up g1) w1 w2)
  | exc c fs => rintro ⟨d, h', q, g, w⟩; rw [q]; exact ⟨d, e, h', rfl, Fm0.ofGV g, w.less fun n z => .inl z⟩
  | bad => exact fun _ => trivial
theorem start_ok {A : Nat → Prop} {h : MH} {vs : List PV} {ds : List D} {k : Nat} (lo : ∀ n, A n → n < h.length) (w : Reps A h vs ds) : ER A (vs.map .val ++ List.replicate k .no) (ds.map some ++ List.replicate k none) h ∧ ∀ n, ¬ Ow (vs.map .val ++ List.replicate k .no) (ds.map some ++ List.replicate k none) n := by
  have no : ∀ (i : Nat) v, (vs.map Slot.val ++ List.replicate k .no)[i]? ≠ some (.own v) := fun i v z => by
    have := List.mem_of_getElem? z
    rw [List.mem_append] at this
    rcases this with t | t
    · obtain ⟨x, _, y⟩ := List.mem_map.mp t
      cases y
    · have := List.eq_of_mem_replicate t
      cases this
  have now : ∀ n, ¬ Ow (vs.map .val ++ List.replicate k .no) (ds.map some ++ List.replicate k none) n := fun n ⟨i, v, a, _⟩ => no i v a
  refine ⟨⟨by simp [w.length], fun i v q => ?_, fun i v q => absurd q (no i v), fun i j v u n q => absurd q (no i v), lo⟩, now⟩
  by_cases hi : i < vs.length
  · rw [List.getElem?_append_left (by simpa using hi), List.getElem?_map] at q
    cases hv : vs[i]? with
    | none => rw [hv] at q; cases q
    | some x =>
      rw [hv] at q
      cases q
      obtain ⟨d, a, b⟩ := w.get hv
      refine ⟨d, ?_, b.less fun n z => z.elim (fun y => y) fun y => absurd y (now n)⟩
      rw [List.getElem?_append_left (by simp [w.length]; exact hi), List.getElem?_map, a]
      rfl
  · rw [List.getElem?_append_right (by simpa using Nat.le_of_not_lt hi), List.getElem?_replicate] at q
    split at q
    · cases q
    · cases q
theorem fn_okP {np n : Nat} (kb : okS s ps) : FOK (fnM np n s) (fnP np n ps) := fun A h vs ds lo w => by
  unfold fnP fnM
  by_cases hl : vs.length = np
  · rw [if_pos hl, if_pos (by rw [w.length]; exact hl), w.length]
    obtain ⟨r, now⟩ := start_ok (k := n - vs.length) lo w
    have := kb A _ _ h r
    have gv : ∀ {h'}, Fm0 (vs.map .val ++ List.replicate (n - vs.length) .no) (ds.map some ++ List.replicate (n - vs.length) none) h h' → GV h h' := fun f => ⟨f.len, fun m o z => f.st m o z (now m)⟩
    have gv' : ∀ {pe' e' h'}, Fm (vs.map .val ++ List.replicate (n - vs.length) .no) (ds.map some ++ List.replicate (n - vs.length) none) h pe' e' h' → GV h h' := fun f => ⟨f.len, fun m o z => (f.st m o z (now m)).1⟩
    revert this
    cases ps (vs.map .val ++ List.replicate (n - vs.length) .no) with
    | nx pe' => rintro ⟨e', h', q, _, f⟩; rw [q]; exact ⟨.non, h', rfl, gv' f, rep_non⟩
    | rt v => rintro ⟨d, h', q, f, r2⟩; rw [q]; exact ⟨d, h', rfl, gv f, r2⟩
    | exc c fs => rintro ⟨d, e', h', q, f, r2⟩; rw [q]; exact ⟨d, h', rfl, gv f, r2⟩
    | bk pe' => exact fun _ => trivial
    | ct pe' => exact fun _ => trivial
    | bad => exact fun _ => trivial
  · rw [if_neg hl]
    trivial
end
end ML
namespace ML
open PySem PySem.Spec PyProof.Rows L2
def isScalP : PV → Bool
  | .non => true
  | .bl _ => true
  | .int _ => true
  | .str _ => true
  | _ => false
def scalEqP : PV → PV → Bool
  | .non, .non => true
  | .bl a, .bl b => a == b
  | .int a, .int b => a == b
  | .str a, .str b => a == b
  | .bl a, .int b => (if a then 1 else 0) == b
  | .int a, .bl b => a == (if b then 1 else 0)
  | _, _ => false
def seqOfP : PV → Option (Bool × List PV)
  | .tup l => some (true, l)
  | .lst l => some (false, l)
  | _ => none
def eqZP (f : PV → PV → Option Bool) : List PV → List PV → Option Bool
  | x :: l, y :: m => (match f x y with
    | some a => (match eqZP f l m with
      | some b => some (a && b)
      | none => none)
    | none => none)
  | _, _ => some true
def eqSeqP (f : PV → PV → Option Bool) (k : Bool) (l m : List PV) : Option Bool :=
  if k = false ∧ l.length ≠ m.length then some false else (match eqZP f l m with
    | some b => some (b && (l.length == m.length))
    | none => none)
def eqTopP (f : PV → PV → Option Bool) (x y : PV) : Option Bool :=
  match isScalP x, isScalP y with
  | true, true => some (scalEqP x y)
  | true, false => (match seqOfP y with | some _ => some false | none => none)
  | false, true => (match seqOfP x with | some _ => some false | none => none)
  | false, false => (match seqOfP x, seqOfP y with
    | some (k, l), some (k', m) => if k = k' then eqSeqP f k l m else some false
    | _, _ => none)
def eqvP : Nat → PV → PV → Option Bool
  | 0, _, _ => none
  | n + 1, x, y => eqTopP (eqvP n) x y
def eqTP (x y : PV) : Option Bool := eqTopP (eqvP deep) x y
def eqP (x y : PV) : PR PV := match eqTP x y with
  | some b => .ok (.bl b)
  | none => .bad
def neP (x y : PV) : PR PV := match eqTP x y with
  | some b => .ok (.bl (!b))
  | none => .bad
section
variable {A A' : Nat → Prop} {h : MH}
theorem isScal_sim {v : PV} {d : D} (r : Rep1 A h v d) : isScal d = isScalP v := by
  rcases r with r | ⟨n, rfl, r⟩
  · cases v <;> simp only [Rep] at r
    case tup l => obtain ⟨ds, rfl, _⟩ := r; rfl
    case lst l => obtain ⟨n, ds, rfl, _⟩ := r; rfl
    case dct k l => obtain ⟨n, o, ds, rfl, _⟩ := r; rfl
    case ins c l => obtain ⟨n, ds, rfl, _⟩ := r; rfl
    all_goals (subst r; rfl)
  · cases v <;> simp only [OwnRep] at r <;> rfl
theorem scal_sim {v : PV} {d : D} (r : Rep1 A h v d) (k : isScalP v = true) : (v = .non ∧ d = .non) ∨ (∃ b, v = .bl b ∧ d = .bl b) ∨ (∃ b, v = .int b ∧ d = .int b) ∨ ∃ b, v = .str b ∧ d = .str b := by
  rcases r with r | ⟨n, rfl, r⟩
  · cases v <;> simp only [Rep, isScalP] at r k
    · exact .inl ⟨rfl, r⟩
    · exact .inr (.inl ⟨_, rfl, r⟩)
    · exact .inr (.inr (.inl ⟨_, rfl, r⟩))
    · exact .inr (.inr (.inr ⟨_, rfl, r⟩))
    all_goals contradiction
  · cases v <;> simp only [OwnRep, isScalP] at r k <;> contradiction
theorem seqOf_sim {v : PV} {d : D} (r : Rep1 A h v d) {k : Bool} {l : List PV} (q : seqOfP v = some (k, l)) : ∃ ds, seqOf h d = some (k, ds) ∧ Reps A h l ds := by
  rcases r with r | ⟨n, rfl, r⟩
  · cases v <;> simp only [seqOfP] at q <;> try contradiction
    · cases q
      unfold Rep at r
      obtain ⟨ds, rfl, r⟩ := r
      exact ⟨ds, rfl, r⟩
    · cases q
      unfold Rep at r
      obtain ⟨n, ds, rfl, _, x, r⟩ := r
      exact ⟨ds, by unfold seqOf; dsimp only; rw [x], r⟩
  · cases v <;> simp only [seqOfP] at q <;> try contradiction
    · cases q
      obtain ⟨ds, x, r⟩ := r
      exact ⟨ds, by unfold seqOf; dsimp only; rw [x], r⟩
theorem lstOf_sim {l : List PV} {d : D} (r : Rep1 A h (.lst l) d) : ∃ n ds, d = .ref n ∧ h[n]? = some (.lst ds) ∧ Reps A h l ds := by
  rcases r with r | ⟨n, rfl, r⟩
  · unfold Rep at r
    obtain ⟨n, ds, rfl, _, x, r⟩ := r
    exact ⟨n, ds, rfl, x, r⟩
  · obtain ⟨ds, x, r⟩ := r
    exact ⟨n, ds, rfl, x, r⟩
theorem dct_sim {l : List (NestedKey × PV)} {k : Nat} {d : D} (r : Rep1 A h (.dct k l) d) : ∃ n o ds, d = .ref n ∧ h[n]? = some o ∧ kvP o = some (k, ds) ∧ RepK A h l ds := by
  rcases r with r | ⟨n, rfl, r⟩
  · unfold Rep at r
    obtain ⟨n, o, ds, rfl, _, x, y, r⟩ := r
    exact ⟨n, o, ds, rfl, x, y, r⟩
  · obtain ⟨o, ds, x, y, r⟩ := r
    exact ⟨n, o, ds, rfl, x, y, r⟩
theorem ins_sim {l : List (Str × PV)} {c : Str} {d : D} (r : Rep1 A h (.ins c l) d) : ∃ n ds, d = .ref n ∧ h[n]? = some (.ins c ds) ∧ RepF A h l ds := by
  rcases r with r | ⟨n, rfl, r⟩
  · unfold Rep at r
    obtain ⟨n, ds, rfl, _, x, r⟩ := r
    exact ⟨n, ds, rfl, x, r⟩
  · obtain ⟨ds, x, r⟩ := r
    exact ⟨n, ds, rfl, x, r⟩
theorem tup_sim {l : List PV} {d : D} (r : Rep1 A h (.tup l) d) : ∃ ds, d = .tup ds ∧ Reps A h l ds := by
  rcases r with r | ⟨n, rfl, r⟩
  · unfold Rep at r
    exact r
  · exact r.elim
theorem int_sim {i : Int} {d : D} (r : Rep1 A h (.int i) d) : d = .int i := by
  rcases r with r | ⟨n, rfl, r⟩
  · unfold Rep at r; exact r
  · exact r.elim
theorem str_sim {i : Str} {d : D} (r : Rep1 A h (.str i) d) : d = .str i := by
  rcases r with r | ⟨n, rfl, r⟩
  · unfold Rep at r; exact r
  · exact r.elim
theorem bl_sim {i : Bool} {d : D} (r : Rep1 A h (.bl i) d) : d = .bl i := by
  rcases r with r | ⟨n, rfl, r⟩
  · unfold Rep at r; exact r
  · exact r.elim
theorem non_sim {d : D} (r : Rep1 A h .non d) : d = .non := by
  rcases r with r | ⟨n, rfl, r⟩
  · unfold Rep at r; exact r
  · exact r.elim
theorem ty_sim {i : String} {d : D} (r : Rep1 A h (.ty i) d) : d = .ty i := by
  rcases r with r | ⟨n, rfl, r⟩
  · unfold Rep at r; exact r
  · exact r.elim
theorem scalEq_sim {v w : PV} {d e : D} (r : Rep1 A h v d) (s : Rep1 A' h w e) (k : isScalP v = true) (j : isScalP w = true) : scalEq d e = scalEqP v w := by
  rcases scal_sim r k with ⟨rfl, rfl⟩ | ⟨b, rfl, rfl⟩ | ⟨b, rfl, rfl⟩ | ⟨b, rfl, rfl⟩ <;> rcases scal_sim s j with ⟨rfl, rfl⟩ | ⟨c, rfl, rfl⟩ | ⟨c, rfl, rfl⟩ | ⟨c, rfl, rfl⟩ <;> rfl
theorem eqZ_sim {f : D → D → Option Bool} {pf : PV → PV → Option Bool} : ∀ {l m : List PV} {ds es : List D} {b : Bool}, (∀ v w d e b, Rep A h v d → Rep A' h w e → pf v w = some b → f d e = some b) → Reps A h l ds → Reps A' h m es → eqZP pf l m = some b → eqZ f ds es = some b
  | [], m, ds, es, b, hf, r, s, q => by
    rw [r.invNil]
    unfold eqZP at q
    unfold eqZ
    exact q
  | v :: l, [], ds, es, b, hf, r, s, q => by
    rw [s.invNil]
    unfold eqZP at q
    unfold eqZ
    cases ds <;> exact q
  | v :: l, w :: m, ds, es, b, hf, r, s, q => by
    obtain ⟨d, ds, rfl, r1, r2⟩ := r.inv
    obtain ⟨e, es, rfl, s1, s2⟩ := s.inv
    unfold eqZP at q
    unfold eqZ
    cases hp : pf v w with
    | none => rw [hp] at q; cases q
    | some a =>
      rw [hp] at q
      rw [hf v w d e a r1 s1 hp]
      dsimp only at q ⊢
      cases hz : eqZP pf l m with
      | none => rw [hz] at q; cases q
      | some c =>
        rw [hz] at q
        rw [eqZ_sim hf r2 s2 hz]
        exact q
theorem eqTop_sim {f : D → D → Option Bool} {pf : PV → PV → Option Bool} {v w : PV} {d e : D} {b : Bool} (hf : ∀ v w d e b, Rep A h v d → Rep A' h w e → pf v w = some b → f d e = some b) (r : Rep1 A h v d) (s : Rep1 A' h w e) (q : eqTopP pf v w = some b) : eqTop h f d e = some b := by
  unfold eqTopP at q
  unfold eqTop
  rw [isScal_sim r, isScal_sim s]
  cases i : isScalP v <;> cases j : isScalP w <;> rw [i, j] at q <;> dsimp only at q ⊢
  · cases x : seqOfP v with
    | none => rw [x] at q; cases q
    | some kl =>
      obtain ⟨k, l⟩ := kl
      cases y : seqOfP w with
      | none => rw [x, y] at q; cases q
      | some km =>
        obtain ⟨k', m⟩ := km
        rw [x, y] at q
        obtain ⟨ds, e1, r1⟩ := seqOf_sim r x
        obtain ⟨es, e2, s1⟩ := seqOf_sim s y
        rw [e1, e2]
        dsimp only at q ⊢
        split
        · rename_i hk
          rw [if_pos hk] at q
          unfold eqSeqP at q
          unfold eqSeq
          rw [r1.length, s1.length]
          split
          · rename_i hl
            rw [if_pos hl] at q
            exact q
          · rename_i hl
            rw [if_neg hl] at q
            cases hz : eqZP pf l m with
            | none => rw [hz] at q; cases q
            | some c =>
              rw [hz] at q
              rw [eqZ_sim hf r1 s1 hz]
              exact q
        · rename_i hk
          rw [if_neg hk] at q
          exact q
  · cases x : seqOfP v with
    | none => rw [x] at q; cases q
    | some kl =>
      obtain ⟨k, l⟩ := kl
      rw [x] at q
      obtain ⟨ds, e1, r1⟩ := seqOf_sim r x
      rw [e1]
      exact q
  · cases y : seqOfP w with
    | none => rw [y] at q; cases q
    | some kl =>
      obtain ⟨k, l⟩ := kl
      rw [y] at q
      obtain ⟨ds, e1, r1⟩ := seqOf_sim s y
      rw [e1]
      exact q
  · rw [scalEq_sim r s i j]
    exact q
theorem eqZP_self {f : PV → PV → Option Bool} (hf : ∀ v b, f v v = some b → b = true) : ∀ {l : List PV} {b : Bool}, eqZP f l l = some b → b = true
  | [], b, q => by unfold eqZP at q; cases q; rfl
  | v :: l, b, q => by
    unfold eqZP at q
    cases hp : f v v with
    | none => rw [hp] at q; cases q
    | some a =>
      rw [hp] at q
      cases hz : eqZP f l l with
      | none => rw [hz] at q; cases q
      | some c =>
        rw [hz] at q
        cases q
        rw [hf v a hp, eqZP_self hf hz]
        rfl
theorem eqvP_self : ∀ (n : Nat) (v : PV) (b : Bool), eqvP n v v = some b → b = true
  | 0, v, b, q => by cases q
  | n + 1, v, b, q => by
    unfold eqvP eqTopP at q
    cases i : isScalP v <;> rw [i] at q <;> dsimp only at q
    · cases x : seqOfP v with
      | none => rw [x] at q; cases q
      | some kl =>
        obtain ⟨k, l⟩ := kl
        rw [x] at q
        dsimp only at q
        rw [if_pos rfl] at q
        unfold eqSeqP at q
        rw [if_neg (fun z => z.2 rfl)] at q
        cases hz : eqZP (eqvP n) l l with
        | none => rw [hz] at q; cases q
        | some c =>
          rw [hz] at q
          cases q
          rw [eqZP_self (eqvP_self n) hz]
          simp
    · cases q
      cases v <;> simp [isScalP] at i <;> simp [scalEqP]
theorem eqv_sim : ∀ (n : Nat) (v w : PV) (d e : D) (b : Bool), Rep A h v d → Rep A' h w e → eqvP n v w = some b → eqv h n d e = some b
  | 0, _, _, _, _, _, _, _, q => by cases q
  | n + 1, v, w, d, e, b, r, s, q => by
    unfold eqv
    split
    · rename_i hi
      cases d <;> cases e <;> simp [idRef] at hi
      subst hi
      have := Rep.one v r s
      subst this
      rw [eqvP_self _ _ _ q]
    · unfold eqvP at q
      exact eqTop_sim (eqv_sim n) (.inl r) (.inl s) q
theorem eqT_sim {v w : PV} {d e : D} {b : Bool} (r : Rep1 A h v d) (s : Rep1 A' h w e) (q : eqTP v w = some b) : eqT h d e = some b := eqTop_sim (eqv_sim deep) r s q
theorem op_eqP : Op2 eqF eqP := fun A h x y vx vy lo r s => by
  unfold eqP eqF
  split
  · rename_i b hb
    rw [eqT_sim r s hb]
    exact Sim.okk rep_bl
  · trivial
theorem op_neP : Op2 neF neP := fun A h x y vx vy lo r s => by
  unfold neP neF
  split
  · rename_i b hb
    rw [eqT_sim r s hb]
    exact Sim.okk rep_bl
  · trivial
end
def keyN : PV → Option NestedKey
  | .int i => some (.num i)
  | .str s => some (.text s)
  | _ => none
def findN (l : List (NestedKey × PV)) (k : NestedKey) : Option PV := (l.find? fun kv => decide (kv.1 = k)).map (·.2)
section
variable {A A' : Nat → Prop} {h : MH}
theorem find_sim {α : Type} [DecidableEq α] {f : α → NestedKey} (hf : ∀ a b, f a = f b ↔ a = b) {l : List (NestedKey × PV)} {ks : List (α × D)} {k : α} (r : RepK A h l (ks.map fun kv => (f kv.1, kv.2))) :
    match findN l (f k) with
    | some v => ∃ d, (ks.find? fun kv => decide (kv.1 = k)).map (·.2) = some d ∧ Rep A h v d
    | none => (ks.find? fun kv => decide (kv.1 = k)).map (·.2) = none := by
  induction ks generalizing l with
  | nil =>
    cases l with
    | nil => simp [findN]
    | cons x l => obtain ⟨a, b⟩ := x; simp [RepK] at r
  | cons x ks ih =>
    cases l with
    | nil => simp [RepK] at r
    | cons y l =>
      obtain ⟨a, v⟩ := y
      obtain ⟨b, d⟩ := x
      unfold RepK at r
      obtain ⟨d', s, e1, r1, r2⟩ := r
      simp only [List.map_cons, List.cons.injEq, Prod.mk.injEq] at e1
      obtain ⟨⟨e2, e3⟩, e4⟩ := e1
      subst e2 e3 e4
      unfold findN
      rw [List.find?_cons, List.find?_cons]
      by_cases c : b = k
      · rw [decide_eq_true ((hf b k).mpr c), decide_eq_true c]
        exact ⟨d, rfl, r1⟩
      · rw [decide_eq_false (fun z => c ((hf b k).mp z)), decide_eq_false c]
        exact ih r2
theorem RepK.append {l m : List (NestedKey × PV)} {ds es : List (NestedKey × D)} (r : RepK A h l ds) (s : RepK A h m es) : RepK A h (l ++ m) (ds ++ es) := by
  induction l generalizing ds with
  | nil => unfold RepK at r; subst r; exact s
  | cons x l ih =>
    obtain ⟨k, v⟩ := x
    unfold RepK at r
    obtain ⟨d, r', e, a, b⟩ := r
    subst e
    rw [List.cons_append, List.cons_append]
    unfold RepK
    exact ⟨d, _, rfl, a, ih b⟩
theorem RepK.single {k : NestedKey} {v : PV} {d : D} (a : Rep A h v d) : RepK A h [(k, v)] [(k, d)] := by unfold RepK; exact ⟨d, [], rfl, a, by unfold RepK; rfl⟩
end
end ML
namespace ML
open PySem PySem.Spec PyProof.Rows L2
def anyFP (f : PV → Option Bool) : List PV → Option Bool
  | [] => some false
  | y :: l => (match f y with
    | some a => (match anyFP f l with
      | some b => some (a || b)
      | none => none)
    | none => none)
def inTP (x y : PV) : Option Bool := match y with
  | .str b => (match x with
    | .str a => some (match a.cps.toList with
      | [c] => decide (c ∈ b.cps.toList)
      | _ => !(Builtin.Str.occurrences b a 0 b.length 1).isEmpty)
    | _ => none)
  | .dct 0 l => (match keyN x with
    | some k => some (findN l k).isSome
    | none => none)
  | y => (match seqOfP y with
    | some (_, l) => anyFP (fun z => eqvP deep z x) l
    | none => none)
def inP (x y : PV) : PR PV := match inTP x y with
  | some b => .ok (.bl b)
  | none => .bad
def addP (x y : PV) : PR PV := match x, y with
  | .int i, .int j => .ok (.int (i + j))
  | .str a, .str b => if a.length + b.length ≤ 1000000 then .ok (.str (a ++ b)) else .bad
  | .tup l, .tup m => if l.length + m.length ≤ 1000000 then .ok (.tup (l ++ m)) else .bad
  | .lst l, .lst m => if l.length + m.length ≤ 1000000 then .ok (.lst (l ++ m)) else .bad
  | _, _ => .bad
def catP (x y : PV) : PR PV := match x, y with
  | .lst l, .lst m => if l.length + m.length ≤ 1000000 then .ok (.lst (l ++ m)) else .bad
  | _, _ => .bad
def subP (x y : PV) : PR PV := match x, y with
  | .int i, .int j => .ok (.int (i - j))
  | _, _ => .bad
def ordP (fi : Int → Int → Bool) (fs : List Nat → List Nat → Bool) (x y : PV) : PR PV := match x, y with
  | .int i, .int j => .ok (.bl (fi i j))
  | .str a, .str b => .ok (.bl (fs a.cps.toList b.cps.toList))
  | _, _ => .bad
def geP := ordP (fun i j => decide (j ≤ i)) fun a b => !decide (a < b)
def isNonP : PV → Bool
  | .non => true
  | _ => false
def isNP (x y : PV) : PR PV := match y with
  | .non => .ok (.bl (isNonP x))
  | _ => .bad
def negP : PV → PR PV
  | .int i => .ok (.int (-i))
  | _ => .bad
def lenP : List PV → PR PV
  | [.str z] => if z.length ≤ 1000000 then .ok (.int z.length) else .bad
  | [.dct 0 l] => .ok (.int l.length)
  | [x] => (match seqOfP x with
    | some (_, l) => .ok (.int l.length)
    | none => .bad)
  | _ => .bad
def listP : List PV → PR PV
  | [x] => (match seqOfP x with
    | some (_, l) => .ok (.lst l)
    | none => .bad)
  | _ => .bad
def tupleP : List PV → PR PV
  | [x] => (match seqOfP x with
    | some (_, l) => .ok (.tup l)
    | none => .bad)
  | _ => .bad
def tyP : PV → Option String
  | .non => some "NoneType"
  | .bl _ => some "bool"
  | .int _ => some "int"
  | .str _ => some "str"
  | .tup _ => some "tuple"
  | .lst _ => some "list"
  | .dct 0 _ => some "dict"
  | _ => none
def isiP (c : String) : List PV → PR PV
  | [x, .ty n] => if n = c then (match tyP x with
    | some T => .ok (.bl (isB T c))
    | none => .bad) else .bad
  | _ => .bad
def isxP (tb : List (String × Bool)) (ti : List (Str × Bool)) (x : PV) : PR PV := match tyP x with
  | some T => (match tb.lookup T with
    | some r => .ok (.bl r)
    | none => .bad)
  | none => (match x with
    | .ins c _ => (match ti.lookup c with
      | some r => .ok (.bl r)
      | none => .bad)
    | _ => .bad)
def ixP (x y : PV) : PR PV := match x, y with
  | .str z, .int i => if z.length ≤ 1000000 then (match atI z.cps.toList i with
    | some c => .ok (.str ⟨#[c]⟩)
    | none => .bad) else .bad
  | .tup l, .int i => (match atI l i with
    | some d => .ok d
    | none => .bad)
  | .lst l, .int i => (match atI l i with
    | some d => .ok d
    | none => .bad)
  | .dct 0 l, y => (match keyN y with
    | some k => (match findN l k with
      | some d => .ok d
      | none => .bad)
    | none => .bad)
  | _, _ => .bad
def cutP (l : List PV) (lo hi : Option Int) : List PV := (l.drop (HT.sIx l.length 0 lo)).take (HT.sIx l.length l.length hi - HT.sIx l.length 0 lo)
def slP (x : PV) (lo hi : Option Int) : PR PV := match x with
  | .str z => if z.length ≤ 1000000 then .ok (.str (cutS z lo hi)) else .bad
  | .tup l => .ok (.tup (cutP l lo hi))
  | .lst l => .ok (.lst (cutP l lo hi))
  | _ => .bad
def fldP (ci : List Str) (f : Str) (x : PV) : PR PV := match x with
  | .ins c fs => if c ∈ ci then (match fs.lookup f with
    | some d => .ok d
    | none => .bad) else .bad
  | _ => .bad
def strsP : List PV → Option (List Str)
  | [] => some []
  | .str s :: r => (match strsP r with
    | some l => some (s :: l)
    | none => none)
  | _ => none
section
variable {A A' : Nat → Prop} {h : MH}
theorem anyF_sim {f : D → Option Bool} {pf : PV → Option Bool} : ∀ {l : List PV} {ds : List D} {b : Bool}, (∀ v d b, Rep A h v d → pf v = some b → f d = some b) → Reps A h l ds → anyFP pf l = some b → anyF f ds = some b
  | [], ds, b, hf, r, q => by rw [r.invNil]; exact q
  | v :: l, ds, b, hf, r, q => by
    obtain ⟨d, ds, rfl, r1, r2⟩ := r.inv
    unfold anyFP at q
    unfold anyF
    cases hp : pf v with
    | none => rw [hp] at q; cases q
    | some a =>
      rw [hp] at q
      rw [hf v d a r1 hp]
      dsimp only at q ⊢
      cases hz : anyFP pf l with
      | none => rw [hz] at q; cases q
      | some c =>
        rw [hz] at q
        rw [anyF_sim hf r2 hz]
        exact q
theorem key_sim {v : PV} {d : D} {k : NestedKey} (r : Rep1 A h v d) (q : keyN v = some k) : ∃ x, keyOf d = some x ∧ nkK x = k := by
  cases v <;> simp [keyN] at q
  · rw [int_sim r]; exact ⟨_, rfl, q⟩
  · rw [str_sim r]; exact ⟨_, rfl, q⟩
theorem dct0_sim {l : List (NestedKey × PV)} {d : D} (r : Rep1 A h (.dct 0 l) d) : ∃ n ks, d = .ref n ∧ h[n]? = some (.dct ks) ∧ RepK A h l (ks.map fun kv => (nkK kv.1, kv.2)) := by
  obtain ⟨n, o, ds, e, x, y, r⟩ := dct_sim r
  cases o <;> simp [kvP] at y
  subst y
  exact ⟨n, _, e, x, r⟩
theorem findK_sim {l : List (NestedKey × PV)} {ks : List (Key × D)} {k : Key} (r : RepK A h l (ks.map fun kv => (nkK kv.1, kv.2))) : match findN l (nkK k) with
    | some v => ∃ d, findK ks k = some d ∧ Rep A h v d
    | none => findK ks k = none := find_sim (fun a b => nkK_inj) r
theorem inT_sim {v w : PV} {d e : D} {b : Bool} (r : Rep1 A h v d) (s : Rep1 A h w e) (q : inTP v w = some b) : inT h d e = some b := by
  unfold inTP at q
  split at q
  · rename_i z
    split at q
    · rw [str_sim r, str_sim s]; exact q
    · cases q
  · rename_i l
    obtain ⟨n, ks, rfl, x, r2⟩ := dct0_sim s
    cases hk : keyN v with
    | none => rw [hk] at q; cases q
    | some k =>
      rw [hk] at q
      obtain ⟨k', e1, e2⟩ := key_sim r hk
      subst e2
      have := findK_sim (k := k') r2
      unfold inT dctOf
      dsimp only
      rw [x, e1]
      dsimp only at q ⊢
      revert this q
      cases findN l (nkK k') with
      | none => intro q t; rw [t]; exact q
      | some u => rintro q ⟨d2, t, _⟩; rw [t]; exact q
  · rename_i hs hd
    cases hz : seqOfP w with
    | none => rw [hz] at q; cases q
    | some kl =>
      obtain ⟨k, l⟩ := kl
      rw [hz] at q
      obtain ⟨ds, e1, r2⟩ := seqOf_sim s hz
      have : memT h d e = some b := by
        unfold memT
        rw [e1]
        refine anyF_sim (fun u c b' ru qu => ?_) r2 q
        rcases r with r | ⟨n, rfl, r⟩
        · exact eqv_sim deep u v c d b' ru r qu
        · have a : ¬ (fun _ : Nat => False) n := fun z => z
          exact eqv_sim deep u v c (.ref n) b' ru ((r.less (A' := fun _ => False) fun n z => z.elim).rep a) qu
      cases w <;> simp [seqOfP] at hz
      · obtain ⟨ds', rfl, _⟩ := tup_sim s
        exact this
      · obtain ⟨n, ds', rfl, x, _⟩ := lstOf_sim s
        unfold inT dctOf
        dsimp only
        rw [x]
        exact this
theorem op_inP : Op2 inF inP := fun A h x y vx vy lo r s => by
  unfold inP inF
  split
  · rename_i b hb
    rw [inT_sim r s hb]
    exact Sim.okk rep_bl
  · trivial
theorem fop_catP : FOp2 addF catP := fun A h x y vx vy lo r s => by
  unfold catP
  split
  · rename_i l m
    obtain ⟨n, ds, rfl, x1, r1⟩ := lstOf_sim r
    obtain ⟨k, es, rfl, x2, r2⟩ := lstOf_sim s
    split
    · rename_i hl
      unfold addF lstOf
      dsimp only
      rw [x1, x2]
      dsimp only
      rw [if_pos (by rw [r1.length, r2.length]; exact hl)]
      exact ⟨_, _, rfl, GV.app, h.length, rfl, Nat.le_refl _, own_lst (r1.append r2)⟩
    · trivial
  · trivial
theorem op_addP : Op2 addF addP := fun A h x y vx vy lo r s => by
  unfold addP
  split
  · rw [int_sim r, int_sim s]; exact Sim.okk rep_int
  · rw [str_sim r, str_sim s]
    unfold addF
    split
    · rename_i hl
      dsimp only
      rw [if_pos hl]
      exact Sim.okk rep_str
    · trivial
  · obtain ⟨ds, rfl, r1⟩ := tup_sim r
    obtain ⟨es, rfl, r2⟩ := tup_sim s
    unfold addF
    split
    · rename_i hl
      dsimp only
      rw [if_pos (by rw [r1.length, r2.length]; exact hl)]
      exact Sim.okk (by unfold Rep; exact ⟨_, rfl, r1.append r2⟩)
    · trivial
  · rename_i l m
    have := (fop_catP A h x y _ _ lo r s).mono (Rel2 := Rep A) fun h' v d g q => q.rep lo
    exact this
  · trivial
theorem op_subP : Op2 subF subP := fun A h x y vx vy lo r s => by
  unfold subP
  split
  · rw [int_sim r, int_sim s]; exact Sim.okk rep_int
  · trivial
theorem op_ordP {fi fs} : Op2 (ordF fi fs) (ordP fi fs) := fun A h x y vx vy lo r s => by
  unfold ordP
  split
  · rw [int_sim r, int_sim s]; exact Sim.okk rep_bl
  · rw [str_sim r, str_sim s]; exact Sim.okk rep_bl
  · trivial
theorem op_geP : Op2 geF geP := op_ordP
theorem isN_sim {v : PV} {d : D} (r : Rep1 A h v d) : isNF d .non h = .ok (.bl (isNonP v)) h ∧ isntNF d .non h = .ok (.bl (!isNonP v)) h := by
  cases v <;> first
    | (rw [non_sim r]; exact ⟨rfl, rfl⟩)
    | (rw [bl_sim r]; exact ⟨rfl, rfl⟩)
    | (rw [int_sim r]; exact ⟨rfl, rfl⟩)
    | (rw [str_sim r]; exact ⟨rfl, rfl⟩)
    | (rw [ty_sim r]; exact ⟨rfl, rfl⟩)
    | (obtain ⟨ds, rfl, _⟩ := tup_sim r; exact ⟨rfl, rfl⟩)
    | (obtain ⟨n, ds, rfl, _⟩ := lstOf_sim r; exact ⟨rfl, rfl⟩)
    | (obtain ⟨n, o, ds, rfl, _⟩ := dct_sim r; exact ⟨rfl, rfl⟩)
    | (obtain ⟨n, ds, rfl, _⟩ := ins_sim r; exact ⟨rfl, rfl⟩)
    | (rcases r with r | ⟨n, _, r⟩
       · unfold Rep at r; rw [r]; exact ⟨rfl, rfl⟩
       · exact r.elim)
theorem op_isNP : Op2 isNF isNP := fun A h x y vx vy lo r s => by
  unfold isNP
  split
  · rw [non_sim s, (isN_sim r).1]; exact Sim.okk rep_bl
  · trivial
theorem op_negP : Op1 negF negP := fun A h x vx lo r => by
  unfold negP
  split
  · rw [int_sim r]; exact Sim.okk rep_int
  · trivial
theorem Reps1.one' {v : PV} {ds : List D} (r : Reps1 A h [v] ds) : ∃ d, ds = [d] ∧ Rep1 A h v d := by
  obtain ⟨d, r', rfl, a, b⟩ := r
  unfold Reps1 at b
  subst b
  exact ⟨d, rfl, a⟩
theorem Reps1.two' {v w : PV} {ds : List D} (r : Reps1 A h [v, w] ds) : ∃ d e, ds = [d, e] ∧ Rep1 A h v d ∧ Rep1 A h w e := by
  obtain ⟨d, r', rfl, a, b⟩ := r
  obtain ⟨e, rfl, c⟩ := b.one'
  exact ⟨d, e, rfl, a, c⟩
theorem ops_lenP : Ops lenF lenP := fun A h xs vs lo r => by
  unfold lenP
  split
  · obtain ⟨d, rfl, r1'⟩ := r.one'
    have r := r1'
    rw [str_sim r]
    unfold lenF
    split
    · rename_i hz; dsimp only; rw [if_pos hz]; exact Sim.okk rep_int
    · trivial
  · obtain ⟨d, rfl, r1'⟩ := r.one'
    have r := r1'
    obtain ⟨n, ks, rfl, x, r2⟩ := dct0_sim r
    unfold lenF seqOf dctOf
    dsimp only
    rw [x]
    dsimp only
    have := r2.length
    rw [List.length_map] at this
    rw [this]
    exact Sim.okk rep_int
  · rename_i v _ _
    obtain ⟨d, rfl, r1'⟩ := r.one'
    have r := r1'
    cases hz : seqOfP v with
    | none => trivial
    | some kl =>
      obtain ⟨k, l⟩ := kl
      obtain ⟨ds, e1, r2⟩ := seqOf_sim r hz
      have : lenF [d] h = .ok (.int ds.length) h := by
        cases v <;> simp [seqOfP] at hz
        · obtain ⟨es, rfl, _⟩ := tup_sim r
          unfold lenF
          dsimp only
          rw [e1]
        · obtain ⟨n, es, rfl, _⟩ := lstOf_sim r
          unfold lenF
          dsimp only
          rw [e1]
      rw [this, r2.length]
      exact Sim.okk rep_int
  · trivial
theorem fops_listP : FOps listF listP := fun A h xs vs lo r => by
  unfold listP
  split
  · rename_i v
    obtain ⟨d, rfl, r1'⟩ := r.one'
    have r := r1'
    cases hz : seqOfP v with
    | none => trivial
    | some kl =>
      obtain ⟨k, l⟩ := kl
      obtain ⟨ds, e1, r2⟩ := seqOf_sim r hz
      unfold listF
      dsimp only
      rw [e1]
      exact ⟨_, _, rfl, GV.app, h.length, rfl, Nat.le_refl _, own_lst r2⟩
  · trivial
theorem ops_tupleP : Ops tupleF tupleP := fun A h xs vs lo r => by
  unfold tupleP
  split
  · rename_i v
    obtain ⟨d, rfl, r1'⟩ := r.one'
    have r := r1'
    cases hz : seqOfP v with
    | none => trivial
    | some kl =>
      obtain ⟨k, l⟩ := kl
      obtain ⟨ds, e1, r2⟩ := seqOf_sim r hz
      unfold tupleF
      dsimp only
      rw [e1]
      exact Sim.okk (by unfold Rep; exact ⟨_, rfl, r2⟩)
  · trivial
theorem ty_of {v : PV} {d : D} {T : String} (r : Rep1 A h v d) (q : tyP v = some T) : tyD h d = some T := by
  cases v <;> simp only [tyP] at q
  · rw [non_sim r]; exact q
  · rw [bl_sim r]; exact q
  · rw [int_sim r]; exact q
  · rw [str_sim r]; exact q
  · cases q
  · cases q
  · obtain ⟨ds, rfl, _⟩ := tup_sim r; exact q
  · obtain ⟨n, ds, rfl, x, _⟩ := lstOf_sim r
    unfold tyD
    dsimp only
    rw [x]
    exact q
  · rename_i k l
    cases k with
    | zero =>
      have q' : some "dict" = some T := q
      obtain ⟨n, ks, rfl, x, r2⟩ := dct0_sim r
      unfold tyD
      dsimp only
      rw [x]
      exact q'
    | succ k =>
      have q' : (none : Option String) = some T := q
      cases q'
  · cases q
theorem ops_isiP {c : String} : Ops (isiF c) (isiP c) := fun A h xs vs lo r => by
  unfold isiP
  split
  · rename_i v n
    obtain ⟨d, e, rfl, r1, r2⟩ := r.two'
    rw [ty_sim r2]
    split
    · rename_i hn
      split
      · rename_i T hT
        unfold isiF
        dsimp only
        rw [if_pos hn, ty_of r1 hT]
        exact Sim.okk rep_bl
      · trivial
    · trivial
  · trivial
theorem op_isxP {tb : List (String × Bool)} {ti tx : List (Str × Bool)} : Op1 (isxF tb ti tx) (isxP tb ti) := fun A h x vx lo r => by
  unfold isxP
  split
  · rename_i T hT
    split
    · rename_i b hb
      unfold isxF
      rw [ty_of r hT]
      dsimp only
      rw [hb]
      exact Sim.okk rep_bl
    · trivial
  · split
    · rename_i c l
      split
      · rename_i b hb
        obtain ⟨n, ds, rfl, x, _⟩ := ins_sim r
        unfold isxF tyD
        dsimp only
        rw [x]
        dsimp only
        rw [hb]
        exact Sim.okk rep_bl
      · trivial
    · trivial
theorem at_sim {l : List PV} {ds : List D} {i : Int} {v : PV} (r : Reps A h l ds) (q : atI l i = some v) : ∃ d, atI ds i = some d ∧ Rep A h v d := by
  unfold atI at q ⊢
  rw [r.length]
  cases hx : ixN l.length i with
  | none => rw [hx] at q; cases q
  | some k => rw [hx] at q; exact r.get q
theorem op_ixP : Op2 ixF ixP := fun A h x y vx vy lo r s => by
  unfold ixP
  split
  · rw [str_sim r, int_sim s]
    unfold ixF
    split
    · rename_i hz
      dsimp only
      rw [if_pos hz]
      split
      · rename_i c hc; try rw [hc]
        exact Sim.okk rep_str
      · trivial
    · trivial
  · obtain ⟨ds, rfl, r1⟩ := tup_sim r
    rw [int_sim s]
    split
    · rename_i d hd
      obtain ⟨e, e1, r2⟩ := at_sim r1 hd
      unfold ixF seqOf
      dsimp only
      rw [e1]
      exact Sim.okk r2
    · trivial
  · obtain ⟨n, ds, rfl, x1, r1⟩ := lstOf_sim r
    rw [int_sim s]
    split
    · rename_i d hd
      obtain ⟨e, e1, r2⟩ := at_sim r1 hd
      unfold ixF seqOf
      dsimp only
      rw [x1]
      dsimp only
      rw [e1]
      exact Sim.okk r2
    · trivial
  · rename_i l vy
    obtain ⟨n, ks, rfl, x1, r2⟩ := dct0_sim r
    split
    · rename_i k hk
      obtain ⟨k', e1, e2⟩ := key_sim s hk
      subst e2
      have := findK_sim (k := k') r2
      split
      · rename_i d hd
        rw [hd] at this
        obtain ⟨d2, t, r3⟩ := this
        have : ixF (.ref n) y h = .ok d2 h := by
          unfold ixF seqOf dctOf
          dsimp only
          rw [x1]
          dsimp only
          rw [e1]
          dsimp only
          rw [t]
        rw [this]
        exact Sim.okk r3
      · trivial
    · trivial
  · trivial
theorem op_fldP {ci cx : List Str} {f : Str} : Op1 (fldF ci cx f) (fldP ci f) := fun A h x vx lo r => by
  unfold fldP
  split
  · rename_i c fs
    obtain ⟨n, ds, rfl, x, r1⟩ := ins_sim r
    split
    · rename_i hc
      split
      · rename_i d hd
        have := r1.look f
        rw [hd] at this
        obtain ⟨d2, t, r3⟩ := this
        unfold fldF
        dsimp only
        rw [x]
        dsimp only
        rw [if_pos hc, t]
        exact Sim.okk r3
      · trivial
    · trivial
  · trivial
theorem strs_sim : ∀ {l : List PV} {ds : List D} {bs : List Str}, Reps A h l ds → strsP l = some bs → strsOf ds = some bs
  | [], ds, bs, r, q => by rw [r.invNil]; exact q
  | v :: l, ds, bs, r, q => by
    obtain ⟨d, ds, rfl, r1, r2⟩ := r.inv
    cases v <;> simp [strsP] at q
    rename_i b
    unfold Rep at r1
    subst r1
    cases hz : strsP l with
    | none => rw [hz] at q; cases q
    | some c =>
      rw [hz] at q
      unfold strsOf
      rw [strs_sim r2 hz]
      exact q
theorem Reps.cut {l : List PV} {ds : List D} {lo hi : Option Int} (r : Reps A h l ds) : Reps A h (cutP l lo hi) (cutD ds lo hi) := by
  unfold cutP cutD
  rw [r.length]
  exact (r.drop _).take _
end
end ML
namespace ML
open PySem PySem.Spec PyProof.Rows L2
abbrev PO := PEnv → PR (Option Int)
def okO (m : OM) (p : PO) : Prop := ∀ A pe e h, ER A pe e h → Sim (Av A pe e) (fun _ a b => b = a) h (p pe) (m e h)
def noOP : PO := fun _ => .ok none
def someOP (p : PX) : PO := fun e => (p e).bind fun v => match v with
  | .int i => .ok (some i)
  | _ => .bad
def slEP (a : PX) (lo hi : PO) : PX := fun e => (a e).bind fun x => (lo e).bind fun l => (hi e).bind fun u => slP x l u
def charsP (z : Str) : List PV := z.cps.toList.map fun c => .str ⟨#[c]⟩
def seqItP (p : PX) : PA := fun e => (p e).bind fun v => match v with
  | .tup l => .ok l
  | .lst l => .ok l
  | .str z => .ok (charsP z)
  | _ => .bad
def enumV (l : List PV) : List PV := l.zipIdx.map fun p => .tup [.int (p.2 : Nat), p.1]
def enumP (p : PA) : PA := fun e => (p e).bind fun ds => match ds with
  | [.tup l] => .ok (enumV l)
  | [.lst l] => .ok (enumV l)
  | _ => .bad
def starP (a : PX) (r : PA) : PA := fun e => (a e).bind fun x => match seqOfP x with
  | some (_, l) => (r e).bind fun ys => .ok (l ++ ys)
  | none => .bad
section
variable {A A' : Nat → Prop} {h : MH} {m a : EM} {p pa : PX} {lo hi : OM} {plo phi : PO} {as : AM} {ps : PA}
theorem o_noP : okO noO noOP := fun A pe e h s => Sim.okk rfl
theorem o_someP (k : okX m p) : okO (someO m) (someOP p) := fun A pe e h s => (k A pe e h s).bind fun v d h1 g r => by
  split
  · unfold Rep at r
    subst r
    exact Sim.okk rfl
  · trivial
theorem sl_sim {v : PV} {d : D} {l u : Option Int} (lo : ∀ n, A n → n < h.length) (r : Rep1 A h v d) : Sim A (Rep A) h (slP v l u) (slF d l u h) := by
  unfold slP
  split
  · rw [str_sim r]
    unfold slF
    split
    · rename_i hz
      dsimp only
      rw [if_pos hz]
      exact Sim.okk rep_str
    · trivial
  · obtain ⟨ds, rfl, r1⟩ := tup_sim r
    exact Sim.okk (by unfold Rep; exact ⟨_, rfl, r1.cut⟩)
  · obtain ⟨n, ds, rfl, x, r1⟩ := lstOf_sim r
    unfold slF seqOf
    dsimp only
    rw [x]
    exact ⟨_, _, rfl, GV.app, ((own_lst r1.cut).less fun m z => .inl z).rep fun z => by have := lo _ z; omega⟩
  · trivial
theorem x_slP (ka : okB a pa) (kl : okO lo plo) (kh : okO hi phi) : okX (slE a lo hi) (slEP pa plo phi) := fun A pe e h s =>
  (ka A pe e h s).bind fun v d h1 g1 r1 => (kl A pe e h1 (s.up g1)).bind fun l l' h2 g2 r2 => (kh A pe e h2 (s.up (g1.trans g2))).bind fun u u' h3 g3 r3 => by
    subst r2 r3
    exact sl_sim (fun n z => Nat.lt_of_lt_of_le (s.av z) (g1.trans (g2.trans g3)).1) (r1.up (g2.trans g3))
theorem reps_chars (z : Str) : Reps A h (charsP z) (chars z) := by
  unfold charsP chars
  induction z.cps.toList with
  | nil => exact .nil
  | cons c l ih => exact .cons rep_str ih
theorem reps_enum {l : List PV} {ds : List D} (r : Reps A h l ds) : Reps A h (enumV l) (enumD ds) := by
  unfold enumV enumD
  have : ∀ (k : Nat) {l : List PV} {ds : List D}, Reps A h l ds → Reps A h ((l.zipIdx k).map fun p => PV.tup [.int (p.2 : Nat), p.1]) ((ds.zipIdx k).map fun p => D.tup [.int (p.2 : Nat), p.1]) := fun k l => by
    induction l generalizing k with
    | nil => intro ds r; rw [r.invNil]; exact .nil
    | cons v l ih =>
      intro ds r
      obtain ⟨d, s, rfl, a, b⟩ := r.inv
      rw [List.zipIdx_cons, List.zipIdx_cons, List.map_cons, List.map_cons]
      exact .cons (by unfold Rep; exact ⟨_, rfl, .cons rep_int (.single a)⟩) (ih (k + 1) b)
  exact this 0 r
theorem i_seqP (k : okX m p) : okI (seqI m) (seqItP p) := fun A pe e h s => (k A pe e h s).bind fun v d h1 g r => by
  cases v <;> try trivial
  · unfold Rep at r
    subst r
    exact Sim.okk ⟨reps_chars _, fun q hq => nomatch hq⟩
  · unfold Rep at r
    obtain ⟨ds, rfl, r⟩ := r
    exact Sim.okk ⟨r, fun q hq => nomatch hq⟩
  · unfold Rep at r
    obtain ⟨n, ds, rfl, a, x, r⟩ := r
    unfold seqF
    dsimp only
    rw [x]
    refine Sim.okk ⟨r, fun q hq => ?_⟩
    rw [List.mem_singleton] at hq
    subst hq
    exact ⟨a, x⟩
theorem i_enumP (k : okA as ps) : okI (enumI2 as) (enumP ps) := fun A pe e h s => (k A pe e h s).bind fun vs ds h1 g r => by
  split
  · obtain ⟨d, ds, rfl, a, b⟩ := r.inv
    rw [b.invNil]
    unfold Rep at a
    obtain ⟨es, rfl, a⟩ := a
    exact Sim.okk ⟨reps_enum a, fun q hq => nomatch hq⟩
  · obtain ⟨d, ds, rfl, a, b⟩ := r.inv
    rw [b.invNil]
    unfold Rep at a
    obtain ⟨n, es, rfl, an, x, a⟩ := a
    unfold enumF2 enumF
    dsimp only
    rw [x]
    refine Sim.okk ⟨reps_enum a, fun q hq => ?_⟩
    rw [List.mem_singleton] at hq
    subst hq
    exact ⟨an, x⟩
  · trivial
theorem a_starP (ka : okB a pa) (kr : okA as ps) : okA (starA a as) (starP pa ps) := fun A pe e h s => (ka A pe e h s).bind fun v d h1 g1 r1 => by
  split
  · rename_i k l hl
    obtain ⟨ds, e1, r2⟩ := seqOf_sim r1 hl
    rw [e1]
    exact (kr A pe e h1 (s.up g1)).bind fun vs es h2 g2 r3 => Sim.okk ((r2.up g2).append r3)
  · trivial
end
def wipeP (e : PEnv) : List Nat → PEnv
  | [] => e
  | v :: vs => (wipeP e vs).set v .no
def yesP : PT := fun _ => .ok true
def lcLP (tg : PG) (tst : PT) (elt : PX) (e0 : PEnv) : List PV → PR (List PV)
  | [] => .ok []
  | d :: r => match tg d e0 with
    | some e1 => (match tst e1 with
      | .ok true => (match elt e1 with
        | .ok y => (match lcLP tg tst elt e0 r with
          | .ok l => .ok (y :: l)
          | _ => .bad)
        | _ => .bad)
      | .ok false => lcLP tg tst elt e0 r
      | _ => .bad)
    | none => .bad
def notOwn (own : List Nat) (e : PEnv) : Bool := own.all fun i => !isOwnS e i
def lcP (own : List Nat) (it : PA) (tg : PG) (tst : PT) (elt : PX) : PX := fun e => (it e).bind fun vs => if notOwn own e = true ∧ vs.length ≤ 1000000 then (lcLP tg tst elt (wipeP e own) vs).bind fun l => .ok (.lst l) else .bad
section
variable {A A' : Nat → Prop} {h : MH} {pe : PEnv} {e : Env}
theorem t_yesP : okT yesT yesP := fun A pe e h s => Sim.okk rfl
theorem ER.unset {i : Nat} (s : ER A pe e h) (no : isOwnS pe i = false) : ER A (pe.set i .no) (e.set i none) h ∧ ∀ n, Ow (pe.set i .no) (e.set i none) n ↔ Ow pe e n := by
  have ow : ∀ n, Ow (pe.set i .no) (e.set i none) n ↔ Ow pe e n := fun n => by
    constructor
    · rintro ⟨j, v, a, b⟩
      by_cases hj : j = i
      · subst hj
        by_cases hl : j < pe.length
        · rw [List.getElem?_set_self hl] at a
          cases a
        · rw [List.getElem?_eq_none (by simpa using hl)] at a
          cases a
      · rw [List.getElem?_set_ne (Ne.symm hj)] at a b
        exact ⟨j, v, a, b⟩
    · rintro ⟨j, v, a, b⟩
      have hj : j ≠ i := fun z => by
        subst z
        unfold isOwnS at no
        rw [a] at no
        cases no
      exact ⟨j, v, by rw [List.getElem?_set_ne (Ne.symm hj)]; exact a, by rw [List.getElem?_set_ne (Ne.symm hj)]; exact b⟩
  have av : ∀ n, Av A (pe.set i .no) (e.set i none) n → Av A pe e n := fun n z => z.imp (fun y => y) (ow n).mp
  have ne : ∀ {j : Nat} {sl : Slot}, (pe.set i .no)[j]? = some sl → sl ≠ .no → j ≠ i := fun {j sl} a b z => by
    subst z
    by_cases hl : j < pe.length
    · rw [List.getElem?_set_self hl] at a
      cases a
      exact b rfl
    · rw [List.getElem?_eq_none (by simpa using hl)] at a
      cases a
  refine ⟨⟨by simp [s.len], fun j v q => ?_, fun j v q => ?_, fun j k v w n a b c d => ?_, s.low⟩, ow⟩
  · have hj := ne q (fun z => nomatch z)
    rw [List.getElem?_set_ne (Ne.symm hj)] at q
    obtain ⟨d, a, b⟩ := s.val j v q
    exact ⟨d, by rw [List.getElem?_set_ne (Ne.symm hj)]; exact a, b.less av⟩
  · have hj := ne q (fun z => nomatch z)
    rw [List.getElem?_set_ne (Ne.symm hj)] at q
    obtain ⟨d, a, c, b⟩ := s.own j v q
    exact ⟨d, by rw [List.getElem?_set_ne (Ne.symm hj)]; exact a, c, b.less av⟩
  · have hj := ne a (fun z => nomatch z)
    have hk := ne b (fun z => nomatch z)
    rw [List.getElem?_set_ne (Ne.symm hj)] at a c
    rw [List.getElem?_set_ne (Ne.symm hk)] at b d
    exact s.inj j k v w n a b c d
theorem own_wipe {i : Nat} : ∀ {l : List Nat}, isOwnS pe i = false → isOwnS (wipeP pe l) i = false
  | [], a => a
  | j :: l, a => by
    unfold wipeP
    unfold isOwnS
    by_cases hj : i = j
    · subst hj
      by_cases hl : i < (wipeP pe l).length
      · rw [List.getElem?_set_self hl]
      · rw [List.getElem?_eq_none (by simpa using hl)]
    · rw [List.getElem?_set_ne (Ne.symm hj)]
      exact own_wipe (l := l) a
theorem ER.wipe (s : ER A pe e h) : ∀ {l : List Nat}, notOwn l pe = true → ER A (wipeP pe l) (wipeM e l) h ∧ ∀ n, Ow (wipeP pe l) (wipeM e l) n ↔ Ow pe e n
  | [], _ => ⟨s, fun _ => Iff.rfl⟩
  | i :: l, q => by
    unfold notOwn at q
    rw [List.all_cons, Bool.and_eq_true] at q
    obtain ⟨s1, o1⟩ := s.wipe (l := l) q.2
    obtain ⟨s2, o2⟩ := s1.unset (i := i) (own_wipe (by simpa using q.1))
    exact ⟨s2, fun n => (o2 n).trans (o1 n)⟩
/-- the heap gets something that nothing stands for -/
theorem ER.junk {n : Nat} {o : O} (s : ER A pe e h) (a : A n) : ER A pe e (h.set n o) := by
  have st : Stay (Av A pe e) h (Av A pe e) (h.set n o) := Stay.setA (.inl a)
  refine ⟨s.len, fun i v q => ?_, fun i v q => ?_, s.inj, fun m z => by simpa using s.low m z⟩
  · obtain ⟨d, x, y⟩ := s.val i v q
    exact ⟨d, x, Rep.to st v y⟩
  · obtain ⟨d, x, c, y⟩ := s.own i v q
    refine ⟨d, x, c, y.to st fun o' z => ?_⟩
    rw [List.getElem?_set_ne]
    · exact z
    · intro t
      exact c (t ▸ a)
theorem lcL_ok {tg : GM} {ptg : PG} {tst : TM} {ptst : PT} {elt : EM} {pelt : PX} {srcs : List (Nat × List D)} {n : Nat} (kg : okG tg ptg) (kt : okT tst ptst) (ke : okX elt pelt) :
    ∀ (vs : List PV) (ds : List D) (pe : PEnv) (e : Env) (h : MH) (acc : List D) (pacc : List PV) (l : List PV), ER A pe e h → A n → Reps (Av A pe e) h vs ds → (∀ q ∈ srcs, ¬ Av A pe e q.1 ∧ h[q.1]? = some (.lst q.2)) →
      h[n]? = some (.lst acc) → Reps (Av A pe e) h pacc acc → pacc.length + vs.length ≤ 1000000 → lcLP ptg ptst pelt pe vs = .ok l →
      ∃ h' ds', lcLoop srcs tg tst elt n e ds h = .ok (.ref n) h' ∧ h.length ≤ h'.length ∧ (∀ m o, m ≠ n → h[m]? = some o → h'[m]? = some o) ∧ h'[n]? = some (.lst ds') ∧ Reps (Av A pe e) h' (pacc ++ l) ds'
  | [], ds, pe, e, h, acc, pacc, l, s, hn, r, hs, q, w, len, f => by
    rw [r.invNil]
    unfold lcLP at f
    cases f
    unfold lcLoop
    rw [if_pos (srcs_ok fun q hq => (hs q hq).2)]
    exact ⟨h, acc, rfl, Nat.le_refl _, fun _ _ _ z => z, q, by simpa using w⟩
  | v :: vs, ds, pe, e, h, acc, pacc, l, s, hn, r, hs, q, w, len, f => by
    obtain ⟨d, ds, rfl, r1, r2⟩ := r.inv
    unfold lcLP at f
    unfold lcLoop
    rw [if_pos (srcs_ok fun q hq => (hs q hq).2)]
    cases hg : ptg v pe with
    | none => rw [hg] at f; cases f
    | some pe1 =>
      rw [hg] at f
      obtain ⟨e1, p1, s1, o1⟩ := kg A pe e h v d pe1 s r1 hg
      rw [p1]
      dsimp only at f ⊢
      have av : ∀ m, Av A pe1 e1 m ↔ Av A pe e m := fun m => or_congr Iff.rfl (o1 m)
      have T := kt A pe1 e1 h s1
      cases ht : ptst pe1 with
      | exc c fs => rw [ht] at f; cases f
      | bad => rw [ht] at f; cases f
      | ok b =>
        rw [ht] at f T
        obtain ⟨b', h2, t1, g2, t2⟩ := T
        subst t2
        rw [t1]
        have s2 := s.up g2
        have r2' := r2.up g2
        have hs' : ∀ q ∈ srcs, ¬ Av A pe e q.1 ∧ h2[q.1]? = some (.lst q.2) := fun q hq => ⟨(hs q hq).1, g2.2 _ _ (hs q hq).2⟩
        cases b' with
        | false =>
          dsimp only at f ⊢
          obtain ⟨h', ds', z1, z2, z3, z4, z5⟩ := lcL_ok kg kt ke vs ds pe e h2 acc pacc l s2 hn r2' hs' (g2.2 _ _ q) (w.up g2) (by simp only [List.length_cons] at len; omega) f
          exact ⟨h', ds', z1, Nat.le_trans g2.1 z2, fun m o a b => z3 m o a (g2.2 _ _ b), z4, z5⟩
        | true =>
          dsimp only at f ⊢
          have Z := ke A pe1 e1 h2 (s1.up g2)
          cases he : pelt pe1 with
          | exc c fs => rw [he] at f; cases f
          | bad => rw [he] at f; cases f
          | ok y =>
            rw [he] at f Z
            obtain ⟨y', h3, u1, g3, u2⟩ := Z
            rw [u1]
            dsimp only at f ⊢
            have q3 := g3.2 _ _ (g2.2 _ _ q)
            rw [q3]
            have la : acc.length < 1000000 := by rw [w.length]; simp only [List.length_cons] at len; omega
            dsimp only
            rw [if_pos la]
            cases hl : lcLP ptg ptst pelt pe vs with
            | exc c fs => rw [hl] at f; cases f
            | bad => rw [hl] at f; cases f
            | ok l2 =>
              rw [hl] at f
              cases f
              have st : Stay (Av A pe e) h3 (Av A pe e) (h3.set n (.lst (acc ++ [y']))) := Stay.setA (.inl hn)
              have u2' : Rep (Av A pe e) h3 y y' := u2.less fun m z => (av m).mpr z
              obtain ⟨h', ds', z1, z2, z3, z4, z5⟩ := lcL_ok kg kt ke vs ds pe e (h3.set n (.lst (acc ++ [y']))) (acc ++ [y']) (pacc ++ [y]) l2 ((s2.up g3).junk hn) hn (Reps.to st _ (r2'.up g3))
                (fun q hq => by
                  have nq : q.1 ≠ n := fun z => (hs' q hq).1 (z ▸ .inl hn)
                  exact ⟨(hs' q hq).1, by rw [List.getElem?_set_ne (Ne.symm nq)]; exact g3.2 _ _ (hs' q hq).2⟩)
                (by rw [List.getElem?_set_self (List.getElem?_eq_some_iff.mp q3).1]) (Reps.to st _ (((w.up g2).up g3).append (.single u2'))) (by simp only [List.length_cons, List.length_append] at len ⊢; simp; omega) hl
              refine ⟨h', ds', z1, Nat.le_trans (Nat.le_trans g2.1 g3.1) (by simpa using z2), fun m o a b => z3 m o a ?_, z4, by simpa using z5⟩
              rw [List.getElem?_set_ne (Ne.symm a)]
              exact g3.2 _ _ (g2.2 _ _ b)
theorem f_lcP {own : List Nat} {it : IM} {pit : PA} {tg : GM} {ptg : PG} {tst : TM} {ptst : PT} {elt : EM} {pelt : PX} (ki : okI it pit) (kg : okG tg ptg) (kt : okT tst ptst) (ke : okX elt pelt) : okF (lcE own it tg tst elt) (lcP own pit ptg ptst pelt) := fun A pe e h s =>
  (ki A pe e h s).bind fun vs I h1 g1 ⟨w1, w2⟩ => by
    split
    · rename_i hc
      cases hl : lcLP ptg ptst pelt (wipeP pe own) vs with
      | exc c fs => 
        -- an error within stops the mirror
        exfalso
        clear w1 w2
        have : ∀ vs, lcLP ptg ptst pelt (wipeP pe own) vs ≠ .exc c fs := fun vs => by
          induction vs with
          | nil => intro z; cases z
          | cons v vs ih =>
            intro z
            unfold lcLP at z
            repeat' split at z
            all_goals first | exact ih z | cases z
        exact this vs hl
      | bad => trivial
      | ok l =>
        have lt : ∀ n, Av A pe e n → n < h1.length := fun n z => Nat.lt_of_lt_of_le (s.av z) g1.1
        have s1 := (s.up g1).more (B := fun n => n = h1.length) (GV.app (t := [.lst []])) fun n z => by subst z; simp
        obtain ⟨s2, o2⟩ := s1.wipe hc.1
        have st : Stay (Av A pe e) h1 (Av (fun n => A n ∨ n = h1.length) (wipeP pe own) (wipeM e own)) (h1 ++ [.lst []]) := fun n o z a => ⟨fun q => by
          rcases q with (q | q) | q
          · exact a (.inl q)
          · have := (List.getElem?_eq_some_iff.mp z).1
            omega
          · exact a (.inr ((o2 n).mp q)), GV.app.2 _ _ z⟩
        obtain ⟨h', ds', z1, z2, z3, z4, z5⟩ := lcL_ok (A := fun n => A n ∨ n = h1.length) (srcs := I.srcs) (n := h1.length) kg kt ke vs I.items (wipeP pe own) (wipeM e own) (h1 ++ [.lst []]) [] [] l s2 (.inr rfl) (Reps.to st _ w1)
          (fun q hq => st _ _ (w2 q hq).2 (w2 q hq).1) (by simp) .nil (by simpa using hc.2) hl
        refine ⟨.ref h1.length, h', z1, ⟨Nat.le_trans (by simp) z2, fun m o b => z3 m o (by have := (List.getElem?_eq_some_iff.mp b).1; omega) (GV.app.2 _ _ b)⟩, h1.length, rfl, g1.1, ds', z4, Reps.less (by simpa using z5) fun n z => ?_⟩
        rcases z with (z | z) | z
        · exact .inl (.inl z)
        · exact .inr ((o2 n).mpr z)
        · exact .inl (.inr z)
    · trivial
end
end ML
namespace ML
open PySem PySem.Spec PyProof.Rows L2
/-- tables of methods -/
def okTab : List (Str × FM) → List (Str × PFM) → Prop
  | [], [] => True
  | (c, f) :: r, (pc, pf) :: pr => c = pc ∧ FOK f pf ∧ okTab r pr
  | _, _ => False
theorem tab_nil : okTab [] [] := trivial
theorem tab_cons {c : Str} {f : FM} {pf : PFM} {r : List (Str × FM)} {pr : List (Str × PFM)} (a : FOK f pf) (b : okTab r pr) : okTab ((c, f) :: r) ((c, pf) :: pr) := ⟨rfl, a, b⟩
theorem okTab.look {c : Str} {pf : PFM} : ∀ {r : List (Str × FM)} {pr : List (Str × PFM)}, okTab r pr → pr.lookup c = some pf → ∃ f, r.lookup c = some f ∧ FOK f pf
  | [], [], _, q => by cases q
  | [], _ :: _, k, _ => k.elim
  | _ :: _, [], k, _ => by unfold okTab at k; exact k.elim
  | (d, f) :: r, (pd, pg) :: pr, ⟨a, b, k⟩, q => by
    subst a
    rw [List.lookup_cons] at q ⊢
    cases hc : c == d with
    | true => rw [hc] at q; cases q; exact ⟨f, rfl, b⟩
    | false => rw [hc] at q; exact k.look q
def propP (t : List (Str × PFM)) (x : PV) : PR PV := match x with
  | .ins c fs => (match t.lookup c with
    | some f => (match f [.ins c fs] with
      | .ok v => .ok v
      | _ => .bad)
    | none => .bad)
  | _ => .bad
def bmP (T : String) (f : PV → List PV → PR PV) (o : PX) (as : PA) : PX := fun e => (o e).bind fun x => if tyP x = some T then (as e).bind fun xs => f x xs else .bad
def OpM2 (f : D → List D → MH → R D) (p : PV → List PV → PR PV) : Prop := ∀ A h x xs vx vs, (∀ n, A n → n < h.length) → Rep1 A h vx x → Reps1 A h vs xs → Sim A (Rep A) h (p vx vs) (f x xs h)
/-- a maker -/
def FFOK (m : FM) (p : PFM) : Prop := ∀ A h vs ds, (∀ n, A n → n < h.length) → Reps A h vs ds → Sim A (Fr A h) h (p vs) (m ds h)
section
variable {A A' : Nat → Prop} {h : MH} {pe : PEnv} {e : Env} {m a o : EM} {p pa po : PX} {as ks : AM} {ps qs : PA}
theorem f_onM {f : FM} {pf : PFM} (hf : FFOK f pf) (ha : okA as ps) : okF (onA f as) (onP pf ps) := fun A pe e h s =>
  (ha A pe e h s).bind fun vx x h1 g1 r1 => (hf _ _ _ _ (fun n z => Nat.lt_of_lt_of_le (s.av z) g1.1) r1).mono fun h3 v d g3 ⟨n, e1, l, o⟩ => ⟨n, e1, Nat.le_trans g1.1 l, o⟩
theorem x_prop {t : List (Str × FM)} {pt : List (Str × PFM)} (kt : okTab t pt) (ha : okX a pa) : okX (un (propF t) a) (unP (propP pt) pa) := fun A pe e h s => (ha A pe e h s).bind fun v d h1 g1 r => by
  unfold propP
  split
  · rename_i c fs
    split
    · rename_i pf hf
      obtain ⟨f, f1, fk⟩ := kt.look hf
      have F := fk _ h1 [.ins c fs] [d] (fun n z => Nat.lt_of_lt_of_le (s.av z) g1.1) (.single r)
      unfold Rep at r
      obtain ⟨n, ds, rfl, _, x, _⟩ := r
      unfold propF insCl
      dsimp only
      rw [x]
      dsimp only
      rw [f1]
      dsimp only
      revert F
      cases pf [.ins c fs] with
      | ok v => rintro ⟨d2, h2, q, g2, r2⟩; rw [q]; exact ⟨d2, h2, rfl, g2, r2⟩
      | exc c fs => exact fun _ => trivial
      | bad => exact fun _ => trivial
    · trivial
  · trivial
theorem x_bmP {T : String} {f : D → List D → MH → R D} {pf : PV → List PV → PR PV} (hf : OpM2 f pf) (ho : okB o po) (ha : okA1 as ps) : okX (bmE T f o as) (bmP T pf po ps) := fun A pe e h s => (ho A pe e h s).bind fun v d h1 g1 r => by
  split
  · rename_i hT
    rw [if_pos (ty_of r hT)]
    exact (ha A pe e h1 (s.up g1)).bind fun xs ys h2 g2 r2 => hf _ _ _ _ _ _ (fun n z => Nat.lt_of_lt_of_le (s.av z) (g1.trans g2).1) (r.up g2) r2
  · trivial
/-- the first name stays what it is -/
def K0 (s : SM) : Prop := ∀ e h, match s e h with
  | .nx e' _ => e'[0]? = e[0]?
  | .bk e' _ => e'[0]? = e[0]?
  | .ct e' _ => e'[0]? = e[0]?
  | _ => True
def K0G (g : GM) : Prop := ∀ d e h e', g d e h = some e' → e'[0]? = e[0]?
theorem k0_pass : K0 passS := fun _ _ => rfl
theorem k0_seq {a b : SM} (x : K0 a) (y : K0 b) : K0 (seqS a b) := fun e h => by
  have := x e h
  unfold seqS
  revert this
  cases a e h with
  | nx e1 h1 =>
    intro z
    have := y e1 h1
    dsimp only at z ⊢
    rw [← z]
    exact this
  | _ => exact fun z => z
theorem k0_exp {a : EM} : K0 (expS a) := fun e h => by
  unfold expS ofE
  cases a e h <;> first | rfl | trivial
theorem k0_if {t : TM} {a b : SM} (x : K0 a) (y : K0 b) : K0 (ifS t a b) := fun e h => by
  unfold ifS ofT
  cases t e h with
  | ok c h1 =>
    cases c with
    | true => exact x e h1
    | false => exact y e h1
  | exc c fs h1 => trivial
  | bad => trivial
theorem k0_set {i : Nat} {a : EM} (hi : i ≠ 0) : K0 (setS i a) := fun e h => by
  unfold setS ofE
  cases a e h with
  | ok d h1 => exact List.getElem?_set_ne hi
  | _ => trivial
theorem k0g_nm {i : Nat} (hi : i ≠ 0) : K0G (gnm i) := fun d e h e' q => by
  unfold gnm at q
  cases q
  exact List.getElem?_set_ne hi
theorem k0_loop {srcs : List (Nat × List D)} {g : GM} {s : SM} (kg : K0G g) (ks : K0 s) : ∀ ds, K0 (loopS srcs g s ds)
  | [] => fun e h => by
    unfold loopS
    split <;> first | trivial | (rename_i q; split at q <;> cases q <;> rfl)
  | d :: ds => fun e h => by
    unfold loopS
    by_cases c : IT.ok h srcs = true
    · rw [if_pos c]
      cases hg : g d e h with
      | none => trivial
      | some e1 =>
        have a := kg d e h e1 hg
        have b := ks e1 h
        dsimp only
        revert b
        cases s e1 h with
        | nx e2 h2 => intro b; have := k0_loop (srcs := srcs) kg ks ds e2 h2; dsimp only at b ⊢; rw [← a, ← b]; exact this
        | ct e2 h2 => intro b; have := k0_loop (srcs := srcs) kg ks ds e2 h2; dsimp only at b ⊢; rw [← a, ← b]; exact this
        | bk e2 h2 => intro b; dsimp only at b ⊢; rw [b, a]
        | rt x h2 => intro _; trivial
        | exc c fs e2 h2 => intro _; trivial
        | bad => intro _; trivial
    · rw [if_neg c]
      trivial
theorem k0_for {it : IM} {g : GM} {s : SM} (kg : K0G g) (ks : K0 s) : K0 (forS it g s) := fun e h => by
  unfold forS
  cases it e h with
  | ok I h1 => exact k0_loop kg ks I.items e h1
  | exc c fs h1 => trivial
  | bad => trivial
end
end ML
namespace ML
open PySem PySem.Spec PyProof.Rows L2
section
variable {A A' : Nat → Prop} {h h' h1 h2 h0 : MH} {pe pe1 pe2 pe' : PEnv} {e e1 e2 e' : Env}
theorem RelSl.less {A A' : Nat → Prop} {h0 h : MH} {s : Slot} {d : D} (q : RelSl A h0 h s d) (w : ∀ n, A' n → A n) : RelSl A' h0 h s d := by
  cases s with
  | no => exact q
  | val v => exact Rep.less q w
  | own v => obtain ⟨k, ek, lk, ok⟩ := q; exact ⟨k, ek, lk, ok.less fun n z => z.imp (w n) fun y => y⟩
end
section
variable {A A' : Nat → Prop} {h : MH}
theorem Reps1.free : ∀ {v : List PV} {d : List D}, Reps1 A h v d → Reps (fun _ => False) h v d
  | [], _, q => by unfold Reps1 at q; unfold Reps; exact q
  | v :: l, _, q => by
    obtain ⟨d, r, e, a, b⟩ := q
    unfold Reps
    refine ⟨d, r, e, ?_, b.free⟩
    rcases a with a | ⟨n, e2, a⟩
    · exact a.less fun _ z => z.elim
    · subst e2
      exact (a.less (A' := fun _ => False) fun _ z => z.elim).rep fun z => z
end
end ML
namespace ML
open PySem PySem.Spec PyProof.Rows L2
def othP (cs : List Str) : PV → Bool
  | .ins c _ => cs.contains c
  | _ => false
def eqIP (neg : Bool) (c : Str) (cs : List Str) (pm : PFM) (p0 : PV → PV → PR PV) : PV → PV → PR PV := fun x y => match x with
  | .ins c' _ => if c' = c ∧ othP cs y = true then (match pm [x, y] with
    | .ok (.bl b) => .ok (.bl (if neg then !b else b))
    | _ => .bad) else .bad
  | _ => p0 x y
section
variable {A A' : Nat → Prop} {h : MH} {a : EM} {pa : PX}
theorem rep1_free {v : PV} {d : D} (r : Rep1 A h v d) : Rep (fun _ => False) h v d := by
  rcases r with r | ⟨n, rfl, r⟩
  · exact r.less fun _ z => z.elim
  · exact (r.less fun _ z => z.elim).rep fun z => z
theorem insOf_sim {v : PV} {d : D} (r : Rep (fun _ => False) h v d) : insOf h d = (match v with | .ins c _ => some c | _ => none) := by
  cases v with
  | ins c fs =>
    unfold Rep at r
    obtain ⟨n, ds, rfl, _, x, _⟩ := r
    unfold insOf
    dsimp only
    rw [x]
  | lst l =>
    unfold Rep at r
    obtain ⟨n, ds, rfl, _, x, _⟩ := r
    unfold insOf
    dsimp only
    rw [x]
  | dct k l =>
    unfold Rep at r
    obtain ⟨n, o, ds, rfl, _, x, kv, _⟩ := r
    unfold insOf
    dsimp only
    rw [x]
    cases o <;> first | rfl | (unfold kvP at kv; cases kv)
  | tup l =>
    unfold Rep at r
    obtain ⟨ds, rfl, _⟩ := r
    rfl
  | _ => unfold Rep at r; subst r; rfl
theorem opP_eqI {neg : Bool} {c : Str} {cs : List Str} {m : FM} {pm : PFM} {f0 : D → D → MH → R D} {p0 : PV → PV → PR PV} (hf : FOK m pm) (h0 : Op2 f0 p0) : Op2 (eqIF neg c cs m f0) (eqIP neg c cs pm p0) := fun A h x y vx vy lo r s => by
  have ix := insOf_sim (rep1_free r)
  have iy := insOf_sim (rep1_free s)
  unfold eqIP
  split
  · rename_i c' fs
    split
    · rename_i hc
      obtain ⟨rfl, ho⟩ := hc
      unfold eqIF
      rw [ix]
      dsimp only
      rw [if_pos rfl]
      have oy : othOk cs h y = true := by
        cases vy with
        | ins c2 gs =>
          unfold othOk
          rw [iy]
          unfold othP at ho
          rw [Bool.or_eq_true]
          exact .inr ho
        | _ => cases ho
      rw [if_pos oy]
      have K := hf (fun _ => False) h [.ins c' fs, vy] [x, y] (fun _ z => z.elim) (.cons (rep1_free r) (.cons (rep1_free s) .nil))
      split
      · rename_i b hb
        rw [hb] at K
        obtain ⟨d, h', e, g, rd⟩ := K
        unfold Rep at rd
        subst rd
        rw [e]
        exact ⟨_, h', rfl, g, by unfold Rep; rfl⟩
      · trivial
    · trivial
  · rename_i hn
    have : insOf h x ≠ some c := by
      rw [ix]
      cases vx with
      | ins c2 fs2 => exact absurd rfl (hn c2 fs2)
      | _ => exact fun z => nomatch z
    unfold eqIF
    rw [if_neg this]
    exact h0 A h x y vx vy lo r s
end
end ML
namespace ML
open PySem PySem.Spec PyProof.Rows L2
def joinP : PV → List PV → PR PV := fun x xs => match x, xs with
  | .str a, [y] => (match seqOfP y with
    | some (_, l) => (match strsP l with
      | some ss => if (ss.map (·.length)).sum + ss.length * a.length ≤ 1000000 then .ok (.str (Txt.join a ss)) else .bad
      | none => .bad)
    | none => .bad)
  | _, _ => .bad
def splitP : PV → List PV → PR PV := fun x xs => match x, xs with
  | .str a, [.str b] => if (b.length == 0) = false ∧ a.length ≤ 1000000 then .ok (.lst ((Txt.split a b).map .str)) else .bad
  | _, _ => .bad
def partP : PV → List PV → PR PV := fun x xs => match x, xs with
  | .str a, [.str b] => if (b.length == 0) = false ∧ a.length ≤ 1000000 then .ok (.tup [.str (Txt.partition a b).1, .str (Txt.partition a b).2.1, .str (Txt.partition a b).2.2]) else .bad
  | _, _ => .bad
def startsP : PV → List PV → PR PV := fun x xs => match x, xs with
  | .str a, [.str b] => .ok (.bl (Txt.startswith a b))
  | _, _ => .bad
theorem opm_joinP : OpM2 joinF joinP := fun A h x xs vx vs lo r s => by
  unfold joinP
  split
  · rename_i a y
    obtain ⟨d, rfl, s1⟩ := s.one'
    obtain rfl := str_sim r
    split
    · rename_i k l hz
      split
      · rename_i ss hss
        split
        · rename_i hc
          obtain ⟨ds, e1, r2⟩ := seqOf_sim s1 hz
          unfold joinF
          dsimp only
          rw [e1]
          dsimp only
          rw [strs_sim r2 hss]
          dsimp only
          rw [if_pos hc]
          exact Sim.okk rep_str
        · trivial
      · trivial
    · trivial
  · trivial
theorem opm_splitP : OpM2 splitF splitP := fun A h x xs vx vs lo r s => by
  unfold splitP
  split
  · rename_i a b
    obtain ⟨d, rfl, s1⟩ := s.one'
    obtain rfl := str_sim r
    obtain rfl := str_sim s1
    split
    · rename_i hc
      unfold splitF
      dsimp only
      rw [if_pos hc]
      refine ⟨_, _, rfl, GV.app, ?_⟩
      unfold Rep
      exact ⟨h.length, _, rfl, fun z => Nat.lt_irrefl _ (lo _ z), by simp, reps_strs _⟩
    · trivial
  · trivial
theorem opm_partP : OpM2 partF partP := fun A h x xs vx vs lo r s => by
  unfold partP
  split
  · rename_i a b
    obtain ⟨d, rfl, s1⟩ := s.one'
    obtain rfl := str_sim r
    obtain rfl := str_sim s1
    split
    · rename_i hc
      unfold partF
      dsimp only
      rw [if_pos hc]
      refine Sim.okk ?_
      unfold Rep
      exact ⟨_, rfl, reps_strs [(Txt.partition a b).1, (Txt.partition a b).2.1, (Txt.partition a b).2.2]⟩
    · trivial
  · trivial
theorem opm_startsP : OpM2 startsF startsP := fun A h x xs vx vs lo r s => by
  unfold startsP
  split
  · rename_i a b
    obtain ⟨d, rfl, s1⟩ := s.one'
    obtain rfl := str_sim r
    obtain rfl := str_sim s1
    exact Sim.okk rep_bl
  · trivial
def fmtP : PV → PR PV
  | .str y => if y.length ≤ 1000000 then .ok (.str y) else .bad
  | _ => .bad
def jsGP : List PX → Str → PX
  | [], acc => fun _ => .ok (.str acc)
  | m :: ms, acc => fun e => (m e).bind fun x => match x with
    | .str y => if (acc ++ y).length ≤ 1000000 then jsGP ms (acc ++ y) e else .bad
    | _ => .bad
def jsP (ms : List PX) : PX := jsGP ms Str.empty
theorem op_fmtP : Op1 fmtF fmtP := fun A h x vx lo r => by
  unfold fmtP
  split
  · rename_i y
    obtain rfl := str_sim r
    split
    · rename_i hc
      unfold fmtF
      dsimp only
      rw [if_pos hc]
      exact Sim.okk rep_str
    · trivial
  · trivial
inductive JsOk : List EM → List PX → Prop
  | nil : JsOk [] []
  | cons {m : EM} {p : PX} {ms : List EM} {ps : List PX} (a : okX m p) (r : JsOk ms ps) : JsOk (m :: ms) (p :: ps)
theorem x_jsG {ms : List EM} {ps : List PX} (k : JsOk ms ps) : ∀ acc, okX (jsG ms acc) (jsGP ps acc) := by
  induction k with
  | nil => exact fun acc A pe e h s => Sim.okk rep_str
  | cons a r ih =>
    intro acc A pe e h s
    refine (a A pe e h s).bind fun vx x h1 g1 r1 => ?_
    split
    · rename_i y
      have e1 : x = .str y := by
        unfold Rep at r1
        exact r1
      subst e1
      dsimp only
      split
      · rename_i hc
        exact ih _ A pe e h1 (s.up g1)
      · trivial
    · trivial
theorem x_js {ms : List EM} {ps : List PX} (k : JsOk ms ps) : okX (jsE ms) (jsP ps) := x_jsG k _
def callVP (tab : List (Str × PFM)) (i : Nat) (as : PA) : PX := fun e => match e[i]? with
  | some (.val (.glb x)) => (match tab.lookup x with
    | some m => (as e).bind fun xs => m xs
    | none => .bad)
  | _ => .bad
theorem x_callV {t : List (Str × FM)} {pt : List (Str × PFM)} {i : Nat} {as : AM} {ps : PA} (kt : okTab t pt) (ha : okA as ps) : okX (callV t i as) (callVP pt i ps) := fun A pe e h s => by
  unfold callVP
  split
  · rename_i x hx
    split
    · rename_i pf hf
      obtain ⟨f, f1, fk⟩ := kt.look hf
      obtain ⟨d, a, b⟩ := s.val i _ hx
      unfold Rep at b
      subst b
      unfold callV
      rw [a]
      dsimp only
      rw [f1]
      dsimp only
      exact (ha A pe e h s).bind fun xs ys h2 g2 r2 => fk _ _ _ _ (fun n z => Nat.lt_of_lt_of_le (s.av z) g2.1) r2
    · trivial
  · trivial
def tryNP (b : PSM) : PSM := fun e => match b e with
  | .exc _ _ => .bad
  | r => r
theorem s_tryNP {b : SM} {pb : PSM} (k : okS b pb) : okS (tryN b) (tryNP pb) := fun A pe e h s => by
  have K := k A pe e h s
  unfold tryNP tryN
  revert K
  cases pb pe with
  | nx e1 => intro ⟨e', h', q, r, f⟩; rw [q]; exact ⟨e', h', rfl, r, f⟩
  | bk e1 => intro ⟨e', h', q, r, f⟩; rw [q]; exact ⟨e', h', rfl, r, f⟩
  | ct e1 => intro ⟨e', h', q, r, f⟩; rw [q]; exact ⟨e', h', rfl, r, f⟩
  | rt v => intro ⟨d, h', q, f, r⟩; rw [q]; exact ⟨d, h', rfl, f, r⟩
  | exc c fs => intro _; trivial
  | bad => intro _; trivial
end ML
namespace ML
open PySem PySem.Spec PyProof.Rows L2
section
variable {α β : Type} {e e1 e2 : PEnv} {x y z v w : PV} {xs ys : List PV} {a b c : PX} {as bs : PA} {t t2 : PT} {m m2 : PSM} {i j k n : Nat} {bo : Bool} {r : PR PV} {s : PS}
theorem q_var (p : e[i]? = some (.val v)) : varP i e = .ok v := by unfold varP; rw [p]
theorem q_bvar (p : e[i]? = some (.val v)) : bvarP i e = .ok v := by unfold bvarP; rw [p]
theorem q_bown (p : e[i]? = some (.own v)) : bvarP i e = .ok v := by unfold bvarP; rw [p]
theorem q_con : conP v e = .ok v := rfl
theorem q_bin {f : PV → PV → PR PV} (p : a e = .ok x) (q : b e = .ok y) (k : f x y = r) : binP f a b e = r := by unfold binP; rw [p, PR.bind_ok, q]; exact k
theorem q_un {f : PV → PR PV} (p : a e = .ok x) (k : f x = r) : unP f a e = r := by unfold unP; rw [p]; exact k
theorem q_nil : nilP e = .ok [] := rfl
theorem q_cons (p : a e = .ok x) (q : as e = .ok xs) : consP a as e = .ok (x :: xs) := by unfold consP; rw [p, PR.bind_ok, q]; rfl
theorem q_star {l : List PV} {k : Bool} (p : a e = .ok x) (h : seqOfP x = some (k, l)) (q : as e = .ok xs) : starP a as e = .ok (l ++ xs) := by unfold starP; rw [p, PR.bind_ok, h]; dsimp only; rw [q]; rfl
theorem q_on {f : List PV → PR PV} (p : as e = .ok xs) (k : f xs = r) : onP f as e = r := by unfold onP; rw [p]; exact k
theorem q_onK {f : PFM} (p : as e = .ok xs) (q : bs e = .ok ys) (h1 : xs.length = n) (h2 : ys.length = j) (k : f (xs ++ ys) = r) : onKP n j f as bs e = r := by unfold onKP; rw [p, PR.bind_ok, q, PR.bind_ok, if_pos ⟨h1, h2⟩]; exact k
theorem q_val (p : a e = .ok (.bl bo)) : valP a e = .ok bo := by unfold valP; rw [p]; rfl
theorem q_not (p : t e = .ok bo) : notTP t e = .ok (!bo) := by unfold notTP; rw [p]; rfl
theorem q_andF (p : t e = .ok false) : andTP t t2 e = .ok false := by unfold andTP; rw [p]; rfl
theorem q_andT (p : t e = .ok true) (q : t2 e = .ok bo) : andTP t t2 e = .ok bo := by unfold andTP; rw [p]; exact q
theorem q_orF (p : t e = .ok false) (q : t2 e = .ok bo) : orTP t t2 e = .ok bo := by unfold orTP; rw [p]; exact q
theorem q_andE {b2 : Bool} (p : a e = .ok (.bl bo)) (q : bo = true → b e = .ok (.bl b2)) : andEP a b e = .ok (.bl (bo && b2)) := by
  unfold andEP
  rw [p]
  cases bo with
  | true => exact q rfl
  | false => rfl
theorem q_if (p : t e = .ok bo) (q : bo = true → a e = r) (q2 : bo = false → b e = r) : ifEP t a b e = r := by
  unfold ifEP
  rw [p]
  cases bo with
  | true => exact q rfl
  | false => exact q2 rfl
theorem q_ifT (p : t e = .ok true) (q : a e = r) : ifEP t a b e = r := q_if p (fun _ => q) fun z => nomatch z
theorem q_ifF (p : t e = .ok false) (q : b e = r) : ifEP t a b e = r := q_if p (fun z => nomatch z) fun _ => q
theorem q_sl {lo hi : PO} {l u : Option Int} (p : a e = .ok x) (q : lo e = .ok l) (q2 : hi e = .ok u) (k : slP x l u = r) : slEP a lo hi e = r := by unfold slEP; rw [p, PR.bind_ok, q, PR.bind_ok, q2]; exact k
theorem q_noO : noOP e = .ok none := rfl
theorem q_someO {i : Int} (p : a e = .ok (.int i)) : someOP a e = .ok (some i) := by unfold someOP; rw [p]; rfl
theorem q_seqT (p : a e = .ok (.tup xs)) : seqItP a e = .ok xs := by unfold seqItP; rw [p]; rfl
theorem q_seqL (p : a e = .ok (.lst xs)) : seqItP a e = .ok xs := by unfold seqItP; rw [p]; rfl
theorem q_enumL (p : as e = .ok [.lst xs]) : enumP as e = .ok (enumV xs) := by unfold enumP; rw [p]; rfl
theorem r_setV (p : a e = .ok v) (q : e.set i (.val v) = e1) : setP i (slV a) e = .nx e1 := by unfold setP slV; rw [p]; show PS.nx _ = _; rw [q]
theorem r_setO (p : a e = .ok v) (q : e.set i (.own v) = e1) : setP i (slO a) e = .nx e1 := by unfold setP slO; rw [p]; show PS.nx _ = _; rw [q]
theorem r_par2 {p q : PEnv → PR Slot} {u w : Slot} (hp : p e = .ok u) (hq : q e = .ok w) (h : (e.set i u).set j w = e1) : par2P i j p q e = .nx e1 := by unfold par2P; rw [hp]; dsimp only; rw [hq]; show PS.nx _ = _; rw [h]
theorem r_slV (p : a e = .ok v) : slV a e = .ok (.val v) := by unfold slV; rw [p]; rfl
theorem r_seq (p : m e = .nx e1) (q : m2 e1 = s) : seqP m m2 e = s := by unfold seqP; rw [p]; exact q
theorem r_seqR (p : m e = .rt v) : seqP m m2 e = .rt v := by unfold seqP; rw [p]
theorem r_pass : passP e = .nx e := rfl
theorem r_ret (p : a e = .ok v) : retP a e = .rt v := by unfold retP; rw [p]
theorem r_if (p : t e = .ok bo) (q : bo = true → m e = s) (q2 : bo = false → m2 e = s) : ifP t m m2 e = s := by
  unfold ifP
  rw [p]
  cases bo with
  | true => exact q rfl
  | false => exact q2 rfl
theorem r_ifT (p : t e = .ok true) (q : m e = s) : ifP t m m2 e = s := r_if p (fun _ => q) fun z => nomatch z
theorem r_ifF (p : t e = .ok false) (q : m2 e = s) : ifP t m m2 e = s := r_if p (fun z => nomatch z) fun _ => q
theorem r_frz {is : List Nat} (p : frzE is e = e1) (q : m e1 = s) : frzS is m e = s := by unfold frzS; rw [p]; exact q
theorem r_own {sh : PV → Bool} {f : PV → PV → Option PV} (p : a e = .ok v) (q : e[i]? = some (.own w)) (h : sh w = true) (k : f w v = some z) (o : e.set i (.own z) = e1) : ownP sh i f a e = .nx e1 := by
  unfold ownP
  rw [q]
  dsimp only
  rw [if_pos h, p]
  dsimp only
  rw [k]
  show PS.nx _ = _
  rw [o]
theorem r_app {l : List PV} (p : a e = .ok v) (q : e[i]? = some (.own (.lst l))) (h : l.length < 1000000) (o : e.set i (.own (.lst (l ++ [v]))) = e1) : ownP isLstP i appendP a e = .nx e1 := r_own p q rfl (by unfold appendP; dsimp only; rw [if_pos h]) o
theorem r_asg {g : PG} (p : a e = .ok v) (q : g v e = some e1) : asgP g a e = .nx e1 := by unfold asgP; rw [p]; dsimp only; rw [q]
theorem r_for {it : PA} {g : PG} (p : it e = .ok xs) (q : loopP g m xs e = s) : forP it g m e = s := by unfold forP; rw [p]; exact q
theorem f_rt {np n : Nat} (hl : xs.length = np) (p : m (xs.map .val ++ List.replicate (n - xs.length) .no) = .rt v) : fnP np n m xs = .ok v := by unfold fnP; rw [if_pos hl, p]
end
def sl : Option PV → Slot
  | none => .no
  | some v => .val v
def enumK (k : Nat) (l : List PV) : List PV := (l.zipIdx k).map fun p => .tup [.int (p.2 : Nat), p.1]
theorem enumK_cons {k : Nat} {v : PV} {l : List PV} : enumK k (v :: l) = .tup [.int (k : Nat), v] :: enumK (k + 1) l := by
  unfold enumK
  rw [List.zipIdx_cons, List.map_cons]
end ML
namespace ML
open PySem PySem.Spec PyProof.Rows L2
mutual
def im : D → PV
  | .non => .non
  | .bl b => .bl b
  | .int i => .int i
  | .str s => .str s
  | .ty n => .ty n
  | .glb x => .glb x
  | .tup l => .tup (ims l)
  | .ref _ => .non
def ims : List D → List PV
  | [] => []
  | d :: l => im d :: ims l
end
mutual
def noRef : D → Bool
  | .ref _ => false
  | .tup l => noRefs l
  | _ => true
def noRefs : List D → Bool
  | [] => true
  | d :: l => noRef d && noRefs l
end
theorem ims_map : ∀ l : List D, ims l = l.map im
  | [] => by unfold ims; rfl
  | d :: l => by unfold ims; rw [ims_map l]; rfl
theorem noRefs_all : ∀ l : List D, noRefs l = l.all noRef
  | [] => by unfold noRefs; rfl
  | d :: l => by unfold noRefs; rw [noRefs_all l]; rfl
section
variable {A : Nat → Prop} {h : MH}
mutual
theorem rep_im : ∀ (d : D), noRef d = true → Rep A h (im d) d
  | .non, _ => by unfold im Rep; rfl
  | .bl _, _ => by unfold im Rep; rfl
  | .int _, _ => by unfold im Rep; rfl
  | .str _, _ => by unfold im Rep; rfl
  | .ty _, _ => by unfold im Rep; rfl
  | .glb _, _ => by unfold im Rep; rfl
  | .tup l, q => by
    unfold noRef at q
    unfold im Rep
    exact ⟨l, rfl, reps_im l q⟩
  | .ref _, q => by unfold noRef at q; cases q
theorem reps_im : ∀ (l : List D), noRefs l = true → Reps A h (ims l) l
  | [], _ => by unfold ims; exact .nil
  | d :: l, q => by
    unfold noRefs at q
    rw [Bool.and_eq_true] at q
    unfold ims
    exact .cons (rep_im d q.1) (reps_im l q.2)
end
theorem reps_imm {l : List D} (q : ∀ d ∈ l, noRef d = true) : Reps A h (l.map im) l := by
  rw [← ims_map]
  exact reps_im l (by rw [noRefs_all, List.all_eq_true]; exact q)
mutual
/-- what stands for a flat value is that value -/
theorem rep_back : ∀ (d : D) {x : D}, noRef d = true → Rep A h (im d) x → x = d
  | .non, _, _, r => by unfold im Rep at r; exact r
  | .bl _, _, _, r => by unfold im Rep at r; exact r
  | .int _, _, _, r => by unfold im Rep at r; exact r
  | .str _, _, _, r => by unfold im Rep at r; exact r
  | .ty _, _, _, r => by unfold im Rep at r; exact r
  | .glb _, _, _, r => by unfold im Rep at r; exact r
  | .tup l, _, q, r => by
    unfold noRef at q
    unfold im Rep at r
    obtain ⟨ds, rfl, r⟩ := r
    rw [reps_back l q r]
  | .ref _, _, q, _ => by unfold noRef at q; cases q
theorem reps_back : ∀ (l : List D) {xs : List D}, noRefs l = true → Reps A h (ims l) xs → xs = l
  | [], _, _, r => by unfold ims at r; exact r.invNil
  | d :: l, _, q, r => by
    unfold noRefs at q
    rw [Bool.and_eq_true] at q
    unfold ims at r
    obtain ⟨y, ys, rfl, r1, r2⟩ := r.inv
    rw [rep_back d q.1 r1, reps_back l q.2 r2]
end
end
theorem eqP_sc {x y : PV} (a : isScalP x = true) (b : isScalP y = true) : eqP x y = .ok (.bl (scalEqP x y)) := by
  unfold eqP eqTP eqTopP
  rw [a, b]
theorem eqP_str {a b : Str} : eqP (.str a) (.str b) = .ok (.bl (decide (a = b))) := by
  rw [eqP_sc rfl rfl]
  have : scalEqP (.str a) (.str b) = decide (a = b) := by
    show (a == b) = _
    by_cases c : a = b
    · subst c; simp
    · rw [decide_eq_false c]; exact beq_eq_false_iff_ne.mpr c
  rw [this]
theorem eqP_int {a b : Int} : eqP (.int a) (.int b) = .ok (.bl (decide (a = b))) := by
  rw [eqP_sc rfl rfl]
  have : scalEqP (.int a) (.int b) = decide (a = b) := by
    show (a == b) = _
    by_cases c : a = b
    · subst c; simp
    · rw [decide_eq_false c]; exact beq_eq_false_iff_ne.mpr c
  rw [this]
theorem neP_str {a b : Str} : neP (.str a) (.str b) = .ok (.bl (!decide (a = b))) := by
  have := @eqP_str a b
  unfold eqP at this
  unfold neP
  revert this
  cases eqTP (.str a) (.str b) with
  | none => intro z; cases z
  | some k => intro z; cases z; rfl
theorem atI_nat {α : Type} {l : List α} {i : Nat} {d : α} (h : l[i]? = some d) : atI l (i : Nat) = some d := by
  unfold atI
  have hl := (List.getElem?_eq_some_iff.mp h).1
  rw [show ixN l.length ((i : Nat) : Int) = some i by unfold ixN; rw [if_pos (by omega), if_pos (by omega), Int.toNat_natCast]]
  exact h
theorem ixP_lst {l : List PV} {i : Nat} {d : PV} (h : l[i]? = some d) : ixP (.lst l) (.int (i : Nat)) = .ok d := by
  show (match atI l (i : Nat) with | some d => PR.ok d | none => .bad) = _
  rw [atI_nat h]
theorem ixP_tup {l : List PV} {i : Nat} {d : PV} (h : l[i]? = some d) : ixP (.tup l) (.int (i : Nat)) = .ok d := by
  show (match atI l (i : Nat) with | some d => PR.ok d | none => .bad) = _
  rw [atI_nat h]
theorem atI_neg {α : Type} {l : List α} {i : Nat} {d : α} (hi : 0 < i) (hl : i ≤ l.length) (h : l[l.length - i]? = some d) : atI l (-(i : Nat)) = some d := by
  unfold atI
  rw [show ixN l.length (-((i : Nat) : Int)) = some (l.length - i) by unfold ixN; rw [if_neg (by omega), if_pos (by omega)]; congr 1; omega]
  exact h
theorem lenP_lst {l : List PV} : lenP [.lst l] = .ok (.int l.length) := rfl
theorem lenP_tup {l : List PV} : lenP [.tup l] = .ok (.int l.length) := rfl
theorem tupP_le {l : List PV} (h : l.length ≤ 1000000) : tupP l = .ok (.tup l) := by unfold tupP; rw [if_pos h]
theorem lstP_le {l : List PV} (h : l.length ≤ 1000000) : lstP l = .ok (.lst l) := by unfold lstP; rw [if_pos h]
theorem addP_lst {l m : List PV} (h : l.length + m.length ≤ 1000000) : addP (.lst l) (.lst m) = .ok (.lst (l ++ m)) := by unfold addP; dsimp only; rw [if_pos h]
end ML
namespace ML
open PySem PySem.Spec PyProof.Rows L2
abbrev N_is_name : List Str := ["value", "letter"]
def b_is_name : SM := retS (andE (onA (isiF "str") (consA (varE 0) (consA (conE (.ty "str")) nilA))) (andE (chainE leF leF (conE (.int 1)) (onA lenF (consA (varE 0) (nilA))) (conE (.int 8))) (onA allF (consA (lcE [1] (seqI (varE 0)) (gnm 1) (yesT) (bin inF (varE 1) (conE (.str "abcdefghijklmnopqrstuvwxyz")))) (nilA)))))
def m_is_name : FM := fnM 1 2 b_is_name
abbrev N_need_registers : List Str := ["value", "name"]
def b_need_registers : SM := seqS (ifS (orT (notT (valT (un (isiT ["list", "tuple"]) (varE 0)))) (valT (bin gtF (onA lenF (consA (varE 0) (nilA))) (conE (.int 3))))) (raiseS "BadRegisters" "value" (consA (varE 0) (nilA))) (passS)) (ifS (orT (notT (valT (onA allF (consA (lcE [1] (seqI (varE 0)) (gnm 1) (yesT) (andE (onA m_is_name (consA (varE 1) (nilA))) (bin ninF (varE 1) (conE (strsD ["here", "new", "nothing", "is", "not", "from", "or", "ask", "do", "otherwise"]))))) (nilA))))) (valT (bin neF (un lensetF (varE 0)) (onA lenF (consA (varE 0) (nilA)))))) (raiseS "BadRegisters" "value" (consA (varE 0) (nilA))) (passS))
def m_need_registers : FM := fnM 1 2 b_need_registers
abbrev N_is_one_of : List Str := ["value", "words"]
def b_is_one_of : SM := retS (andE (onA (isiF "str") (consA (varE 0) (consA (conE (.ty "str")) nilA))) (bin inF (varE 0) (varE 1)))
def m_is_one_of : FM := fnM 2 2 b_is_one_of
abbrev N_is_test : List Str := ["value", "names"]
def b_is_test : SM := seqS (ifS (orT (notT (valT (onA (isiF "tuple") (consA (varE 0) (consA (conE (.ty "tuple")) nilA))))) (orT (valT (bin neF (onA lenF (consA (varE 0) (nilA))) (conE (.int 3)))) (notT (valT (onA (isiF "bool") (consA (bin ixF (varE 0) (conE (.int 2))) (consA (conE (.ty "bool")) nilA))))))) (retS (conE (.bl false))) (passS)) (retS (andE (onA m_is_one_of (consA (bin ixF (varE 0) (conE (.int 0))) (consA (onA tupF (consA (conE (.str "here")) (consA (conE (.str "new")) (starA (varE 1) (nilA))))) (nilA)))) (onA m_is_one_of (consA (bin ixF (varE 0) (conE (.int 1))) (consA (onA tupF (consA (conE (.str "here")) (consA (conE (.str "new")) (consA (conE (.str "nothing")) (starA (varE 1) (nilA)))))) (nilA))))))
def m_is_test : FM := fnM 2 2 b_is_test
abbrev N_is_step : List Str := ["value", "names"]
def b_is_step : SM := seqS (ifS (orT (notT (valT (onA (isiF "tuple") (consA (varE 0) (consA (conE (.ty "tuple")) nilA))))) (valT (bin neF (onA lenF (consA (varE 0) (nilA))) (conE (.int 2))))) (retS (conE (.bl false))) (passS)) (retS (andE (onA m_is_one_of (consA (bin ixF (varE 0) (conE (.int 0))) (consA (onA tupF (consA (conE (.str "here")) (starA (varE 1) (nilA)))) (nilA)))) (onA m_is_one_of (consA (bin ixF (varE 0) (conE (.int 1))) (consA (onA tupF (consA (conE (.str "here")) (consA (conE (.str "new")) (consA (conE (.str "nothing")) (starA (varE 1) (nilA)))))) (nilA))))))
def m_is_step : FM := fnM 2 2 b_is_step
abbrev N_are_steps : List Str := ["value", "names", "step"]
def b_are_steps : SM := retS (andE (onA (isiF "tuple") (consA (varE 0) (consA (conE (.ty "tuple")) nilA))) (andE (bin leF (onA lenF (consA (varE 0) (nilA))) (conE (.int 4))) (onA allF (consA (lcE [2] (seqI (varE 0)) (gnm 2) (yesT) (onA m_is_step (consA (varE 2) (consA (varE 1) (nilA))))) (nilA)))))
def m_are_steps : FM := fnM 2 3 b_are_steps
abbrev N_is_line : List Str := ["value", "names", "tests", "steps", "test"]
def b_is_line : SM := seqS (ifS (orT (notT (valT (onA (isiF "tuple") (consA (varE 0) (consA (conE (.ty "tuple")) nilA))))) (valT (bin ninF (onA lenF (consA (varE 0) (nilA))) (onA tupF (consA (conE (.int 2)) (consA (conE (.int 3)) (nilA))))))) (retS (conE (.bl false))) (passS)) (seqS (setS 2 (bin ixF (varE 0) (conE (.int 0)))) (seqS (ifS (orT (notT (valT (onA (isiF "tuple") (consA (varE 2) (consA (conE (.ty "tuple")) nilA))))) (orT (valT (bin gtF (onA lenF (consA (varE 2) (nilA))) (conE (.int 4)))) (notT (valT (onA allF (consA (lcE [4] (seqI (varE 2)) (gnm 4) (yesT) (onA m_is_test (consA (varE 4) (consA (varE 1) (nilA))))) (nilA))))))) (retS (conE (.bl false))) (passS)) (retS (onA allF (consA (lcE [3] (seqI (slE (varE 0) (someO (conE (.int 1))) (noO))) (gnm 3) (yesT) (onA m_are_steps (consA (varE 3) (consA (varE 1) (nilA))))) (nilA))))))
def m_is_line : FM := fnM 2 5 b_is_line
abbrev N_Rule_init : List Str := ["self", "registers", "lines", "position", "line"]
def b_Rule_init : SM := seqS (expS (onA m_need_registers (consA (varE 1) (nilA)))) (seqS (ifS (orT (notT (valT (un (isiT ["list", "tuple"]) (varE 2)))) (notT (valT (chainE leF leF (conE (.int 1)) (onA lenF (consA (varE 2) (nilA))) (conE (.int 8)))))) (raiseS "BadLines" "value" (consA (varE 2) (nilA))) (passS)) (seqS (forS (enumI2 (consA (varE 2) (nilA))) (gtp [gnm 3, gnm 4]) (ifS (orT (notT (valT (onA m_is_line (consA (varE 4) (consA (varE 1) (nilA)))))) (andT (valT (bin eqF (varE 3) (bin subF (onA lenF (consA (varE 2) (nilA))) (conE (.int 1))))) (valT (bin neF (bin ixF (varE 4) (conE (.int 0))) (onA tupF (nilA)))))) (raiseS "BadLine" "position" (consA (varE 3) (nilA))) (passS))) (seqS (stFld ["Rule"] "own_names" (varE 0) (onA tupleF (consA (varE 1) (nilA)))) (stFld ["Rule"] "rows" (varE 0) (onA tupleF (consA (varE 2) (nilA)))))))
def m_Rule_init : FM := fnM 3 5 b_Rule_init
abbrev N_Rule_registers : List Str := ["self"]
def b_Rule_registers : SM := retS (un (fldF ["Rule"] [] "own_names") (varE 0))
def m_Rule_registers : FM := fnM 1 1 b_Rule_registers
abbrev N_Rule_lines : List Str := ["self"]
def b_Rule_lines : SM := retS (un (fldF ["Rule"] [] "rows") (varE 0))
def m_Rule_lines : FM := fnM 1 1 b_Rule_lines
abbrev N_Rule_eq : List Str := ["self", "other"]
def b_Rule_eq : SM := retS (andE (un (isxF noKinds (tabOf ["Rule"] fun n => decide (n = "Rule")) []) (varE 1)) (andE (bin eqF (un (fldF ["Rule"] [] "own_names") (varE 0)) (un (fldF ["Rule"] [] "own_names") (varE 1))) (bin eqF (un (fldF ["Rule"] [] "rows") (varE 0)) (un (fldF ["Rule"] [] "rows") (varE 1)))))
def m_Rule_eq : FM := fnM 2 2 b_Rule_eq
abbrev N_test_text : List Str := ["test", "one", "other", "same"]
def b_test_text : SM := seqS (asgS (gtp [gnm 1, gnm 2, gnm 3]) (varE 0)) (retS (ifE (valT (varE 3)) (jsE [(un fmtF (varE 1)), (conE (.str " is ")), (un fmtF (varE 2))]) (jsE [(un fmtF (varE 1)), (conE (.str " is not ")), (un fmtF (varE 2))])))
def m_test_text : FM := fnM 1 4 b_test_text
abbrev N_steps_text : List Str := ["steps", "target", "source"]
def b_steps_text : SM := retS (ifE (valT (bin neF (varE 0) (onA tupF (nilA)))) (bmE "str" joinF (conE (.str ", ")) (consA (lcE [1, 2] (seqI (varE 0)) (gtp [gnm 1, gnm 2]) (yesT) (jsE [(un fmtF (varE 1)), (conE (.str " from ")), (un fmtF (varE 2))])) (nilA))) (conE (.str "do nothing")))
def m_steps_text : FM := fnM 1 3 b_steps_text
abbrev N_line_text : List Str := ["line", "head", "test"]
def b_line_text : SM := seqS (setS 1 (ifE (valT (bin neF (bin ixF (varE 0) (conE (.int 0))) (onA tupF (nilA)))) (bmE "str" joinF (conE (.str ", ")) (consA (lcE [2] (seqI (bin ixF (varE 0) (conE (.int 0)))) (gnm 2) (yesT) (onA m_test_text (consA (varE 2) (nilA)))) (nilA))) (conE (.str "otherwise")))) (seqS (ifS (valT (bin eqF (onA lenF (consA (varE 0) (nilA))) (conE (.int 2)))) (retS (jsE [(un fmtF (varE 1)), (conE (.str ": ")), (un fmtF (onA m_steps_text (consA (bin ixF (varE 0) (conE (.int 1))) (nilA))))])) (passS)) (retS (jsE [(un fmtF (varE 1)), (conE (.str ": ask ")), (un fmtF (onA m_steps_text (consA (bin ixF (varE 0) (conE (.int 1))) (nilA)))), (conE (.str " or ")), (un fmtF (onA m_steps_text (consA (bin ixF (varE 0) (conE (.int 2))) (nilA))))])))
def m_line_text : FM := fnM 1 3 b_line_text
abbrev N_rule_text : List Str := ["rule", "line"]
def b_rule_text : SM := retS (bmE "str" joinF (conE (.str "\n")) (consA (onA lstF (consA (bmE "str" joinF (conE (.str " ")) (consA (onA lstF (consA (conE (.str "registers")) (starA (un (propF [("Rule", m_Rule_registers)]) (varE 0)) (nilA)))) (nilA))) (starA (lcE [1] (seqI (un (propF [("Rule", m_Rule_lines)]) (varE 0))) (gnm 1) (yesT) (onA m_line_text (consA (varE 1) (nilA)))) (nilA)))) (nilA)))
def m_rule_text : FM := fnM 1 2 b_rule_text
abbrev N_read_test : List Str := ["text", "words"]
def b_read_test : SM := seqS (setS 1 (bmE "str" splitF (varE 0) (consA (conE (.str " ")) (nilA)))) (seqS (ifS (andT (valT (bin eqF (onA lenF (consA (varE 1) (nilA))) (conE (.int 3)))) (valT (bin eqF (bin ixF (varE 1) (conE (.int 1))) (conE (.str "is"))))) (retS (onA tupF (consA (bin ixF (varE 1) (conE (.int 0))) (consA (bin ixF (varE 1) (conE (.int 2))) (consA (conE (.bl true)) (nilA)))))) (passS)) (retS (ifE (andT (valT (bin eqF (onA lenF (consA (varE 1) (nilA))) (conE (.int 4)))) (valT (bin eqF (slE (varE 1) (someO (conE (.int 1))) (someO (conE (.int 3)))) (onA lstF (consA (conE (.str "is")) (consA (conE (.str "not")) (nilA))))))) (onA tupF (consA (bin ixF (varE 1) (conE (.int 0))) (consA (bin ixF (varE 1) (conE (.int 3))) (consA (conE (.bl false)) (nilA))))) (conE .non))))
def m_read_test : FM := fnM 1 2 b_read_test
abbrev N_read_step : List Str := ["text", "words"]
def b_read_step : SM := seqS (setS 1 (bmE "str" splitF (varE 0) (consA (conE (.str " ")) (nilA)))) (retS (ifE (andT (valT (bin eqF (onA lenF (consA (varE 1) (nilA))) (conE (.int 3)))) (valT (bin eqF (bin ixF (varE 1) (conE (.int 1))) (conE (.str "from"))))) (onA tupF (consA (bin ixF (varE 1) (conE (.int 0))) (consA (bin ixF (varE 1) (conE (.int 2))) (nilA)))) (conE .non)))
def m_read_step : FM := fnM 1 2 b_read_step
abbrev N_read_parts : List Str := ["text", "read", "found", "part"]
def b_read_parts : SM := seqS (setS 2 (onA tupleF (consA (lcE [3] (seqI (bmE "str" splitF (varE 0) (consA (conE (.str ", ")) (nilA)))) (gnm 3) (yesT) (callV [("read_test", m_read_test), ("read_step", m_read_step)] 1 (consA (varE 3) (nilA)))) (nilA)))) (retS (ifE (valT (bin inF (conE .non) (varE 2))) (conE .non) (varE 2)))
def m_read_parts : FM := fnM 2 4 b_read_parts
abbrev N_read_steps : List Str := ["text"]
def b_read_steps : SM := retS (ifE (valT (bin eqF (varE 0) (conE (.str "do nothing")))) (onA tupF (nilA)) (onA m_read_parts (consA (varE 0) (consA (conE (.glb "read_step")) (nilA)))))
def m_read_steps : FM := fnM 1 1 b_read_steps
abbrev N_read_line : List Str := ["text", "tests", "parts", "steps", "is_right", "head", "space", "rest", "part"]
def b_read_line : SM := seqS (asgS (gtp2 [gnm 5, gnm 6, gnm 7]) (bmE "str" partF (varE 0) (consA (conE (.str ": ")) (nilA)))) (seqS (setS 1 (ifE (valT (bin eqF (varE 5) (conE (.str "otherwise")))) (onA tupF (nilA)) (onA m_read_parts (consA (varE 5) (consA (conE (.glb "read_test")) (nilA)))))) (seqS (setS 2 (ifE (valT (bmE "str" startsF (varE 7) (consA (conE (.str "ask ")) (nilA)))) (bmE "str" splitF (slE (varE 7) (someO (conE (.int 4))) (noO)) (consA (conE (.str " or ")) (nilA))) (onA lstF (consA (varE 7) (nilA))))) (seqS (setS 3 (lcE [8] (seqI (varE 2)) (gnm 8) (yesT) (onA m_read_steps (consA (varE 8) (nilA))))) (seqS (setS 4 (ifE (valT (bmE "str" startsF (varE 7) (consA (conE (.str "ask ")) (nilA)))) (bin eqF (onA lenF (consA (varE 2) (nilA))) (conE (.int 2))) (conE (.bl true)))) (seqS (ifS (orT (valT (bin eqF (varE 6) (conE (.str "")))) (orT (valT (bin isNF (varE 1) (conE .non))) (orT (valT (bin inF (conE .non) (varE 3))) (notT (valT (varE 4)))))) (retS (conE .non)) (passS)) (retS (onA tupF (consA (varE 1) (starA (varE 3) (nilA))))))))))
def m_read_line : FM := fnM 1 9 b_read_line
abbrev N_rule_of : List Str := ["registers", "lines", "last"]
def b_rule_of : SM := seqS (setS 2 (ifE (andT (valT (bin neF (varE 1) (onA lstF (nilA)))) (valT (bin eqF (bin ixF (bin ixF (varE 1) (un negF (conE (.int 1)))) (conE (.int 0))) (onA tupF (nilA))))) (onA lstF (nilA)) (onA lstF (consA (onA tupF (consA (onA tupF (nilA)) (consA (onA tupF (nilA)) (nilA)))) (nilA))))) (tryN (retS (onA (makeX "Rule" m_Rule_init) (consA (varE 0) (consA (slE (onA lstF (starA (varE 1) (starA (varE 2) (nilA)))) (noO) (someO (bin addF (conE (.int 8)) (conE (.int 1))))) (nilA))))))
def m_rule_of : FM := fnM 2 3 b_rule_of
abbrev N_read_rule : List Str := ["text", "rows", "registers", "lines", "at", "row", "line"]
def b_read_rule : SM := seqS (ifS (notT (valT (onA (isiF "str") (consA (varE 0) (consA (conE (.ty "str")) nilA))))) (raiseS "BadText" "line" (consA (conE (.int 1)) (nilA))) (passS)) (seqS (setS 1 (bmE "str" splitF (varE 0) (consA (conE (.str "\n")) (nilA)))) (seqS (setS 2 (bmE "str" splitF (bin ixF (varE 1) (conE (.int 0))) (consA (conE (.str " ")) (nilA)))) (seqS (ifS (orT (valT (bin neF (bin ixF (varE 2) (conE (.int 0))) (conE (.str "registers")))) (valT (bin isNF (onA m_rule_of (consA (slE (varE 2) (someO (conE (.int 1))) (noO)) (consA (onA lstF (nilA)) (nilA)))) (conE .non)))) (raiseS "BadText" "line" (consA (conE (.int 1)) (nilA))) (passS)) (seqS (setS 3 (onA lstF (nilA))) (seqS (forS (enumI2 (consA (slE (varE 1) (someO (conE (.int 1))) (noO)) (nilA))) (gtp [gnm 4, gnm 5]) (seqS (setS 6 (onA m_read_line (consA (varE 5) (nilA)))) (seqS (ifS (orT (valT (bin isNF (varE 6) (conE .non))) (orT (valT (bin geF (varE 4) (conE (.int 8)))) (orT (valT (bin isNF (onA m_rule_of (consA (slE (varE 2) (someO (conE (.int 1))) (noO)) (consA (onA lstF (consA (varE 6) (nilA))) (nilA)))) (conE .non))) (valT (bin neF (onA m_line_text (consA (varE 6) (nilA))) (varE 5)))))) (raiseS "BadText" "line" (consA (bin addF (varE 4) (conE (.int 2))) (nilA))) (passS)) (seqS (ifS (andT (valT (bin eqF (varE 4) (bin subF (conE (.int 8)) (conE (.int 1))))) (valT (bin neF (bin ixF (varE 6) (conE (.int 0))) (onA tupF (nilA))))) (raiseS "BadText" "line" (consA (bin addF (varE 4) (conE (.int 2))) (nilA))) (passS)) (expS (bmE "list" appF (varE 3) (consA (varE 6) (nilA)))))))) (seqS (ifS (orT (valT (bin eqF (varE 3) (onA lstF (nilA)))) (valT (bin neF (bin ixF (bin ixF (varE 3) (un negF (conE (.int 1)))) (conE (.int 0))) (onA tupF (nilA))))) (raiseS "BadText" "line" (consA (bin addF (onA lenF (consA (varE 1) (nilA))) (conE (.int 1))) (nilA))) (passS)) (retS (onA (makeX "Rule" m_Rule_init) (consA (slE (varE 2) (someO (conE (.int 1))) (noO)) (consA (varE 3) (nilA)))))))))))
def m_read_rule : FM := fnM 1 7 b_read_rule
abbrev N_law_source : List Str := ["script", "start", "mixed", "cell", "rest"]
def b_law_source : SM := seqS (setS 2 (bin addF (conE (.int 43)) (varE 1))) (seqS (forS (seqI (varE 0)) (gnm 3) (setS 2 (bin addF (bin modF (onA intF (consA (bin powF (onA intF (consA (bin addF (bin mulF (varE 2) (conE (.int 50021))) (onA intF (consA (varE 3) (nilA)))) (nilA))) (conE (.int 3))) (nilA))) (conE (.int 2147483563))) (conE (.int 1))))) (seqS (setS 4 (conE (.int 0))) (seqS (ifS (andT (valT (bin ltF (varE 1) (onA lenF (consA (varE 0) (nilA))))) (valT (bin geF (bin ixF (varE 0) (varE 1)) (bin powF (conE (.int 10)) (conE (.int 18)))))) (setS 4 (bin subF (bin ixF (varE 0) (varE 1)) (bin powF (conE (.int 10)) (conE (.int 18))))) (passS)) (retS (onA lstF (consA (varE 4) (consA (varE 2) (nilA))))))))
def m_law_source : FM := fnM 2 5 b_law_source
abbrev N_law_draw : List Str := ["source", "span", "found"]
def b_law_draw : SM := seqS (ifS (valT (bin geF (bin ixF (varE 0) (conE (.int 0))) (varE 1))) (seqS (setS 2 (bin modF (onA intF (consA (bin ixF (varE 0) (conE (.int 0))) (nilA))) (varE 1))) (seqS (setX (varE 0) (conE (.int 0)) (bin fdivF (bin ixF (varE 0) (conE (.int 0))) (varE 1))) (retS (varE 2)))) (passS)) (seqS (setX (varE 0) (conE (.int 1)) (bin modF (onA intF (consA (bin addF (bin mulF (bin ixF (varE 0) (conE (.int 1))) (conE (.int 69621))) (conE (.int 3571))) (nilA))) (conE (.int 2147483647)))) (retS (bin modF (onA intF (consA (bin fdivF (bin modF (onA intF (consA (bin powF (onA intF (consA (bin ixF (varE 0) (conE (.int 1))) (nilA))) (conE (.int 5))) (nilA))) (conE (.int 1000000007))) (conE (.int 13))) (nilA))) (varE 1))))
def m_law_draw : FM := fnM 2 3 b_law_draw
abbrev N_law_pick : List Str := ["source", "things"]
def b_law_pick : SM := retS (bin ixF (varE 1) (onA m_law_draw (consA (varE 0) (consA (onA lenF (consA (varE 1) (nilA))) (nilA)))))
def m_law_pick : FM := fnM 2 2 b_law_pick
abbrev N_law_mixed : List Str := ["source", "things", "lot", "found"]
def b_law_mixed : SM := seqS (parS [2, 3] (consA (onA listF (consA (varE 1) (nilA))) (consA (onA lstF (nilA)) (nilA)))) (seqS (whileS (valT (bin neF (varE 2) (onA lstF (nilA)))) (expS (bmE "list" appF (varE 3) (consA (bmE "list" popF (varE 2) (consA (onA m_law_draw (consA (varE 0) (consA (onA lenF (consA (varE 2) (nilA))) (nilA)))) (nilA))) (nilA)))) 100) (retS (varE 3)))
def m_law_mixed : FM := fnM 2 4 b_law_mixed
abbrev N_law_steps : List Str := ["source", "lot", "most", "found", "turn", "target"]
def b_law_steps : SM := seqS (setS 3 (onA lstF (nilA))) (seqS (forS (rng1I (consA (onA m_law_draw (consA (varE 0) (consA (bin addF (varE 2) (conE (.int 1))) (nilA)))) (nilA))) (gnm 4) (seqS (setS 5 (onA m_law_pick (consA (varE 0) (consA (bin addF (onA lstF (consA (conE (.str "here")) (nilA))) (onA listF (consA (varE 1) (nilA)))) (nilA))))) (expS (bmE "list" appF (varE 3) (consA (onA tupF (consA (varE 5) (consA (onA m_law_pick (consA (varE 0) (consA (bin addF (onA lstF (consA (conE (.str "new")) (consA (conE (.str "new")) (consA (conE (.str "here")) (consA (conE (.str "nothing")) (nilA)))))) (onA listF (consA (varE 1) (nilA)))) (nilA)))) (nilA)))) (nilA)))))) (retS (onA tupleF (consA (varE 3) (nilA)))))
def m_law_steps : FM := fnM 3 6 b_law_steps
abbrev N_law_tests : List Str := ["source", "lot", "most", "turn", "kind", "found", "one", "other"]
def b_law_tests : SM := seqS (parS [4, 5] (consA (onA m_law_draw (consA (varE 0) (consA (conE (.int 9)) (nilA)))) (consA (onA lstF (nilA)) (nilA)))) (seqS (forS (rng1I (consA (ifE (valT (bin gtF (varE 4) (conE (.int 0)))) (bin addF (conE (.int 1)) (onA m_law_draw (consA (varE 0) (consA (varE 2) (nilA))))) (conE (.int 0))) (nilA))) (gnm 3) (seqS (setS 6 (onA m_law_pick (consA (varE 0) (consA (bin addF (onA lstF (consA (conE (.str "here")) (consA (conE (.str "here")) (consA (conE (.str "new")) (nilA))))) (onA listF (consA (varE 1) (nilA)))) (nilA))))) (seqS (setS 7 (onA m_law_pick (consA (varE 0) (consA (bin addF (onA lstF (consA (conE (.str "new")) (consA (conE (.str "here")) (consA (conE (.str "nothing")) (nilA))))) (onA listF (consA (varE 1) (nilA)))) (nilA))))) (expS (bmE "list" appF (varE 5) (consA (onA tupF (consA (varE 6) (consA (varE 7) (consA (bin gtF (onA m_law_draw (consA (varE 0) (consA (conE (.int 3)) (nilA)))) (conE (.int 0))) (nilA))))) (nilA))))))) (retS (ifE (valT (bin eqF (varE 4) (conE (.int 1)))) (onA tupleF (consA (bin addF (bin mulF (onA lstF (consA (onA tupF (consA (conE (.str "here")) (consA (conE (.str "here")) (consA (conE (.bl true)) (nilA))))) (nilA))) (bin subF (conE (.int 4)) (onA lenF (consA (varE 5) (nilA))))) (varE 5)) (nilA))) (onA tupleF (consA (varE 5) (nilA))))))
def m_law_tests : FM := fnM 3 8 b_law_tests
abbrev N_law_good : List Str := ["source", "note", "lines", "kind"]
def b_law_good : SM := seqS (setS 2 (onA lstF (consA (onA tupF (consA (onA tupF (consA (onA tupF (consA (conE (.str "here")) (consA (varE 1) (consA (conE (.bl true)) (nilA))))) (nilA))) (consA (onA tupF (consA (onA tupF (consA (conE (.str "here")) (consA (conE (.str "new")) (nilA)))) (consA (onA tupF (consA (varE 1) (consA (conE (.str "new")) (nilA)))) (nilA)))) (nilA)))) (consA (onA tupF (consA (onA tupF (consA (onA tupF (consA (conE (.str "here")) (consA (conE (.str "new")) (consA (conE (.bl true)) (nilA))))) (nilA))) (consA (onA tupF (consA (onA tupF (consA (varE 1) (consA (conE (.str "new")) (nilA)))) (nilA))) (nilA)))) (nilA))))) (seqS (expS (bmE "list" appF (varE 2) (consA (onA tupF (consA (onA tupF (consA (onA tupF (consA (conE (.str "new")) (consA (varE 1) (consA (conE (.bl true)) (nilA))))) (nilA))) (consA (onA tupF (nilA)) (nilA)))) (nilA)))) (seqS (setS 3 (onA m_law_draw (consA (varE 0) (consA (conE (.int 5)) (nilA))))) (seqS (ifS (valT (bin eqF (varE 3) (conE (.int 0)))) (expS (bmE "list" popF (varE 2) (consA (onA m_law_draw (consA (varE 0) (consA (conE (.int 3)) (nilA)))) (nilA)))) (passS)) (seqS (ifS (valT (bin eqF (varE 3) (conE (.int 1)))) (setS 2 (onA m_law_mixed (consA (varE 0) (consA (varE 2) (nilA))))) (passS)) (seqS (ifS (valT (bin eqF (varE 3) (conE (.int 2)))) (setX (varE 2) (conE (.int 0)) (onA tupF (consA (bin ixF (bin ixF (varE 2) (conE (.int 0))) (conE (.int 0))) (consA (revE (bin ixF (bin ixF (varE 2) (conE (.int 0))) (conE (.int 1)))) (nilA))))) (passS)) (retS (varE 2)))))))
def m_law_good : FM := fnM 2 4 b_law_good
abbrev N_law_noted_as : List Str := ["word", "names", "lines", "found", "line", "lists", "part", "name", "entry", "one"]
def b_law_noted_as : SM := seqS (setS 3 (onA lstF (nilA))) (seqS (forS (seqI (varE 2)) (gnm 4) (seqS (setS 5 (lcE [6] (seqI (varE 4)) (gnm 6) (yesT) (onA tupleF (consA (lcE [8] (seqI (varE 6)) (gnm 8) (yesT) (onA tupleF (consA (lcE [9] (seqI (varE 8)) (gnm 9) (yesT) (ifE (valT (bin eqF (varE 9) (conE (.str "was")))) (varE 0) (varE 9))) (nilA)))) (nilA))))) (expS (bmE "list" appF (varE 3) (consA (onA tupleF (consA (varE 5) (nilA))) (nilA)))))) (retS (onA tupF (consA (onA tupleF (consA (lcE [7] (seqI (varE 1)) (gnm 7) (yesT) (ifE (valT (bin eqF (varE 7) (conE (.str "was")))) (varE 0) (varE 7))) (nilA))) (consA (onA tupleF (consA (varE 3) (nilA))) (nilA))))))
def m_law_noted_as : FM := fnM 3 10 b_law_noted_as
abbrev N_law_plan : List Str := ["source", "some", "names", "lines", "turn", "ends", "word", "line"]
def b_law_plan : SM := seqS (setS 1 (onA lstF (consA (onA tupF (nilA)) (consA (onA tupF (consA (conE (.str "was")) (nilA))) (consA (onA tupF (consA (conE (.str "was")) (nilA))) (consA (onA tupF (consA (conE (.str "beside")) (nilA))) (consA (onA tupF (consA (conE (.str "was")) (consA (conE (.str "due")) (nilA)))) (consA (onA tupF (consA (conE (.str "beside")) (consA (conE (.str "was")) (nilA)))) (consA (onA tupF (consA (conE (.str "elder")) (consA (conE (.str "was")) (nilA)))) (consA (onA tupF (consA (conE (.str "was")) (consA (conE (.str "elder")) (nilA)))) (nilA))))))))))) (seqS (setS 2 (onA m_law_pick (consA (varE 0) (consA (bin addF (varE 1) (onA lstF (consA (onA tupF (consA (conE (.str "beside")) (consA (conE (.str "elder")) (nilA)))) (consA (onA tupF (consA (conE (.str "due")) (consA (conE (.str "beside")) (consA (conE (.str "was")) (nilA))))) (consA (onA tupF (consA (conE (.str "elder")) (consA (conE (.str "beside")) (consA (conE (.str "was")) (nilA))))) (nilA)))))) (nilA))))) (seqS (setS 3 (onA lstF (nilA))) (seqS (ifS (andT (valT (bin inF (conE (.str "was")) (varE 2))) (valT (bin gtF (onA m_law_draw (consA (varE 0) (consA (conE (.int 3)) (nilA)))) (conE (.int 0))))) (setS 3 (onA m_law_good (consA (varE 0) (consA (conE (.str "was")) (nilA))))) (passS)) (seqS (forS (rng1I (consA (onA m_law_draw (consA (varE 0) (consA (conE (.int 3)) (nilA)))) (nilA))) (gnm 4) (seqS (setS 7 (onA tupF (consA (onA m_law_tests (consA (varE 0) (consA (varE 2) (consA (conE (.int 2)) (nilA))))) (consA (onA m_law_steps (consA (varE 0) (consA (varE 2) (consA (conE (.int 3)) (nilA))))) (nilA))))) (seqS (ifS (valT (bin eqF (onA m_law_draw (consA (varE 0) (consA (conE (.int 4)) (nilA)))) (conE (.int 0)))) (setS 7 (bin addF (varE 7) (onA tupF (consA (onA m_law_steps (consA (varE 0) (consA (varE 2) (consA (conE (.int 2)) (nilA))))) (nilA))))) (passS)) (expS (bmE "list" insF (varE 3) (consA (onA m_law_draw (consA (varE 0) (consA (bin addF (onA lenF (consA (varE 3) (nilA))) (conE (.int 1))) (nilA)))) (consA (varE 7) (nilA)))))))) (seqS (setS 5 (onA lstF (consA (onA tupF (consA (onA tupF (nilA)) (consA (onA m_law_steps (consA (varE 0) (consA (varE 2) (consA (conE (.int 3)) (nilA))))) (nilA)))) (consA (onA tupF (consA (onA tupF (nilA)) (consA (onA tupF (consA (onA tupF (consA (conE (.str "here")) (consA (conE (.str "new")) (nilA)))) (nilA))) (nilA)))) (nilA))))) (seqS (ifS (valT (bin inF (conE (.str "was")) (varE 2))) (setS 5 (bin addF (varE 5) (bin mulF (onA lstF (consA (onA tupF (consA (onA tupF (nilA)) (consA (onA tupF (consA (onA tupF (consA (conE (.str "here")) (consA (conE (.str "new")) (nilA)))) (consA (onA tupF (consA (conE (.str "was")) (consA (conE (.str "new")) (nilA)))) (nilA)))) (consA (onA tupF (consA (onA tupF (consA (conE (.str "was")) (consA (conE (.str "new")) (nilA)))) (nilA))) (nilA))))) (nilA))) (conE (.int 4))))) (passS)) (seqS (ifS (valT (bin inF (conE (.str "beside")) (varE 2))) (setS 5 (bin addF (varE 5) (onA lstF (consA (onA tupF (consA (onA tupF (nilA)) (consA (onA tupF (consA (onA tupF (consA (conE (.str "beside")) (consA (conE (.str "here")) (nilA)))) (consA (onA tupF (consA (conE (.str "here")) (consA (conE (.str "new")) (nilA)))) (nilA)))) (nilA)))) (consA (onA tupF (consA (onA tupF (nilA)) (consA (onA tupF (consA (onA tupF (consA (conE (.str "beside")) (consA (conE (.str "new")) (nilA)))) (nilA))) (nilA)))) (nilA)))))) (passS)) (seqS (setS 6 (onA m_law_pick (consA (varE 0) (consA (onA lstF (consA (conE (.str "was")) (consA (conE (.str "was")) (consA (conE (.str "was")) (consA (conE (.str "last")) (consA (conE (.str "mark")) (consA (conE (.str "mine")) (consA (conE (.str "own")) (consA (conE (.str "take")) (nilA)))))))))) (nilA))))) (retS (onA m_law_noted_as (consA (varE 6) (consA (varE 2) (consA (bin addF (varE 3) (onA lstF (consA (onA m_law_pick (consA (varE 0) (consA (varE 5) (nilA)))) (nilA)))) (nilA))))))))))))))
def m_law_plan : FM := fnM 1 8 b_law_plan
abbrev N_law_rule : List Str := ["plan"]
def b_law_rule : SM := retS (onA (makeX "Rule" m_Rule_init) (consA (onA listF (consA (bin ixF (varE 0) (conE (.int 0))) (nilA))) (consA (onA listF (consA (bin ixF (varE 0) (conE (.int 1))) (nilA))) (nilA))))
def m_law_rule : FM := fnM 1 1 b_law_rule
abbrev N_law_written : List Str := ["steps", "step"]
def b_law_written : SM := seqS (ifS (valT (bin eqF (varE 0) (onA tupF (nilA)))) (retS (conE (.str "do nothing"))) (passS)) (retS (bmE "str" joinF (conE (.str ", ")) (consA (lcE [1] (seqI (varE 0)) (gnm 1) (yesT) (bin addF (bin addF (bin ixF (varE 1) (conE (.int 0))) (conE (.str " from "))) (bin ixF (varE 1) (conE (.int 1))))) (nilA))))
def m_law_written : FM := fnM 1 2 b_law_written
abbrev N_law_lines : List Str := ["plan", "found", "line", "tests", "head", "lists", "test", "steps"]
def b_law_lines : SM := seqS (setS 1 (onA lstF (consA (bmE "str" joinF (conE (.str " ")) (consA (bin addF (onA lstF (consA (conE (.str "registers")) (nilA))) (onA listF (consA (bin ixF (varE 0) (conE (.int 0))) (nilA)))) (nilA))) (nilA)))) (seqS (forS (seqI (bin ixF (varE 0) (conE (.int 1)))) (gnm 2) (seqS (setS 3 (lcE [6] (seqI (bin ixF (varE 2) (conE (.int 0)))) (gnm 6) (yesT) (bin addF (bin addF (bin ixF (varE 6) (conE (.int 0))) (ifE (valT (bin ixF (varE 6) (conE (.int 2)))) (conE (.str " is ")) (conE (.str " is not ")))) (bin ixF (varE 6) (conE (.int 1)))))) (seqS (setS 4 (ifE (valT (bin neF (varE 3) (onA lstF (nilA)))) (bmE "str" joinF (conE (.str ", ")) (consA (varE 3) (nilA))) (conE (.str "otherwise")))) (seqS (setS 5 (lcE [7] (seqI (slE (varE 2) (someO (conE (.int 1))) (noO))) (gnm 7) (yesT) (onA m_law_written (consA (varE 7) (nilA))))) (expS (bmE "list" appF (varE 1) (consA (bin addF (bin addF (varE 4) (conE (.str ": "))) (ifE (valT (bin eqF (onA lenF (consA (varE 5) (nilA))) (conE (.int 1)))) (bin ixF (varE 5) (conE (.int 0))) (bin addF (bin addF (bin addF (conE (.str "ask ")) (bin ixF (varE 5) (conE (.int 0)))) (conE (.str " or "))) (bin ixF (varE 5) (conE (.int 1)))))) (nilA)))))))) (retS (varE 1)))
def m_law_lines : FM := fnM 1 8 b_law_lines
abbrev N_law_great : List Str := ["source", "words", "at", "names", "lines", "tests", "steps", "turn"]
def b_law_great : SM := seqS (parS [3, 4] (consA (slE (onA m_law_mixed (consA (varE 0) (consA (onA lstF (consA (conE (.str "abcdefgh")) (consA (conE (.str "isnt")) (consA (conE (.str "asks")) (consA (conE (.str "beside")) (consA (conE (.str "elder")) (consA (conE (.str "ora")) (nilA)))))))) (nilA)))) (noO) (someO (conE (.int 3)))) (consA (onA lstF (nilA)) (nilA)))) (seqS (setS 1 (bin addF (onA lstF (consA (conE (.str "here")) (nilA))) (varE 3))) (seqS (forS (rng1I (consA (conE (.int 8)) (nilA))) (gnm 2) (seqS (setS 5 (onA tupleF (consA (lcE [7] (rng1I (consA (conE (.int 4)) (nilA))) (gnm 7) (yesT) (onA tupF (consA (onA m_law_pick (consA (varE 0) (consA (varE 1) (nilA)))) (consA (onA m_law_pick (consA (varE 0) (consA (bin addF (varE 1) (onA lstF (consA (conE (.str "new")) (nilA)))) (nilA)))) (consA (bin gtF (varE 2) (conE (.int 3))) (nilA)))))) (nilA)))) (seqS (setS 6 (onA tupleF (consA (lcE [7] (rng1I (consA (conE (.int 4)) (nilA))) (gnm 7) (yesT) (onA tupF (consA (onA m_law_pick (consA (varE 0) (consA (varE 1) (nilA)))) (consA (onA m_law_pick (consA (varE 0) (consA (bin addF (varE 1) (onA lstF (consA (conE (.str "nothing")) (nilA)))) (nilA)))) (nilA))))) (nilA)))) (expS (bmE "list" appF (varE 4) (consA (bin addF (onA tupF (consA (ifE (valT (bin ltF (varE 2) (conE (.int 7)))) (varE 5) (onA tupF (nilA))) (consA (varE 6) (nilA)))) (bin mul01F (onA tupF (consA (revE (varE 6)) (nilA))) (onA intF (consA (bin gtF (varE 2) (conE (.int 5))) (nilA))))) (nilA))))))) (retS (onA tupF (consA (onA tupleF (consA (varE 3) (nilA))) (consA (onA tupleF (consA (varE 4) (nilA))) (nilA)))))))
def m_law_great : FM := fnM 1 8 b_law_great
abbrev N_law : List Str := ["script", "start", "source", "some", "plan", "one", "due", "turn"]
def neX_law : D → D → MH → R D := (eqIF true "Rule" ["Rule"] m_Rule_eq neF)
def b_law : SM := seqS (forS (rng1I (consA (onA max2F (consA (conE (.int 1)) (consA (onA min2F (consA (conE (.int 4)) (consA (onA lenF (consA (varE 0) (nilA))) (nilA)))) (nilA)))) (nilA))) (gnm 1) (seqS (setS 2 (onA m_law_source (consA (varE 0) (consA (varE 1) (nilA))))) (seqS (setS 3 (bin addF (lcE [7] (rng1I (consA (conE (.int 5)) (nilA))) (gnm 7) (yesT) (onA m_law_plan (consA (varE 2) (nilA)))) (onA lstF (consA (onA m_law_great (consA (varE 2) (nilA))) (consA (onA tupF (consA (onA tupF (nilA)) (consA (onA tupF (consA (onA tupF (consA (onA tupF (nilA)) (consA (onA tupF (nilA)) (nilA)))) (nilA))) (nilA)))) (consA (onA tupF (consA (onA tupF (nilA)) (consA (onA tupF (consA (onA tupF (consA (onA tupF (nilA)) (consA (onA tupF (nilA)) (consA (onA tupF (nilA)) (nilA))))) (nilA))) (nilA)))) (nilA))))))) (forS (seqI (varE 3)) (gnm 4) (seqS (parS [5, 6] (consA (onA m_law_rule (consA (varE 4) (nilA))) (consA (bmE "str" joinF (conE (.str "\n")) (consA (onA m_law_lines (consA (varE 4) (nilA))) (nilA))) (nilA)))) (seqS (ifS (orT (valT (bin neX_law (onA m_rule_text (consA (varE 5) (nilA))) (varE 6))) (valT (bin neX_law (onK 0 1 m_rule_text (nilA) (consA (varE 5) (nilA))) (varE 6)))) (retS (conE (.bl false))) (passS)) (ifS (orT (valT (bin neX_law (onA m_read_rule (consA (varE 6) (nilA))) (varE 5))) (orT (valT (bin neX_law (onK 0 1 m_read_rule (nilA) (consA (varE 6) (nilA))) (varE 5))) (valT (bin neX_law (onA m_rule_text (consA (onA m_read_rule (consA (varE 6) (nilA))) (nilA))) (varE 6))))) (retS (conE (.bl false))) (passS)))))))) (retS (conE (.bl true)))
end ML
namespace ML
open PySem PySem.Spec PyProof.Rows L2
/-- what the module's names hold -/
structure Txt (P : Program) (w : World) (K : PySem.W.Frag) (mg : Str → Option Value) (base : Heap) : Prop where
  n_all : mg "all" = none
  n_bool : mg "bool" = none
  n_enumerate : mg "enumerate" = none
  n_int : mg "int" = none
  n_isinstance : mg "isinstance" = none
  n_len : mg "len" = none
  n_list : mg "list" = none
  n_max : mg "max" = none
  n_min : mg "min" = none
  n_range : mg "range" = none
  n_set : mg "set" = none
  n_str : mg "str" = none
  n_tuple : mg "tuple" = none
  x_BadRegisters : XcC P w K mg base "BadRegisters" "value"
  x_BadLines : XcC P w K mg base "BadLines" "value"
  x_BadLine : XcC P w K mg base "BadLine" "position"
  x_BadText : XcC P w K mg base "BadText" "line"
  m_Rule : mg "Rule" = some (.ref (adr mg "Rule"))
  i_Rule : IsTab K mg (.ref (adr mg "Rule")) noKinds (tabOf ["Rule"] fun n => decide (n = "Rule")) []
  f_own_names : FldOk K mg ["Rule"] [] "own_names"
  f_rows : FldOk K mg ["Rule"] [] "rows"
  c_BARRED : TupG K mg "BARRED" ["here", "new", "nothing", "is", "not", "from", "or", "ask", "do", "otherwise"]
  c_LETTERS : StrG mg "LETTERS" "abcdefghijklmnopqrstuvwxyz"
  c_MOST_LINES : IntG mg "MOST_LINES" 8
  c_MOST_REGISTERS : IntG mg "MOST_REGISTERS" 3
  c_MOST_STEPS : IntG mg "MOST_STEPS" 4
  c_MOST_TESTS : IntG mg "MOST_TESTS" 4
  c_NOTHING : StrG mg "NOTHING" "do nothing"
section
variable {P : Program} {w : World} {K : PySem.W.Frag} {mg : Str → Option Value} {base : Heap}
theorem sc_is_name : FnScope N_is_name ["value"] (defScope s_is_name) := ⟨rfl, rfl, rfl, by decide +kernel, rfl, by decide +kernel, by decide +kernel⟩
theorem ok_is_name {f : Addr} {fd : FuncData} (F : Fun K "is_name" "is_name" s_is_name f fd) (T : Txt P w K mg base)  : FnOk P w K mg base (L2.CX P w) 1 f fd ["value"] (spM ⟨K, mg, P, w⟩ 1 m_is_name) :=
  fn_ok F sc_is_name fun cdv A outer s H E hr tk => by
    have hu := hr.units
    exact ss_one (s_ret (e_and (e_callB call_isi (rf_isi (by decide)) (by rfl) T.n_isinstance bb_isinstance (a_cons (e_var 0 (pv 0)) (a_cons (e_con (v := .ty "str") (pe_bltn (by rfl) T.n_str bb_str rfl) (fun _ _ => by unfold RD; rfl)) a_nil))) (e_and (e_chain op_leM rf_le op_leM rf_le (e_int) (e_callB call_lenM rf_len (by rfl) T.n_len bb_len (a_cons (e_var 0 (pv 0)) (a_nil))) (e_int)) (e_one (e_callB (cr_all rfl) rf_all (by rfl) T.n_all bb_all (a_cons (e_lc (own := [("letter", 1)]) rfl sc_is_name.nd (i_any (e_var 0 (pv 0))) (blkOk_by (N := N_is_name) (sc := defScope s_is_name) (by decide +kernel)) (fun _ _ _ _ _ => g_name 1 sc_is_name.nd rfl (by first | exact Or.inl rfl | exact Or.inr rfl)) (fun _ _ _ _ _ => ts_nil) (fun _ _ _ _ _ => e_cmp (op_inM hu) rf_in (e_var 1 (pv 1)) (e_gstr T.c_LETTERS (by rfl)) (by with_unfolding_all rfl))) (a_nil)))))))
theorem sc_need_registers : FnScope N_need_registers ["value"] (defScope s_need_registers) := ⟨rfl, rfl, rfl, by decide +kernel, rfl, by decide +kernel, by decide +kernel⟩
theorem ok_need_registers {f : Addr} {fd : FuncData} (F : Fun K "need_registers" "need_registers" s_need_registers f fd) (T : Txt P w K mg base) (C_is_name : Cal P w K mg base "is_name" 1 m_is_name) : FnOk P w K mg base (L2.CX P w) 3 f fd ["value"] (spM ⟨K, mg, P, w⟩ 1 m_need_registers) :=
  fn_ok F sc_need_registers fun cdv A outer s H E hr tk => by
    have hu := hr.units
    exact ss_cons (s_if (PW.pt (w_or (t_not (t_val (e_isi2 (by rfl) T.n_isinstance (e_var 0 (pv 0)) (pe_bltn (by rfl) T.n_list bb_list rfl) (pe_bltn (by rfl) T.n_tuple bb_tuple rfl)))) (w_or1 (t_cmp op_gtM rf_gt (e_callB call_lenM rf_len (by rfl) T.n_len bb_len (a_cons (e_var 0 (pv 0)) (a_nil))) (e_gint T.c_MOST_REGISTERS (by rfl)) (nomark _))))) (ss_one (s_raise tk rfl T.x_BadRegisters (hr.mono (by decide)) (by rfl) (a_cons (e_var 0 (pv 0)) (a_nil)))) (ss_nil)) (ss_one (s_if (PW.pt (w_or (t_not (t_val (e_callB (cr_all rfl) rf_all (by rfl) T.n_all bb_all (a_cons (e_lc (own := [("name", 1)]) rfl sc_need_registers.nd (i_any (e_var 0 (pv 0))) (blkOk_by (N := N_need_registers) (sc := defScope s_need_registers) (by decide +kernel)) (fun _ _ _ _ _ => g_name 1 sc_need_registers.nd rfl (by first | exact Or.inl rfl | exact Or.inr rfl)) (fun _ _ _ _ _ => ts_nil) (fun _ _ _ _ _ => e_and (e_call C_is_name (hr.mono (by decide)) takes_no (by rfl) (a_cons (e_var 1 (pv 1)) (a_nil))) (e_one (e_cmp (op_ninM hu) rf_nin (e_var 1 (pv 1)) (e_gtup T.c_BARRED (by rfl)) (by with_unfolding_all rfl))))) (a_nil))))) (w_or1 (t_cmp (op_neM hu) rf_ne (e_lenset rfl (by rfl) T.n_len (by rfl) T.n_set (e_var 0 (pv 0))) (e_callB call_lenM rf_len (by rfl) T.n_len bb_len (a_cons (e_var 0 (pv 0)) (a_nil))) (nomark _))))) (ss_one (s_raise tk rfl T.x_BadRegisters (hr.mono (by decide)) (by rfl) (a_cons (e_var 0 (pv 0)) (a_nil)))) (ss_nil)))
theorem sc_is_one_of : FnScope N_is_one_of ["value", "words"] (defScope s_is_one_of) := ⟨rfl, rfl, rfl, by decide +kernel, rfl, by decide +kernel, by decide +kernel⟩
theorem ok_is_one_of {f : Addr} {fd : FuncData} (F : Fun K "is_one_of" "is_one_of" s_is_one_of f fd) (T : Txt P w K mg base)  : FnOk P w K mg base (L2.CX P w) 1 f fd ["value", "words"] (spM ⟨K, mg, P, w⟩ 2 m_is_one_of) :=
  fn_ok F sc_is_one_of fun cdv A outer s H E hr tk => by
    have hu := hr.units
    exact ss_one (s_ret (e_and (e_callB call_isi (rf_isi (by decide)) (by rfl) T.n_isinstance bb_isinstance (a_cons (e_var 0 (pv 0)) (a_cons (e_con (v := .ty "str") (pe_bltn (by rfl) T.n_str bb_str rfl) (fun _ _ => by unfold RD; rfl)) a_nil))) (e_one (e_cmp (op_inM hu) rf_in (e_var 0 (pv 0)) (e_var 1 (pv 1)) (by with_unfolding_all rfl)))))
theorem sc_is_test : FnScope N_is_test ["value", "names"] (defScope s_is_test) := ⟨rfl, rfl, rfl, by decide +kernel, rfl, by decide +kernel, by decide +kernel⟩
theorem ok_is_test {f : Addr} {fd : FuncData} (F : Fun K "is_test" "is_test" s_is_test f fd) (T : Txt P w K mg base) (C_is_one_of : Cal P w K mg base "is_one_of" 1 m_is_one_of) : FnOk P w K mg base (L2.CX P w) 2 f fd ["value", "names"] (spM ⟨K, mg, P, w⟩ 2 m_is_test) :=
  fn_ok F sc_is_test fun cdv A outer s H E hr tk => by
    have hu := hr.units
    exact ss_cons (s_if (PW.pt (w_or (t_not (t_val (e_callB call_isi (rf_isi (by decide)) (by rfl) T.n_isinstance bb_isinstance (a_cons (e_var 0 (pv 0)) (a_cons (e_con (v := .ty "tuple") (pe_bltn (by rfl) T.n_tuple bb_tuple rfl) (fun _ _ => by unfold RD; rfl)) a_nil))))) (w_or (t_cmp (op_neM hu) rf_ne (e_callB call_lenM rf_len (by rfl) T.n_len bb_len (a_cons (e_var 0 (pv 0)) (a_nil))) (e_int) (nomark _)) (w_or1 (t_not (t_val (e_callB call_isi (rf_isi (by decide)) (by rfl) T.n_isinstance bb_isinstance (a_cons (e_ix hu (e_var 0 (pv 0)) (e_int) (fun _ _ => rfl)) (a_cons (e_con (v := .ty "bool") (pe_bltn (by rfl) T.n_bool bb_bool rfl) (fun _ _ => by unfold RD; rfl)) a_nil))))))))) (ss_one (s_ret (e_bl))) (ss_nil)) (ss_one (s_ret (e_and (e_call C_is_one_of (hr.mono (by decide)) tk (by rfl) (a_cons (e_ix hu (e_var 0 (pv 0)) (e_int) (fun _ _ => rfl)) (a_cons (e_tup (a_cons (e_str) (a_cons (e_str) (a_star (e_var 1 (pv 1)) (a_nil))))) (a_nil)))) (e_one (e_call C_is_one_of (hr.mono (by decide)) tk (by rfl) (a_cons (e_ix hu (e_var 0 (pv 0)) (e_int) (fun _ _ => rfl)) (a_cons (e_tup (a_cons (e_str) (a_cons (e_str) (a_cons (e_str) (a_star (e_var 1 (pv 1)) (a_nil)))))) (a_nil))))))))
theorem sc_is_step : FnScope N_is_step ["value", "names"] (defScope s_is_step) := ⟨rfl, rfl, rfl, by decide +kernel, rfl, by decide +kernel, by decide +kernel⟩
theorem ok_is_step {f : Addr} {fd : FuncData} (F : Fun K "is_step" "is_step" s_is_step f fd) (T : Txt P w K mg base) (C_is_one_of : Cal P w K mg base "is_one_of" 1 m_is_one_of) : FnOk P w K mg base (L2.CX P w) 2 f fd ["value", "names"] (spM ⟨K, mg, P, w⟩ 2 m_is_step) :=
  fn_ok F sc_is_step fun cdv A outer s H E hr tk => by
    have hu := hr.units
    exact ss_cons (s_if (PW.pt (w_or (t_not (t_val (e_callB call_isi (rf_isi (by decide)) (by rfl) T.n_isinstance bb_isinstance (a_cons (e_var 0 (pv 0)) (a_cons (e_con (v := .ty "tuple") (pe_bltn (by rfl) T.n_tuple bb_tuple rfl) (fun _ _ => by unfold RD; rfl)) a_nil))))) (w_or1 (t_cmp (op_neM hu) rf_ne (e_callB call_lenM rf_len (by rfl) T.n_len bb_len (a_cons (e_var 0 (pv 0)) (a_nil))) (e_int) (nomark _))))) (ss_one (s_ret (e_bl))) (ss_nil)) (ss_one (s_ret (e_and (e_call C_is_one_of (hr.mono (by decide)) tk (by rfl) (a_cons (e_ix hu (e_var 0 (pv 0)) (e_int) (fun _ _ => rfl)) (a_cons (e_tup (a_cons (e_str) (a_star (e_var 1 (pv 1)) (a_nil)))) (a_nil)))) (e_one (e_call C_is_one_of (hr.mono (by decide)) tk (by rfl) (a_cons (e_ix hu (e_var 0 (pv 0)) (e_int) (fun _ _ => rfl)) (a_cons (e_tup (a_cons (e_str) (a_cons (e_str) (a_cons (e_str) (a_star (e_var 1 (pv 1)) (a_nil)))))) (a_nil))))))))
theorem sc_are_steps : FnScope N_are_steps ["value", "names"] (defScope s_are_steps) := ⟨rfl, rfl, rfl, by decide +kernel, rfl, by decide +kernel, by decide +kernel⟩
theorem ok_are_steps {f : Addr} {fd : FuncData} (F : Fun K "are_steps" "are_steps" s_are_steps f fd) (T : Txt P w K mg base) (C_is_step : Cal P w K mg base "is_step" 2 m_is_step) : FnOk P w K mg base (L2.CX P w) 3 f fd ["value", "names"] (spM ⟨K, mg, P, w⟩ 2 m_are_steps) :=
  fn_ok F sc_are_steps fun cdv A outer s H E hr tk => by
    have hu := hr.units
    exact ss_one (s_ret (e_and (e_callB call_isi (rf_isi (by decide)) (by rfl) T.n_isinstance bb_isinstance (a_cons (e_var 0 (pv 0)) (a_cons (e_con (v := .ty "tuple") (pe_bltn (by rfl) T.n_tuple bb_tuple rfl) (fun _ _ => by unfold RD; rfl)) a_nil))) (e_and (e_cmp op_leM rf_le (e_callB call_lenM rf_len (by rfl) T.n_len bb_len (a_cons (e_var 0 (pv 0)) (a_nil))) (e_gint T.c_MOST_STEPS (by rfl)) (nomark _)) (e_one (e_callB (cr_all rfl) rf_all (by rfl) T.n_all bb_all (a_cons (e_lc (own := [("step", 2)]) rfl sc_are_steps.nd (i_any (e_var 0 (pv 0))) (blkOk_by (N := N_are_steps) (sc := defScope s_are_steps) (by decide +kernel)) (fun _ _ _ _ _ => g_name 2 sc_are_steps.nd rfl (by first | exact Or.inl rfl | exact Or.inr rfl)) (fun _ _ _ _ _ => ts_nil) (fun _ _ _ _ _ => e_call C_is_step (hr.mono (by decide)) takes_no (by rfl) (a_cons (e_var 2 (pv 2)) (a_cons (e_var 1 (pv 1)) (a_nil))))) (a_nil)))))))
theorem sc_is_line : FnScope N_is_line ["value", "names"] (defScope s_is_line) := ⟨rfl, rfl, rfl, by decide +kernel, rfl, by decide +kernel, by decide +kernel⟩
theorem ok_is_line {f : Addr} {fd : FuncData} (F : Fun K "is_line" "is_line" s_is_line f fd) (T : Txt P w K mg base) (C_are_steps : Cal P w K mg base "are_steps" 3 m_are_steps) (C_is_test : Cal P w K mg base "is_test" 2 m_is_test) : FnOk P w K mg base (L2.CX P w) 4 f fd ["value", "names"] (spM ⟨K, mg, P, w⟩ 2 m_is_line) :=
  fn_ok F sc_is_line fun cdv A outer s H E hr tk => by
    have hu := hr.units
    exact ss_cons (s_if (PW.pt (w_or (t_not (t_val (e_callB call_isi (rf_isi (by decide)) (by rfl) T.n_isinstance bb_isinstance (a_cons (e_var 0 (pv 0)) (a_cons (e_con (v := .ty "tuple") (pe_bltn (by rfl) T.n_tuple bb_tuple rfl) (fun _ _ => by unfold RD; rfl)) a_nil))))) (w_or1 (t_cmp (op_ninM hu) rf_nin (e_callB call_lenM rf_len (by rfl) T.n_len bb_len (a_cons (e_var 0 (pv 0)) (a_nil))) (e_tup (a_cons (e_int) (a_cons (e_int) (a_nil)))) (by with_unfolding_all rfl))))) (ss_one (s_ret (e_bl))) (ss_nil)) (ss_cons (s_set 2 sc_is_line.nd rfl (by first | exact Or.inl rfl | exact Or.inr rfl) (e_ix hu (e_var 0 (pv 0)) (e_int) (fun _ _ => rfl))) (ss_cons (s_if (PW.pt (w_or (t_not (t_val (e_callB call_isi (rf_isi (by decide)) (by rfl) T.n_isinstance bb_isinstance (a_cons (e_var 2 (pv 2)) (a_cons (e_con (v := .ty "tuple") (pe_bltn (by rfl) T.n_tuple bb_tuple rfl) (fun _ _ => by unfold RD; rfl)) a_nil))))) (w_or (t_cmp op_gtM rf_gt (e_callB call_lenM rf_len (by rfl) T.n_len bb_len (a_cons (e_var 2 (pv 2)) (a_nil))) (e_gint T.c_MOST_TESTS (by rfl)) (nomark _)) (w_or1 (t_not (t_val (e_callB (cr_all rfl) rf_all (by rfl) T.n_all bb_all (a_cons (e_lc (own := [("test", 4)]) rfl sc_is_line.nd (i_any (e_var 2 (pv 2))) (blkOk_by (N := N_is_line) (sc := defScope s_is_line) (by decide +kernel)) (fun _ _ _ _ _ => g_name 4 sc_is_line.nd rfl (by first | exact Or.inl rfl | exact Or.inr rfl)) (fun _ _ _ _ _ => ts_nil) (fun _ _ _ _ _ => e_call C_is_test (hr.mono (by decide)) takes_no (by rfl) (a_cons (e_var 4 (pv 4)) (a_cons (e_var 1 (pv 1)) (a_nil))))) (a_nil))))))))) (ss_one (s_ret (e_bl))) (ss_nil)) (ss_one (s_ret (e_callB (cr_all rfl) rf_all (by rfl) T.n_all bb_all (a_cons (e_lc (own := [("steps", 3)]) rfl sc_is_line.nd (i_any (e_sl (e_var 0 (pv 0)) (o_some (e_int)) (o_no))) (blkOk_by (N := N_is_line) (sc := defScope s_is_line) (by decide +kernel)) (fun _ _ _ _ _ => g_name 3 sc_is_line.nd rfl (by first | exact Or.inl rfl | exact Or.inr rfl)) (fun _ _ _ _ _ => ts_nil) (fun _ _ _ _ _ => e_call C_are_steps (hr.mono (by decide)) takes_no (by rfl) (a_cons (e_var 3 (pv 3)) (a_cons (e_var 1 (pv 1)) (a_nil))))) (a_nil)))))))
theorem sc_Rule_init : FnScope N_Rule_init ["self", "registers", "lines"] (defScope s_Rule_init) := ⟨rfl, rfl, rfl, by decide +kernel, rfl, by decide +kernel, by decide +kernel⟩
theorem ok_Rule_init {f : Addr} {fd : FuncData} (F : Fun K "__init__" "Rule.__init__" s_Rule_init f fd) (T : Txt P w K mg base) (C_is_line : Cal P w K mg base "is_line" 4 m_is_line) (C_need_registers : Cal P w K mg base "need_registers" 3 m_need_registers) : FnOk P w K mg base (L2.CX P w) 5 f fd ["self", "registers", "lines"] (spM ⟨K, mg, P, w⟩ 3 m_Rule_init) :=
  fn_ok F sc_Rule_init fun cdv A outer s H E hr tk => by
    have hu := hr.units
    exact ss_cons (s_expr (e_call C_need_registers (hr.mono (by decide)) tk (by rfl) (a_cons (e_var 1 (pv 1)) (a_nil)))) (ss_cons (s_if (PW.pt (w_or (t_not (t_val (e_isi2 (by rfl) T.n_isinstance (e_var 2 (pv 2)) (pe_bltn (by rfl) T.n_list bb_list rfl) (pe_bltn (by rfl) T.n_tuple bb_tuple rfl)))) (w_or1 (t_not (t_chain op_leM rf_le op_leM rf_le (e_int) (e_callB call_lenM rf_len (by rfl) T.n_len bb_len (a_cons (e_var 2 (pv 2)) (a_nil))) (e_gint T.c_MOST_LINES (by rfl))))))) (ss_one (s_raise tk rfl T.x_BadLines (hr.mono (by decide)) (by rfl) (a_cons (e_var 2 (pv 2)) (a_nil)))) (ss_nil)) (ss_cons (s_for (passes_of rfl) rfl (i_enum2 (by rfl) T.n_enumerate (a_cons (e_var 2 (pv 2)) (a_nil))) (g_tup rfl (gs_cons (g_name 3 sc_Rule_init.nd rfl (by first | exact Or.inl rfl | exact Or.inr rfl)) (gs_cons (g_name 4 sc_Rule_init.nd rfl (by first | exact Or.inl rfl | exact Or.inr rfl)) (gs_nil)))) (ss_one (s_if (PW.pt (w_or (t_not (t_val (e_call C_is_line (hr.mono (by decide)) tk (by rfl) (a_cons (e_var 4 (pv 4)) (a_cons (e_var 1 (pv 1)) (a_nil)))))) (w_or1 (PW.pt (w_and (t_cmp (op_eqM hu) rf_eq (e_var 3 (pv 3)) (e_bin op_sub rf_sub (e_callB call_lenM rf_len (by rfl) T.n_len bb_len (a_cons (e_var 2 (pv 2)) (a_nil))) (e_int)) (nomark _)) (w_and1 (t_cmp (op_neM hu) rf_ne (e_ix hu (e_var 4 (pv 4)) (e_int) (fun _ _ => rfl)) (e_tup (a_nil)) (nomark _)))))))) (ss_one (s_raise tk rfl T.x_BadLine (hr.mono (by decide)) (by rfl) (a_cons (e_var 3 (pv 3)) (a_nil)))) (ss_nil)))) (ss_cons (s_fld T.f_own_names (e_var 0 (pv 0)) (e_callTy call_tuple_of rf_tuple (by rfl) T.n_tuple bb_tuple (a_cons (e_var 1 (pv 1)) (a_nil)))) (ss_one (s_fld T.f_rows (e_var 0 (pv 0)) (e_callTy call_tuple_of rf_tuple (by rfl) T.n_tuple bb_tuple (a_cons (e_var 2 (pv 2)) (a_nil))))))))
theorem sc_Rule_registers : FnScope N_Rule_registers ["self"] (defScope s_Rule_registers) := ⟨rfl, rfl, rfl, by decide +kernel, rfl, by decide +kernel, by decide +kernel⟩
theorem ok_Rule_registers {f : Addr} {fd : FuncData} (F : Fun K "registers" "Rule.registers" s_Rule_registers f fd) (T : Txt P w K mg base)  : FnOk P w K mg base (L2.CX P w) 1 f fd ["self"] (spM ⟨K, mg, P, w⟩ 1 m_Rule_registers) :=
  fn_ok F sc_Rule_registers fun cdv A outer s H E hr tk => by
    have hu := hr.units
    exact ss_one (s_ret (e_fld T.f_own_names (e_var 0 (pv 0))))
theorem sc_Rule_lines : FnScope N_Rule_lines ["self"] (defScope s_Rule_lines) := ⟨rfl, rfl, rfl, by decide +kernel, rfl, by decide +kernel, by decide +kernel⟩
theorem ok_Rule_lines {f : Addr} {fd : FuncData} (F : Fun K "lines" "Rule.lines" s_Rule_lines f fd) (T : Txt P w K mg base)  : FnOk P w K mg base (L2.CX P w) 1 f fd ["self"] (spM ⟨K, mg, P, w⟩ 1 m_Rule_lines) :=
  fn_ok F sc_Rule_lines fun cdv A outer s H E hr tk => by
    have hu := hr.units
    exact ss_one (s_ret (e_fld T.f_rows (e_var 0 (pv 0))))
theorem sc_Rule_eq : FnScope N_Rule_eq ["self", "other"] (defScope s_Rule_eq) := ⟨rfl, rfl, rfl, by decide +kernel, rfl, by decide +kernel, by decide +kernel⟩
theorem ok_Rule_eq {f : Addr} {fd : FuncData} (F : Fun K "__eq__" "Rule.__eq__" s_Rule_eq f fd) (T : Txt P w K mg base)  : FnOk P w K mg base (L2.CX P w) 1 f fd ["self", "other"] (spM ⟨K, mg, P, w⟩ 2 m_Rule_eq) :=
  fn_ok F sc_Rule_eq fun cdv A outer s H E hr tk => by
    have hu := hr.units
    exact ss_one (s_ret (e_and (e_isx T.i_Rule (.own _) (by rfl) T.n_isinstance (e_var 1 (pv 1)) (pe_glob (by rfl) T.m_Rule rfl)) (e_and (e_cmp (op_eqM hu) rf_eq (e_fld T.f_own_names (e_var 0 (pv 0))) (e_fld T.f_own_names (e_var 1 (pv 1))) (nomark _)) (e_one (e_cmp (op_eqM hu) rf_eq (e_fld T.f_rows (e_var 0 (pv 0))) (e_fld T.f_rows (e_var 1 (pv 1))) (nomark _))))))
theorem sc_test_text : FnScope N_test_text ["test"] (defScope s_test_text) := ⟨rfl, rfl, rfl, by decide +kernel, rfl, by decide +kernel, by decide +kernel⟩
theorem ok_test_text {f : Addr} {fd : FuncData} (F : Fun K "test_text" "test_text" s_test_text f fd) (T : Txt P w K mg base)  : FnOk P w K mg base (L2.CX P w) 1 f fd ["test"] (spM ⟨K, mg, P, w⟩ 1 m_test_text) :=
  fn_ok F sc_test_text fun cdv A outer s H E hr tk => by
    have hu := hr.units
    exact ss_cons (s_asg (e_var 0 (pv 0)) (g_tup rfl (gs_cons (g_name 1 sc_test_text.nd rfl (by first | exact Or.inl rfl | exact Or.inr rfl)) (gs_cons (g_name 2 sc_test_text.nd rfl (by first | exact Or.inl rfl | exact Or.inr rfl)) (gs_cons (g_name 3 sc_test_text.nd rfl (by first | exact Or.inl rfl | exact Or.inr rfl)) (gs_nil)))))) (ss_one (s_ret (e_if (t_val (e_var 3 (pv 3))) (e_js (.cons (e_fmt (e_var 1 (pv 1))) (.cons (e_str) (.cons (e_fmt (e_var 2 (pv 2))) (.nil))))) (e_js (.cons (e_fmt (e_var 1 (pv 1))) (.cons (e_str) (.cons (e_fmt (e_var 2 (pv 2))) (.nil))))))))
theorem sc_steps_text : FnScope N_steps_text ["steps"] (defScope s_steps_text) := ⟨rfl, rfl, rfl, by decide +kernel, rfl, by decide +kernel, by decide +kernel⟩
theorem ok_steps_text {f : Addr} {fd : FuncData} (F : Fun K "steps_text" "steps_text" s_steps_text f fd) (T : Txt P w K mg base)  : FnOk P w K mg base (L2.CX P w) 1 f fd ["steps"] (spM ⟨K, mg, P, w⟩ 1 m_steps_text) :=
  fn_ok F sc_steps_text fun cdv A outer s H E hr tk => by
    have hu := hr.units
    exact ss_one (s_ret (e_if (t_cmp (op_neM hu) rf_ne (e_var 0 (pv 0)) (e_tup (a_nil)) (nomark _)) (e_bm PySem.F.plainAttrs_str PySem.F.slot_str_join PySem.F.type_str_join mt_join rf_join (e_str) (a_cons (e_lc (own := [("target", 1), ("source", 2)]) rfl sc_steps_text.nd (i_any (e_var 0 (pv 0))) (blkOk_by (N := N_steps_text) (sc := defScope s_steps_text) (by decide +kernel)) (fun _ _ _ _ _ => g_tup rfl (gs_cons (g_name 1 sc_steps_text.nd rfl (by first | exact Or.inl rfl | exact Or.inr rfl)) (gs_cons (g_name 2 sc_steps_text.nd rfl (by first | exact Or.inl rfl | exact Or.inr rfl)) (gs_nil)))) (fun _ _ _ _ _ => ts_nil) (fun _ _ _ _ _ => e_js (.cons (e_fmt (e_var 1 (pv 1))) (.cons (e_str) (.cons (e_fmt (e_var 2 (pv 2))) (.nil)))))) (a_nil))) (e_gstr T.c_NOTHING (by rfl))))
theorem sc_line_text : FnScope N_line_text ["line"] (defScope s_line_text) := ⟨rfl, rfl, rfl, by decide +kernel, rfl, by decide +kernel, by decide +kernel⟩
theorem ok_line_text {f : Addr} {fd : FuncData} (F : Fun K "line_text" "line_text" s_line_text f fd) (T : Txt P w K mg base) (C_steps_text : Cal P w K mg base "steps_text" 1 m_steps_text) (C_test_text : Cal P w K mg base "test_text" 1 m_test_text) : FnOk P w K mg base (L2.CX P w) 2 f fd ["line"] (spM ⟨K, mg, P, w⟩ 1 m_line_text) :=
  fn_ok F sc_line_text fun cdv A outer s H E hr tk => by
    have hu := hr.units
    exact ss_cons (s_set 1 sc_line_text.nd rfl (by first | exact Or.inl rfl | exact Or.inr rfl) (e_if (t_cmp (op_neM hu) rf_ne (e_ix hu (e_var 0 (pv 0)) (e_int) (fun _ _ => rfl)) (e_tup (a_nil)) (nomark _)) (e_bm PySem.F.plainAttrs_str PySem.F.slot_str_join PySem.F.type_str_join mt_join rf_join (e_str) (a_cons (e_lc (own := [("test", 2)]) rfl sc_line_text.nd (i_any (e_ix hu (e_var 0 (pv 0)) (e_int) (fun _ _ => rfl))) (blkOk_by (N := N_line_text) (sc := defScope s_line_text) (by decide +kernel)) (fun _ _ _ _ _ => g_name 2 sc_line_text.nd rfl (by first | exact Or.inl rfl | exact Or.inr rfl)) (fun _ _ _ _ _ => ts_nil) (fun _ _ _ _ _ => e_call C_test_text (hr.mono (by decide)) takes_no (by rfl) (a_cons (e_var 2 (pv 2)) (a_nil)))) (a_nil))) (e_str))) (ss_cons (s_if (t_cmp (op_eqM hu) rf_eq (e_callB call_lenM rf_len (by rfl) T.n_len bb_len (a_cons (e_var 0 (pv 0)) (a_nil))) (e_int) (nomark _)) (ss_one (s_ret (e_js (.cons (e_fmt (e_var 1 (pv 1))) (.cons (e_str) (.cons (e_fmt (e_call C_steps_text (hr.mono (by decide)) tk (by rfl) (a_cons (e_ix hu (e_var 0 (pv 0)) (e_int) (fun _ _ => rfl)) (a_nil)))) (.nil))))))) (ss_nil)) (ss_one (s_ret (e_js (.cons (e_fmt (e_var 1 (pv 1))) (.cons (e_str) (.cons (e_fmt (e_call C_steps_text (hr.mono (by decide)) tk (by rfl) (a_cons (e_ix hu (e_var 0 (pv 0)) (e_int) (fun _ _ => rfl)) (a_nil)))) (.cons (e_str) (.cons (e_fmt (e_call C_steps_text (hr.mono (by decide)) tk (by rfl) (a_cons (e_ix hu (e_var 0 (pv 0)) (e_int) (fun _ _ => rfl)) (a_nil)))) (.nil))))))))))
theorem sc_rule_text : FnScope N_rule_text ["rule"] (defScope s_rule_text) := ⟨rfl, rfl, rfl, by decide +kernel, rfl, by decide +kernel, by decide +kernel⟩
theorem ok_rule_text {f : Addr} {fd : FuncData} (F : Fun K "rule_text" "rule_text" s_rule_text f fd) (T : Txt P w K mg base) (C_line_text : Cal P w K mg base "line_text" 2 m_line_text) (P_Rule_lines : PropC P w K mg base "Rule" "lines" 1 m_Rule_lines) (P_Rule_registers : PropC P w K mg base "Rule" "registers" 1 m_Rule_registers) : FnOk P w K mg base (L2.CX P w) 3 f fd ["rule"] (spM ⟨K, mg, P, w⟩ 1 m_rule_text) :=
  fn_ok F sc_rule_text fun cdv A outer s H E hr tk => by
    have hu := hr.units
    exact ss_one (s_ret (e_bm PySem.F.plainAttrs_str PySem.F.slot_str_join PySem.F.type_str_join mt_join rf_join (e_str) (a_cons (e_lst (a_cons (e_bm PySem.F.plainAttrs_str PySem.F.slot_str_join PySem.F.type_str_join mt_join rf_join (e_str) (a_cons (e_lst (a_cons (e_str) (a_star (e_prop (k := 1) (all_cons (P_Rule_registers.up (by decide)) (all_nil)) (hr.mono (by decide)) (e_var 0 (pv 0))) (a_nil)))) (a_nil))) (a_star (e_lc (own := [("line", 1)]) rfl sc_rule_text.nd (i_any (e_prop (k := 1) (all_cons (P_Rule_lines.up (by decide)) (all_nil)) (hr.mono (by decide)) (e_var 0 (pv 0)))) (blkOk_by (N := N_rule_text) (sc := defScope s_rule_text) (by decide +kernel)) (fun _ _ _ _ _ => g_name 1 sc_rule_text.nd rfl (by first | exact Or.inl rfl | exact Or.inr rfl)) (fun _ _ _ _ _ => ts_nil) (fun _ _ _ _ _ => e_call C_line_text (hr.mono (by decide)) takes_no (by rfl) (a_cons (e_var 1 (pv 1)) (a_nil)))) (a_nil)))) (a_nil))))
theorem sc_read_test : FnScope N_read_test ["text"] (defScope s_read_test) := ⟨rfl, rfl, rfl, by decide +kernel, rfl, by decide +kernel, by decide +kernel⟩
theorem ok_read_test {f : Addr} {fd : FuncData} (F : Fun K "read_test" "read_test" s_read_test f fd) (T : Txt P w K mg base)  : FnOk P w K mg base (L2.CX P w) 1 f fd ["text"] (spM ⟨K, mg, P, w⟩ 1 m_read_test) :=
  fn_ok F sc_read_test fun cdv A outer s H E hr tk => by
    have hu := hr.units
    exact ss_cons (s_set 1 sc_read_test.nd rfl (by first | exact Or.inl rfl | exact Or.inr rfl) (e_bm PySem.F.plainAttrs_str PySem.F.slot_str_split PySem.F.type_str_split mt_split rf_split (e_var 0 (pv 0)) (a_cons (e_str) (a_nil)))) (ss_cons (s_if (PW.pt (w_and (t_cmp (op_eqM hu) rf_eq (e_callB call_lenM rf_len (by rfl) T.n_len bb_len (a_cons (e_var 1 (pv 1)) (a_nil))) (e_int) (nomark _)) (w_and1 (t_cmp (op_eqM hu) rf_eq (e_ix hu (e_var 1 (pv 1)) (e_int) (fun _ _ => rfl)) (e_str) (nomark _))))) (ss_one (s_ret (e_tup (a_cons (e_ix hu (e_var 1 (pv 1)) (e_int) (fun _ _ => rfl)) (a_cons (e_ix hu (e_var 1 (pv 1)) (e_int) (fun _ _ => rfl)) (a_cons (e_bl) (a_nil))))))) (ss_nil)) (ss_one (s_ret (e_if (PW.pt (w_and (t_cmp (op_eqM hu) rf_eq (e_callB call_lenM rf_len (by rfl) T.n_len bb_len (a_cons (e_var 1 (pv 1)) (a_nil))) (e_int) (nomark _)) (w_and1 (t_cmp (op_eqM hu) rf_eq (e_sl (e_var 1 (pv 1)) (o_some (e_int)) (o_some (e_int))) (e_lst (a_cons (e_str) (a_cons (e_str) (a_nil)))) (nomark _))))) (e_tup (a_cons (e_ix hu (e_var 1 (pv 1)) (e_int) (fun _ _ => rfl)) (a_cons (e_ix hu (e_var 1 (pv 1)) (e_int) (fun _ _ => rfl)) (a_cons (e_bl) (a_nil))))) (e_non)))))
theorem sc_read_step : FnScope N_read_step ["text"] (defScope s_read_step) := ⟨rfl, rfl, rfl, by decide +kernel, rfl, by decide +kernel, by decide +kernel⟩
theorem ok_read_step {f : Addr} {fd : FuncData} (F : Fun K "read_step" "read_step" s_read_step f fd) (T : Txt P w K mg base)  : FnOk P w K mg base (L2.CX P w) 1 f fd ["text"] (spM ⟨K, mg, P, w⟩ 1 m_read_step) :=
  fn_ok F sc_read_step fun cdv A outer s H E hr tk => by
    have hu := hr.units
    exact ss_cons (s_set 1 sc_read_step.nd rfl (by first | exact Or.inl rfl | exact Or.inr rfl) (e_bm PySem.F.plainAttrs_str PySem.F.slot_str_split PySem.F.type_str_split mt_split rf_split (e_var 0 (pv 0)) (a_cons (e_str) (a_nil)))) (ss_one (s_ret (e_if (PW.pt (w_and (t_cmp (op_eqM hu) rf_eq (e_callB call_lenM rf_len (by rfl) T.n_len bb_len (a_cons (e_var 1 (pv 1)) (a_nil))) (e_int) (nomark _)) (w_and1 (t_cmp (op_eqM hu) rf_eq (e_ix hu (e_var 1 (pv 1)) (e_int) (fun _ _ => rfl)) (e_str) (nomark _))))) (e_tup (a_cons (e_ix hu (e_var 1 (pv 1)) (e_int) (fun _ _ => rfl)) (a_cons (e_ix hu (e_var 1 (pv 1)) (e_int) (fun _ _ => rfl)) (a_nil)))) (e_non))))
theorem sc_read_parts : FnScope N_read_parts ["text", "read"] (defScope s_read_parts) := ⟨rfl, rfl, rfl, by decide +kernel, rfl, by decide +kernel, by decide +kernel⟩
theorem ok_read_parts {f : Addr} {fd : FuncData} (F : Fun K "read_parts" "read_parts" s_read_parts f fd) (T : Txt P w K mg base) (C_read_step : Cal P w K mg base "read_step" 1 m_read_step) (C_read_test : Cal P w K mg base "read_test" 1 m_read_test) : FnOk P w K mg base (L2.CX P w) 2 f fd ["text", "read"] (spM ⟨K, mg, P, w⟩ 2 m_read_parts) :=
  fn_ok F sc_read_parts fun cdv A outer s H E hr tk => by
    have hu := hr.units
    exact ss_cons (s_set 2 sc_read_parts.nd rfl (by first | exact Or.inl rfl | exact Or.inr rfl) (e_callTy call_tuple_of rf_tuple (by rfl) T.n_tuple bb_tuple (a_cons (e_lc (own := [("part", 3)]) rfl sc_read_parts.nd (i_any (e_bm PySem.F.plainAttrs_str PySem.F.slot_str_split PySem.F.type_str_split mt_split rf_split (e_var 0 (pv 0)) (a_cons (e_str) (a_nil)))) (blkOk_by (N := N_read_parts) (sc := defScope s_read_parts) (by decide +kernel)) (fun _ _ _ _ _ => g_name 3 sc_read_parts.nd rfl (by first | exact Or.inl rfl | exact Or.inr rfl)) (fun _ _ _ _ _ => ts_nil) (fun _ _ _ _ _ => e_callV (k := 1) (tab := [("read_test", m_read_test), ("read_step", m_read_step)]) (.cons (C_read_test.up (by decide)) (.cons (C_read_step.up (by decide)) (.nil))) (hr.mono (by decide)) takes_no rfl (by first | exact Or.inl rfl | exact Or.inr (Or.inl rfl) | exact Or.inr (Or.inr rfl)) (a_cons (e_var 3 (pv 3)) (a_nil)))) (a_nil)))) (ss_one (s_ret (e_if (t_cmp (op_inM hu) rf_in (e_non) (e_var 2 (pv 2)) (by with_unfolding_all rfl)) (e_non) (e_var 2 (pv 2)))))
theorem sc_read_steps : FnScope N_read_steps ["text"] (defScope s_read_steps) := ⟨rfl, rfl, rfl, by decide +kernel, rfl, by decide +kernel, by decide +kernel⟩
theorem ok_read_steps {f : Addr} {fd : FuncData} (F : Fun K "read_steps" "read_steps" s_read_steps f fd) (T : Txt P w K mg base) (C_read_parts : Cal P w K mg base "read_parts" 2 m_read_parts) (C_read_step : Cal P w K mg base "read_step" 1 m_read_step) : FnOk P w K mg base (L2.CX P w) 3 f fd ["text"] (spM ⟨K, mg, P, w⟩ 1 m_read_steps) :=
  fn_ok F sc_read_steps fun cdv A outer s H E hr tk => by
    have hu := hr.units
    exact ss_one (s_ret (e_if (t_cmp (op_eqM hu) rf_eq (e_var 0 (pv 0)) (e_gstr T.c_NOTHING (by rfl)) (nomark _)) (e_tup (a_nil)) (e_call C_read_parts (hr.mono (by decide)) tk (by rfl) (a_cons (e_var 0 (pv 0)) (a_cons (e_gdefC C_read_step (by rfl)) (a_nil))))))
theorem sc_read_line : FnScope N_read_line ["text"] (defScope s_read_line) := ⟨rfl, rfl, rfl, by decide +kernel, rfl, by decide +kernel, by decide +kernel⟩
theorem ok_read_line {f : Addr} {fd : FuncData} (F : Fun K "read_line" "read_line" s_read_line f fd) (T : Txt P w K mg base) (C_read_parts : Cal P w K mg base "read_parts" 2 m_read_parts) (C_read_steps : Cal P w K mg base "read_steps" 3 m_read_steps) (C_read_test : Cal P w K mg base "read_test" 1 m_read_test) : FnOk P w K mg base (L2.CX P w) 4 f fd ["text"] (spM ⟨K, mg, P, w⟩ 1 m_read_line) :=
  fn_ok F sc_read_line fun cdv A outer s H E hr tk => by
    have hu := hr.units
    exact ss_cons (s_asg (e_bm PySem.F.plainAttrs_str PySem.F.slot_str_partition PySem.F.type_str_partition mt_partition rf_part (e_var 0 (pv 0)) (a_cons (e_str) (a_nil))) (g_tup2 rfl (gs_cons (g_name 5 sc_read_line.nd rfl (by first | exact Or.inl rfl | exact Or.inr rfl)) (gs_cons (g_name 6 sc_read_line.nd rfl (by first | exact Or.inl rfl | exact Or.inr rfl)) (gs_cons (g_name 7 sc_read_line.nd rfl (by first | exact Or.inl rfl | exact Or.inr rfl)) (gs_nil)))))) (ss_cons (s_set 1 sc_read_line.nd rfl (by first | exact Or.inl rfl | exact Or.inr rfl) (e_if (t_cmp (op_eqM hu) rf_eq (e_var 5 (pv 5)) (e_str) (nomark _)) (e_tup (a_nil)) (e_call C_read_parts (hr.mono (by decide)) tk (by rfl) (a_cons (e_var 5 (pv 5)) (a_cons (e_gdefC C_read_test (by rfl)) (a_nil)))))) (ss_cons (s_set 2 sc_read_line.nd rfl (by first | exact Or.inl rfl | exact Or.inr rfl) (e_if (t_val (e_bm PySem.F.plainAttrs_str PySem.F.slot_str_startswith PySem.F.type_str_startswith mt_startswith rf_starts (e_var 7 (pv 7)) (a_cons (e_str) (a_nil)))) (e_bm PySem.F.plainAttrs_str PySem.F.slot_str_split PySem.F.type_str_split mt_split rf_split (e_sl (e_var 7 (pv 7)) (o_some (e_int)) (o_no)) (a_cons (e_str) (a_nil))) (e_lst (a_cons (e_var 7 (pv 7)) (a_nil))))) (ss_cons (s_setLc 3 (own := [("part", 8)]) rfl sc_read_line.nd rfl rfl (L2.sw_true rfl rfl rfl rfl) (i_any (e_var 2 (pv 2))) (blkOk_by (N := N_read_line) (sc := defScope s_read_line) (by decide +kernel)) (fun _ _ _ _ _ => g_name 8 sc_read_line.nd rfl (by first | exact Or.inl rfl | exact Or.inr rfl)) (fun _ _ _ _ _ => ts_nil) (fun _ _ _ _ _ => e_call C_read_steps (hr.mono (by decide)) takes_no (by rfl) (a_cons (e_var 8 (pv 8)) (a_nil)))) (ss_cons (s_set 4 sc_read_line.nd rfl (by first | exact Or.inl rfl | exact Or.inr rfl) (e_if (t_val (e_bm PySem.F.plainAttrs_str PySem.F.slot_str_startswith PySem.F.type_str_startswith mt_startswith rf_starts (e_var 7 (pv 7)) (a_cons (e_str) (a_nil)))) (e_cmp (op_eqM hu) rf_eq (e_callB call_lenM rf_len (by rfl) T.n_len bb_len (a_cons (e_var 2 (pv 2)) (a_nil))) (e_int) (nomark _)) (e_bl))) (ss_cons (s_if (PW.pt (w_or (t_cmp (op_eqM hu) rf_eq (e_var 6 (pv 6)) (e_str) (nomark _)) (w_or (t_cmp op_isN rf_isN (e_var 1 (pv 1)) (e_non) (nomark _)) (w_or (t_cmp (op_inM hu) rf_in (e_non) (e_var 3 (pv 3)) (by with_unfolding_all rfl)) (w_or1 (t_not (t_val (e_var 4 (pv 4))))))))) (ss_one (s_ret (e_non))) (ss_nil)) (ss_one (s_ret (e_tup (a_cons (e_var 1 (pv 1)) (a_star (e_var 3 (pv 3)) (a_nil)))))))))))
theorem sc_rule_of : FnScope N_rule_of ["registers", "lines"] (defScope s_rule_of) := ⟨rfl, rfl, rfl, by decide +kernel, rfl, by decide +kernel, by decide +kernel⟩
theorem ok_rule_of {f : Addr} {fd : FuncData} (F : Fun K "rule_of" "rule_of" s_rule_of f fd) (T : Txt P w K mg base) (I_Rule : InC P w K mg base "Rule" 5 3 m_Rule_init) : FnOk P w K mg base (L2.CX P w) 7 f fd ["registers", "lines"] (spM ⟨K, mg, P, w⟩ 2 m_rule_of) :=
  fn_ok F sc_rule_of fun cdv A outer s H E hr tk => by
    have hu := hr.units
    exact ss_cons (s_set 2 sc_rule_of.nd rfl (by first | exact Or.inl rfl | exact Or.inr rfl) (e_if (PW.pt (w_and (t_cmp (op_neM hu) rf_ne (e_var 1 (pv 1)) (e_lst (a_nil)) (nomark _)) (w_and1 (t_cmp (op_eqM hu) rf_eq (e_ix hu (e_ix hu (e_var 1 (pv 1)) (e_un un_neg rf_neg (e_int)) (fun _ _ => rfl)) (e_int) (fun _ _ => rfl)) (e_tup (a_nil)) (nomark _))))) (e_lst (a_nil)) (e_lst (a_cons (e_tup (a_cons (e_tup (a_nil)) (a_cons (e_tup (a_nil)) (a_nil)))) (a_nil))))) (ss_one (s_tryN (fun W pn xe tk1 hp1 => ss_one (s_ret (e_makeX I_Rule (fun ds h hl => by unfold m_Rule_init fnM; rw [if_neg hl]) (hr.mono (by decide)) tk1 (by rfl) (a_cons (e_var 0 (pv 0)) (a_cons (e_sl (e_lst (a_star (e_var 1 (pv 1)) (a_star (e_var 2 (pv 2)) (a_nil)))) (o_no) (o_some (e_bin op_addM rf_add (e_gint T.c_MOST_LINES (by rfl)) (e_int)))) (a_nil))))))))
theorem sc_read_rule : FnScope N_read_rule ["text"] (defScope s_read_rule) := ⟨rfl, rfl, rfl, by decide +kernel, rfl, by decide +kernel, by decide +kernel⟩
theorem ok_read_rule {f : Addr} {fd : FuncData} (F : Fun K "read_rule" "read_rule" s_read_rule f fd) (T : Txt P w K mg base) (C_line_text : Cal P w K mg base "line_text" 2 m_line_text) (C_read_line : Cal P w K mg base "read_line" 4 m_read_line) (C_rule_of : Cal P w K mg base "rule_of" 7 m_rule_of) (I_Rule : InC P w K mg base "Rule" 5 3 m_Rule_init) : FnOk P w K mg base (L2.CX P w) 8 f fd ["text"] (spM ⟨K, mg, P, w⟩ 1 m_read_rule) :=
  fn_ok F sc_read_rule fun cdv A outer s H E hr tk => by
    have hu := hr.units
    exact ss_cons (s_if (t_not (t_val (e_callB call_isi (rf_isi (by decide)) (by rfl) T.n_isinstance bb_isinstance (a_cons (e_var 0 (pv 0)) (a_cons (e_con (v := .ty "str") (pe_bltn (by rfl) T.n_str bb_str rfl) (fun _ _ => by unfold RD; rfl)) a_nil))))) (ss_one (s_raise tk rfl T.x_BadText (hr.mono (by decide)) (by rfl) (a_cons (e_int) (a_nil)))) (ss_nil)) (ss_cons (s_set 1 sc_read_rule.nd rfl (by first | exact Or.inl rfl | exact Or.inr rfl) (e_bm PySem.F.plainAttrs_str PySem.F.slot_str_split PySem.F.type_str_split mt_split rf_split (e_var 0 (pv 0)) (a_cons (e_str) (a_nil)))) (ss_cons (s_set 2 sc_read_rule.nd rfl (by first | exact Or.inl rfl | exact Or.inr rfl) (e_bm PySem.F.plainAttrs_str PySem.F.slot_str_split PySem.F.type_str_split mt_split rf_split (e_ix hu (e_var 1 (pv 1)) (e_int) (fun _ _ => rfl)) (a_cons (e_str) (a_nil)))) (ss_cons (s_if (PW.pt (w_or (t_cmp (op_neM hu) rf_ne (e_ix hu (e_var 2 (pv 2)) (e_int) (fun _ _ => rfl)) (e_str) (nomark _)) (w_or1 (t_cmp op_isN rf_isN (e_call C_rule_of (hr.mono (by decide)) tk (by rfl) (a_cons (e_sl (e_var 2 (pv 2)) (o_some (e_int)) (o_no)) (a_cons (e_lst (a_nil)) (a_nil)))) (e_non) (nomark _))))) (ss_one (s_raise tk rfl T.x_BadText (hr.mono (by decide)) (by rfl) (a_cons (e_int) (a_nil)))) (ss_nil)) (ss_cons (s_set 3 sc_read_rule.nd rfl (by first | exact Or.inl rfl | exact Or.inr rfl) (e_lst (a_nil))) (ss_cons (s_for (passes_of rfl) rfl (i_enum2 (by rfl) T.n_enumerate (a_cons (e_sl (e_var 1 (pv 1)) (o_some (e_int)) (o_no)) (a_nil))) (g_tup rfl (gs_cons (g_name 4 sc_read_rule.nd rfl (by first | exact Or.inl rfl | exact Or.inr rfl)) (gs_cons (g_name 5 sc_read_rule.nd rfl (by first | exact Or.inl rfl | exact Or.inr rfl)) (gs_nil)))) (ss_cons (s_set 6 sc_read_rule.nd rfl (by first | exact Or.inl rfl | exact Or.inr rfl) (e_call C_read_line (hr.mono (by decide)) tk (by rfl) (a_cons (e_var 5 (pv 5)) (a_nil)))) (ss_cons (s_if (PW.pt (w_or (t_cmp op_isN rf_isN (e_var 6 (pv 6)) (e_non) (nomark _)) (w_or (t_cmp op_geM rf_ge (e_var 4 (pv 4)) (e_gint T.c_MOST_LINES (by rfl)) (nomark _)) (w_or (t_cmp op_isN rf_isN (e_call C_rule_of (hr.mono (by decide)) tk (by rfl) (a_cons (e_sl (e_var 2 (pv 2)) (o_some (e_int)) (o_no)) (a_cons (e_lst (a_cons (e_var 6 (pv 6)) (a_nil))) (a_nil)))) (e_non) (nomark _)) (w_or1 (t_cmp (op_neM hu) rf_ne (e_call C_line_text (hr.mono (by decide)) tk (by rfl) (a_cons (e_var 6 (pv 6)) (a_nil))) (e_var 5 (pv 5)) (nomark _))))))) (ss_one (s_raise tk rfl T.x_BadText (hr.mono (by decide)) (by rfl) (a_cons (e_bin op_addM rf_add (e_var 4 (pv 4)) (e_int)) (a_nil)))) (ss_nil)) (ss_cons (s_if (PW.pt (w_and (t_cmp (op_eqM hu) rf_eq (e_var 4 (pv 4)) (e_bin op_sub rf_sub (e_gint T.c_MOST_LINES (by rfl)) (e_int)) (nomark _)) (w_and1 (t_cmp (op_neM hu) rf_ne (e_ix hu (e_var 6 (pv 6)) (e_int) (fun _ _ => rfl)) (e_tup (a_nil)) (nomark _))))) (ss_one (s_raise tk rfl T.x_BadText (hr.mono (by decide)) (by rfl) (a_cons (e_bin op_addM rf_add (e_var 4 (pv 4)) (e_int)) (a_nil)))) (ss_nil)) (ss_one (s_expr (e_bm PySem.F.plainAttrs_list PySem.F.slot_list_append PySem.F.type_list_append mt_append rf_append (e_var 3 (pv 3)) (a_cons (e_var 6 (pv 6)) (a_nil))))))))) (ss_cons (s_if (PW.pt (w_or (t_cmp (op_eqM hu) rf_eq (e_var 3 (pv 3)) (e_lst (a_nil)) (nomark _)) (w_or1 (t_cmp (op_neM hu) rf_ne (e_ix hu (e_ix hu (e_var 3 (pv 3)) (e_un un_neg rf_neg (e_int)) (fun _ _ => rfl)) (e_int) (fun _ _ => rfl)) (e_tup (a_nil)) (nomark _))))) (ss_one (s_raise tk rfl T.x_BadText (hr.mono (by decide)) (by rfl) (a_cons (e_bin op_addM rf_add (e_callB call_lenM rf_len (by rfl) T.n_len bb_len (a_cons (e_var 1 (pv 1)) (a_nil))) (e_int)) (a_nil)))) (ss_nil)) (ss_one (s_ret (e_makeX I_Rule (fun ds h hl => by unfold m_Rule_init fnM; rw [if_neg hl]) (hr.mono (by decide)) tk (by rfl) (a_cons (e_sl (e_var 2 (pv 2)) (o_some (e_int)) (o_no)) (a_cons (e_var 3 (pv 3)) (a_nil))))))))))))
theorem sc_law_source : FnScope N_law_source ["script", "start"] (defScope s_law_source) := ⟨rfl, rfl, rfl, by decide +kernel, rfl, by decide +kernel, by decide +kernel⟩
theorem ok_law_source {f : Addr} {fd : FuncData} (F : Fun K "_law_source" "_law_source" s_law_source f fd) (T : Txt P w K mg base)  : FnOk P w K mg base (L2.CX P w) 1 f fd ["script", "start"] (spM ⟨K, mg, P, w⟩ 2 m_law_source) :=
  fn_ok F sc_law_source fun cdv A outer s H E hr tk => by
    have hu := hr.units
    exact ss_cons (s_set 2 sc_law_source.nd rfl (by first | exact Or.inl rfl | exact Or.inr rfl) (e_bin op_addM rf_add (e_int) (e_var 1 (pv 1)))) (ss_cons (s_for (passes_of rfl) rfl (i_any (e_var 0 (pv 0))) (g_name 3 sc_law_source.nd rfl (by first | exact Or.inl rfl | exact Or.inr rfl)) (ss_one (s_set 2 sc_law_source.nd rfl (by first | exact Or.inl rfl | exact Or.inr rfl) (e_bin op_addM rf_add (e_bin op_mod rf_mod (e_callTy call_int1 rf_int (by rfl) T.n_int bb_int (a_cons (e_bin op_powM rf_pow (e_callTy call_int1 rf_int (by rfl) T.n_int bb_int (a_cons (e_bin op_addM rf_add (e_bin (OpR.or op_mulM op_rep) rf_mul (e_var 2 (pv 2)) (e_int)) (e_callTy call_int1 rf_int (by rfl) T.n_int bb_int (a_cons (e_var 3 (pv 3)) (a_nil)))) (a_nil))) (e_int)) (a_nil))) (e_int)) (e_int))))) (ss_cons (s_set 4 sc_law_source.nd rfl (by first | exact Or.inl rfl | exact Or.inr rfl) (e_int)) (ss_cons (s_if (PW.pt (w_and (t_cmp op_ltM rf_lt (e_var 1 (pv 1)) (e_callB call_lenM rf_len (by rfl) T.n_len bb_len (a_cons (e_var 0 (pv 0)) (a_nil))) (nomark _)) (w_and1 (t_cmp op_geM rf_ge (e_ix hu (e_var 0 (pv 0)) (e_var 1 (pv 1)) (fun _ _ => rfl)) (e_bin op_powM rf_pow (e_int) (e_int)) (nomark _))))) (ss_one (s_set 4 sc_law_source.nd rfl (by first | exact Or.inl rfl | exact Or.inr rfl) (e_bin op_sub rf_sub (e_ix hu (e_var 0 (pv 0)) (e_var 1 (pv 1)) (fun _ _ => rfl)) (e_bin op_powM rf_pow (e_int) (e_int))))) (ss_nil)) (ss_one (s_ret (e_lst (a_cons (e_var 4 (pv 4)) (a_cons (e_var 2 (pv 2)) (a_nil)))))))))
theorem sc_law_draw : FnScope N_law_draw ["source", "span"] (defScope s_law_draw) := ⟨rfl, rfl, rfl, by decide +kernel, rfl, by decide +kernel, by decide +kernel⟩
theorem ok_law_draw {f : Addr} {fd : FuncData} (F : Fun K "_law_draw" "_law_draw" s_law_draw f fd) (T : Txt P w K mg base)  : FnOk P w K mg base (L2.CX P w) 1 f fd ["source", "span"] (spM ⟨K, mg, P, w⟩ 2 m_law_draw) :=
  fn_ok F sc_law_draw fun cdv A outer s H E hr tk => by
    have hu := hr.units
    exact ss_cons (s_if (t_cmp op_geM rf_ge (e_ix hu (e_var 0 (pv 0)) (e_int) (fun _ _ => rfl)) (e_var 1 (pv 1)) (nomark _)) (ss_cons (s_set 2 sc_law_draw.nd rfl (by first | exact Or.inl rfl | exact Or.inr rfl) (e_bin op_mod rf_mod (e_callTy call_int1 rf_int (by rfl) T.n_int bb_int (a_cons (e_ix hu (e_var 0 (pv 0)) (e_int) (fun _ _ => rfl)) (a_nil))) (e_var 1 (pv 1)))) (ss_cons (s_setX hu (e_bin op_fdivW rf_fdiv (e_ix hu (e_var 0 (pv 0)) (e_int) (fun _ _ => rfl)) (e_var 1 (pv 1))) (e_var 0 (pv 0)) (e_int)) (ss_one (s_ret (e_var 2 (pv 2)))))) (ss_nil)) (ss_cons (s_setX hu (e_bin op_mod rf_mod (e_callTy call_int1 rf_int (by rfl) T.n_int bb_int (a_cons (e_bin op_addM rf_add (e_bin (OpR.or op_mulM op_rep) rf_mul (e_ix hu (e_var 0 (pv 0)) (e_int) (fun _ _ => rfl)) (e_int)) (e_int)) (a_nil))) (e_int)) (e_var 0 (pv 0)) (e_int)) (ss_one (s_ret (e_bin op_mod rf_mod (e_callTy call_int1 rf_int (by rfl) T.n_int bb_int (a_cons (e_bin op_fdivW rf_fdiv (e_bin op_mod rf_mod (e_callTy call_int1 rf_int (by rfl) T.n_int bb_int (a_cons (e_bin op_powM rf_pow (e_callTy call_int1 rf_int (by rfl) T.n_int bb_int (a_cons (e_ix hu (e_var 0 (pv 0)) (e_int) (fun _ _ => rfl)) (a_nil))) (e_int)) (a_nil))) (e_int)) (e_int)) (a_nil))) (e_var 1 (pv 1))))))
theorem sc_law_pick : FnScope N_law_pick ["source", "things"] (defScope s_law_pick) := ⟨rfl, rfl, rfl, by decide +kernel, rfl, by decide +kernel, by decide +kernel⟩
theorem ok_law_pick {f : Addr} {fd : FuncData} (F : Fun K "_law_pick" "_law_pick" s_law_pick f fd) (T : Txt P w K mg base) (C_law_draw : Cal P w K mg base "_law_draw" 1 m_law_draw) : FnOk P w K mg base (L2.CX P w) 2 f fd ["source", "things"] (spM ⟨K, mg, P, w⟩ 2 m_law_pick) :=
  fn_ok F sc_law_pick fun cdv A outer s H E hr tk => by
    have hu := hr.units
    exact ss_one (s_ret (e_ix hu (e_var 1 (pv 1)) (e_call C_law_draw (hr.mono (by decide)) tk (by rfl) (a_cons (e_var 0 (pv 0)) (a_cons (e_callB call_lenM rf_len (by rfl) T.n_len bb_len (a_cons (e_var 1 (pv 1)) (a_nil))) (a_nil)))) (fun _ _ => rfl)))
theorem sc_law_mixed : FnScope N_law_mixed ["source", "things"] (defScope s_law_mixed) := ⟨rfl, rfl, rfl, by decide +kernel, rfl, by decide +kernel, by decide +kernel⟩
theorem ok_law_mixed {f : Addr} {fd : FuncData} (F : Fun K "_law_mixed" "_law_mixed" s_law_mixed f fd) (T : Txt P w K mg base) (C_law_draw : Cal P w K mg base "_law_draw" 1 m_law_draw) : FnOk P w K mg base (L2.CX P w) 2 f fd ["source", "things"] (spM ⟨K, mg, P, w⟩ 2 m_law_mixed) :=
  fn_ok F sc_law_mixed fun cdv A outer s H E hr tk => by
    have hu := hr.units
    exact ss_cons (s_par2 2 3 rfl sc_law_mixed.nd rfl rfl (by decide) rfl rfl (a_cons (e_callTy call_list_of rf_list (by rfl) T.n_list bb_list (a_cons (e_var 1 (pv 1)) (a_nil))) (a_cons (e_lst (a_nil)) (a_nil))) rfl) (ss_cons (s_while 100 (passes_of rfl) (t_cmp (op_neM hu) rf_ne (e_var 2 (pv 2)) (e_lst (a_nil)) (nomark _)) (ss_one (s_expr (e_bm PySem.F.plainAttrs_list PySem.F.slot_list_append PySem.F.type_list_append mt_append rf_append (e_var 3 (pv 3)) (a_cons (e_bm PySem.F.plainAttrs_list PySem.F.slot_list_pop PySem.F.type_list_pop mt_popM rf_pop (e_var 2 (pv 2)) (a_cons (e_call C_law_draw (hr.mono (by decide)) tk (by rfl) (a_cons (e_var 0 (pv 0)) (a_cons (e_callB call_lenM rf_len (by rfl) T.n_len bb_len (a_cons (e_var 2 (pv 2)) (a_nil))) (a_nil)))) (a_nil))) (a_nil)))))) (ss_one (s_ret (e_var 3 (pv 3)))))
theorem sc_law_steps : FnScope N_law_steps ["source", "lot", "most"] (defScope s_law_steps) := ⟨rfl, rfl, rfl, by decide +kernel, rfl, by decide +kernel, by decide +kernel⟩
theorem ok_law_steps {f : Addr} {fd : FuncData} (F : Fun K "_law_steps" "_law_steps" s_law_steps f fd) (T : Txt P w K mg base) (C_law_draw : Cal P w K mg base "_law_draw" 1 m_law_draw) (C_law_pick : Cal P w K mg base "_law_pick" 2 m_law_pick) : FnOk P w K mg base (L2.CX P w) 3 f fd ["source", "lot", "most"] (spM ⟨K, mg, P, w⟩ 3 m_law_steps) :=
  fn_ok F sc_law_steps fun cdv A outer s H E hr tk => by
    have hu := hr.units
    exact ss_cons (s_set 3 sc_law_steps.nd rfl (by first | exact Or.inl rfl | exact Or.inr rfl) (e_lst (a_nil))) (ss_cons (s_for (passes_of rfl) rfl (i_range1 (by rfl) T.n_range (a_cons (e_call C_law_draw (hr.mono (by decide)) tk (by rfl) (a_cons (e_var 0 (pv 0)) (a_cons (e_bin op_addM rf_add (e_var 2 (pv 2)) (e_int)) (a_nil)))) (a_nil))) (g_name 4 sc_law_steps.nd rfl (by first | exact Or.inl rfl | exact Or.inr rfl)) (ss_cons (s_set 5 sc_law_steps.nd rfl (by first | exact Or.inl rfl | exact Or.inr rfl) (e_call C_law_pick (hr.mono (by decide)) tk (by rfl) (a_cons (e_var 0 (pv 0)) (a_cons (e_bin op_addM rf_add (e_lst (a_cons (e_str) (a_nil))) (e_callTy call_list_of rf_list (by rfl) T.n_list bb_list (a_cons (e_var 1 (pv 1)) (a_nil)))) (a_nil))))) (ss_one (s_expr (e_bm PySem.F.plainAttrs_list PySem.F.slot_list_append PySem.F.type_list_append mt_append rf_append (e_var 3 (pv 3)) (a_cons (e_tup (a_cons (e_var 5 (pv 5)) (a_cons (e_call C_law_pick (hr.mono (by decide)) tk (by rfl) (a_cons (e_var 0 (pv 0)) (a_cons (e_bin op_addM rf_add (e_lst (a_cons (e_str) (a_cons (e_str) (a_cons (e_str) (a_cons (e_str) (a_nil)))))) (e_callTy call_list_of rf_list (by rfl) T.n_list bb_list (a_cons (e_var 1 (pv 1)) (a_nil)))) (a_nil)))) (a_nil)))) (a_nil))))))) (ss_one (s_ret (e_callTy call_tuple_of rf_tuple (by rfl) T.n_tuple bb_tuple (a_cons (e_var 3 (pv 3)) (a_nil))))))
theorem sc_law_tests : FnScope N_law_tests ["source", "lot", "most"] (defScope s_law_tests) := ⟨rfl, rfl, rfl, by decide +kernel, rfl, by decide +kernel, by decide +kernel⟩
theorem ok_law_tests {f : Addr} {fd : FuncData} (F : Fun K "_law_tests" "_law_tests" s_law_tests f fd) (T : Txt P w K mg base) (C_law_draw : Cal P w K mg base "_law_draw" 1 m_law_draw) (C_law_pick : Cal P w K mg base "_law_pick" 2 m_law_pick) : FnOk P w K mg base (L2.CX P w) 3 f fd ["source", "lot", "most"] (spM ⟨K, mg, P, w⟩ 3 m_law_tests) :=
  fn_ok F sc_law_tests fun cdv A outer s H E hr tk => by
    have hu := hr.units
    exact ss_cons (s_par2 4 5 rfl sc_law_tests.nd rfl rfl (by decide) rfl rfl (a_cons (e_call C_law_draw (hr.mono (by decide)) tk (by rfl) (a_cons (e_var 0 (pv 0)) (a_cons (e_int) (a_nil)))) (a_cons (e_lst (a_nil)) (a_nil))) rfl) (ss_cons (s_for (passes_of rfl) rfl (i_range1 (by rfl) T.n_range (a_cons (e_if (t_cmp op_gtM rf_gt (e_var 4 (pv 4)) (e_int) (nomark _)) (e_bin op_addM rf_add (e_int) (e_call C_law_draw (hr.mono (by decide)) tk (by rfl) (a_cons (e_var 0 (pv 0)) (a_cons (e_var 2 (pv 2)) (a_nil))))) (e_int)) (a_nil))) (g_name 3 sc_law_tests.nd rfl (by first | exact Or.inl rfl | exact Or.inr rfl)) (ss_cons (s_set 6 sc_law_tests.nd rfl (by first | exact Or.inl rfl | exact Or.inr rfl) (e_call C_law_pick (hr.mono (by decide)) tk (by rfl) (a_cons (e_var 0 (pv 0)) (a_cons (e_bin op_addM rf_add (e_lst (a_cons (e_str) (a_cons (e_str) (a_cons (e_str) (a_nil))))) (e_callTy call_list_of rf_list (by rfl) T.n_list bb_list (a_cons (e_var 1 (pv 1)) (a_nil)))) (a_nil))))) (ss_cons (s_set 7 sc_law_tests.nd rfl (by first | exact Or.inl rfl | exact Or.inr rfl) (e_call C_law_pick (hr.mono (by decide)) tk (by rfl) (a_cons (e_var 0 (pv 0)) (a_cons (e_bin op_addM rf_add (e_lst (a_cons (e_str) (a_cons (e_str) (a_cons (e_str) (a_nil))))) (e_callTy call_list_of rf_list (by rfl) T.n_list bb_list (a_cons (e_var 1 (pv 1)) (a_nil)))) (a_nil))))) (ss_one (s_expr (e_bm PySem.F.plainAttrs_list PySem.F.slot_list_append PySem.F.type_list_append mt_append rf_append (e_var 5 (pv 5)) (a_cons (e_tup (a_cons (e_var 6 (pv 6)) (a_cons (e_var 7 (pv 7)) (a_cons (e_cmp op_gtM rf_gt (e_call C_law_draw (hr.mono (by decide)) tk (by rfl) (a_cons (e_var 0 (pv 0)) (a_cons (e_int) (a_nil)))) (e_int) (nomark _)) (a_nil))))) (a_nil)))))))) (ss_one (s_ret (e_if (t_cmp (op_eqM hu) rf_eq (e_var 4 (pv 4)) (e_int) (nomark _)) (e_callTy call_tuple_of rf_tuple (by rfl) T.n_tuple bb_tuple (a_cons (e_bin op_addM rf_add (e_bin (OpR.or op_mulM op_rep) rf_mul (e_lst (a_cons (e_tup (a_cons (e_str) (a_cons (e_str) (a_cons (e_bl) (a_nil))))) (a_nil))) (e_bin op_sub rf_sub (e_int) (e_callB call_lenM rf_len (by rfl) T.n_len bb_len (a_cons (e_var 5 (pv 5)) (a_nil))))) (e_var 5 (pv 5))) (a_nil))) (e_callTy call_tuple_of rf_tuple (by rfl) T.n_tuple bb_tuple (a_cons (e_var 5 (pv 5)) (a_nil)))))))
theorem sc_law_good : FnScope N_law_good ["source", "note"] (defScope s_law_good) := ⟨rfl, rfl, rfl, by decide +kernel, rfl, by decide +kernel, by decide +kernel⟩
theorem ok_law_good {f : Addr} {fd : FuncData} (F : Fun K "_law_good" "_law_good" s_law_good f fd) (T : Txt P w K mg base) (C_law_draw : Cal P w K mg base "_law_draw" 1 m_law_draw) (C_law_mixed : Cal P w K mg base "_law_mixed" 2 m_law_mixed) : FnOk P w K mg base (L2.CX P w) 3 f fd ["source", "note"] (spM ⟨K, mg, P, w⟩ 2 m_law_good) :=
  fn_ok F sc_law_good fun cdv A outer s H E hr tk => by
    have hu := hr.units
    exact ss_cons (s_set 2 sc_law_good.nd rfl (by first | exact Or.inl rfl | exact Or.inr rfl) (e_lst (a_cons (e_tup (a_cons (e_tup (a_cons (e_tup (a_cons (e_str) (a_cons (e_var 1 (pv 1)) (a_cons (e_bl) (a_nil))))) (a_nil))) (a_cons (e_tup (a_cons (e_tup (a_cons (e_str) (a_cons (e_str) (a_nil)))) (a_cons (e_tup (a_cons (e_var 1 (pv 1)) (a_cons (e_str) (a_nil)))) (a_nil)))) (a_nil)))) (a_cons (e_tup (a_cons (e_tup (a_cons (e_tup (a_cons (e_str) (a_cons (e_str) (a_cons (e_bl) (a_nil))))) (a_nil))) (a_cons (e_tup (a_cons (e_tup (a_cons (e_var 1 (pv 1)) (a_cons (e_str) (a_nil)))) (a_nil))) (a_nil)))) (a_nil))))) (ss_cons (s_expr (e_bm PySem.F.plainAttrs_list PySem.F.slot_list_append PySem.F.type_list_append mt_append rf_append (e_var 2 (pv 2)) (a_cons (e_tup (a_cons (e_tup (a_cons (e_tup (a_cons (e_str) (a_cons (e_var 1 (pv 1)) (a_cons (e_bl) (a_nil))))) (a_nil))) (a_cons (e_tup (a_nil)) (a_nil)))) (a_nil)))) (ss_cons (s_set 3 sc_law_good.nd rfl (by first | exact Or.inl rfl | exact Or.inr rfl) (e_call C_law_draw (hr.mono (by decide)) tk (by rfl) (a_cons (e_var 0 (pv 0)) (a_cons (e_int) (a_nil))))) (ss_cons (s_if (t_cmp (op_eqM hu) rf_eq (e_var 3 (pv 3)) (e_int) (nomark _)) (ss_one (s_expr (e_bm PySem.F.plainAttrs_list PySem.F.slot_list_pop PySem.F.type_list_pop mt_popM rf_pop (e_var 2 (pv 2)) (a_cons (e_call C_law_draw (hr.mono (by decide)) tk (by rfl) (a_cons (e_var 0 (pv 0)) (a_cons (e_int) (a_nil)))) (a_nil))))) (ss_nil)) (ss_cons (s_if (t_cmp (op_eqM hu) rf_eq (e_var 3 (pv 3)) (e_int) (nomark _)) (ss_one (s_set 2 sc_law_good.nd rfl (by first | exact Or.inl rfl | exact Or.inr rfl) (e_call C_law_mixed (hr.mono (by decide)) tk (by rfl) (a_cons (e_var 0 (pv 0)) (a_cons (e_var 2 (pv 2)) (a_nil)))))) (ss_nil)) (ss_cons (s_if (t_cmp (op_eqM hu) rf_eq (e_var 3 (pv 3)) (e_int) (nomark _)) (ss_one (s_setX hu (e_tup (a_cons (e_ix hu (e_ix hu (e_var 2 (pv 2)) (e_int) (fun _ _ => rfl)) (e_int) (fun _ _ => rfl)) (a_cons (e_rev (e_ix hu (e_ix hu (e_var 2 (pv 2)) (e_int) (fun _ _ => rfl)) (e_int) (fun _ _ => rfl))) (a_nil)))) (e_var 2 (pv 2)) (e_int))) (ss_nil)) (ss_one (s_ret (e_var 2 (pv 2)))))))))
theorem sc_law_noted_as : FnScope N_law_noted_as ["word", "names", "lines"] (defScope s_law_noted_as) := ⟨rfl, rfl, rfl, by decide +kernel, rfl, by decide +kernel, by decide +kernel⟩
theorem ok_law_noted_as {f : Addr} {fd : FuncData} (F : Fun K "_law_noted_as" "_law_noted_as" s_law_noted_as f fd) (T : Txt P w K mg base)  : FnOk P w K mg base (L2.CX P w) 1 f fd ["word", "names", "lines"] (spM ⟨K, mg, P, w⟩ 3 m_law_noted_as) :=
  fn_ok F sc_law_noted_as fun cdv A outer s H E hr tk => by
    have hu := hr.units
    exact ss_cons (s_set 3 sc_law_noted_as.nd rfl (by first | exact Or.inl rfl | exact Or.inr rfl) (e_lst (a_nil))) (ss_cons (s_for (passes_of rfl) rfl (i_any (e_var 2 (pv 2))) (g_name 4 sc_law_noted_as.nd rfl (by first | exact Or.inl rfl | exact Or.inr rfl)) (ss_cons (s_setLc 5 (own := [("part", 6)]) rfl sc_law_noted_as.nd rfl rfl (L2.sw_true rfl rfl rfl rfl) (i_any (e_var 4 (pv 4))) (blkOk_by (N := N_law_noted_as) (sc := defScope s_law_noted_as) (by decide +kernel)) (fun _ _ _ _ _ => g_name 6 sc_law_noted_as.nd rfl (by first | exact Or.inl rfl | exact Or.inr rfl)) (fun _ _ _ _ _ => ts_nil) (fun _ _ _ _ _ => e_callTy call_tuple_of rf_tuple (by rfl) T.n_tuple bb_tuple (a_cons (e_lc (own := [("entry", 8)]) rfl sc_law_noted_as.nd (i_any (e_var 6 (pv 6))) (blkOk_by (by kernel_rfl)) (fun _ _ _ _ _ => g_name 8 sc_law_noted_as.nd rfl (by first | exact Or.inl rfl | exact Or.inr rfl)) (fun _ _ _ _ _ => ts_nil) (fun _ _ _ _ _ => e_callTy call_tuple_of rf_tuple (by rfl) T.n_tuple bb_tuple (a_cons (e_lc (own := [("one", 9)]) rfl sc_law_noted_as.nd (i_any (e_var 8 (pv 8))) (blkOk_by (by kernel_rfl)) (fun _ _ _ _ _ => g_name 9 sc_law_noted_as.nd rfl (by first | exact Or.inl rfl | exact Or.inr rfl)) (fun _ _ _ _ _ => ts_nil) (fun _ _ _ _ _ => e_if (t_cmp (op_eqM hu) rf_eq (e_var 9 (pv 9)) (e_str) (nomark _)) (e_var 0 (pv 0)) (e_var 9 (pv 9)))) (a_nil)))) (a_nil)))) (ss_one (s_expr (e_bm PySem.F.plainAttrs_list PySem.F.slot_list_append PySem.F.type_list_append mt_append rf_append (e_var 3 (pv 3)) (a_cons (e_callTy call_tuple_of rf_tuple (by rfl) T.n_tuple bb_tuple (a_cons (e_var 5 (pv 5)) (a_nil))) (a_nil))))))) (ss_one (s_ret (e_tup (a_cons (e_callTy call_tuple_of rf_tuple (by rfl) T.n_tuple bb_tuple (a_cons (e_lc (own := [("name", 7)]) rfl sc_law_noted_as.nd (i_any (e_var 1 (pv 1))) (blkOk_by (N := N_law_noted_as) (sc := defScope s_law_noted_as) (by decide +kernel)) (fun _ _ _ _ _ => g_name 7 sc_law_noted_as.nd rfl (by first | exact Or.inl rfl | exact Or.inr rfl)) (fun _ _ _ _ _ => ts_nil) (fun _ _ _ _ _ => e_if (t_cmp (op_eqM hu) rf_eq (e_var 7 (pv 7)) (e_str) (nomark _)) (e_var 0 (pv 0)) (e_var 7 (pv 7)))) (a_nil))) (a_cons (e_callTy call_tuple_of rf_tuple (by rfl) T.n_tuple bb_tuple (a_cons (e_var 3 (pv 3)) (a_nil))) (a_nil)))))))
theorem sc_law_plan : FnScope N_law_plan ["source"] (defScope s_law_plan) := ⟨rfl, rfl, rfl, by decide +kernel, rfl, by decide +kernel, by decide +kernel⟩
theorem ok_law_plan {f : Addr} {fd : FuncData} (F : Fun K "_law_plan" "_law_plan" s_law_plan f fd) (T : Txt P w K mg base) (C_law_draw : Cal P w K mg base "_law_draw" 1 m_law_draw) (C_law_good : Cal P w K mg base "_law_good" 3 m_law_good) (C_law_noted_as : Cal P w K mg base "_law_noted_as" 1 m_law_noted_as) (C_law_pick : Cal P w K mg base "_law_pick" 2 m_law_pick) (C_law_steps : Cal P w K mg base "_law_steps" 3 m_law_steps) (C_law_tests : Cal P w K mg base "_law_tests" 3 m_law_tests) : FnOk P w K mg base (L2.CX P w) 4 f fd ["source"] (spM ⟨K, mg, P, w⟩ 1 m_law_plan) :=
  fn_ok F sc_law_plan fun cdv A outer s H E hr tk => by
    have hu := hr.units
    exact ss_cons (s_set 1 sc_law_plan.nd rfl (by first | exact Or.inl rfl | exact Or.inr rfl) (e_lst (a_cons (e_tup (a_nil)) (a_cons (e_tup (a_cons (e_str) (a_nil))) (a_cons (e_tup (a_cons (e_str) (a_nil))) (a_cons (e_tup (a_cons (e_str) (a_nil))) (a_cons (e_tup (a_cons (e_str) (a_cons (e_str) (a_nil)))) (a_cons (e_tup (a_cons (e_str) (a_cons (e_str) (a_nil)))) (a_cons (e_tup (a_cons (e_str) (a_cons (e_str) (a_nil)))) (a_cons (e_tup (a_cons (e_str) (a_cons (e_str) (a_nil)))) (a_nil))))))))))) (ss_cons (s_set 2 sc_law_plan.nd rfl (by first | exact Or.inl rfl | exact Or.inr rfl) (e_call C_law_pick (hr.mono (by decide)) tk (by rfl) (a_cons (e_var 0 (pv 0)) (a_cons (e_bin op_addM rf_add (e_var 1 (pv 1)) (e_lst (a_cons (e_tup (a_cons (e_str) (a_cons (e_str) (a_nil)))) (a_cons (e_tup (a_cons (e_str) (a_cons (e_str) (a_cons (e_str) (a_nil))))) (a_cons (e_tup (a_cons (e_str) (a_cons (e_str) (a_cons (e_str) (a_nil))))) (a_nil)))))) (a_nil))))) (ss_cons (s_set 3 sc_law_plan.nd rfl (by first | exact Or.inl rfl | exact Or.inr rfl) (e_lst (a_nil))) (ss_cons (s_if (PW.pt (w_and (t_cmp (op_inM hu) rf_in (e_str) (e_var 2 (pv 2)) (by with_unfolding_all rfl)) (w_and1 (t_cmp op_gtM rf_gt (e_call C_law_draw (hr.mono (by decide)) tk (by rfl) (a_cons (e_var 0 (pv 0)) (a_cons (e_int) (a_nil)))) (e_int) (nomark _))))) (ss_one (s_set 3 sc_law_plan.nd rfl (by first | exact Or.inl rfl | exact Or.inr rfl) (e_call C_law_good (hr.mono (by decide)) tk (by rfl) (a_cons (e_var 0 (pv 0)) (a_cons (e_str) (a_nil)))))) (ss_nil)) (ss_cons (s_for (passes_of rfl) rfl (i_range1 (by rfl) T.n_range (a_cons (e_call C_law_draw (hr.mono (by decide)) tk (by rfl) (a_cons (e_var 0 (pv 0)) (a_cons (e_int) (a_nil)))) (a_nil))) (g_name 4 sc_law_plan.nd rfl (by first | exact Or.inl rfl | exact Or.inr rfl)) (ss_cons (s_set 7 sc_law_plan.nd rfl (by first | exact Or.inl rfl | exact Or.inr rfl) (e_tup (a_cons (e_call C_law_tests (hr.mono (by decide)) tk (by rfl) (a_cons (e_var 0 (pv 0)) (a_cons (e_var 2 (pv 2)) (a_cons (e_int) (a_nil))))) (a_cons (e_call C_law_steps (hr.mono (by decide)) tk (by rfl) (a_cons (e_var 0 (pv 0)) (a_cons (e_var 2 (pv 2)) (a_cons (e_int) (a_nil))))) (a_nil))))) (ss_cons (s_if (t_cmp (op_eqM hu) rf_eq (e_call C_law_draw (hr.mono (by decide)) tk (by rfl) (a_cons (e_var 0 (pv 0)) (a_cons (e_int) (a_nil)))) (e_int) (nomark _)) (ss_one (s_set 7 sc_law_plan.nd rfl (by first | exact Or.inl rfl | exact Or.inr rfl) (e_bin op_addM rf_add (e_var 7 (pv 7)) (e_tup (a_cons (e_call C_law_steps (hr.mono (by decide)) tk (by rfl) (a_cons (e_var 0 (pv 0)) (a_cons (e_var 2 (pv 2)) (a_cons (e_int) (a_nil))))) (a_nil)))))) (ss_nil)) (ss_one (s_expr (e_bm PySem.F.plainAttrs_list PySem.F.slot_list_insert PySem.F.type_list_insert mt_insert rf_insert (e_var 3 (pv 3)) (a_cons (e_call C_law_draw (hr.mono (by decide)) tk (by rfl) (a_cons (e_var 0 (pv 0)) (a_cons (e_bin op_addM rf_add (e_callB call_lenM rf_len (by rfl) T.n_len bb_len (a_cons (e_var 3 (pv 3)) (a_nil))) (e_int)) (a_nil)))) (a_cons (e_var 7 (pv 7)) (a_nil))))))))) (ss_cons (s_set 5 sc_law_plan.nd rfl (by first | exact Or.inl rfl | exact Or.inr rfl) (e_lst (a_cons (e_tup (a_cons (e_tup (a_nil)) (a_cons (e_call C_law_steps (hr.mono (by decide)) tk (by rfl) (a_cons (e_var 0 (pv 0)) (a_cons (e_var 2 (pv 2)) (a_cons (e_int) (a_nil))))) (a_nil)))) (a_cons (e_tup (a_cons (e_tup (a_nil)) (a_cons (e_tup (a_cons (e_tup (a_cons (e_str) (a_cons (e_str) (a_nil)))) (a_nil))) (a_nil)))) (a_nil))))) (ss_cons (s_if (t_cmp (op_inM hu) rf_in (e_str) (e_var 2 (pv 2)) (by with_unfolding_all rfl)) (ss_one (s_set 5 sc_law_plan.nd rfl (by first | exact Or.inl rfl | exact Or.inr rfl) (e_bin op_addM rf_add (e_var 5 (pv 5)) (e_bin (OpR.or op_mulM op_rep) rf_mul (e_lst (a_cons (e_tup (a_cons (e_tup (a_nil)) (a_cons (e_tup (a_cons (e_tup (a_cons (e_str) (a_cons (e_str) (a_nil)))) (a_cons (e_tup (a_cons (e_str) (a_cons (e_str) (a_nil)))) (a_nil)))) (a_cons (e_tup (a_cons (e_tup (a_cons (e_str) (a_cons (e_str) (a_nil)))) (a_nil))) (a_nil))))) (a_nil))) (e_int))))) (ss_nil)) (ss_cons (s_if (t_cmp (op_inM hu) rf_in (e_str) (e_var 2 (pv 2)) (by with_unfolding_all rfl)) (ss_one (s_set 5 sc_law_plan.nd rfl (by first | exact Or.inl rfl | exact Or.inr rfl) (e_bin op_addM rf_add (e_var 5 (pv 5)) (e_lst (a_cons (e_tup (a_cons (e_tup (a_nil)) (a_cons (e_tup (a_cons (e_tup (a_cons (e_str) (a_cons (e_str) (a_nil)))) (a_cons (e_tup (a_cons (e_str) (a_cons (e_str) (a_nil)))) (a_nil)))) (a_nil)))) (a_cons (e_tup (a_cons (e_tup (a_nil)) (a_cons (e_tup (a_cons (e_tup (a_cons (e_str) (a_cons (e_str) (a_nil)))) (a_nil))) (a_nil)))) (a_nil))))))) (ss_nil)) (ss_cons (s_set 6 sc_law_plan.nd rfl (by first | exact Or.inl rfl | exact Or.inr rfl) (e_call C_law_pick (hr.mono (by decide)) tk (by rfl) (a_cons (e_var 0 (pv 0)) (a_cons (e_lst (a_cons (e_str) (a_cons (e_str) (a_cons (e_str) (a_cons (e_str) (a_cons (e_str) (a_cons (e_str) (a_cons (e_str) (a_cons (e_str) (a_nil)))))))))) (a_nil))))) (ss_one (s_ret (e_call C_law_noted_as (hr.mono (by decide)) tk (by rfl) (a_cons (e_var 6 (pv 6)) (a_cons (e_var 2 (pv 2)) (a_cons (e_bin op_addM rf_add (e_var 3 (pv 3)) (e_lst (a_cons (e_call C_law_pick (hr.mono (by decide)) tk (by rfl) (a_cons (e_var 0 (pv 0)) (a_cons (e_var 5 (pv 5)) (a_nil)))) (a_nil)))) (a_nil)))))))))))))))
theorem sc_law_rule : FnScope N_law_rule ["plan"] (defScope s_law_rule) := ⟨rfl, rfl, rfl, by decide +kernel, rfl, by decide +kernel, by decide +kernel⟩
theorem ok_law_rule {f : Addr} {fd : FuncData} (F : Fun K "_law_rule" "_law_rule" s_law_rule f fd) (T : Txt P w K mg base) (I_Rule : InC P w K mg base "Rule" 5 3 m_Rule_init) : FnOk P w K mg base (L2.CX P w) 7 f fd ["plan"] (spM ⟨K, mg, P, w⟩ 1 m_law_rule) :=
  fn_ok F sc_law_rule fun cdv A outer s H E hr tk => by
    have hu := hr.units
    exact ss_one (s_ret (e_makeX I_Rule (fun ds h hl => by unfold m_Rule_init fnM; rw [if_neg hl]) (hr.mono (by decide)) tk (by rfl) (a_cons (e_callTy call_list_of rf_list (by rfl) T.n_list bb_list (a_cons (e_ix hu (e_var 0 (pv 0)) (e_int) (fun _ _ => rfl)) (a_nil))) (a_cons (e_callTy call_list_of rf_list (by rfl) T.n_list bb_list (a_cons (e_ix hu (e_var 0 (pv 0)) (e_int) (fun _ _ => rfl)) (a_nil))) (a_nil)))))
theorem sc_law_written : FnScope N_law_written ["steps"] (defScope s_law_written) := ⟨rfl, rfl, rfl, by decide +kernel, rfl, by decide +kernel, by decide +kernel⟩
theorem ok_law_written {f : Addr} {fd : FuncData} (F : Fun K "_law_written" "_law_written" s_law_written f fd) (T : Txt P w K mg base)  : FnOk P w K mg base (L2.CX P w) 1 f fd ["steps"] (spM ⟨K, mg, P, w⟩ 1 m_law_written) :=
  fn_ok F sc_law_written fun cdv A outer s H E hr tk => by
    have hu := hr.units
    exact ss_cons (s_if (t_cmp (op_eqM hu) rf_eq (e_var 0 (pv 0)) (e_tup (a_nil)) (nomark _)) (ss_one (s_ret (e_str))) (ss_nil)) (ss_one (s_ret (e_bm PySem.F.plainAttrs_str PySem.F.slot_str_join PySem.F.type_str_join mt_join rf_join (e_str) (a_cons (e_lc (own := [("step", 1)]) rfl sc_law_written.nd (i_any (e_var 0 (pv 0))) (blkOk_by (N := N_law_written) (sc := defScope s_law_written) (by decide +kernel)) (fun _ _ _ _ _ => g_name 1 sc_law_written.nd rfl (by first | exact Or.inl rfl | exact Or.inr rfl)) (fun _ _ _ _ _ => ts_nil) (fun _ _ _ _ _ => e_bin op_addM rf_add (e_bin op_addM rf_add (e_ix hu (e_var 1 (pv 1)) (e_int) (fun _ _ => rfl)) (e_str)) (e_ix hu (e_var 1 (pv 1)) (e_int) (fun _ _ => rfl)))) (a_nil)))))
theorem sc_law_lines : FnScope N_law_lines ["plan"] (defScope s_law_lines) := ⟨rfl, rfl, rfl, by decide +kernel, rfl, by decide +kernel, by decide +kernel⟩
theorem ok_law_lines {f : Addr} {fd : FuncData} (F : Fun K "_law_lines" "_law_lines" s_law_lines f fd) (T : Txt P w K mg base) (C_law_written : Cal P w K mg base "_law_written" 1 m_law_written) : FnOk P w K mg base (L2.CX P w) 2 f fd ["plan"] (spM ⟨K, mg, P, w⟩ 1 m_law_lines) :=
  fn_ok F sc_law_lines fun cdv A outer s H E hr tk => by
    have hu := hr.units
    exact ss_cons (s_set 1 sc_law_lines.nd rfl (by first | exact Or.inl rfl | exact Or.inr rfl) (e_lst (a_cons (e_bm PySem.F.plainAttrs_str PySem.F.slot_str_join PySem.F.type_str_join mt_join rf_join (e_str) (a_cons (e_bin op_addM rf_add (e_lst (a_cons (e_str) (a_nil))) (e_callTy call_list_of rf_list (by rfl) T.n_list bb_list (a_cons (e_ix hu (e_var 0 (pv 0)) (e_int) (fun _ _ => rfl)) (a_nil)))) (a_nil))) (a_nil)))) (ss_cons (s_for (passes_of rfl) rfl (i_any (e_ix hu (e_var 0 (pv 0)) (e_int) (fun _ _ => rfl))) (g_name 2 sc_law_lines.nd rfl (by first | exact Or.inl rfl | exact Or.inr rfl)) (ss_cons (s_setLc 3 (own := [("test", 6)]) rfl sc_law_lines.nd rfl rfl (L2.sw_true rfl rfl rfl rfl) (i_any (e_ix hu (e_var 2 (pv 2)) (e_int) (fun _ _ => rfl))) (blkOk_by (N := N_law_lines) (sc := defScope s_law_lines) (by decide +kernel)) (fun _ _ _ _ _ => g_name 6 sc_law_lines.nd rfl (by first | exact Or.inl rfl | exact Or.inr rfl)) (fun _ _ _ _ _ => ts_nil) (fun _ _ _ _ _ => e_bin op_addM rf_add (e_bin op_addM rf_add (e_ix hu (e_var 6 (pv 6)) (e_int) (fun _ _ => rfl)) (e_if (t_val (e_ix hu (e_var 6 (pv 6)) (e_int) (fun _ _ => rfl))) (e_str) (e_str))) (e_ix hu (e_var 6 (pv 6)) (e_int) (fun _ _ => rfl)))) (ss_cons (s_set 4 sc_law_lines.nd rfl (by first | exact Or.inl rfl | exact Or.inr rfl) (e_if (t_cmp (op_neM hu) rf_ne (e_var 3 (pv 3)) (e_lst (a_nil)) (nomark _)) (e_bm PySem.F.plainAttrs_str PySem.F.slot_str_join PySem.F.type_str_join mt_join rf_join (e_str) (a_cons (e_var 3 (pv 3)) (a_nil))) (e_str))) (ss_cons (s_setLc 5 (own := [("steps", 7)]) rfl sc_law_lines.nd rfl rfl (L2.sw_true rfl rfl rfl rfl) (i_any (e_sl (e_var 2 (pv 2)) (o_some (e_int)) (o_no))) (blkOk_by (N := N_law_lines) (sc := defScope s_law_lines) (by decide +kernel)) (fun _ _ _ _ _ => g_name 7 sc_law_lines.nd rfl (by first | exact Or.inl rfl | exact Or.inr rfl)) (fun _ _ _ _ _ => ts_nil) (fun _ _ _ _ _ => e_call C_law_written (hr.mono (by decide)) takes_no (by rfl) (a_cons (e_var 7 (pv 7)) (a_nil)))) (ss_one (s_expr (e_bm PySem.F.plainAttrs_list PySem.F.slot_list_append PySem.F.type_list_append mt_append rf_append (e_var 1 (pv 1)) (a_cons (e_bin op_addM rf_add (e_bin op_addM rf_add (e_var 4 (pv 4)) (e_str)) (e_if (t_cmp (op_eqM hu) rf_eq (e_callB call_lenM rf_len (by rfl) T.n_len bb_len (a_cons (e_var 5 (pv 5)) (a_nil))) (e_int) (nomark _)) (e_ix hu (e_var 5 (pv 5)) (e_int) (fun _ _ => rfl)) (e_bin op_addM rf_add (e_bin op_addM rf_add (e_bin op_addM rf_add (e_str) (e_ix hu (e_var 5 (pv 5)) (e_int) (fun _ _ => rfl))) (e_str)) (e_ix hu (e_var 5 (pv 5)) (e_int) (fun _ _ => rfl))))) (a_nil))))))))) (ss_one (s_ret (e_var 1 (pv 1)))))
theorem sc_law_great : FnScope N_law_great ["source"] (defScope s_law_great) := ⟨rfl, rfl, rfl, by decide +kernel, rfl, by decide +kernel, by decide +kernel⟩
theorem ok_law_great {f : Addr} {fd : FuncData} (F : Fun K "_law_great" "_law_great" s_law_great f fd) (T : Txt P w K mg base) (C_law_mixed : Cal P w K mg base "_law_mixed" 2 m_law_mixed) (C_law_pick : Cal P w K mg base "_law_pick" 2 m_law_pick) : FnOk P w K mg base (L2.CX P w) 3 f fd ["source"] (spM ⟨K, mg, P, w⟩ 1 m_law_great) :=
  fn_ok F sc_law_great fun cdv A outer s H E hr tk => by
    have hu := hr.units
    exact ss_cons (s_par2 3 4 rfl sc_law_great.nd rfl rfl (by decide) rfl rfl (a_cons (e_sl (e_call C_law_mixed (hr.mono (by decide)) tk (by rfl) (a_cons (e_var 0 (pv 0)) (a_cons (e_lst (a_cons (e_str) (a_cons (e_str) (a_cons (e_str) (a_cons (e_str) (a_cons (e_str) (a_cons (e_str) (a_nil)))))))) (a_nil)))) (o_no) (o_some (e_int))) (a_cons (e_lst (a_nil)) (a_nil))) rfl) (ss_cons (s_set 1 sc_law_great.nd rfl (by first | exact Or.inl rfl | exact Or.inr rfl) (e_bin op_addM rf_add (e_lst (a_cons (e_str) (a_nil))) (e_var 3 (pv 3)))) (ss_cons (s_for (passes_of rfl) rfl (i_range1 (by rfl) T.n_range (a_cons (e_int) (a_nil))) (g_name 2 sc_law_great.nd rfl (by first | exact Or.inl rfl | exact Or.inr rfl)) (ss_cons (s_set 5 sc_law_great.nd rfl (by first | exact Or.inl rfl | exact Or.inr rfl) (e_callTy call_tuple_of rf_tuple (by rfl) T.n_tuple bb_tuple (a_cons (e_lc (own := [("turn", 7)]) rfl sc_law_great.nd (i_range1 (by rfl) T.n_range (a_cons (e_int) (a_nil))) (blkOk_by (N := N_law_great) (sc := defScope s_law_great) (by decide +kernel)) (fun _ _ _ _ _ => g_name 7 sc_law_great.nd rfl (by first | exact Or.inl rfl | exact Or.inr rfl)) (fun _ _ _ _ _ => ts_nil) (fun _ _ _ _ _ => e_tup (a_cons (e_call C_law_pick (hr.mono (by decide)) takes_no (by rfl) (a_cons (e_var 0 (pv 0)) (a_cons (e_var 1 (pv 1)) (a_nil)))) (a_cons (e_call C_law_pick (hr.mono (by decide)) takes_no (by rfl) (a_cons (e_var 0 (pv 0)) (a_cons (e_bin op_addM rf_add (e_var 1 (pv 1)) (e_lst (a_cons (e_str) (a_nil)))) (a_nil)))) (a_cons (e_cmp op_gtM rf_gt (e_var 2 (pv 2)) (e_int) (nomark _)) (a_nil)))))) (a_nil)))) (ss_cons (s_set 6 sc_law_great.nd rfl (by first | exact Or.inl rfl | exact Or.inr rfl) (e_callTy call_tuple_of rf_tuple (by rfl) T.n_tuple bb_tuple (a_cons (e_lc (own := [("turn", 7)]) rfl sc_law_great.nd (i_range1 (by rfl) T.n_range (a_cons (e_int) (a_nil))) (blkOk_by (N := N_law_great) (sc := defScope s_law_great) (by decide +kernel)) (fun _ _ _ _ _ => g_name 7 sc_law_great.nd rfl (by first | exact Or.inl rfl | exact Or.inr rfl)) (fun _ _ _ _ _ => ts_nil) (fun _ _ _ _ _ => e_tup (a_cons (e_call C_law_pick (hr.mono (by decide)) takes_no (by rfl) (a_cons (e_var 0 (pv 0)) (a_cons (e_var 1 (pv 1)) (a_nil)))) (a_cons (e_call C_law_pick (hr.mono (by decide)) takes_no (by rfl) (a_cons (e_var 0 (pv 0)) (a_cons (e_bin op_addM rf_add (e_var 1 (pv 1)) (e_lst (a_cons (e_str) (a_nil)))) (a_nil)))) (a_nil))))) (a_nil)))) (ss_one (s_expr (e_bm PySem.F.plainAttrs_list PySem.F.slot_list_append PySem.F.type_list_append mt_append rf_append (e_var 4 (pv 4)) (a_cons (e_bin op_addM rf_add (e_tup (a_cons (e_if (t_cmp op_ltM rf_lt (e_var 2 (pv 2)) (e_int) (nomark _)) (e_var 5 (pv 5)) (e_tup (a_nil))) (a_cons (e_var 6 (pv 6)) (a_nil)))) (e_bin op_rep01 rf_mul01 (e_tup (a_cons (e_rev (e_var 6 (pv 6))) (a_nil))) (e_callTy call_int1 rf_int (by rfl) T.n_int bb_int (a_cons (e_cmp op_gtM rf_gt (e_var 2 (pv 2)) (e_int) (nomark _)) (a_nil))))) (a_nil)))))))) (ss_one (s_ret (e_tup (a_cons (e_callTy call_tuple_of rf_tuple (by rfl) T.n_tuple bb_tuple (a_cons (e_var 3 (pv 3)) (a_nil))) (a_cons (e_callTy call_tuple_of rf_tuple (by rfl) T.n_tuple bb_tuple (a_cons (e_var 4 (pv 4)) (a_nil))) (a_nil))))))))
theorem sc_law : FnScope N_law ["script"] (defScope s_law) := ⟨rfl, rfl, rfl, by decide +kernel, rfl, by decide +kernel, by decide +kernel⟩
theorem ok_law {fa : Addr} {cdv : Value} {s : Shared} {H : Hp} {E : XK} (T : Txt P w K mg base) (C_law_great : Cal P w K mg base "_law_great" 3 m_law_great) (C_law_lines : Cal P w K mg base "_law_lines" 2 m_law_lines) (C_law_plan : Cal P w K mg base "_law_plan" 4 m_law_plan) (C_law_rule : Cal P w K mg base "_law_rule" 7 m_law_rule) (C_law_source : Cal P w K mg base "_law_source" 1 m_law_source) (C_read_rule : Cal P w K mg base "read_rule" 8 m_read_rule) (C_rule_text : Cal P w K mg base "rule_text" 3 m_rule_text) (D_read_rule_0_text : CalK P w K mg base "read_rule" 0 ["text"] 8 m_read_rule) (D_rule_text_0_rule : CalK P w K mg base "rule_text" 0 ["rule"] 3 m_rule_text) (Q_Rule : EqC P w K mg base "Rule" 1 ["Rule"] m_Rule_eq) (hr : Room 8 (callerA.deeper (envOfC "law" (defScope s_law) s.heap.objs.size fa cdv))) :
    PSs (cxOf (L2.CX P w) P w K mg base N_law "law" (defScope s_law) fa cdv callerA [] s H E) (defBody s_law) (tS ⟨K, mg, P, w⟩ (fun cls d _ H => E cls d H) b_law) := by
  have hu := hr.units
  have tk : Takes (cxOf (L2.CX P w) P w K mg base N_law "law" (defScope s_law) fa cdv callerA [] s H E) (fun cls d _ H => E cls d H) := takes_of rfl rfl rfl rfl
  have hgd : (cxOf (L2.CX P w) P w K mg base N_law "law" (defScope s_law) fa cdv callerA [] s H E).A.guards = some [] := rfl
  exact ss_cons (s_for (passes_of rfl) rfl (i_range1 (by rfl) T.n_range (a_cons (e_callB (call_max2 rfl) rf_max2 (by rfl) T.n_max bb_max (a_cons (e_int) (a_cons (e_callB (call_min2 rfl) rf_min2 (by rfl) T.n_min bb_min (a_cons (e_int) (a_cons (e_callB call_lenM rf_len (by rfl) T.n_len bb_len (a_cons (e_var 0 (pv 0)) (a_nil))) (a_nil)))) (a_nil)))) (a_nil))) (g_name 1 sc_law.nd rfl (by first | exact Or.inl rfl | exact Or.inr rfl)) (ss_cons (s_set 2 sc_law.nd rfl (by first | exact Or.inl rfl | exact Or.inr rfl) (e_call C_law_source (hr.mono (by decide)) tk (by rfl) (a_cons (e_var 0 (pv 0)) (a_cons (e_var 1 (pv 1)) (a_nil))))) (ss_cons (s_set 3 sc_law.nd rfl (by first | exact Or.inl rfl | exact Or.inr rfl) (e_bin op_addM rf_add (e_lc (own := [("turn", 7)]) rfl sc_law.nd (i_range1 (by rfl) T.n_range (a_cons (e_int) (a_nil))) (blkOk_by (N := N_law) (sc := defScope s_law) (by decide +kernel)) (fun _ _ _ _ _ => g_name 7 sc_law.nd rfl (by first | exact Or.inl rfl | exact Or.inr rfl)) (fun _ _ _ _ _ => ts_nil) (fun _ _ _ _ _ => e_call C_law_plan (hr.mono (by decide)) takes_no (by rfl) (a_cons (e_var 2 (pv 2)) (a_nil)))) (e_lst (a_cons (e_call C_law_great (hr.mono (by decide)) tk (by rfl) (a_cons (e_var 2 (pv 2)) (a_nil))) (a_cons (e_tup (a_cons (e_tup (a_nil)) (a_cons (e_tup (a_cons (e_tup (a_cons (e_tup (a_nil)) (a_cons (e_tup (a_nil)) (a_nil)))) (a_nil))) (a_nil)))) (a_cons (e_tup (a_cons (e_tup (a_nil)) (a_cons (e_tup (a_cons (e_tup (a_cons (e_tup (a_nil)) (a_cons (e_tup (a_nil)) (a_cons (e_tup (a_nil)) (a_nil))))) (a_nil))) (a_nil)))) (a_nil))))))) (ss_one (s_for (passes_of rfl) rfl (i_any (e_var 3 (pv 3))) (g_name 4 sc_law.nd rfl (by first | exact Or.inl rfl | exact Or.inr rfl)) (ss_cons (s_par2 5 6 rfl sc_law.nd rfl rfl (by decide) rfl rfl (a_cons (e_call C_law_rule (hr.mono (by decide)) tk (by rfl) (a_cons (e_var 4 (pv 4)) (a_nil))) (a_cons (e_bm PySem.F.plainAttrs_str PySem.F.slot_str_join PySem.F.type_str_join mt_join rf_join (e_str) (a_cons (e_call C_law_lines (hr.mono (by decide)) tk (by rfl) (a_cons (e_var 4 (pv 4)) (a_nil))) (a_nil))) (a_nil))) rfl) (ss_cons (s_if (PW.pt (w_or (t_cmpM (opm_N Q_Rule (hr.mono (by decide)) (opm_ne hu)) (e_call C_rule_text (hr.mono (by decide)) tk (by rfl) (a_cons (e_var 5 (pv 5)) (a_nil))) (e_var 6 (pv 6)) (nomark _)) (w_or1 (t_cmpM (opm_N Q_Rule (hr.mono (by decide)) (opm_ne hu)) (e_callK0 (ks := ["rule"]) D_rule_text_0_rule (hr.mono (by decide)) tk (by rfl) (k_cons (e_var 5 (pv 5)) (k_nil))) (e_var 6 (pv 6)) (nomark _))))) (ss_one (s_ret (e_bl))) (ss_nil)) (ss_one (s_if (PW.pt (w_or (t_cmpM (opm_N Q_Rule (hr.mono (by decide)) (opm_ne hu)) (e_call C_read_rule (hr.mono (by decide)) tk (by rfl) (a_cons (e_var 6 (pv 6)) (a_nil))) (e_var 5 (pv 5)) (nomark _)) (w_or (t_cmpM (opm_N Q_Rule (hr.mono (by decide)) (opm_ne hu)) (e_callK0 (ks := ["text"]) D_read_rule_0_text (hr.mono (by decide)) tk (by rfl) (k_cons (e_var 6 (pv 6)) (k_nil))) (e_var 5 (pv 5)) (nomark _)) (w_or1 (t_cmpM (opm_N Q_Rule (hr.mono (by decide)) (opm_ne hu)) (e_call C_rule_text (hr.mono (by decide)) tk (by rfl) (a_cons (e_call C_read_rule (hr.mono (by decide)) tk (by rfl) (a_cons (e_var 6 (pv 6)) (a_nil))) (a_nil))) (e_var 6 (pv 6)) (nomark _)))))) (ss_one (s_ret (e_bl))) (ss_nil)))))))))) (ss_one (s_ret (e_bl)))
end
theorem all_mk {P : Program} {w : World} {K : PySem.W.Frag} {h : Heap} {mg : Str → Option Value} {fa : Addr} (X : K.In h) (G : h.Ns mainGlobals mg) (hfa : mg "law" = some (.ref fa))
    {v_BARRED : Addr} {v_LETTERS : Tok} {v_MOST_LINES : Tok} {v_MOST_REGISTERS : Tok} {v_MOST_STEPS : Tok} {v_MOST_TESTS : Tok} {v_NOTHING : Tok} {C_BadRegisters f_BadRegisters C_BadLines f_BadLines C_BadLine f_BadLine C_BadText f_BadText C_UpgradeError C_Rule f_is_name f_need_registers f_is_one_of f_is_test f_is_step f_are_steps f_is_line f_Rule_init f_Rule_registers f_Rule_lines f_Rule_eq f_test_text f_steps_text f_line_text f_rule_text f_read_test f_read_step f_read_parts f_read_steps f_read_line f_rule_of f_read_rule f_law_source f_law_draw f_law_pick f_law_mixed f_law_steps f_law_tests f_law_good f_law_noted_as f_law_plan f_law_rule f_law_written f_law_lines f_law_great f_law : Addr}
    (a_BadRegisters : PySem.W.nsIn K mainGlobals "BadRegisters" = some (some (.ref C_BadRegisters)))
    (i_BadRegisters : PySem.W.findIn K (.ref C_BadRegisters) "__init__" = some (some (.ref f_BadRegisters)))
    (o_BadRegisters : XcO K C_BadRegisters)
    (g_BadRegisters : ∃ fd, Fun K "__init__" "BadRegisters.__init__" (inClass (top 3) 0) f_BadRegisters fd)
    (b_BadRegisters : xcB K C_BadRegisters f_BadRegisters "value" = true)
    (a_BadLines : PySem.W.nsIn K mainGlobals "BadLines" = some (some (.ref C_BadLines)))
    (i_BadLines : PySem.W.findIn K (.ref C_BadLines) "__init__" = some (some (.ref f_BadLines)))
    (o_BadLines : XcO K C_BadLines)
    (g_BadLines : ∃ fd, Fun K "__init__" "BadLines.__init__" (inClass (top 4) 0) f_BadLines fd)
    (b_BadLines : xcB K C_BadLines f_BadLines "value" = true)
    (a_BadLine : PySem.W.nsIn K mainGlobals "BadLine" = some (some (.ref C_BadLine)))
    (i_BadLine : PySem.W.findIn K (.ref C_BadLine) "__init__" = some (some (.ref f_BadLine)))
    (o_BadLine : XcO K C_BadLine)
    (g_BadLine : ∃ fd, Fun K "__init__" "BadLine.__init__" (inClass (top 5) 0) f_BadLine fd)
    (b_BadLine : xcB K C_BadLine f_BadLine "position" = true)
    (a_BadText : PySem.W.nsIn K mainGlobals "BadText" = some (some (.ref C_BadText)))
    (i_BadText : PySem.W.findIn K (.ref C_BadText) "__init__" = some (some (.ref f_BadText)))
    (o_BadText : XcO K C_BadText)
    (g_BadText : ∃ fd, Fun K "__init__" "BadText.__init__" (inClass (top 6) 0) f_BadText fd)
    (b_BadText : xcB K C_BadText f_BadText "line" = true)
    (a_UpgradeError : PySem.W.nsIn K mainGlobals "UpgradeError" = some (some (.ref C_UpgradeError)))
    (kinds : kindB K [("BadRegisters", C_BadRegisters), ("BadLines", C_BadLines), ("BadLine", C_BadLine), ("BadText", C_BadText)] C_UpgradeError = true)
    (z_all : PySem.W.nsIn K mainGlobals "all" = some none)
    (z_bool : PySem.W.nsIn K mainGlobals "bool" = some none)
    (z_enumerate : PySem.W.nsIn K mainGlobals "enumerate" = some none)
    (z_int : PySem.W.nsIn K mainGlobals "int" = some none)
    (z_isinstance : PySem.W.nsIn K mainGlobals "isinstance" = some none)
    (z_len : PySem.W.nsIn K mainGlobals "len" = some none)
    (z_list : PySem.W.nsIn K mainGlobals "list" = some none)
    (z_max : PySem.W.nsIn K mainGlobals "max" = some none)
    (z_min : PySem.W.nsIn K mainGlobals "min" = some none)
    (z_range : PySem.W.nsIn K mainGlobals "range" = some none)
    (z_set : PySem.W.nsIn K mainGlobals "set" = some none)
    (z_str : PySem.W.nsIn K mainGlobals "str" = some none)
    (z_tuple : PySem.W.nsIn K mainGlobals "tuple" = some none)
    (a_BARRED : PySem.W.nsIn K mainGlobals "BARRED" = some (some (.ref v_BARRED)))
    (t_BARRED : tupB K v_BARRED ["here", "new", "nothing", "is", "not", "from", "or", "ask", "do", "otherwise"] = true)
    (a_LETTERS : PySem.W.nsIn K mainGlobals "LETTERS" = some (some (.str "abcdefghijklmnopqrstuvwxyz" v_LETTERS)))
    (a_MOST_LINES : PySem.W.nsIn K mainGlobals "MOST_LINES" = some (some (.int 8 v_MOST_LINES)))
    (a_MOST_REGISTERS : PySem.W.nsIn K mainGlobals "MOST_REGISTERS" = some (some (.int 3 v_MOST_REGISTERS)))
    (a_MOST_STEPS : PySem.W.nsIn K mainGlobals "MOST_STEPS" = some (some (.int 4 v_MOST_STEPS)))
    (a_MOST_TESTS : PySem.W.nsIn K mainGlobals "MOST_TESTS" = some (some (.int 4 v_MOST_TESTS)))
    (a_NOTHING : PySem.W.nsIn K mainGlobals "NOTHING" = some (some (.str "do nothing" v_NOTHING)))
    (a_Rule : PySem.W.nsIn K mainGlobals "Rule" = some (some (.ref C_Rule)))
    (i_Rule : PySem.W.findIn K (.ref C_Rule) "__init__" = some (some (.ref f_Rule_init)))
    (b_Rule : clsB K C_Rule f_Rule_init ["own_names", "rows"] = true)
    (e_Rule : eqcB K C_Rule f_Rule_eq ([C_Rule]) = true)
    (v_Rule_lines : propB K C_Rule f_Rule_lines "lines" = true)
    (v_Rule_registers : propB K C_Rule f_Rule_registers "registers" = true)
    (s_Rule : isiB K C_Rule [("Rule", C_Rule)] "Rule" = true)
    (a_is_name : PySem.W.nsIn K mainGlobals "is_name" = some (some (.ref f_is_name)))
    (g_is_name : ∃ fd, Fun K "is_name" "is_name" s_is_name f_is_name fd)
    (a_need_registers : PySem.W.nsIn K mainGlobals "need_registers" = some (some (.ref f_need_registers)))
    (g_need_registers : ∃ fd, Fun K "need_registers" "need_registers" s_need_registers f_need_registers fd)
    (a_is_one_of : PySem.W.nsIn K mainGlobals "is_one_of" = some (some (.ref f_is_one_of)))
    (g_is_one_of : ∃ fd, Fun K "is_one_of" "is_one_of" s_is_one_of f_is_one_of fd)
    (a_is_test : PySem.W.nsIn K mainGlobals "is_test" = some (some (.ref f_is_test)))
    (g_is_test : ∃ fd, Fun K "is_test" "is_test" s_is_test f_is_test fd)
    (a_is_step : PySem.W.nsIn K mainGlobals "is_step" = some (some (.ref f_is_step)))
    (g_is_step : ∃ fd, Fun K "is_step" "is_step" s_is_step f_is_step fd)
    (a_are_steps : PySem.W.nsIn K mainGlobals "are_steps" = some (some (.ref f_are_steps)))
    (g_are_steps : ∃ fd, Fun K "are_steps" "are_steps" s_are_steps f_are_steps fd)
    (a_is_line : PySem.W.nsIn K mainGlobals "is_line" = some (some (.ref f_is_line)))
    (g_is_line : ∃ fd, Fun K "is_line" "is_line" s_is_line f_is_line fd)
    (g_Rule_init : ∃ fd, Fun K "__init__" "Rule.__init__" s_Rule_init f_Rule_init fd)
    (g_Rule_registers : ∃ fd, Fun K "registers" "Rule.registers" s_Rule_registers f_Rule_registers fd)
    (g_Rule_lines : ∃ fd, Fun K "lines" "Rule.lines" s_Rule_lines f_Rule_lines fd)
    (g_Rule_eq : ∃ fd, Fun K "__eq__" "Rule.__eq__" s_Rule_eq f_Rule_eq fd)
    (a_test_text : PySem.W.nsIn K mainGlobals "test_text" = some (some (.ref f_test_text)))
    (g_test_text : ∃ fd, Fun K "test_text" "test_text" s_test_text f_test_text fd)
    (a_steps_text : PySem.W.nsIn K mainGlobals "steps_text" = some (some (.ref f_steps_text)))
    (g_steps_text : ∃ fd, Fun K "steps_text" "steps_text" s_steps_text f_steps_text fd)
    (a_line_text : PySem.W.nsIn K mainGlobals "line_text" = some (some (.ref f_line_text)))
    (g_line_text : ∃ fd, Fun K "line_text" "line_text" s_line_text f_line_text fd)
    (a_rule_text : PySem.W.nsIn K mainGlobals "rule_text" = some (some (.ref f_rule_text)))
    (g_rule_text : ∃ fd, Fun K "rule_text" "rule_text" s_rule_text f_rule_text fd)
    (a_read_test : PySem.W.nsIn K mainGlobals "read_test" = some (some (.ref f_read_test)))
    (g_read_test : ∃ fd, Fun K "read_test" "read_test" s_read_test f_read_test fd)
    (a_read_step : PySem.W.nsIn K mainGlobals "read_step" = some (some (.ref f_read_step)))
    (g_read_step : ∃ fd, Fun K "read_step" "read_step" s_read_step f_read_step fd)
    (a_read_parts : PySem.W.nsIn K mainGlobals "read_parts" = some (some (.ref f_read_parts)))
    (g_read_parts : ∃ fd, Fun K "read_parts" "read_parts" s_read_parts f_read_parts fd)
    (a_read_steps : PySem.W.nsIn K mainGlobals "read_steps" = some (some (.ref f_read_steps)))
    (g_read_steps : ∃ fd, Fun K "read_steps" "read_steps" s_read_steps f_read_steps fd)
    (a_read_line : PySem.W.nsIn K mainGlobals "read_line" = some (some (.ref f_read_line)))
    (g_read_line : ∃ fd, Fun K "read_line" "read_line" s_read_line f_read_line fd)
    (a_rule_of : PySem.W.nsIn K mainGlobals "rule_of" = some (some (.ref f_rule_of)))
    (g_rule_of : ∃ fd, Fun K "rule_of" "rule_of" s_rule_of f_rule_of fd)
    (a_read_rule : PySem.W.nsIn K mainGlobals "read_rule" = some (some (.ref f_read_rule)))
    (g_read_rule : ∃ fd, Fun K "read_rule" "read_rule" s_read_rule f_read_rule fd)
    (a_law_source : PySem.W.nsIn K mainGlobals "_law_source" = some (some (.ref f_law_source)))
    (g_law_source : ∃ fd, Fun K "_law_source" "_law_source" s_law_source f_law_source fd)
    (a_law_draw : PySem.W.nsIn K mainGlobals "_law_draw" = some (some (.ref f_law_draw)))
    (g_law_draw : ∃ fd, Fun K "_law_draw" "_law_draw" s_law_draw f_law_draw fd)
    (a_law_pick : PySem.W.nsIn K mainGlobals "_law_pick" = some (some (.ref f_law_pick)))
    (g_law_pick : ∃ fd, Fun K "_law_pick" "_law_pick" s_law_pick f_law_pick fd)
    (a_law_mixed : PySem.W.nsIn K mainGlobals "_law_mixed" = some (some (.ref f_law_mixed)))
    (g_law_mixed : ∃ fd, Fun K "_law_mixed" "_law_mixed" s_law_mixed f_law_mixed fd)
    (a_law_steps : PySem.W.nsIn K mainGlobals "_law_steps" = some (some (.ref f_law_steps)))
    (g_law_steps : ∃ fd, Fun K "_law_steps" "_law_steps" s_law_steps f_law_steps fd)
    (a_law_tests : PySem.W.nsIn K mainGlobals "_law_tests" = some (some (.ref f_law_tests)))
    (g_law_tests : ∃ fd, Fun K "_law_tests" "_law_tests" s_law_tests f_law_tests fd)
    (a_law_good : PySem.W.nsIn K mainGlobals "_law_good" = some (some (.ref f_law_good)))
    (g_law_good : ∃ fd, Fun K "_law_good" "_law_good" s_law_good f_law_good fd)
    (a_law_noted_as : PySem.W.nsIn K mainGlobals "_law_noted_as" = some (some (.ref f_law_noted_as)))
    (g_law_noted_as : ∃ fd, Fun K "_law_noted_as" "_law_noted_as" s_law_noted_as f_law_noted_as fd)
    (a_law_plan : PySem.W.nsIn K mainGlobals "_law_plan" = some (some (.ref f_law_plan)))
    (g_law_plan : ∃ fd, Fun K "_law_plan" "_law_plan" s_law_plan f_law_plan fd)
    (a_law_rule : PySem.W.nsIn K mainGlobals "_law_rule" = some (some (.ref f_law_rule)))
    (g_law_rule : ∃ fd, Fun K "_law_rule" "_law_rule" s_law_rule f_law_rule fd)
    (a_law_written : PySem.W.nsIn K mainGlobals "_law_written" = some (some (.ref f_law_written)))
    (g_law_written : ∃ fd, Fun K "_law_written" "_law_written" s_law_written f_law_written fd)
    (a_law_lines : PySem.W.nsIn K mainGlobals "_law_lines" = some (some (.ref f_law_lines)))
    (g_law_lines : ∃ fd, Fun K "_law_lines" "_law_lines" s_law_lines f_law_lines fd)
    (a_law_great : PySem.W.nsIn K mainGlobals "_law_great" = some (some (.ref f_law_great)))
    (g_law_great : ∃ fd, Fun K "_law_great" "_law_great" s_law_great f_law_great fd)
    (a_law : PySem.W.nsIn K mainGlobals "law" = some (some (.ref f_law)))
    (g_law : ∃ fd, Fun K "law" "law" s_law f_law fd)
    (hm : ∀ ns : List Int, ns.length ≤ 63 → (∀ z ∈ ns, Builtin.Int.intBits z ≤ 1048576) → ∃ h', b_law ([some (.ref 0)] ++ List.replicate (N_law.length - 1) none) (scriptM ns) = .rt (.bl true) h') :
    ∀ (base : Heap) (s : Shared) (H : Hp) (a : Addr) (ns : List Int), ns.length ≤ 63 → (∀ z ∈ ns, Builtin.Int.intBits z ≤ 1048576) → Env0 P w K mg base callerA [] s H → RdL K H a (ns.map V.int) →
        codeAny (model P w) callerA (.call (.ref fa) ⟨[.ref a], []⟩) (CR (L2.CX P w) [] P w H s (fun v _ => v = .bl true) fun _ _ _ => False) s := by
  have e := hfa.symm.trans (PySem.W.mg_of X G a_law)
  cases e
  intro base s H a ns hl hbits e0 hS
  have cs : ∀ p ∈ ([("BadRegisters", C_BadRegisters), ("BadLines", C_BadLines), ("BadLine", C_BadLine), ("BadText", C_BadText)] : List (Str × Addr)), mg p.1 = some (.ref p.2) := by
    simp only [List.forall_mem_cons]
    exact ⟨PySem.W.mg_of X G a_BadRegisters, PySem.W.mg_of X G a_BadLines, PySem.W.mg_of X G a_BadLine, PySem.W.mg_of X G a_BadText, fun _ z => (nomatch z)⟩
  have B_BadRegisters := xcB_ok b_BadRegisters
  have B_BadLines := xcB_ok b_BadLines
  have B_BadLine := xcB_ok b_BadLine
  have B_BadText := xcB_ok b_BadText
  have xs : ∀ p ∈ ([("BadRegisters", C_BadRegisters), ("BadLines", C_BadLines), ("BadLine", C_BadLine), ("BadText", C_BadText)] : List (Str × Addr)), IsC K p.2 := by
    simp only [List.forall_mem_cons]
    exact ⟨B_BadRegisters.is, B_BadLines.is, B_BadLine.is, B_BadText.is, fun _ z => (nomatch z)⟩
  have B_Rule := clsB_ok b_Rule
  have ics : ∀ p ∈ ([("Rule", C_Rule)] : List (Str × Addr)), mg p.1 = some (.ref p.2) := by
    simp only [List.forall_mem_cons]
    exact ⟨PySem.W.mg_of X G a_Rule, fun _ z => (nomatch z)⟩
  have icl : ∀ p ∈ ([("Rule", C_Rule)] : List (Str × Addr)), Cls K p.2 := by
    simp only [List.forall_mem_cons]
    exact ⟨B_Rule.cl, fun _ z => (nomatch z)⟩
  have T : Txt P w K mg base := {
    n_all := PySem.W.mg_none_of X G z_all
    n_bool := PySem.W.mg_none_of X G z_bool
    n_enumerate := PySem.W.mg_none_of X G z_enumerate
    n_int := PySem.W.mg_none_of X G z_int
    n_isinstance := PySem.W.mg_none_of X G z_isinstance
    n_len := PySem.W.mg_none_of X G z_len
    n_list := PySem.W.mg_none_of X G z_list
    n_max := PySem.W.mg_none_of X G z_max
    n_min := PySem.W.mg_none_of X G z_min
    n_range := PySem.W.mg_none_of X G z_range
    n_set := PySem.W.mg_none_of X G z_set
    n_str := PySem.W.mg_none_of X G z_str
    n_tuple := PySem.W.mg_none_of X G z_tuple
    x_BadRegisters := let ⟨_, F⟩ := g_BadRegisters; xc_mk (PySem.W.mg_of X G a_BadRegisters) o_BadRegisters F B_BadRegisters ⟨rfl, rfl, rfl, by decide +kernel, rfl, by decide +kernel, by decide +kernel⟩ rfl (.inl rfl) (.inl rfl) (by decide) (by decide) (fun _ _ _ _ _ _ us hl => match us, hl with | [_, _], _ => rfl) (fun _ _ _ _ _ _ _ _ => rfl)
    x_BadLines := let ⟨_, F⟩ := g_BadLines; xc_mk (PySem.W.mg_of X G a_BadLines) o_BadLines F B_BadLines ⟨rfl, rfl, rfl, by decide +kernel, rfl, by decide +kernel, by decide +kernel⟩ rfl (.inl rfl) (.inl rfl) (by decide) (by decide) (fun _ _ _ _ _ _ us hl => match us, hl with | [_, _], _ => rfl) (fun _ _ _ _ _ _ _ _ => rfl)
    x_BadLine := let ⟨_, F⟩ := g_BadLine; xc_mk (PySem.W.mg_of X G a_BadLine) o_BadLine F B_BadLine ⟨rfl, rfl, rfl, by decide +kernel, rfl, by decide +kernel, by decide +kernel⟩ rfl (.inl rfl) (.inl rfl) (by decide) (by decide) (fun _ _ _ _ _ _ us hl => match us, hl with | [_, _], _ => rfl) (fun _ _ _ _ _ _ _ _ => rfl)
    x_BadText := let ⟨_, F⟩ := g_BadText; xc_mk (PySem.W.mg_of X G a_BadText) o_BadText F B_BadText ⟨rfl, rfl, rfl, by decide +kernel, rfl, by decide +kernel, by decide +kernel⟩ rfl (.inl rfl) (.inl rfl) (by decide) (by decide) (fun _ _ _ _ _ _ us hl => match us, hl with | [_, _], _ => rfl) (fun _ _ _ _ _ _ _ _ => rfl)
    m_Rule := adr_of (PySem.W.mg_of X G a_Rule)
    i_Rule := by rw [adr_is (PySem.W.mg_of X G a_Rule)]; exact isTabI ics icl s_Rule
    f_own_names := fld_mk2 (ci := [("Rule", C_Rule)]) (cx := []) (by simp only [List.forall_mem_cons]; exact ⟨PySem.W.mg_of X G a_Rule, fun _ z => (nomatch z)⟩) (by simp only [List.forall_mem_cons]; exact ⟨⟨B_Rule.cl, B_Rule.no "own_names" (by decide)⟩, fun _ z => (nomatch z)⟩) (fun _ z => (nomatch z)) (fun _ z => (nomatch z))
    f_rows := fld_mk2 (ci := [("Rule", C_Rule)]) (cx := []) (by simp only [List.forall_mem_cons]; exact ⟨PySem.W.mg_of X G a_Rule, fun _ z => (nomatch z)⟩) (by simp only [List.forall_mem_cons]; exact ⟨⟨B_Rule.cl, B_Rule.no "rows" (by decide)⟩, fun _ z => (nomatch z)⟩) (fun _ z => (nomatch z)) (fun _ z => (nomatch z))
    c_BARRED := tup_mk (PySem.W.mg_of X G a_BARRED) t_BARRED
    c_LETTERS := str_mk (PySem.W.mg_of X G a_LETTERS)
    c_MOST_LINES := int_mk (PySem.W.mg_of X G a_MOST_LINES)
    c_MOST_REGISTERS := int_mk (PySem.W.mg_of X G a_MOST_REGISTERS)
    c_MOST_STEPS := int_mk (PySem.W.mg_of X G a_MOST_STEPS)
    c_MOST_TESTS := int_mk (PySem.W.mg_of X G a_MOST_TESTS)
    c_NOTHING := str_mk (PySem.W.mg_of X G a_NOTHING)
  }
  obtain ⟨_, F_is_name⟩ := g_is_name
  have bi_is_name := F_is_name.binds (ps := ["value"]) fun _ _ _ _ _ _ us hl => match us, hl with | [_], _ => rfl
  have C_is_name : Cal P w K mg base "is_name" 1 m_is_name := cal_mk F_is_name (PySem.W.mg_of X G a_is_name) bi_is_name (ok_is_name F_is_name T ) rfl
  obtain ⟨_, F_need_registers⟩ := g_need_registers
  have bi_need_registers := F_need_registers.binds (ps := ["value"]) fun _ _ _ _ _ _ us hl => match us, hl with | [_], _ => rfl
  have C_need_registers : Cal P w K mg base "need_registers" 3 m_need_registers := cal_mk F_need_registers (PySem.W.mg_of X G a_need_registers) bi_need_registers (ok_need_registers F_need_registers T C_is_name) rfl
  obtain ⟨_, F_is_one_of⟩ := g_is_one_of
  have bi_is_one_of := F_is_one_of.binds (ps := ["value", "words"]) fun _ _ _ _ _ _ us hl => match us, hl with | [_, _], _ => rfl
  have C_is_one_of : Cal P w K mg base "is_one_of" 1 m_is_one_of := cal_mk F_is_one_of (PySem.W.mg_of X G a_is_one_of) bi_is_one_of (ok_is_one_of F_is_one_of T ) rfl
  obtain ⟨_, F_is_test⟩ := g_is_test
  have bi_is_test := F_is_test.binds (ps := ["value", "names"]) fun _ _ _ _ _ _ us hl => match us, hl with | [_, _], _ => rfl
  have C_is_test : Cal P w K mg base "is_test" 2 m_is_test := cal_mk F_is_test (PySem.W.mg_of X G a_is_test) bi_is_test (ok_is_test F_is_test T C_is_one_of) rfl
  obtain ⟨_, F_is_step⟩ := g_is_step
  have bi_is_step := F_is_step.binds (ps := ["value", "names"]) fun _ _ _ _ _ _ us hl => match us, hl with | [_, _], _ => rfl
  have C_is_step : Cal P w K mg base "is_step" 2 m_is_step := cal_mk F_is_step (PySem.W.mg_of X G a_is_step) bi_is_step (ok_is_step F_is_step T C_is_one_of) rfl
  obtain ⟨_, F_are_steps⟩ := g_are_steps
  have bi_are_steps := F_are_steps.binds (ps := ["value", "names"]) fun _ _ _ _ _ _ us hl => match us, hl with | [_, _], _ => rfl
  have C_are_steps : Cal P w K mg base "are_steps" 3 m_are_steps := cal_mk F_are_steps (PySem.W.mg_of X G a_are_steps) bi_are_steps (ok_are_steps F_are_steps T C_is_step) rfl
  obtain ⟨_, F_is_line⟩ := g_is_line
  have bi_is_line := F_is_line.binds (ps := ["value", "names"]) fun _ _ _ _ _ _ us hl => match us, hl with | [_, _], _ => rfl
  have C_is_line : Cal P w K mg base "is_line" 4 m_is_line := cal_mk F_is_line (PySem.W.mg_of X G a_is_line) bi_is_line (ok_is_line F_is_line T C_are_steps C_is_test) rfl
  obtain ⟨_, F_Rule_init⟩ := g_Rule_init
  have bi_Rule_init := F_Rule_init.binds (ps := ["self", "registers", "lines"]) fun _ _ _ _ _ _ us hl => match us, hl with | [_, _, _], _ => rfl
  have I_Rule : InC P w K mg base "Rule" 5 3 m_Rule_init := in_mk (PySem.W.mg_of X G a_Rule) B_Rule.makes bi_Rule_init (ok_Rule_init F_Rule_init T C_is_line C_need_registers) rfl
  obtain ⟨_, F_Rule_registers⟩ := g_Rule_registers
  have bi_Rule_registers := F_Rule_registers.binds (ps := ["self"]) fun _ _ _ _ _ _ us hl => match us, hl with | [_], _ => rfl
  have P_Rule_registers : PropC P w K mg base "Rule" "registers" 1 m_Rule_registers := propc_mk (PySem.W.mg_of X G a_Rule) B_Rule v_Rule_registers bi_Rule_registers (ok_Rule_registers F_Rule_registers T ) rfl
  obtain ⟨_, F_Rule_lines⟩ := g_Rule_lines
  have bi_Rule_lines := F_Rule_lines.binds (ps := ["self"]) fun _ _ _ _ _ _ us hl => match us, hl with | [_], _ => rfl
  have P_Rule_lines : PropC P w K mg base "Rule" "lines" 1 m_Rule_lines := propc_mk (PySem.W.mg_of X G a_Rule) B_Rule v_Rule_lines bi_Rule_lines (ok_Rule_lines F_Rule_lines T ) rfl
  obtain ⟨_, F_Rule_eq⟩ := g_Rule_eq
  have bi_Rule_eq := F_Rule_eq.binds (ps := ["self", "other"]) fun _ _ _ _ _ _ us hl => match us, hl with | [_, _], _ => rfl
  have Q_Rule : EqC P w K mg base "Rule" 1 ["Rule"] m_Rule_eq := eqc_mk (cs := [("Rule", C_Rule)]) (PySem.W.mg_of X G a_Rule) e_Rule bi_Rule_eq rfl (ok_Rule_eq F_Rule_eq T ) ics
  obtain ⟨_, F_test_text⟩ := g_test_text
  have bi_test_text := F_test_text.binds (ps := ["test"]) fun _ _ _ _ _ _ us hl => match us, hl with | [_], _ => rfl
  have C_test_text : Cal P w K mg base "test_text" 1 m_test_text := cal_mk F_test_text (PySem.W.mg_of X G a_test_text) bi_test_text (ok_test_text F_test_text T ) rfl
  obtain ⟨_, F_steps_text⟩ := g_steps_text
  have bi_steps_text := F_steps_text.binds (ps := ["steps"]) fun _ _ _ _ _ _ us hl => match us, hl with | [_], _ => rfl
  have C_steps_text : Cal P w K mg base "steps_text" 1 m_steps_text := cal_mk F_steps_text (PySem.W.mg_of X G a_steps_text) bi_steps_text (ok_steps_text F_steps_text T ) rfl
  obtain ⟨_, F_line_text⟩ := g_line_text
  have bi_line_text := F_line_text.binds (ps := ["line"]) fun _ _ _ _ _ _ us hl => match us, hl with | [_], _ => rfl
  have C_line_text : Cal P w K mg base "line_text" 2 m_line_text := cal_mk F_line_text (PySem.W.mg_of X G a_line_text) bi_line_text (ok_line_text F_line_text T C_steps_text C_test_text) rfl
  obtain ⟨_, F_rule_text⟩ := g_rule_text
  have bi_rule_text := F_rule_text.binds (ps := ["rule"]) fun _ _ _ _ _ _ us hl => match us, hl with | [_], _ => rfl
  have C_rule_text : Cal P w K mg base "rule_text" 3 m_rule_text := cal_mk F_rule_text (PySem.W.mg_of X G a_rule_text) bi_rule_text (ok_rule_text F_rule_text T C_line_text P_Rule_lines P_Rule_registers) rfl
  have D_rule_text_0_rule : CalK P w K mg base "rule_text" 0 ["rule"] 3 m_rule_text := calk_mk F_rule_text (PySem.W.mg_of X G a_rule_text) (fun _ _ _ _ _ _ us ws h1 h2 => match us, ws, h1, h2 with | [], [_], _, _ => rfl) (ok_rule_text F_rule_text T C_line_text P_Rule_lines P_Rule_registers) rfl rfl (by decide)
  obtain ⟨_, F_read_test⟩ := g_read_test
  have bi_read_test := F_read_test.binds (ps := ["text"]) fun _ _ _ _ _ _ us hl => match us, hl with | [_], _ => rfl
  have C_read_test : Cal P w K mg base "read_test" 1 m_read_test := cal_mk F_read_test (PySem.W.mg_of X G a_read_test) bi_read_test (ok_read_test F_read_test T ) rfl
  obtain ⟨_, F_read_step⟩ := g_read_step
  have bi_read_step := F_read_step.binds (ps := ["text"]) fun _ _ _ _ _ _ us hl => match us, hl with | [_], _ => rfl
  have C_read_step : Cal P w K mg base "read_step" 1 m_read_step := cal_mk F_read_step (PySem.W.mg_of X G a_read_step) bi_read_step (ok_read_step F_read_step T ) rfl
  obtain ⟨_, F_read_parts⟩ := g_read_parts
  have bi_read_parts := F_read_parts.binds (ps := ["text", "read"]) fun _ _ _ _ _ _ us hl => match us, hl with | [_, _], _ => rfl
  have C_read_parts : Cal P w K mg base "read_parts" 2 m_read_parts := cal_mk F_read_parts (PySem.W.mg_of X G a_read_parts) bi_read_parts (ok_read_parts F_read_parts T C_read_step C_read_test) rfl
  obtain ⟨_, F_read_steps⟩ := g_read_steps
  have bi_read_steps := F_read_steps.binds (ps := ["text"]) fun _ _ _ _ _ _ us hl => match us, hl with | [_], _ => rfl
  have C_read_steps : Cal P w K mg base "read_steps" 3 m_read_steps := cal_mk F_read_steps (PySem.W.mg_of X G a_read_steps) bi_read_steps (ok_read_steps F_read_steps T C_read_parts C_read_step) rfl
  obtain ⟨_, F_read_line⟩ := g_read_line
  have bi_read_line := F_read_line.binds (ps := ["text"]) fun _ _ _ _ _ _ us hl => match us, hl with | [_], _ => rfl
  have C_read_line : Cal P w K mg base "read_line" 4 m_read_line := cal_mk F_read_line (PySem.W.mg_of X G a_read_line) bi_read_line (ok_read_line F_read_line T C_read_parts C_read_steps C_read_test) rfl
  obtain ⟨_, F_rule_of⟩ := g_rule_of
  have bi_rule_of := F_rule_of.binds (ps := ["registers", "lines"]) fun _ _ _ _ _ _ us hl => match us, hl with | [_, _], _ => rfl
  have C_rule_of : Cal P w K mg base "rule_of" 7 m_rule_of := cal_mk F_rule_of (PySem.W.mg_of X G a_rule_of) bi_rule_of (ok_rule_of F_rule_of T I_Rule) rfl
  obtain ⟨_, F_read_rule⟩ := g_read_rule
  have bi_read_rule := F_read_rule.binds (ps := ["text"]) fun _ _ _ _ _ _ us hl => match us, hl with | [_], _ => rfl
  have C_read_rule : Cal P w K mg base "read_rule" 8 m_read_rule := cal_mk F_read_rule (PySem.W.mg_of X G a_read_rule) bi_read_rule (ok_read_rule F_read_rule T C_line_text C_read_line C_rule_of I_Rule) rfl
  have D_read_rule_0_text : CalK P w K mg base "read_rule" 0 ["text"] 8 m_read_rule := calk_mk F_read_rule (PySem.W.mg_of X G a_read_rule) (fun _ _ _ _ _ _ us ws h1 h2 => match us, ws, h1, h2 with | [], [_], _, _ => rfl) (ok_read_rule F_read_rule T C_line_text C_read_line C_rule_of I_Rule) rfl rfl (by decide)
  obtain ⟨_, F_law_source⟩ := g_law_source
  have bi_law_source := F_law_source.binds (ps := ["script", "start"]) fun _ _ _ _ _ _ us hl => match us, hl with | [_, _], _ => rfl
  have C_law_source : Cal P w K mg base "_law_source" 1 m_law_source := cal_mk F_law_source (PySem.W.mg_of X G a_law_source) bi_law_source (ok_law_source F_law_source T ) rfl
  obtain ⟨_, F_law_draw⟩ := g_law_draw
  have bi_law_draw := F_law_draw.binds (ps := ["source", "span"]) fun _ _ _ _ _ _ us hl => match us, hl with | [_, _], _ => rfl
  have C_law_draw : Cal P w K mg base "_law_draw" 1 m_law_draw := cal_mk F_law_draw (PySem.W.mg_of X G a_law_draw) bi_law_draw (ok_law_draw F_law_draw T ) rfl
  obtain ⟨_, F_law_pick⟩ := g_law_pick
  have bi_law_pick := F_law_pick.binds (ps := ["source", "things"]) fun _ _ _ _ _ _ us hl => match us, hl with | [_, _], _ => rfl
  have C_law_pick : Cal P w K mg base "_law_pick" 2 m_law_pick := cal_mk F_law_pick (PySem.W.mg_of X G a_law_pick) bi_law_pick (ok_law_pick F_law_pick T C_law_draw) rfl
  obtain ⟨_, F_law_mixed⟩ := g_law_mixed
  have bi_law_mixed := F_law_mixed.binds (ps := ["source", "things"]) fun _ _ _ _ _ _ us hl => match us, hl with | [_, _], _ => rfl
  have C_law_mixed : Cal P w K mg base "_law_mixed" 2 m_law_mixed := cal_mk F_law_mixed (PySem.W.mg_of X G a_law_mixed) bi_law_mixed (ok_law_mixed F_law_mixed T C_law_draw) rfl
  obtain ⟨_, F_law_steps⟩ := g_law_steps
  have bi_law_steps := F_law_steps.binds (ps := ["source", "lot", "most"]) fun _ _ _ _ _ _ us hl => match us, hl with | [_, _, _], _ => rfl
  have C_law_steps : Cal P w K mg base "_law_steps" 3 m_law_steps := cal_mk F_law_steps (PySem.W.mg_of X G a_law_steps) bi_law_steps (ok_law_steps F_law_steps T C_law_draw C_law_pick) rfl
  obtain ⟨_, F_law_tests⟩ := g_law_tests
  have bi_law_tests := F_law_tests.binds (ps := ["source", "lot", "most"]) fun _ _ _ _ _ _ us hl => match us, hl with | [_, _, _], _ => rfl
  have C_law_tests : Cal P w K mg base "_law_tests" 3 m_law_tests := cal_mk F_law_tests (PySem.W.mg_of X G a_law_tests) bi_law_tests (ok_law_tests F_law_tests T C_law_draw C_law_pick) rfl
  obtain ⟨_, F_law_good⟩ := g_law_good
  have bi_law_good := F_law_good.binds (ps := ["source", "note"]) fun _ _ _ _ _ _ us hl => match us, hl with | [_, _], _ => rfl
  have C_law_good : Cal P w K mg base "_law_good" 3 m_law_good := cal_mk F_law_good (PySem.W.mg_of X G a_law_good) bi_law_good (ok_law_good F_law_good T C_law_draw C_law_mixed) rfl
  obtain ⟨_, F_law_noted_as⟩ := g_law_noted_as
  have bi_law_noted_as := F_law_noted_as.binds (ps := ["word", "names", "lines"]) fun _ _ _ _ _ _ us hl => match us, hl with | [_, _, _], _ => rfl
  have C_law_noted_as : Cal P w K mg base "_law_noted_as" 1 m_law_noted_as := cal_mk F_law_noted_as (PySem.W.mg_of X G a_law_noted_as) bi_law_noted_as (ok_law_noted_as F_law_noted_as T ) rfl
  obtain ⟨_, F_law_plan⟩ := g_law_plan
  have bi_law_plan := F_law_plan.binds (ps := ["source"]) fun _ _ _ _ _ _ us hl => match us, hl with | [_], _ => rfl
  have C_law_plan : Cal P w K mg base "_law_plan" 4 m_law_plan := cal_mk F_law_plan (PySem.W.mg_of X G a_law_plan) bi_law_plan (ok_law_plan F_law_plan T C_law_draw C_law_good C_law_noted_as C_law_pick C_law_steps C_law_tests) rfl
  obtain ⟨_, F_law_rule⟩ := g_law_rule
  have bi_law_rule := F_law_rule.binds (ps := ["plan"]) fun _ _ _ _ _ _ us hl => match us, hl with | [_], _ => rfl
  have C_law_rule : Cal P w K mg base "_law_rule" 7 m_law_rule := cal_mk F_law_rule (PySem.W.mg_of X G a_law_rule) bi_law_rule (ok_law_rule F_law_rule T I_Rule) rfl
  obtain ⟨_, F_law_written⟩ := g_law_written
  have bi_law_written := F_law_written.binds (ps := ["steps"]) fun _ _ _ _ _ _ us hl => match us, hl with | [_], _ => rfl
  have C_law_written : Cal P w K mg base "_law_written" 1 m_law_written := cal_mk F_law_written (PySem.W.mg_of X G a_law_written) bi_law_written (ok_law_written F_law_written T ) rfl
  obtain ⟨_, F_law_lines⟩ := g_law_lines
  have bi_law_lines := F_law_lines.binds (ps := ["plan"]) fun _ _ _ _ _ _ us hl => match us, hl with | [_], _ => rfl
  have C_law_lines : Cal P w K mg base "_law_lines" 2 m_law_lines := cal_mk F_law_lines (PySem.W.mg_of X G a_law_lines) bi_law_lines (ok_law_lines F_law_lines T C_law_written) rfl
  obtain ⟨_, F_law_great⟩ := g_law_great
  have bi_law_great := F_law_great.binds (ps := ["source"]) fun _ _ _ _ _ _ us hl => match us, hl with | [_], _ => rfl
  have C_law_great : Cal P w K mg base "_law_great" 3 m_law_great := cal_mk F_law_great (PySem.W.mg_of X G a_law_great) bi_law_great (ok_law_great F_law_great T C_law_mixed C_law_pick) rfl
  obtain ⟨_, F_law⟩ := g_law
  have bi_law := F_law.binds (ps := ["script"]) fun _ _ _ _ _ _ us hl => match us, hl with | [_], _ => rfl
  exact law_run F_law sc_law (k := 8) ⟨rfl, by decide, by decide⟩ e0 bi_law hS (fun cdv hr => ok_law T C_law_great C_law_lines C_law_plan C_law_rule C_law_source C_read_rule C_rule_text D_read_rule_0_text D_rule_text_0_rule Q_Rule hr) (hm ns hl hbits)
end ML
namespace ML
open PySem PySem.Spec PyProof.Rows L2
def pb_Rule_registers : PSM := retP (unP (fldP ["Rule"] "own_names") (bvarP 0))
def p_Rule_registers : PFM := fnP 1 1 pb_Rule_registers
theorem fk_Rule_registers : FOK m_Rule_registers p_Rule_registers := fn_okP (np := 1) (n := 1) (s := b_Rule_registers) (ps := pb_Rule_registers) (s_retP (x_un op_fldP (b_var 0)))
def pb_Rule_lines : PSM := retP (unP (fldP ["Rule"] "rows") (bvarP 0))
def p_Rule_lines : PFM := fnP 1 1 pb_Rule_lines
theorem fk_Rule_lines : FOK m_Rule_lines p_Rule_lines := fn_okP (np := 1) (n := 1) (s := b_Rule_lines) (ps := pb_Rule_lines) (s_retP (x_un op_fldP (b_var 0)))
def pb_Rule_eq : PSM := retP (andEP (unP (isxP noKinds (tabOf ["Rule"] fun n => decide (n = "Rule"))) (bvarP 1)) (andEP (binP eqP (unP (fldP ["Rule"] "own_names") (bvarP 0)) (unP (fldP ["Rule"] "own_names") (bvarP 1))) (binP eqP (unP (fldP ["Rule"] "rows") (bvarP 0)) (unP (fldP ["Rule"] "rows") (bvarP 1)))))
def p_Rule_eq : PFM := fnP 2 2 pb_Rule_eq
theorem fk_Rule_eq : FOK m_Rule_eq p_Rule_eq := fn_okP (np := 2) (n := 2) (s := b_Rule_eq) (ps := pb_Rule_eq) (s_retP (x_andP (x_un op_isxP (b_var 1)) (x_andP (x_bin op_eqP (x_b (x_un op_fldP (b_var 0))) (x_b (x_un op_fldP (b_var 1)))) (x_bin op_eqP (x_b (x_un op_fldP (b_var 0))) (x_b (x_un op_fldP (b_var 1)))))))
def pb_test_text : PSM := seqP (asgP (gtpP [gnmP 1, gnmP 2, gnmP 3]) (varP 0)) (retP (ifEP (valP (varP 3)) (jsP [unP fmtP (bvarP 1), conP (.str " is "), unP fmtP (bvarP 2)]) (jsP [unP fmtP (bvarP 1), conP (.str " is not "), unP fmtP (bvarP 2)])))
def p_test_text : PFM := fnP 1 4 pb_test_text
theorem fk_test_text : FOK m_test_text p_test_text := fn_okP (np := 1) (n := 4) (s := b_test_text) (ps := pb_test_text) (s_seqP (s_asgP (g_gtpP (gs_consP (g_gnmP 1) (gs_consP (g_gnmP 2) (gs_consP (g_gnmP 3) gs_nilP)))) (x_var 0)) (s_retP (x_ifP (t_valP (x_var 3)) (x_js (.cons (x_un op_fmtP (b_var 1)) (.cons x_str (.cons (x_un op_fmtP (b_var 2)) .nil)))) (x_js (.cons (x_un op_fmtP (b_var 1)) (.cons x_str (.cons (x_un op_fmtP (b_var 2)) .nil)))))))
def pb_steps_text : PSM := retP (ifEP (valP (binP neP (bvarP 0) (onP tupP (nilP)))) (bmP "str" joinP (conP (.str ", ")) (consP (lcP [1, 2] (seqItP (varP 0)) (gtpP [gnmP 1, gnmP 2]) (yesP) (jsP [unP fmtP (bvarP 1), conP (.str " from "), unP fmtP (bvarP 2)])) (nilP))) (conP (.str "do nothing")))
def p_steps_text : PFM := fnP 1 3 pb_steps_text
theorem fk_steps_text : FOK m_steps_text p_steps_text := fn_okP (np := 1) (n := 3) (s := b_steps_text) (ps := pb_steps_text) (s_retP (x_ifP (t_valP (x_bin op_neP (b_var 0) (x_b (x_tup a_nilP)))) (x_bmP opm_joinP (x_b x_str) (a1_cons (x_b (x_f (f_lcP (i_seqP (x_var 0)) (g_gtpP (gs_consP (g_gnmP 1) (gs_consP (g_gnmP 2) gs_nilP))) t_yesP (x_js (.cons (x_un op_fmtP (b_var 1)) (.cons x_str (.cons (x_un op_fmtP (b_var 2)) .nil))))))) a1_nil)) x_str))
def pb_line_text : PSM := seqP (setP 1 (slV (ifEP (valP (binP neP (binP ixP (bvarP 0) (conP (.int 0))) (onP tupP (nilP)))) (bmP "str" joinP (conP (.str ", ")) (consP (lcP [2] (seqItP (binP ixP (bvarP 0) (conP (.int 0)))) (gnmP 2) (yesP) (onP p_test_text (consP (varP 2) (nilP)))) (nilP))) (conP (.str "otherwise"))))) (seqP (ifP (valP (binP eqP (onP lenP (consP (bvarP 0) (nilP))) (conP (.int 2)))) (retP (jsP [unP fmtP (bvarP 1), conP (.str ": "), unP fmtP (onP p_steps_text (consP (binP ixP (bvarP 0) (conP (.int 1))) (nilP)))])) (passP)) (retP (jsP [unP fmtP (bvarP 1), conP (.str ": ask "), unP fmtP (onP p_steps_text (consP (binP ixP (bvarP 0) (conP (.int 1))) (nilP))), conP (.str " or "), unP fmtP (onP p_steps_text (consP (binP ixP (bvarP 0) (conP (.int 2))) (nilP)))])))
def p_line_text : PFM := fnP 1 3 pb_line_text
theorem fk_line_text : FOK m_line_text p_line_text := fn_okP (np := 1) (n := 3) (s := b_line_text) (ps := pb_line_text) (s_seqP (s_setP 1 (sl_v (x_ifP (t_valP (x_bin op_neP (x_b (x_bin op_ixP (b_var 0) (x_b x_int))) (x_b (x_tup a_nilP)))) (x_bmP opm_joinP (x_b x_str) (a1_cons (x_b (x_f (f_lcP (i_seqP (x_bin op_ixP (b_var 0) (x_b x_int))) (g_gnmP 2) t_yesP (x_on fk_test_text (a_consP (x_var 2) a_nilP))))) a1_nil)) x_str))) (s_seqP (s_ifP (t_valP (x_bin op_eqP (x_b (x_ops ops_lenP (a1_cons (b_var 0) a1_nil))) (x_b x_int))) (s_retP (x_js (.cons (x_un op_fmtP (b_var 1)) (.cons x_str (.cons (x_un op_fmtP (x_b (x_on fk_steps_text (a_consP (x_bin op_ixP (b_var 0) (x_b x_int)) a_nilP)))) .nil))))) s_passP) (s_retP (x_js (.cons (x_un op_fmtP (b_var 1)) (.cons x_str (.cons (x_un op_fmtP (x_b (x_on fk_steps_text (a_consP (x_bin op_ixP (b_var 0) (x_b x_int)) a_nilP)))) (.cons x_str (.cons (x_un op_fmtP (x_b (x_on fk_steps_text (a_consP (x_bin op_ixP (b_var 0) (x_b x_int)) a_nilP)))) .nil)))))))))
def pb_rule_text : PSM := retP (bmP "str" joinP (conP (.str "\n")) (consP (onP lstP (consP (bmP "str" joinP (conP (.str " ")) (consP (onP lstP (consP (conP (.str "registers")) (starP (unP (propP [("Rule", p_Rule_registers)]) (varP 0)) (nilP)))) (nilP))) (starP (lcP [1] (seqItP (unP (propP [("Rule", p_Rule_lines)]) (varP 0))) (gnmP 1) (yesP) (onP p_line_text (consP (varP 1) (nilP)))) (nilP)))) (nilP)))
def p_rule_text : PFM := fnP 1 2 pb_rule_text
theorem fk_rule_text : FOK m_rule_text p_rule_text := fn_okP (np := 1) (n := 2) (s := b_rule_text) (ps := pb_rule_text) (s_retP (x_bmP opm_joinP (x_b x_str) (a1_cons (x_b (x_f (f_lst (a_consP (x_bmP opm_joinP (x_b x_str) (a1_cons (x_b (x_f (f_lst (a_consP x_str (a_starP (x_b (x_prop (tab_cons fk_Rule_registers tab_nil) (x_var 0))) a_nilP))))) a1_nil)) (a_starP (x_b (x_f (f_lcP (i_seqP (x_prop (tab_cons fk_Rule_lines tab_nil) (x_var 0))) (g_gnmP 1) t_yesP (x_on fk_line_text (a_consP (x_var 1) a_nilP))))) a_nilP))))) a1_nil)))
def pb_read_test : PSM := seqP (setP 1 (slV (bmP "str" splitP (bvarP 0) (consP (conP (.str " ")) (nilP))))) (seqP (ifP (andTP (valP (binP eqP (onP lenP (consP (bvarP 1) (nilP))) (conP (.int 3)))) (valP (binP eqP (binP ixP (bvarP 1) (conP (.int 1))) (conP (.str "is"))))) (retP (onP tupP (consP (binP ixP (bvarP 1) (conP (.int 0))) (consP (binP ixP (bvarP 1) (conP (.int 2))) (consP (conP (.bl true)) (nilP)))))) (passP)) (retP (ifEP (andTP (valP (binP eqP (onP lenP (consP (bvarP 1) (nilP))) (conP (.int 4)))) (valP (binP eqP (slEP (bvarP 1) (someOP (conP (.int 1))) (someOP (conP (.int 3)))) (onP lstP (consP (conP (.str "is")) (consP (conP (.str "not")) (nilP))))))) (onP tupP (consP (binP ixP (bvarP 1) (conP (.int 0))) (consP (binP ixP (bvarP 1) (conP (.int 3))) (consP (conP (.bl false)) (nilP))))) (conP .non))))
def p_read_test : PFM := fnP 1 2 pb_read_test
theorem fk_read_test : FOK m_read_test p_read_test := fn_okP (np := 1) (n := 2) (s := b_read_test) (ps := pb_read_test) (s_seqP (s_setP 1 (sl_v (x_bmP opm_splitP (b_var 0) (a1_cons (x_b x_str) a1_nil)))) (s_seqP (s_ifP (t_andP (t_valP (x_bin op_eqP (x_b (x_ops ops_lenP (a1_cons (b_var 1) a1_nil))) (x_b x_int))) (t_valP (x_bin op_eqP (x_b (x_bin op_ixP (b_var 1) (x_b x_int))) (x_b x_str)))) (s_retP (x_tup (a_consP (x_bin op_ixP (b_var 1) (x_b x_int)) (a_consP (x_bin op_ixP (b_var 1) (x_b x_int)) (a_consP x_bl a_nilP))))) s_passP) (s_retP (x_ifP (t_andP (t_valP (x_bin op_eqP (x_b (x_ops ops_lenP (a1_cons (b_var 1) a1_nil))) (x_b x_int))) (t_valP (x_bin op_eqP (x_b (x_slP (b_var 1) (o_someP x_int) (o_someP x_int))) (x_b (x_f (f_lst (a_consP x_str (a_consP x_str a_nilP)))))))) (x_tup (a_consP (x_bin op_ixP (b_var 1) (x_b x_int)) (a_consP (x_bin op_ixP (b_var 1) (x_b x_int)) (a_consP x_bl a_nilP)))) x_non))))
def pb_read_step : PSM := seqP (setP 1 (slV (bmP "str" splitP (bvarP 0) (consP (conP (.str " ")) (nilP))))) (retP (ifEP (andTP (valP (binP eqP (onP lenP (consP (bvarP 1) (nilP))) (conP (.int 3)))) (valP (binP eqP (binP ixP (bvarP 1) (conP (.int 1))) (conP (.str "from"))))) (onP tupP (consP (binP ixP (bvarP 1) (conP (.int 0))) (consP (binP ixP (bvarP 1) (conP (.int 2))) (nilP)))) (conP .non)))
def p_read_step : PFM := fnP 1 2 pb_read_step
theorem fk_read_step : FOK m_read_step p_read_step := fn_okP (np := 1) (n := 2) (s := b_read_step) (ps := pb_read_step) (s_seqP (s_setP 1 (sl_v (x_bmP opm_splitP (b_var 0) (a1_cons (x_b x_str) a1_nil)))) (s_retP (x_ifP (t_andP (t_valP (x_bin op_eqP (x_b (x_ops ops_lenP (a1_cons (b_var 1) a1_nil))) (x_b x_int))) (t_valP (x_bin op_eqP (x_b (x_bin op_ixP (b_var 1) (x_b x_int))) (x_b x_str)))) (x_tup (a_consP (x_bin op_ixP (b_var 1) (x_b x_int)) (a_consP (x_bin op_ixP (b_var 1) (x_b x_int)) a_nilP))) x_non)))
def pb_read_parts : PSM := seqP (setP 2 (slV (onP tupleP (consP (lcP [3] (seqItP (bmP "str" splitP (bvarP 0) (consP (conP (.str ", ")) (nilP)))) (gnmP 3) (yesP) (callVP [("read_test", p_read_test), ("read_step", p_read_step)] 1 (consP (varP 3) (nilP)))) (nilP))))) (retP (ifEP (valP (binP inP (conP .non) (bvarP 2))) (conP .non) (varP 2)))
def p_read_parts : PFM := fnP 2 4 pb_read_parts
theorem fk_read_parts : FOK m_read_parts p_read_parts := fn_okP (np := 2) (n := 4) (s := b_read_parts) (ps := pb_read_parts) (s_seqP (s_setP 2 (sl_v (x_ops ops_tupleP (a1_cons (x_b (x_f (f_lcP (i_seqP (x_bmP opm_splitP (b_var 0) (a1_cons (x_b x_str) a1_nil))) (g_gnmP 3) t_yesP (x_callV (tab_cons fk_read_test (tab_cons fk_read_step tab_nil)) (a_consP (x_var 3) a_nilP))))) a1_nil)))) (s_retP (x_ifP (t_valP (x_bin op_inP (x_b x_non) (b_var 2))) x_non (x_var 2))))
def pb_read_steps : PSM := retP (ifEP (valP (binP eqP (bvarP 0) (conP (.str "do nothing")))) (onP tupP (nilP)) (onP p_read_parts (consP (varP 0) (consP (conP (.glb "read_step")) (nilP)))))
def p_read_steps : PFM := fnP 1 1 pb_read_steps
theorem fk_read_steps : FOK m_read_steps p_read_steps := fn_okP (np := 1) (n := 1) (s := b_read_steps) (ps := pb_read_steps) (s_retP (x_ifP (t_valP (x_bin op_eqP (b_var 0) (x_b x_str))) (x_tup a_nilP) (x_on fk_read_parts (a_consP (x_var 0) (a_consP x_glb a_nilP)))))
def pb_read_line : PSM := seqP (asgP (gtp2P [gnmP 5, gnmP 6, gnmP 7]) (bmP "str" partP (bvarP 0) (consP (conP (.str ": ")) (nilP)))) (seqP (setP 1 (slV (ifEP (valP (binP eqP (bvarP 5) (conP (.str "otherwise")))) (onP tupP (nilP)) (onP p_read_parts (consP (varP 5) (consP (conP (.glb "read_test")) (nilP))))))) (seqP (setP 2 (slV (ifEP (valP (bmP "str" startsP (bvarP 7) (consP (conP (.str "ask ")) (nilP)))) (bmP "str" splitP (slEP (bvarP 7) (someOP (conP (.int 4))) (noOP)) (consP (conP (.str " or ")) (nilP))) (onP lstP (consP (varP 7) (nilP)))))) (seqP (setP 3 (slV (lcP [8] (seqItP (varP 2)) (gnmP 8) (yesP) (onP p_read_steps (consP (varP 8) (nilP)))))) (seqP (setP 4 (slV (ifEP (valP (bmP "str" startsP (bvarP 7) (consP (conP (.str "ask ")) (nilP)))) (binP eqP (onP lenP (consP (bvarP 2) (nilP))) (conP (.int 2))) (conP (.bl true))))) (seqP (ifP (orTP (valP (binP eqP (bvarP 6) (conP (.str "")))) (orTP (valP (binP isNP (bvarP 1) (conP .non))) (orTP (valP (binP inP (conP .non) (bvarP 3))) (notTP (valP (varP 4)))))) (retP (conP .non)) (passP)) (retP (onP tupP (consP (varP 1) (starP (bvarP 3) (nilP))))))))))
def p_read_line : PFM := fnP 1 9 pb_read_line
theorem fk_read_line : FOK m_read_line p_read_line := fn_okP (np := 1) (n := 9) (s := b_read_line) (ps := pb_read_line) (s_seqP (s_asgP (g_gtp2P (gs_consP (g_gnmP 5) (gs_consP (g_gnmP 6) (gs_consP (g_gnmP 7) gs_nilP)))) (x_bmP opm_partP (b_var 0) (a1_cons (x_b x_str) a1_nil))) (s_seqP (s_setP 1 (sl_v (x_ifP (t_valP (x_bin op_eqP (b_var 5) (x_b x_str))) (x_tup a_nilP) (x_on fk_read_parts (a_consP (x_var 5) (a_consP x_glb a_nilP)))))) (s_seqP (s_setP 2 (sl_v (x_ifP (t_valP (x_bmP opm_startsP (b_var 7) (a1_cons (x_b x_str) a1_nil))) (x_bmP opm_splitP (x_b (x_slP (b_var 7) (o_someP x_int) o_noP)) (a1_cons (x_b x_str) a1_nil)) (x_f (f_lst (a_consP (x_var 7) a_nilP)))))) (s_seqP (s_setP 3 (sl_v (x_f (f_lcP (i_seqP (x_var 2)) (g_gnmP 8) t_yesP (x_on fk_read_steps (a_consP (x_var 8) a_nilP)))))) (s_seqP (s_setP 4 (sl_v (x_ifP (t_valP (x_bmP opm_startsP (b_var 7) (a1_cons (x_b x_str) a1_nil))) (x_bin op_eqP (x_b (x_ops ops_lenP (a1_cons (b_var 2) a1_nil))) (x_b x_int)) x_bl))) (s_seqP (s_ifP (t_orP (t_valP (x_bin op_eqP (b_var 6) (x_b x_str))) (t_orP (t_valP (x_bin op_isNP (b_var 1) (x_b x_non))) (t_orP (t_valP (x_bin op_inP (x_b x_non) (b_var 3))) (t_notP (t_valP (x_var 4)))))) (s_retP x_non) s_passP) (s_retP (x_tup (a_consP (x_var 1) (a_starP (b_var 3) a_nilP))))))))))
def pb_law_written : PSM := seqP (ifP (valP (binP eqP (bvarP 0) (onP tupP (nilP)))) (retP (conP (.str "do nothing"))) (passP)) (retP (bmP "str" joinP (conP (.str ", ")) (consP (lcP [1] (seqItP (varP 0)) (gnmP 1) (yesP) (binP addP (binP addP (binP ixP (bvarP 1) (conP (.int 0))) (conP (.str " from "))) (binP ixP (bvarP 1) (conP (.int 1))))) (nilP))))
def p_law_written : PFM := fnP 1 2 pb_law_written
theorem fk_law_written : FOK m_law_written p_law_written := fn_okP (np := 1) (n := 2) (s := b_law_written) (ps := pb_law_written) (s_seqP (s_ifP (t_valP (x_bin op_eqP (b_var 0) (x_b (x_tup a_nilP)))) (s_retP x_str) s_passP) (s_retP (x_bmP opm_joinP (x_b x_str) (a1_cons (x_b (x_f (f_lcP (i_seqP (x_var 0)) (g_gnmP 1) t_yesP (x_bin op_addP (x_b (x_bin op_addP (x_b (x_bin op_ixP (b_var 1) (x_b x_int))) (x_b x_str))) (x_b (x_bin op_ixP (b_var 1) (x_b x_int))))))) a1_nil))))
def pb_law_lines : PSM := seqP (setP 1 (slO (onP lstP (consP (bmP "str" joinP (conP (.str " ")) (consP (binP addP (onP lstP (consP (conP (.str "registers")) (nilP))) (onP listP (consP (binP ixP (bvarP 0) (conP (.int 0))) (nilP)))) (nilP))) (nilP))))) (seqP (forP (seqItP (binP ixP (bvarP 0) (conP (.int 1)))) (gnmP 2) (seqP (setP 3 (slV (lcP [6] (seqItP (binP ixP (bvarP 2) (conP (.int 0)))) (gnmP 6) (yesP) (binP addP (binP addP (binP ixP (bvarP 6) (conP (.int 0))) (ifEP (valP (binP ixP (bvarP 6) (conP (.int 2)))) (conP (.str " is ")) (conP (.str " is not ")))) (binP ixP (bvarP 6) (conP (.int 1))))))) (seqP (setP 4 (slV (ifEP (valP (binP neP (bvarP 3) (onP lstP (nilP)))) (bmP "str" joinP (conP (.str ", ")) (consP (bvarP 3) (nilP))) (conP (.str "otherwise"))))) (seqP (setP 5 (slV (lcP [7] (seqItP (slEP (bvarP 2) (someOP (conP (.int 1))) (noOP))) (gnmP 7) (yesP) (onP p_law_written (consP (varP 7) (nilP)))))) (ownP isLstP 1 appendP (binP addP (binP addP (bvarP 4) (conP (.str ": "))) (ifEP (valP (binP eqP (onP lenP (consP (bvarP 5) (nilP))) (conP (.int 1)))) (binP ixP (bvarP 5) (conP (.int 0))) (binP addP (binP addP (binP addP (conP (.str "ask ")) (binP ixP (bvarP 5) (conP (.int 0)))) (conP (.str " or "))) (binP ixP (bvarP 5) (conP (.int 1))))))))))) (frzS [1] (retP (varP 1))))
def p_law_lines : PFM := fnP 1 8 pb_law_lines
theorem fk_law_lines : FOK m_law_lines p_law_lines := fn_okP (np := 1) (n := 8) (s := b_law_lines) (ps := pb_law_lines) (s_seqP (s_setP 1 (sl_o (f_lst (a_consP (x_bmP opm_joinP (x_b x_str) (a1_cons (x_b (x_bin op_addP (x_b (x_f (f_lst (a_consP x_str a_nilP)))) (x_b (x_f (f_ops fops_listP (a1_cons (x_b (x_bin op_ixP (b_var 0) (x_b x_int))) a1_nil)))))) a1_nil)) a_nilP)))) (s_seqP (s_forP (i_seqP (x_bin op_ixP (b_var 0) (x_b x_int))) (g_gnmP 2) (s_seqP (s_setP 3 (sl_v (x_f (f_lcP (i_seqP (x_bin op_ixP (b_var 2) (x_b x_int))) (g_gnmP 6) t_yesP (x_bin op_addP (x_b (x_bin op_addP (x_b (x_bin op_ixP (b_var 6) (x_b x_int))) (x_b (x_ifP (t_valP (x_bin op_ixP (b_var 6) (x_b x_int))) x_str x_str)))) (x_b (x_bin op_ixP (b_var 6) (x_b x_int)))))))) (s_seqP (s_setP 4 (sl_v (x_ifP (t_valP (x_bin op_neP (b_var 3) (x_b (x_f (f_lst a_nilP))))) (x_bmP opm_joinP (x_b x_str) (a1_cons (b_var 3) a1_nil)) x_str))) (s_seqP (s_setP 5 (sl_v (x_f (f_lcP (i_seqP (x_slP (b_var 2) (o_someP x_int) o_noP)) (g_gnmP 7) t_yesP (x_on fk_law_written (a_consP (x_var 7) a_nilP)))))) (s_append (x_bin op_addP (x_b (x_bin op_addP (b_var 4) (x_b x_str))) (x_b (x_ifP (t_valP (x_bin op_eqP (x_b (x_ops ops_lenP (a1_cons (b_var 5) a1_nil))) (x_b x_int))) (x_bin op_ixP (b_var 5) (x_b x_int)) (x_bin op_addP (x_b (x_bin op_addP (x_b (x_bin op_addP (x_b x_str) (x_b (x_bin op_ixP (b_var 5) (x_b x_int))))) (x_b x_str))) (x_b (x_bin op_ixP (b_var 5) (x_b x_int)))))))))))) (s_frz (s_retP (x_var 1)))))
end ML
namespace ML
open PySem PySem.Spec PyProof.Rows L2
theorem draw {h : MH} {k : Nat} {r m span : Int} (hk : h[k]? = some (.lst [.int r, .int m])) (hr : 0 ≤ r) (hm : 0 ≤ m) (hm2 : m < 2147483648) (hs : 0 < span) (hs2 : span < 1000000) :
    ∃ v r' m', m_law_draw [.ref k, .int span] h = .ok (.int v) (h.set k (.lst [.int r', .int m'])) ∧ 0 ≤ v ∧ v < span ∧ 0 ≤ r' ∧ 0 ≤ m' ∧ m' < 2147483648 := by
  unfold m_law_draw
  have g1 : ∀ {o : O}, (h.set k o)[k]? = some o := fun {o} => set_get hk
  by_cases c : span ≤ r
  · refine ⟨r % span, r / span, m, ?_, Int.emod_nonneg _ (by omega), Int.emod_lt_of_pos _ hs, Int.ediv_nonneg hr (by omega), hm, hm2⟩
    have hl : span.natAbs.log2 < 9000 := Nat.lt_trans (log_lt (k := 20) (by decide) (by omega)) (by decide)
    have a0 := ix0 hk
    have a1 := mod_i (h := h) (k := r) hs
    have a2 := div_i (h := h) (k := r) hs hl
    have a3 := st0 (v := .int (r / span)) hk
    have a4 := ge_T (h := h) c
    refine ef_rt rfl ?_
    unfold b_law_draw
    apply es_seqR
    apply es_ifT
    · repeat' (first | with_reducible exact a0 | with_reducible exact a1 | with_reducible exact a2 | with_reducible exact a3 | with_reducible exact a4 | exact (rfl : List.set _ _ _ = _) | ((with_reducible apply ev_var); exact rfl) | with_reducible exact ev_con | with_reducible exact ev_nil | with_reducible exact es_pass | with_reducible exact int_i | with_reducible exact add_i | with_reducible exact sub_i | with_reducible apply ev_bin | with_reducible apply ev_un | with_reducible apply ev_cons | with_reducible apply ev_on | with_reducible apply ev_val | with_reducible apply ev_not | with_reducible apply es_set' | with_reducible apply es_exp | with_reducible apply es_ret | with_reducible apply es_setX | with_reducible apply es_par2)
    · apply es_seq
      · repeat' (first | with_reducible exact a0 | with_reducible exact a1 | with_reducible exact a2 | with_reducible exact a3 | with_reducible exact a4 | exact (rfl : List.set _ _ _ = _) | ((with_reducible apply ev_var); exact rfl) | with_reducible exact ev_con | with_reducible exact ev_nil | with_reducible exact es_pass | with_reducible exact int_i | with_reducible exact add_i | with_reducible exact sub_i | with_reducible apply ev_bin | with_reducible apply ev_un | with_reducible apply ev_cons | with_reducible apply ev_on | with_reducible apply ev_val | with_reducible apply ev_not | with_reducible apply es_set' | with_reducible apply es_exp | with_reducible apply es_ret | with_reducible apply es_setX | with_reducible apply es_par2)
      · apply es_seq
        · repeat' (first | with_reducible exact a0 | with_reducible exact a1 | with_reducible exact a2 | with_reducible exact a3 | with_reducible exact a4 | exact (rfl : List.set _ _ _ = _) | ((with_reducible apply ev_var); exact rfl) | with_reducible exact ev_con | with_reducible exact ev_nil | with_reducible exact es_pass | with_reducible exact int_i | with_reducible exact add_i | with_reducible exact sub_i | with_reducible apply ev_bin | with_reducible apply ev_un | with_reducible apply ev_cons | with_reducible apply ev_on | with_reducible apply ev_val | with_reducible apply ev_not | with_reducible apply es_set' | with_reducible apply es_exp | with_reducible apply es_ret | with_reducible apply es_setX | with_reducible apply es_par2)
        · repeat' (first | with_reducible exact a0 | with_reducible exact a1 | with_reducible exact a2 | with_reducible exact a3 | with_reducible exact a4 | exact (rfl : List.set _ _ _ = _) | ((with_reducible apply ev_var); exact rfl) | with_reducible exact ev_con | with_reducible exact ev_nil | with_reducible exact es_pass | with_reducible exact int_i | with_reducible exact add_i | with_reducible exact sub_i | with_reducible apply ev_bin | with_reducible apply ev_un | with_reducible apply ev_cons | with_reducible apply ev_on | with_reducible apply ev_val | with_reducible apply ev_not | with_reducible apply es_set' | with_reducible apply es_exp | with_reducible apply es_ret | with_reducible apply es_setX | with_reducible apply es_par2)
  · have hm' : m.natAbs.log2 < 32 := log_lt (by decide) (by omega)
    have h69 : (69621 : Int).natAbs.log2 < 17 := log_lt (by decide) (by decide)
    have h13 : (13 : Int).natAbs.log2 < 9000 := Nat.lt_trans (log_lt (k := 4) (by decide) (by decide)) (by decide)
    have a0 := ix0 hk
    have a9 := ix1 hk
    obtain ⟨m1, a1⟩ : ∃ z, mulF (.int m) (.int 69621) h = .ok (.int z) h := ⟨_, mul_i (by omega)⟩
    obtain ⟨m2, a2⟩ : ∃ z, addF (.int m1) (.int 3571) h = .ok (.int z) h := ⟨_, add_i⟩
    obtain ⟨m', a3, b1, b2⟩ : ∃ z, modF (.int m2) (.int 2147483647) h = .ok (.int z) h ∧ 0 ≤ z ∧ z < 2147483647 := ⟨_, mod_i (by decide), Int.emod_nonneg _ (by decide), Int.emod_lt_of_pos _ (by decide)⟩
    have hq : m'.natAbs.log2 < 32 := log_lt (by decide) (by omega)
    have hp : ((m'.natAbs.log2 + 1 : Nat) : Int) * 5 ≤ 2 ^ 27 := by omega
    obtain ⟨h', eh⟩ : ∃ h', h' = h.set k (.lst [.int r, .int m']) := ⟨_, rfl⟩
    have a4 : stF (.ref k) (.int 1) (.int m') h = some h' := by rw [eh]; exact st1 hk
    have a5 : ixF (.ref k) (.int 1) h' = .ok (.int m') h' := ix1 (by rw [eh]; exact g1)
    obtain ⟨p1, c1⟩ : ∃ z, powF (.int m') (.int 5) h' = .ok (.int z) h' := ⟨_, pow_i (by decide) hp⟩
    obtain ⟨p2, c2⟩ : ∃ z, modF (.int p1) (.int 1000000007) h' = .ok (.int z) h' := ⟨_, mod_i (by decide)⟩
    obtain ⟨p3, c3⟩ : ∃ z, fdivF (.int p2) (.int 13) h' = .ok (.int z) h' := ⟨_, div_i (by decide) h13⟩
    obtain ⟨v, c4, v1, v2⟩ : ∃ z, modF (.int p3) (.int span) h' = .ok (.int z) h' ∧ 0 ≤ z ∧ z < span := ⟨_, mod_i hs, Int.emod_nonneg _ (by omega), Int.emod_lt_of_pos _ hs⟩
    refine ⟨v, r, m', ?_, v1, v2, hr, b1, by omega⟩
    rw [← eh]
    have a6 := ge_F (h := h) c
    refine ef_rt rfl ?_
    unfold b_law_draw
    apply es_seq
    · apply es_ifF
      · repeat' (first | with_reducible exact a0 | with_reducible exact a6 | exact (rfl : List.set _ _ _ = _) | ((with_reducible apply ev_var); exact rfl) | with_reducible exact ev_con | with_reducible exact ev_nil | with_reducible exact es_pass | with_reducible exact int_i | with_reducible exact add_i | with_reducible exact sub_i | with_reducible apply ev_bin | with_reducible apply ev_un | with_reducible apply ev_cons | with_reducible apply ev_on | with_reducible apply ev_val | with_reducible apply ev_not | with_reducible apply es_set' | with_reducible apply es_exp | with_reducible apply es_ret | with_reducible apply es_setX | with_reducible apply es_par2)
      · exact es_pass
    · apply es_seq
      · repeat' (first | with_reducible exact a0 | with_reducible exact a1 | with_reducible exact a2 | with_reducible exact a3 | with_reducible exact a4 | with_reducible exact a5 | with_reducible exact a9 | with_reducible exact c1 | with_reducible exact c2 | with_reducible exact c3 | with_reducible exact c4 | exact (rfl : List.set _ _ _ = _) | ((with_reducible apply ev_var); exact rfl) | with_reducible exact ev_con | with_reducible exact ev_nil | with_reducible exact es_pass | with_reducible exact int_i | with_reducible exact add_i | with_reducible exact sub_i | with_reducible apply ev_bin | with_reducible apply ev_un | with_reducible apply ev_cons | with_reducible apply ev_on | with_reducible apply ev_val | with_reducible apply ev_not | with_reducible apply es_set' | with_reducible apply es_exp | with_reducible apply es_ret | with_reducible apply es_setX | with_reducible apply es_par2)
      · repeat' (first | with_reducible exact a0 | with_reducible exact a1 | with_reducible exact a2 | with_reducible exact a3 | with_reducible exact a4 | with_reducible exact a5 | with_reducible exact a9 | with_reducible exact c1 | with_reducible exact c2 | with_reducible exact c3 | with_reducible exact c4 | exact (rfl : List.set _ _ _ = _) | ((with_reducible apply ev_var); exact rfl) | with_reducible exact ev_con | with_reducible exact ev_nil | with_reducible exact es_pass | with_reducible exact int_i | with_reducible exact add_i | with_reducible exact sub_i | with_reducible apply ev_bin | with_reducible apply ev_un | with_reducible apply ev_cons | with_reducible apply ev_on | with_reducible apply ev_val | with_reducible apply ev_not | with_reducible apply es_set' | with_reducible apply es_exp | with_reducible apply es_ret | with_reducible apply es_setX | with_reducible apply es_par2)
def src_body : SM := setS 2 (bin addF (bin modF (onA intF (consA (bin powF (onA intF (consA (bin addF (bin mulF (varE 2) (conE (.int 50021))) (onA intF (consA (varE 3) (nilA)))) (nilA))) (conE (.int 3))) (nilA))) (conE (.int 2147483563))) (conE (.int 1)))
theorem src_loop {a st : D} {h : MH} : ∀ (ns : List Int) (m : Int) (c : Option D), (∀ z ∈ ns, Builtin.Int.intBits z ≤ 1048576) → 0 ≤ m → m < 2147483648 →
    ∃ m' c', loopS [] (gnm 3) src_body (ns.map .int) [some a, some st, some (.int m), c, none] h = .nx [some a, some st, some (.int m'), c', none] h ∧ 0 ≤ m' ∧ m' < 2147483648
  | [], m, c, _, h0, h1 => ⟨m, c, loop_nil rfl, h0, h1⟩
  | z :: ns, m, c, hb, h0, h1 => by
    have b0 := bits_lt z
    have b1 := hb z List.mem_cons_self
    have hm' : m.natAbs.log2 < 32 := log_lt (by decide) (by omega)
    have h50 : (50021 : Int).natAbs.log2 < 16 := log_lt (by decide) (by decide)
    generalize Builtin.Int.intBits z = b at b0 b1
    obtain ⟨m1, e1, e2⟩ : ∃ z, z = m * 50021 ∧ mulF (.int m) (.int 50021) h = .ok (.int z) h := ⟨_, rfl, mul_i (by omega)⟩
    have k1 : m1.natAbs < 2 ^ 48 := by omega
    obtain ⟨k, k2, k3, k4⟩ : ∃ k, 48 ≤ k ∧ b ≤ k ∧ k ≤ 1048576 := by
      by_cases q : b ≤ 48
      · exact ⟨48, by omega, by omega, by omega⟩
      · exact ⟨b, by omega, by omega, by omega⟩
    have k5 : (m1 + z).natAbs.log2 ≤ k := log_add (pow_up k1 k2) (pow_up b0 k3)
    obtain ⟨m2, e3, e4⟩ : ∃ y, y = m1 + z ∧ addF (.int m1) (.int z) h = .ok (.int y) h := ⟨_, rfl, add_i⟩
    rw [← e3] at k5
    obtain ⟨m3, e5⟩ : ∃ y, powF (.int m2) (.int 3) h = .ok (.int y) h := ⟨_, pow_i (by decide) (by omega)⟩
    obtain ⟨m4, e6, c0, c1⟩ : ∃ y, modF (.int m3) (.int 2147483563) h = .ok (.int y) h ∧ 0 ≤ y ∧ y < 2147483563 := ⟨_, mod_i (by decide), Int.emod_nonneg _ (by decide), Int.emod_lt_of_pos _ (by decide)⟩
    have e7 : addF (.int m4) (.int 1) h = .ok (.int (m4 + 1)) h := add_i
    obtain ⟨m', c', e8, d0, d1⟩ := src_loop (a := a) (st := st) (h := h) ns (m4 + 1) (some (.int z)) (fun y hy => hb y (List.mem_cons_of_mem _ hy)) (by omega) (by omega)
    refine ⟨m', c', ?_, d0, d1⟩
    rw [List.map_cons, ← e8]
    apply loop_cons rfl rfl
    unfold src_body
    repeat' (first | with_reducible exact e2 | with_reducible exact e4 | with_reducible exact e5 | with_reducible exact e6 | with_reducible exact e7 | exact (rfl : List.set _ _ _ = _) | ((with_reducible apply ev_var); exact rfl) | with_reducible exact ev_con | with_reducible exact ev_nil | with_reducible exact es_pass | with_reducible exact int_i | with_reducible exact add_i | with_reducible exact sub_i | with_reducible apply ev_bin | with_reducible apply ev_un | with_reducible apply ev_cons | with_reducible apply ev_on | with_reducible apply ev_val | with_reducible apply ev_not | with_reducible apply es_set' | with_reducible apply es_exp | with_reducible apply es_ret | with_reducible apply es_setX | with_reducible apply es_par2)
theorem source {h : MH} {n : Nat} {ns : List Int} {start : Int} (hn : h[n]? = some (.rdl (ns.map .int))) (hb : ∀ z ∈ ns, Builtin.Int.intBits z ≤ 1048576) (h0 : 0 ≤ start) (h1 : start < 100) :
    ∃ r m, m_law_source [.ref n, .int start] h = .ok (.ref h.length) (h ++ [.lst [.int r, .int m]]) ∧ 0 ≤ r ∧ 0 ≤ m ∧ m < 2147483648 := by
  obtain ⟨m', c', e1, d0, d1⟩ := src_loop (a := .ref n) (st := .int start) (h := h) ns (43 + start) none hb (by omega) (by omega)
  have a0 : addF (.int 43) (.int start) h = .ok (.int (43 + start)) h := add_i
  have a1 := len_rdl hn
  rw [List.length_map] at a1
  obtain ⟨t, ht⟩ : ∃ t : Int, t = 10 ^ (18 : Int).toNat := ⟨_, rfl⟩
  have a2 : powF (.int 10) (.int 18) h = .ok (.int t) h := by rw [ht]; exact pow_i (by decide) (by have := log_lt (z := 10) (k := 4) (by decide) (by decide); omega)
  have fin : ∀ r : Int, lstF [.int r, .int m'] h = .ok (.ref h.length) (h ++ [.lst [.int r, .int m']]) := fun r => lst_new (show 2 ≤ 1000000 by decide)
  have key : ∃ r, ifS (andT (valT (bin ltF (varE 1) (onA lenF (consA (varE 0) (nilA))))) (valT (bin geF (bin ixF (varE 0) (varE 1)) (bin powF (conE (.int 10)) (conE (.int 18)))))) (setS 4 (bin subF (bin ixF (varE 0) (varE 1)) (bin powF (conE (.int 10)) (conE (.int 18))))) (passS)
      [some (.ref n), some (.int start), some (.int m'), c', some (.int 0)] h = .nx [some (.ref n), some (.int start), some (.int m'), c', some (.int r)] h ∧ 0 ≤ r := by
    by_cases c : start < (ns.length : Int)
    · have hs : start.toNat < ns.length := by omega
      have a3 : ixF (.ref n) (.int start) h = .ok (.int ns[start.toNat]) h := ix_rdl hn h0 (by rw [List.getElem?_map, List.getElem?_eq_getElem hs]; rfl)
      have a4 := lt_T (h := h) c
      generalize ns[start.toNat] = y at a3
      by_cases c2 : t ≤ y
      · have a5 := ge_T (h := h) c2
        have a6 : subF (.int y) (.int t) h = .ok (.int (y - t)) h := sub_i
        refine ⟨y - t, ?_, by omega⟩
        apply es_ifT
        · apply ev_andT
          · repeat' (first | with_reducible exact a1 | with_reducible exact a4 | exact (rfl : List.set _ _ _ = _) | ((with_reducible apply ev_var); exact rfl) | with_reducible exact ev_con | with_reducible exact ev_nil | with_reducible exact es_pass | with_reducible exact int_i | with_reducible exact add_i | with_reducible exact sub_i | with_reducible apply ev_bin | with_reducible apply ev_un | with_reducible apply ev_cons | with_reducible apply ev_on | with_reducible apply ev_val | with_reducible apply ev_not | with_reducible apply es_set' | with_reducible apply es_exp | with_reducible apply es_ret | with_reducible apply es_setX | with_reducible apply es_par2)
          · repeat' (first | with_reducible exact a2 | with_reducible exact a3 | with_reducible exact a5 | exact (rfl : List.set _ _ _ = _) | ((with_reducible apply ev_var); exact rfl) | with_reducible exact ev_con | with_reducible exact ev_nil | with_reducible exact es_pass | with_reducible exact int_i | with_reducible exact add_i | with_reducible exact sub_i | with_reducible apply ev_bin | with_reducible apply ev_un | with_reducible apply ev_cons | with_reducible apply ev_on | with_reducible apply ev_val | with_reducible apply ev_not | with_reducible apply es_set' | with_reducible apply es_exp | with_reducible apply es_ret | with_reducible apply es_setX | with_reducible apply es_par2)
        · repeat' (first | with_reducible exact a2 | with_reducible exact a3 | with_reducible exact a6 | exact (rfl : List.set _ _ _ = _) | ((with_reducible apply ev_var); exact rfl) | with_reducible exact ev_con | with_reducible exact ev_nil | with_reducible exact es_pass | with_reducible exact int_i | with_reducible exact add_i | with_reducible exact sub_i | with_reducible apply ev_bin | with_reducible apply ev_un | with_reducible apply ev_cons | with_reducible apply ev_on | with_reducible apply ev_val | with_reducible apply ev_not | with_reducible apply es_set' | with_reducible apply es_exp | with_reducible apply es_ret | with_reducible apply es_setX | with_reducible apply es_par2)
      · have a5 := ge_F (h := h) c2
        refine ⟨0, ?_, by decide⟩
        apply es_ifF
        · apply ev_andT
          · repeat' (first | with_reducible exact a1 | with_reducible exact a4 | exact (rfl : List.set _ _ _ = _) | ((with_reducible apply ev_var); exact rfl) | with_reducible exact ev_con | with_reducible exact ev_nil | with_reducible exact es_pass | with_reducible exact int_i | with_reducible exact add_i | with_reducible exact sub_i | with_reducible apply ev_bin | with_reducible apply ev_un | with_reducible apply ev_cons | with_reducible apply ev_on | with_reducible apply ev_val | with_reducible apply ev_not | with_reducible apply es_set' | with_reducible apply es_exp | with_reducible apply es_ret | with_reducible apply es_setX | with_reducible apply es_par2)
          · repeat' (first | with_reducible exact a2 | with_reducible exact a3 | with_reducible exact a5 | exact (rfl : List.set _ _ _ = _) | ((with_reducible apply ev_var); exact rfl) | with_reducible exact ev_con | with_reducible exact ev_nil | with_reducible exact es_pass | with_reducible exact int_i | with_reducible exact add_i | with_reducible exact sub_i | with_reducible apply ev_bin | with_reducible apply ev_un | with_reducible apply ev_cons | with_reducible apply ev_on | with_reducible apply ev_val | with_reducible apply ev_not | with_reducible apply es_set' | with_reducible apply es_exp | with_reducible apply es_ret | with_reducible apply es_setX | with_reducible apply es_par2)
        · exact es_pass
    · have a4 := lt_F (h := h) c
      refine ⟨0, ?_, by decide⟩
      apply es_ifF
      · apply ev_andF
        repeat' (first | with_reducible exact a1 | with_reducible exact a4 | exact (rfl : List.set _ _ _ = _) | ((with_reducible apply ev_var); exact rfl) | with_reducible exact ev_con | with_reducible exact ev_nil | with_reducible exact es_pass | with_reducible exact int_i | with_reducible exact add_i | with_reducible exact sub_i | with_reducible apply ev_bin | with_reducible apply ev_un | with_reducible apply ev_cons | with_reducible apply ev_on | with_reducible apply ev_val | with_reducible apply ev_not | with_reducible apply es_set' | with_reducible apply es_exp | with_reducible apply es_ret | with_reducible apply es_setX | with_reducible apply es_par2)
      · exact es_pass
  obtain ⟨r, e2, r0⟩ := key
  have fr := fin r
  refine ⟨r, m', ?_, r0, d0, d1⟩
  refine ef_rt rfl ?_
  unfold b_law_source
  apply es_seq
  · repeat' (first | with_reducible exact a0 | exact (rfl : List.set _ _ _ = _) | ((with_reducible apply ev_var); exact rfl) | with_reducible exact ev_con | with_reducible exact ev_nil | with_reducible exact es_pass | with_reducible exact int_i | with_reducible exact add_i | with_reducible exact sub_i | with_reducible apply ev_bin | with_reducible apply ev_un | with_reducible apply ev_cons | with_reducible apply ev_on | with_reducible apply ev_val | with_reducible apply ev_not | with_reducible apply es_set' | with_reducible apply es_exp | with_reducible apply es_ret | with_reducible apply es_setX | with_reducible apply es_par2)
  · apply es_seq
    · apply es_for
      · apply ei_rdl
        · exact ev_var rfl
        · exact hn
      · exact e1
    · apply es_seq
      · repeat' (first | with_reducible exact a0 | exact (rfl : List.set _ _ _ = _) | ((with_reducible apply ev_var); exact rfl) | with_reducible exact ev_con | with_reducible exact ev_nil | with_reducible exact es_pass | with_reducible exact int_i | with_reducible exact add_i | with_reducible exact sub_i | with_reducible apply ev_bin | with_reducible apply ev_un | with_reducible apply ev_cons | with_reducible apply ev_on | with_reducible apply ev_val | with_reducible apply ev_not | with_reducible apply es_set' | with_reducible apply es_exp | with_reducible apply es_ret | with_reducible apply es_setX | with_reducible apply es_par2)
      · apply es_seq
        · exact e2
        · repeat' (first | with_reducible exact fr | exact (rfl : List.set _ _ _ = _) | ((with_reducible apply ev_var); exact rfl) | with_reducible exact ev_con | with_reducible exact ev_nil | with_reducible exact es_pass | with_reducible exact int_i | with_reducible exact add_i | with_reducible exact sub_i | with_reducible apply ev_bin | with_reducible apply ev_un | with_reducible apply ev_cons | with_reducible apply ev_on | with_reducible apply ev_val | with_reducible apply ev_not | with_reducible apply es_set' | with_reducible apply es_exp | with_reducible apply es_ret | with_reducible apply es_setX | with_reducible apply es_par2)
theorem pick {h : MH} {k : Nat} {r m : Int} {x : D} {l : List D} (hk : h[k]? = some (.lst [.int r, .int m])) (hr : 0 ≤ r) (hm : 0 ≤ m) (hm2 : m < 2147483648) (hx : lenF [x] h = .ok (.int l.length) h) (h0 : 0 < l.length) (h1 : l.length < 1000)
    (hi : ∀ (r' m' : Int) (j : Nat) d, l[j]? = some d → ixF x (.int (j : Nat)) (h.set k (.lst [.int r', .int m'])) = .ok d (h.set k (.lst [.int r', .int m']))) :
    ∃ d r' m', m_law_pick [.ref k, x] h = .ok d (h.set k (.lst [.int r', .int m'])) ∧ d ∈ l ∧ 0 ≤ r' ∧ 0 ≤ m' ∧ m' < 2147483648 := by
  obtain ⟨v, r', m', e1, v0, v1, b0, b1, b2⟩ := draw hk hr hm hm2 (span := l.length) (by omega) (by omega)
  have hv : v.toNat < l.length := by omega
  have e2 := hi r' m' v.toNat _ (List.getElem?_eq_getElem hv)
  have ev : ((v.toNat : Nat) : Int) = v := by omega
  rw [ev] at e2
  refine ⟨l[v.toNat], r', m', ?_, List.getElem_mem hv, b0, b1, b2⟩
  refine ef_rt rfl ?_
  unfold b_law_pick
  repeat' (first | with_reducible exact e1 | with_reducible exact e2 | with_reducible exact hx | exact (rfl : List.set _ _ _ = _) | ((with_reducible apply ev_var); exact rfl) | with_reducible exact ev_con | with_reducible exact ev_nil | with_reducible exact es_pass | with_reducible exact int_i | with_reducible exact add_i | with_reducible exact sub_i | with_reducible apply ev_bin | with_reducible apply ev_un | with_reducible apply ev_cons | with_reducible apply ev_on | with_reducible apply ev_val | with_reducible apply ev_not | with_reducible apply es_set' | with_reducible apply es_exp | with_reducible apply es_ret | with_reducible apply es_setX | with_reducible apply es_par2)
end ML
namespace ML
open PySem PySem.Spec PyProof.Rows L2
theorem draw2 {h : MH} {k : Nat} {span : Int} (S : Src h k) (hs : 0 < span) (hs2 : span < 1000000) : ∃ v h', m_law_draw [.ref k, .int span] h = .ok (.int v) h' ∧ 0 ≤ v ∧ v < span ∧ Src h' k ∧ KG k h h' ∧ h'.length = h.length := by
  obtain ⟨r, m, e, h0, h1, h2⟩ := S
  obtain ⟨v, r', m', e1, v0, v1, b0, b1, b2⟩ := draw e h0 h1 h2 hs hs2
  exact ⟨v, _, e1, v0, v1, ⟨r', m', set_get e, b0, b1, b2⟩, KG.set, by simp⟩
theorem pick2 {h : MH} {k n : Nat} {l : List D} (S : Src h k) (hn : n ≠ k) (e : h[n]? = some (.lst l)) (h0 : 0 < l.length) (h1 : l.length < 1000) : ∃ d h', m_law_pick [.ref k, .ref n] h = .ok d h' ∧ d ∈ l ∧ Src h' k ∧ KG k h h' ∧ h'.length = h.length := by
  obtain ⟨r, m, e0, a0, a1, a2⟩ := S
  obtain ⟨d, r', m', e1, dl, b0, b1, b2⟩ := pick (x := .ref n) (l := l) e0 a0 a1 a2 (len_lst e) h0 h1 (fun r' m' j d q => ix_lst (KG.set.2 _ _ hn e) (by omega) (by simpa using q))
  exact ⟨d, _, e1, dl, ⟨r', m', set_get e0, b0, b1, b2⟩, KG.set, by simp⟩
theorem StrL.pick {h : MH} {k : Nat} {x : D} {L : List Str} (p : StrL h k x L) (h0 : 0 < L.length) (h1 : L.length < 1000) (S : Src h k) : ∃ s h', m_law_pick [.ref k, x] h = .ok (.str s) h' ∧ s ∈ L ∧ Src h' k ∧ KG k h h' := by
  obtain ⟨r, rfl, r1, r2⟩ := p
  obtain ⟨d, h', e, dl, S', g, _⟩ := pick2 S r1 r2 (by simpa using h0) (by simpa using h1)
  obtain ⟨s, hs, es⟩ := List.mem_map.mp dl
  subst es
  exact ⟨s, h', e, hs, S', g⟩
/-- a list or a tuple with these items -/
def SeqV (h : MH) (x : D) (xs : List D) : Prop := x = .tup xs ∨ ∃ r, x = .ref r ∧ h[r]? = some (.lst xs)
theorem SeqV.ga {h h' : MH} {x : D} {xs : List D} (p : SeqV h x xs) (g : GA h h') : SeqV h' x xs := by
  rcases p with p | ⟨r, e, q⟩
  · exact .inl p
  · exact .inr ⟨r, e, g.2 _ _ q⟩
theorem SeqV.seq {h : MH} {x : D} {xs : List D} (p : SeqV h x xs) : ∃ k, seqOf h x = some (k, xs) := by
  rcases p with p | ⟨r, e, q⟩
  · exact ⟨true, by rw [p]; rfl⟩
  · exact ⟨false, by rw [e]; unfold seqOf; dsimp only; rw [q]⟩
theorem SeqV.len {h : MH} {x : D} {xs : List D} (p : SeqV h x xs) : lenF [x] h = .ok (.int xs.length) h := by
  rcases p with p | ⟨r, e, q⟩
  · rw [p]; exact len_tup
  · rw [e]; exact len_lst q
theorem SeqV.tup {h : MH} {x : D} {xs : List D} (p : SeqV h x xs) : tupleF [x] h = .ok (.tup xs) h := by
  obtain ⟨k, e⟩ := p.seq
  unfold tupleF
  dsimp only
  rw [e]
theorem SeqV.list {h : MH} {x : D} {xs : List D} (p : SeqV h x xs) : listF [x] h = .ok (.ref h.length) (h ++ [.lst xs]) := by
  obtain ⟨k, e⟩ := p.seq
  unfold listF
  dsimp only
  rw [e]
theorem SeqV.isi {h : MH} {x : D} {xs : List D} (p : SeqV h x xs) : isiT ["list", "tuple"] x h = .ok (.bl true) h := by
  rcases p with p | ⟨r, e, q⟩
  · rw [p]; rfl
  · have ty : tyD h (.ref r) = some "list" := by unfold tyD; dsimp only; rw [q]
    rw [e]
    unfold isiT
    rw [ty]
    rfl
theorem SeqV.it {a : EM} {e : Env} {h : MH} {x : D} {xs : List D} (p : SeqV h x xs) (q : a e h = .ok x h) : ∃ srcs, seqI a e h = .ok ⟨xs, srcs⟩ h ∧ ∀ h1, GA h h1 → IT.ok h1 srcs = true := by
  rcases p with p | ⟨r, e1, q1⟩
  · subst p
    exact ⟨[], i_tup q, fun _ _ => it_nil⟩
  · subst e1
    exact ⟨[(r, xs)], ei_lst q q1, fun h1 g => stands1 (g.2 _ _ q1)⟩
theorem SeqV.enum {a : AM} {e : Env} {h : MH} {x : D} {xs : List D} (p : SeqV h x xs) (q : a e h = .ok [x] h) : ∃ srcs, enumI2 a e h = .ok ⟨enumD xs, srcs⟩ h ∧ ∀ h1, GA h h1 → IT.ok h1 srcs = true := by
  rcases p with p | ⟨r, e1, q1⟩
  · subst p
    refine ⟨[], ?_, fun _ _ => it_nil⟩
    unfold enumI2
    rw [q]
    rfl
  · subst e1
    refine ⟨[(r, xs)], ?_, fun h1 g => stands1 (g.2 _ _ q1)⟩
    unfold enumI2
    rw [q]
    show enumF2 [.ref r] h = _
    unfold enumF2 enumF
    dsimp only
    rw [q1]
theorem one_of {s : Str} {L : List Str} {h : MH} (hs : s ∈ L) : m_is_one_of [.str s, .tup (L.map D.str)] h = .ok (.bl true) h := by
  refine ef_rt rfl ?_
  unfold b_is_one_of
  exact es_ret (ev_andE (ev_on (ev_cons (ev_var rfl) (ev_cons ev_con ev_nil)) rfl) (ev_bin (ev_var rfl) (ev_var rfl) (in_tup.trans (by rw [any_mem hs]))))
theorem step_ok {h : MH} {x d : D} {l : List Str} (N : SeqV h x (l.map .str)) (hl : l.length ≤ 3) (p : StepD l d) : m_is_step [d, x] h = .ok (.bl true) h := by
  obtain ⟨a, b, rfl, ha, hb⟩ := p
  obtain ⟨ks, N⟩ := N.seq
  refine ef_rt rfl ?_
  unfold b_is_step
  have t1 : tupF (D.str "here" :: (l.map D.str ++ [])) h = .ok (.tup ((("here" : Str) :: l).map D.str)) h := by
    rw [List.append_nil]
    exact tup_new (by simp; omega)
  have t2 : tupF (D.str "here" :: D.str "new" :: D.str "nothing" :: (l.map D.str ++ [])) h = .ok (.tup ((("here" : Str) :: "new" :: "nothing" :: l).map D.str)) h := by
    rw [List.append_nil]
    exact tup_new (by simp; omega)
  refine es_seq (es_ifF (ev_orF (ev_not (v := true) (ev_val (ev_on (ev_cons (ev_var rfl) (ev_cons ev_con ev_nil)) rfl))) (ev_val (ev_bin (ev_on (ev_cons (ev_var rfl) ev_nil) rfl) ev_con rfl))) es_pass) ?_
  refine es_ret (ev_andE (ev_on (ev_cons (ev_bin (ev_var rfl) ev_con rfl) (ev_cons (ev_on (ev_cons ev_con (ev_star (ev_var rfl) N ev_nil)) t1) ev_nil)) (one_of ?_)) (ev_on (ev_cons (ev_bin (ev_var rfl) ev_con rfl) (ev_cons (ev_on (ev_cons ev_con (ev_cons ev_con (ev_cons ev_con (ev_star (ev_var rfl) N ev_nil)))) t2) ev_nil)) (one_of ?_)))
  · rcases ha with z | z
    · rw [z]; simp
    · simp [z]
  · rcases hb with z | z | z | z
    · rw [z]; simp
    · rw [z]; simp
    · rw [z]; simp
    · simp [z]
theorem test_ok {h : MH} {x d : D} {l : List Str} (N : SeqV h x (l.map .str)) (hl : l.length ≤ 3) (p : TestD l d) : m_is_test [d, x] h = .ok (.bl true) h := by
  obtain ⟨a, b, v, rfl, ha, hb⟩ := p
  obtain ⟨ks, N⟩ := N.seq
  refine ef_rt rfl ?_
  unfold b_is_test
  have t1 : tupF (D.str "here" :: D.str "new" :: (l.map D.str ++ [])) h = .ok (.tup ((("here" : Str) :: "new" :: l).map D.str)) h := by
    rw [List.append_nil]
    exact tup_new (by simp; omega)
  have t2 : tupF (D.str "here" :: D.str "new" :: D.str "nothing" :: (l.map D.str ++ [])) h = .ok (.tup ((("here" : Str) :: "new" :: "nothing" :: l).map D.str)) h := by
    rw [List.append_nil]
    exact tup_new (by simp; omega)
  refine es_seq (es_ifF (ev_orF (ev_not (v := true) (ev_val (ev_on (ev_cons (ev_var rfl) (ev_cons ev_con ev_nil)) rfl))) (ev_orF (ev_val (ev_bin (ev_on (ev_cons (ev_var rfl) ev_nil) rfl) ev_con rfl)) (ev_not (v := true) (ev_val (ev_on (ev_cons (ev_bin (ev_var rfl) ev_con rfl) (ev_cons ev_con ev_nil)) rfl))))) es_pass) ?_
  refine es_ret (ev_andE (ev_on (ev_cons (ev_bin (ev_var rfl) ev_con rfl) (ev_cons (ev_on (ev_cons ev_con (ev_cons ev_con (ev_star (ev_var rfl) N ev_nil))) t1) ev_nil)) (one_of ?_)) (ev_on (ev_cons (ev_bin (ev_var rfl) ev_con rfl) (ev_cons (ev_on (ev_cons ev_con (ev_cons ev_con (ev_cons ev_con (ev_star (ev_var rfl) N ev_nil)))) t2) ev_nil)) (one_of ?_)))
  · rcases ha with z | z | z
    · rw [z]; simp
    · rw [z]; simp
    · simp [z]
  · rcases hb with z | z | z | z
    · rw [z]; simp
    · rw [z]; simp
    · rw [z]; simp
    · simp [z]
theorem are_ok {h : MH} {x d : D} {l : List Str} (N : SeqV h x (l.map .str)) (hl : l.length ≤ 3) (p : StepsD l d) : ∃ h', m_are_steps [d, x] h = .ok (.bl true) h' ∧ GA h h' := by
  obtain ⟨ss, rfl, s4, hs⟩ := p
  obtain ⟨h', e1, g⟩ := ev_allA (elt := onA m_is_step (consA (varE 2) (consA (varE 1) (nilA)))) (i := 2) (e := [some (.tup ss), some x, none]) (own := [2]) (it := seqI (varE 0)) (h := h) (i_tup (ev_var rfl)) (fun _ _ => it_nil) (by omega) (fun d hd h1 g1 => ⟨h1, ev_on (ev_cons (ev_var rfl) (ev_cons (ev_var rfl) ev_nil)) (step_ok (N.ga g1) hl (hs d hd)), GA.refl⟩)
  refine ⟨h', ?_, g⟩
  refine ef_rt rfl ?_
  unfold b_are_steps
  exact es_ret (ev_andE (ev_on (ev_cons (ev_var rfl) (ev_cons ev_con ev_nil)) rfl) (ev_andE (ev_bin (ev_on (ev_cons (ev_var rfl) ev_nil) len_tup) ev_con (le_T (by omega))) e1))
theorem line_ok {h : MH} {x d : D} {l : List Str} {last : Bool} (N : SeqV h x (l.map .str)) (hl : l.length ≤ 3) (p : LineD l last d) : ∃ h', m_is_line [d, x] h = .ok (.bl true) h' ∧ GA h h' := by
  obtain ⟨ts, st, rfl, t4, _, ht, s12, hs⟩ := p
  have hq : (valT (bin ninF (onA lenF (consA (varE 0) (nilA))) (onA tupF (consA (conE (.int 2)) (consA (conE (.int 3)) (nilA)))))) [some (.tup (.tup ts :: st)), some x, none, none, none] h = .ok false h := by
    refine ev_val (ev_bin (ev_on (ev_cons (ev_var rfl) ev_nil) len_tup) (ev_on (ev_cons ev_con (ev_cons ev_con ev_nil)) (tup_new (by decide : 2 ≤ 1000000))) ?_)
    rcases s12 with z | z
    · rw [List.length_cons, z]; rfl
    · rw [List.length_cons, z]; rfl
  obtain ⟨h1, e1, g1⟩ := ev_allA (elt := onA m_is_test (consA (varE 4) (consA (varE 1) (nilA)))) (i := 4) (e := [some (.tup (.tup ts :: st)), some x, some (.tup ts), none, none]) (own := [4]) (it := seqI (varE 2)) (h := h) (i_tup (ev_var rfl)) (fun _ _ => it_nil) (by omega) (fun d hd h1 g => ⟨h1, ev_on (ev_cons (ev_var rfl) (ev_cons (ev_var rfl) ev_nil)) (test_ok (N.ga g) hl (ht d hd)), GA.refl⟩)
  have N1 := N.ga g1
  have i2 : seqI (slE (varE 0) (someO (conE (.int 1))) (noO)) [some (.tup (.tup ts :: st)), some x, some (.tup ts), none, none] h1 = .ok ⟨st, []⟩ h1 := by
    refine i_tup (ev_sl (ev_var rfl) (ev_someO ev_con) ev_noO ?_)
    unfold slF
    dsimp only
    have : cutD (D.tup ts :: st) (some 1) none = st := by
      rcases s12 with z | z
      · match st, z with
        | [a], _ => rfl
      · match st, z with
        | [a, b], _ => rfl
    rw [this]
  obtain ⟨h2, e2, g2⟩ := ev_allA (elt := onA m_are_steps (consA (varE 3) (consA (varE 1) (nilA)))) (i := 3) (own := [3]) i2 (fun _ _ => it_nil) (by omega) (fun d hd h2 g => by
    obtain ⟨h3, e3, g3⟩ := are_ok (N1.ga g) hl (hs d hd)
    exact ⟨h3, ev_on (ev_cons (ev_var rfl) (ev_cons (ev_var rfl) ev_nil)) e3, g3⟩)
  refine ⟨h2, ?_, g1.trans g2⟩
  refine ef_rt rfl ?_
  unfold b_is_line
  refine es_seq (es_ifF (ev_orF (ev_not (v := true) (ev_val (ev_on (ev_cons (ev_var rfl) (ev_cons ev_con ev_nil)) rfl))) hq) es_pass) ?_
  refine es_seq (es_set' (ev_bin (ev_var rfl) ev_con (ix_tup (d := .tup ts) (by decide) rfl)) rfl) ?_
  refine es_seq (es_ifF (ev_orF (ev_not (v := true) (ev_val (ev_on (ev_cons (ev_var rfl) (ev_cons ev_con ev_nil)) rfl))) (ev_orF (ev_val (ev_bin (ev_on (ev_cons (ev_var rfl) ev_nil) len_tup) ev_con (gt_F (by omega)))) (ev_not (v := true) (ev_val e1)))) es_pass) ?_
  exact es_ret e2
theorem name_ok {h : MH} {z : Str} (g : GoodN z) : ∃ h', m_is_name [.str z] h = .ok (.bl true) h' ∧ GA h h' := by
  obtain ⟨l1, l2, hc, _⟩ := g
  have cl : (chars z).length = z.length := by unfold chars; simp [Str.length]
  obtain ⟨h', e1, g1⟩ := ev_allA (elt := bin inF (varE 1) (conE (.str "abcdefghijklmnopqrstuvwxyz"))) (i := 1) (e := [some (.str z), none]) (own := [1]) (it := seqI (varE 0)) (h := h) (ds := chars z) (srcs := []) rfl (fun _ _ => it_nil) (by omega) (fun d hd h1 g => by
    obtain ⟨c, c1, c2⟩ := List.mem_map.mp hd
    subst c2
    exact ⟨h1, ev_bin (ev_var rfl) ev_con (in_abc (hc c c1)), GA.refl⟩)
  refine ⟨h', ?_, g1⟩
  refine ef_rt rfl ?_
  unfold b_is_name
  have ln : lenF [.str z] h = .ok (.int z.length) h := by unfold lenF; dsimp only; rw [if_pos (by omega)]
  exact es_ret (ev_andE (ev_on (ev_cons (ev_var rfl) (ev_cons ev_con ev_nil)) rfl) (ev_andE (ev_chain ev_con (ev_on (ev_cons (ev_var rfl) ev_nil) ln) (le_T (by omega)) ev_con (le_T (by omega))) e1))
theorem ne_ii {i : Int} {h : MH} : neF (.int i) (.int i) h = .ok (.bl false) h := by
  unfold neF eqT eqTop isScal
  dsimp only
  unfold scalEq
  simp
theorem regs_ok {h : MH} {x : D} {l : List Str} (N : SeqV h x (l.map .str)) (g : RegsOk l) : ∃ h', m_need_registers [x] h = .ok .non h' ∧ GA h h' := by
  obtain ⟨l3, nd, hg⟩ := g
  obtain ⟨srcs, hi, hs⟩ := N.it (a := varE 0) (e := [some x, none]) (ev_var rfl)
  obtain ⟨h', e1, g1⟩ := ev_allA (elt := andE (onA m_is_name (consA (varE 1) (nilA))) (bin ninF (varE 1) (conE (strsD ["here", "new", "nothing", "is", "not", "from", "or", "ask", "do", "otherwise"])))) (i := 1) (e := [some x, none]) (own := [1]) (it := seqI (varE 0)) (h := h) hi hs (by simp; omega) (fun d hd h1 g => by
    obtain ⟨z, z1, z2⟩ := List.mem_map.mp hd
    subst z2
    obtain ⟨h2, e2, g2⟩ := name_ok (h := h1) (hg z z1)
    exact ⟨h2, ev_andE (ev_on (ev_cons (ev_var rfl) ev_nil) e2) (ev_bin (ev_var rfl) ev_con (nin_barred (hg z z1).2.2.2)), g2⟩)
  refine ⟨h', ?_, g1⟩
  have N' := N.ga g1
  obtain ⟨ks, sq⟩ := N'.seq
  have i2 : lensetF x h' = .ok (.int l.length) h' := by
    unfold lensetF
    rw [sq]
    dsimp only
    rw [strs_of]
    dsimp only
    rw [if_pos (by omega), many_nodup nd _ (Nat.le_refl _)]
  have ln := N'.len
  rw [List.length_map] at ln
  have ln0 := N.len
  rw [List.length_map] at ln0
  have body : b_need_registers [some x, none] h = .nx [some x, none] h' := by
    unfold b_need_registers
    refine es_seq (es_ifF (ev_orF (ev_not (v := true) (ev_val (ev_un (ev_var rfl) N.isi))) (ev_val (ev_bin (ev_on (ev_cons (ev_var rfl) ev_nil) ln0) ev_con (gt_F (by omega))))) es_pass) ?_
    exact es_ifF (ev_orF (ev_not (v := true) (ev_val e1)) (ev_val (ev_bin (ev_un (ev_var rfl) i2) (ev_on (ev_cons (ev_var rfl) ev_nil) ln) ne_ii))) es_pass
  exact ef_nx rfl body
def init_body : SM := ifS (orT (notT (valT (onA m_is_line (consA (varE 4) (consA (varE 1) (nilA)))))) (andT (valT (bin eqF (varE 3) (bin subF (onA lenF (consA (varE 2) (nilA))) (conE (.int 1))))) (valT (bin neF (bin ixF (varE 4) (conE (.int 0))) (onA tupF (nilA)))))) (raiseS "BadLine" "position" (consA (varE 3) (nilA))) (passS)
theorem init_loop {x y self : D} {l : List Str} {ls : List D} {srcs : List (Nat × List D)} {h0 : MH} (N : SeqV h0 x (l.map .str)) (hl : l.length ≤ 3) (L : SeqV h0 y ls) (hs : ∀ h1, GA h0 h1 → IT.ok h1 srcs = true) : ∀ (ds : List D) (i0 : Nat) (e3 e4 : Option D) (h : MH), GA h0 h → (∀ j d, ds[j]? = some d → LineD l (decide (i0 + j + 1 = ls.length)) d) →
    ∃ e3' e4' h', loopS srcs (gtp [gnm 3, gnm 4]) init_body ((ds.zipIdx i0).map fun p => .tup [.int (p.2 : Nat), p.1]) [some self, some x, some y, e3, e4] h = .nx [some self, some x, some y, e3', e4'] h' ∧ GA h h'
  | [], i0, e3, e4, h, g, hd => ⟨e3, e4, h, loop_nil (hs _ g), GA.refl⟩
  | d :: ds, i0, e3, e4, h, g, hd => by
    have ld := hd 0 d rfl
    obtain ⟨h1, e1, g1⟩ := line_ok (N.ga g) hl ld
    obtain ⟨e3', e4', h', e2, g2⟩ := init_loop N hl L hs ds (i0 + 1) (some (.int (i0 : Nat))) (some d) h1 (g.trans g1) (fun j d' q => by
      have := hd (j + 1) d' (by simpa using q)
      rw [show i0 + 1 + j + 1 = i0 + (j + 1) + 1 by omega]
      exact this)
    refine ⟨e3', e4', h', ?_, g1.trans g2⟩
    rw [List.zipIdx_cons, List.map_cons, ← e2]
    apply loop_cons (hs _ g) rfl
    have ln := (L.ga (g.trans g1)).len
    unfold init_body
    refine es_ifF (ev_orF (ev_not (v := true) (ev_val (ev_on (ev_cons (ev_var rfl) (ev_cons (ev_var rfl) ev_nil)) e1))) ?_) es_pass
    by_cases c : i0 + 0 + 1 = ls.length
    · rw [decide_eq_true c] at ld
      obtain ⟨ts, st, rfl, _, tn, _⟩ := ld
      have := tn rfl
      subst this
      refine ev_andT (ev_val (v := true) (ev_bin (ev_var rfl) (ev_bin (ev_on (ev_cons (ev_var rfl) ev_nil) ln) ev_con sub_i) (eq_i.trans ?_))) (ev_val (ev_bin (ev_bin (ev_var rfl) ev_con (ix_tup (d := .tup []) (by decide) rfl)) (ev_on ev_nil (tup_new (by decide : 0 ≤ 1000000))) rfl))
      have : scalEq (.int (i0 : Nat)) (.int ((ls.length : Nat) - 1)) = true := by unfold scalEq; simp; omega
      rw [this]
    · refine ev_andF (ev_val (ev_bin (ev_var rfl) (ev_bin (ev_on (ev_cons (ev_var rfl) ev_nil) ln) ev_con sub_i) (eq_i.trans ?_)))
      have : scalEq (.int (i0 : Nat)) (.int ((ls.length : Nat) - 1)) = false := by unfold scalEq; simp; omega
      rw [this]
theorem init_ok {h : MH} {s : Nat} {x y : D} {l : List Str} {ls : List D} (es : h[s]? = some (.ins "Rule" [])) (N : SeqV h x (l.map .str)) (M : SeqV h y ls) (g : RegsOk l) (L : LinesD l ls) :
    ∃ h', m_Rule_init [.ref s, x, y] h = .ok .non h' ∧ h'[s]? = some (.ins "Rule" [("own_names", .tup (l.map .str)), ("rows", .tup ls)]) ∧ KG s h h' := by
  obtain ⟨L1, L8, LA, LL⟩ := L
  obtain ⟨h1, e1, g1⟩ := regs_ok N g
  have M1 := M.ga g1
  obtain ⟨srcs, en, hs⟩ := M1.enum (a := consA (varE 2) (nilA)) (e := [some (.ref s), some x, some y, none, none]) (ev_cons (ev_var rfl) ev_nil)
  obtain ⟨e3, e4, h2, e2, g2⟩ := init_loop (self := .ref s) (N.ga g1) g.1 M1 hs ls 0 none none h1 GA.refl (fun j d hj => by
    have hm := List.mem_of_getElem? hj
    by_cases c : 0 + j + 1 = ls.length
    · rw [decide_eq_true c]
      refine LL d ?_
      rw [List.getLast?_eq_getElem?, ← hj]
      congr 1
      omega
    · rw [decide_eq_false c]
      exact LA d hm)
  have s2 := (g1.trans g2).2 _ _ es
  have p1 := putI (ci := ["Rule"]) (f := "own_names") (v := .tup (l.map .str)) s2 (by simp) (show (0 : Nat) < 1000 by decide)
  obtain ⟨h3, d3⟩ : ∃ x, x = h2.set s (.ins "Rule" (putFD "own_names" (.tup (l.map .str)) [])) := ⟨_, rfl⟩
  rw [← d3] at p1
  have s3 : h3[s]? = some (.ins "Rule" [("own_names", .tup (l.map .str))]) := by rw [d3, set_get s2]; rfl
  have M3 : SeqV h3 y ls := by
    rcases M1.ga g2 with p | ⟨r, e, q⟩
    · exact .inl p
    · refine .inr ⟨r, e, ?_⟩
      rw [d3, List.getElem?_set_ne (fun z => by rw [z, q] at s2; cases s2)]
      exact q
  have p2 := putI (ci := ["Rule"]) (f := "rows") (v := .tup ls) s3 (by simp) (show (1 : Nat) < 1000 by decide)
  refine ⟨_, ?_, set_get s3, ((g1.trans g2).kg.trans (by rw [d3]; exact KG.set)).trans KG.set⟩
  refine ef_nx (e1 := [some (.ref s), some x, some y, e3, e4]) rfl ?_
  unfold b_Rule_init
  refine es_seq (es_exp (ev_on (ev_cons (ev_var rfl) ev_nil) e1)) ?_
  refine es_seq (es_ifF (ev_orF (ev_not (v := true) (ev_val (ev_un (ev_var rfl) M1.isi))) (ev_not (v := true) (ev_val (ev_chain ev_con (ev_on (ev_cons (ev_var rfl) ev_nil) M1.len) (le_T (by omega)) ev_con (le_T (by omega)))))) es_pass) ?_
  refine es_seq (es_for en e2) ?_
  refine es_seq (es_fld (ev_on (ev_cons (ev_var rfl) ev_nil) ((N.ga (g1.trans g2)).tup)) (ev_var rfl) p1) ?_
  exact es_fld (ev_on (ev_cons (ev_var rfl) ev_nil) M3.tup) (ev_var rfl) p2
end ML
namespace ML
open PySem PySem.Spec PyProof.Rows L2
theorem KB.refl {k b : Nat} {h : MH} : KB k b h h := ⟨Nat.le_refl _, fun _ _ _ _ e => e⟩
theorem KB.set {k b n : Nat} {h : MH} {o : O} (hn : b ≤ n) : KB k b h (h.set n o) := ⟨by simp, fun m x hm _ e => by rw [List.getElem?_set_ne (by omega)]; exact e⟩
theorem idx_ok {v : Int} {n : Nat} (h0 : 0 ≤ v) (h1 : v < n) : seqIndex? v n = some v.toNat := by
  unfold seqIndex?
  first
    | (rw [if_neg (by omega), if_pos (by omega)])
    | (simp; omega)
    | (split <;> simp_all <;> omega)
theorem pop_i {h : MH} {n : Nat} {l : List D} {v : Int} (e : h[n]? = some (.lst l)) (h0 : 0 ≤ v) (h1 : v < l.length) (h2 : l.length < 1000) : popF (.ref n) [.int v] h = .ok (l[v.toNat]'(by omega)) (h.set n (.lst (l.eraseIdx v.toNat))) := by
  unfold popF
  dsimp only
  rw [e]
  dsimp only
  rw [if_pos ⟨by omega, by omega⟩, idx_ok h0 h1]
  dsimp only
  rw [List.getElem?_eq_getElem (by omega)]
theorem ins_i {h : MH} {n : Nat} {l : List D} {v : Int} {y : D} (e : h[n]? = some (.lst l)) (h0 : 0 ≤ v) (h1 : v < 1000) (h2 : l.length < 1000) : insF (.ref n) [.int v, y] h = .ok .non (h.set n (.lst (l.take v.toNat ++ [y] ++ l.drop v.toNat))) := by
  unfold insF
  dsimp only
  rw [e]
  dsimp only
  rw [if_pos ⟨by omega, h0, by omega⟩]
theorem ew_F {t : TM} {b : SM} {n : Nat} {e : Env} {h h1 : MH} (p : t e h = .ok false h1) : whileS t b (n + 1) e h = .nx e h1 := by unfold whileS ofT; rw [p]; rfl
theorem ew_T {t : TM} {b : SM} {n : Nat} {e e2 : Env} {h h1 h2 : MH} {s : S} (p : t e h = .ok true h1) (q : b e h1 = .nx e2 h2) (r : whileS t b n e2 h2 = s) : whileS t b (n + 1) e h = s := by
  unfold whileS ofT
  rw [p]
  dsimp only
  rw [if_pos rfl, q]
  exact r
def mixT : TM := valT (bin neF (varE 2) (onA lstF (nilA)))
def mixB : SM := expS (bmE "list" appF (varE 3) (consA (bmE "list" popF (varE 2) (consA (onA m_law_draw (consA (varE 0) (consA (onA lenF (consA (varE 2) (nilA))) (nilA)))) (nilA))) (nilA)))
theorem erase_perm {l : List D} : ∀ {i : Nat} (h : i < l.length), ([l[i]] ++ l.eraseIdx i).Perm l := by
  induction l with
  | nil => intro i h; exact absurd h (by simp)
  | cons a l ih =>
    intro i h
    cases i with
    | zero => exact List.Perm.refl _
    | succ i =>
      have h' : i < l.length := by simpa using h
      have := ih h'
      show ([l[i]] ++ a :: l.eraseIdx i).Perm (a :: l)
      exact (List.perm_middle (l₁ := [l[i]]) (l₂ := l.eraseIdx i) (a := a)).trans (this.cons a)
theorem mixed_loop {k a b B : Nat} {x1 : Option D} (ak : a ≠ k) (bk : b ≠ k) (ab : a ≠ b) (Ba : B ≤ a) (Bb : B ≤ b) : ∀ (fuel : Nat) (lot acc : List D) (h : MH), Src h k → h[a]? = some (.lst lot) → h[b]? = some (.lst acc) → B ≤ h.length → lot.length < fuel → lot.length + acc.length ≤ 900 →
    ∃ h' acc', whileS mixT mixB fuel [some (.ref k), x1, some (.ref a), some (.ref b)] h = .nx [some (.ref k), x1, some (.ref a), some (.ref b)] h' ∧ h'[b]? = some (.lst acc') ∧ (∀ d ∈ acc', d ∈ acc ∨ d ∈ lot) ∧ acc'.length = acc.length + lot.length ∧ acc'.Perm (acc ++ lot) ∧ Src h' k ∧ KB k B h h'
  | 0, lot, acc, h, S, ea, eb, hB, hf, hl => absurd hf (by omega)
  | fuel + 1, lot, acc, h, S, ea, eb, hB, hf, hl => by
    obtain ⟨h1, d1⟩ : ∃ x, x = h ++ [O.lst []] := ⟨_, rfl⟩
    have g1 : GA h h1 := by rw [d1]; exact GA.app
    have S1 : Src h1 k := by rw [d1]; exact S.app
    have q1 : h1[h.length]? = some (.lst []) := by rw [d1]; simp
    have ea1 := g1.2 _ _ ea
    have eb1 := g1.2 _ _ eb
    have cond : mixT [some (.ref k), x1, some (.ref a), some (.ref b)] h = .ok (!lot.isEmpty) h1 := ev_val (ev_bin (ev_var rfl) (ev_on ev_nil (new0 d1)) (ne_lnil ea1 q1))
    cases lot with
    | nil => exact ⟨h1, acc, ew_F cond, eb1, fun d hd => .inl hd, by simp, by rw [List.append_nil], S1, g1.kg.kb⟩
    | cons x lot0 =>
      obtain ⟨lot, dl⟩ : ∃ l, l = x :: lot0 := ⟨_, rfl⟩
      rw [← dl] at ea ea1 hf hl cond
      have l0 : 0 < lot.length := by rw [dl]; simp
      have cond : mixT [some (.ref k), x1, some (.ref a), some (.ref b)] h = .ok true h1 := by rw [cond, dl]; rfl
      obtain ⟨v, h2, e2, v0, v1, S2, g2, n2⟩ := draw2 (span := (lot.length : Int)) S1 (by omega) (by omega)
      have ea2 := g2.2 _ _ ak ea1
      have eb2 := g2.2 _ _ bk eb1
      have e3 := pop_i ea2 v0 v1 (by omega)
      obtain ⟨h3, d3⟩ : ∃ x, x = h2.set a (.lst (lot.eraseIdx v.toNat)) := ⟨_, rfl⟩
      rw [← d3] at e3
      have ea3 : h3[a]? = some (.lst (lot.eraseIdx v.toNat)) := by rw [d3]; exact set_get ea2
      have eb3 : h3[b]? = some (.lst acc) := by rw [d3, List.getElem?_set_ne ab]; exact eb2
      have S3 : Src h3 k := by rw [d3]; exact S2.other ak
      have e4 := append_i (y := lot[v.toNat]'(by omega)) eb3 (by omega)
      obtain ⟨h4, d4⟩ : ∃ x, x = h3.set b (.lst (acc ++ [lot[v.toNat]'(by omega)])) := ⟨_, rfl⟩
      rw [← d4] at e4
      have ea4 : h4[a]? = some (.lst (lot.eraseIdx v.toNat)) := by rw [d4, List.getElem?_set_ne (Ne.symm ab)]; exact ea3
      have eb4 : h4[b]? = some (.lst (acc ++ [lot[v.toNat]'(by omega)])) := by rw [d4]; exact set_get eb3
      have S4 : Src h4 k := by rw [d4]; exact S3.other bk
      have le : (lot.eraseIdx v.toNat).length = lot.length - 1 := List.length_eraseIdx_of_lt (by omega)
      have kb3 : KB k B h2 h3 := by rw [d3]; exact KB.set Ba
      have kb4 : KB k B h3 h4 := by rw [d4]; exact KB.set Bb
      have kb : KB k B h h4 := ((g1.kg.trans g2).kb.trans kb3).trans kb4
      obtain ⟨h', acc', e5, q5, m5, l5, p5, S5, k5⟩ := mixed_loop (x1 := x1) ak bk ab Ba Bb fuel (lot.eraseIdx v.toNat) (acc ++ [lot[v.toNat]'(by omega)]) h4 S4 ea4 eb4 (Nat.le_trans hB kb.1) (by rw [le]; omega) (by rw [le]; simp only [List.length_append, List.length_cons, List.length_nil]; omega)
      refine ⟨h', acc', ew_T cond ?_ e5, q5, fun d hd => ?_, by rw [l5, le, ← dl]; simp only [List.length_append, List.length_cons, List.length_nil]; omega, (by rw [← dl]; exact p5.trans (by rw [List.append_assoc]; exact (erase_perm (by omega)).append_left acc)), S5, kb.trans k5⟩
      · unfold mixB
        exact es_exp (ev_bm (ev_var rfl) (ty_lst eb1) (ev_cons (ev_bm (ev_var rfl) (ty_lst ea1) (ev_cons (ev_on (ev_cons (ev_var rfl) (ev_cons (ev_on (ev_cons (ev_var rfl) ev_nil) (len_lst ea1)) ev_nil)) e2) ev_nil) e3) ev_nil) e4)
      · rw [← dl]
        rcases m5 d hd with z | z
        · rcases List.mem_append.mp z with z | z
          · exact .inl z
          · simp only [List.mem_cons, List.not_mem_nil, or_false] at z
            rw [z]
            exact .inr (List.getElem_mem _)
        · exact .inr (List.mem_of_mem_eraseIdx z)
theorem mixedP {h : MH} {k : Nat} {x : D} {ls : List D} (S : Src h k) (M : SeqV h x ls) (hl : ls.length ≤ 90) : ∃ n h' ls', m_law_mixed [.ref k, x] h = .ok (.ref n) h' ∧ h'[n]? = some (.lst ls') ∧ (∀ d ∈ ls', d ∈ ls) ∧ ls'.length = ls.length ∧ ls'.Perm ls ∧ h.length ≤ n ∧ Src h' k ∧ KG k h h' := by
  have hk := S.lt
  obtain ⟨h1, d1⟩ : ∃ x, x = h ++ [O.lst ls] := ⟨_, rfl⟩
  have g1 : GA h h1 := by rw [d1]; exact GA.app
  have S1 : Src h1 k := by rw [d1]; exact S.app
  have q1 : h1[h.length]? = some (.lst ls) := by rw [d1]; simp
  obtain ⟨h2, d2⟩ : ∃ x, x = h1 ++ [O.lst []] := ⟨_, rfl⟩
  have g2 : GA h1 h2 := by rw [d2]; exact GA.app
  have S2 : Src h2 k := by rw [d2]; exact S1.app
  have q2 : h2[h1.length]? = some (.lst []) := by rw [d2]; simp
  have l1 : h1.length = h.length + 1 := by rw [d1]; simp
  have l2 : h2.length = h1.length + 1 := by rw [d2]; simp
  obtain ⟨h', acc', e3, q3, m3, n3, p3, S3, k3⟩ := mixed_loop (k := k) (a := h.length) (b := h1.length) (B := h.length) (x1 := some x) (by omega) (by omega) (by omega) (Nat.le_refl _) (by omega) 100 ls [] h2 S2 (g2.2 _ _ q1) q2 (by omega) (by omega) (by simp; omega)
  refine ⟨h1.length, h', acc', ?_, q3, fun d hd => (m3 d hd).elim (fun z => nomatch z) id, by rw [n3]; simp, p3, by omega, S3, ((g1.trans g2).kg.kb.trans k3).kg⟩
  have lc := M.list
  rw [← d1] at lc
  refine ef_rt rfl ?_
  unfold b_law_mixed
  refine es_seq (es_par2 (ev_cons (ev_on (ev_cons (ev_var rfl) ev_nil) lc) (ev_cons (ev_on ev_nil (new0 d2)) ev_nil))) ?_
  exact es_seq e3 (es_ret (ev_var rfl))
theorem mixed {h : MH} {k : Nat} {x : D} {ls : List D} (S : Src h k) (M : SeqV h x ls) (hl : ls.length ≤ 90) : ∃ n h' ls', m_law_mixed [.ref k, x] h = .ok (.ref n) h' ∧ h'[n]? = some (.lst ls') ∧ (∀ d ∈ ls', d ∈ ls) ∧ ls'.length = ls.length ∧ h.length ≤ n ∧ Src h' k ∧ KG k h h' := by
  obtain ⟨n, h', ls', a, b, c, d, _, e⟩ := mixedP S M hl
  exact ⟨n, h', ls', a, b, c, d, e⟩
theorem names_list {h : MH} {k : Nat} {l : List Str} (S : Src h k) : ∃ d h', listF [.tup (l.map .str)] h = .ok d h' ∧ StrL h' k d l ∧ Src h' k ∧ KG k h h' :=
  ⟨_, _, rfl, ⟨_, rfl, Nat.ne_of_gt S.lt, by simp⟩, S.app, KG.app⟩
/-- pick(source, [..] + list(names)) -/
theorem pickN {h : MH} {k : Nat} {l L : List Str} (S : Src h k) (hL : L.length ≤ 100) (hl : l.length ≤ 3) (h0 : 0 < L.length) {e : Env} {as : AM} {i j : Nat} (hi : e[i]? = some (some (.tup (l.map .str)))) (hj : e[j]? = some (some (.ref k))) (ha : ∀ h, as e h = .ok (L.map .str) h) :
    ∃ s h', onA m_law_pick (consA (varE j) (consA (bin addF (onA lstF as) (onA listF (consA (varE i) (nilA)))) (nilA))) e h = .ok (.str s) h' ∧ (s ∈ L ∨ s ∈ l) ∧ Src h' k ∧ KG k h h' := by
  obtain ⟨d1, h1, e1, L1, S1, g1⟩ := StrL.new (L := L) (by omega) S
  obtain ⟨d2, h2, e2, L2, S2, g2⟩ := names_list (l := l) S1
  obtain ⟨d3, h3, e3, L3, S3, g3⟩ := (L1.kg g2).add L2 (by omega) S2
  obtain ⟨s, h4, e4, ms, S4, g4⟩ := L3.pick (by simp; omega) (by simp; omega) S3
  exact ⟨s, h4, ev_on (ev_cons (ev_var hj) (ev_cons (ev_bin (ev_on (ha _) e1) (ev_on (ev_cons (ev_var hi) ev_nil) e2) e3) ev_nil)) e4, List.mem_append.mp ms, S4, ((g1.trans g2).trans g3).trans g4⟩
theorem strs1 {e : Env} {h : MH} {a : Str} : consA (conE (.str a)) nilA e h = R.ok ([a].map D.str) h := ev_cons ev_con ev_nil
theorem strs3 {e : Env} {h : MH} {a b c : Str} : consA (conE (.str a)) (consA (conE (.str b)) (consA (conE (.str c)) nilA)) e h = R.ok ([a, b, c].map D.str) h := ev_cons ev_con (ev_cons ev_con (ev_cons ev_con ev_nil))
theorem strs4 {e : Env} {h : MH} {a b c d : Str} : consA (conE (.str a)) (consA (conE (.str b)) (consA (conE (.str c)) (consA (conE (.str d)) nilA))) e h = R.ok ([a, b, c, d].map D.str) h := ev_cons ev_con (ev_cons ev_con (ev_cons ev_con (ev_cons ev_con ev_nil)))
def steps_body : SM := seqS (setS 5 (onA m_law_pick (consA (varE 0) (consA (bin addF (onA lstF (consA (conE (.str "here")) (nilA))) (onA listF (consA (varE 1) (nilA)))) (nilA))))) (expS (bmE "list" appF (varE 3) (consA (onA tupF (consA (varE 5) (consA (onA m_law_pick (consA (varE 0) (consA (bin addF (onA lstF (consA (conE (.str "new")) (consA (conE (.str "new")) (consA (conE (.str "here")) (consA (conE (.str "nothing")) (nilA)))))) (onA listF (consA (varE 1) (nilA)))) (nilA)))) (nilA)))) (nilA))))
theorem steps_loop {k f : Nat} {l : List Str} {x2 : Option D} (hf : f ≠ k) (hl : l.length ≤ 3) : ∀ (ds ss : List D) (t y : Option D) (h : MH), Src h k → h[f]? = some (.lst ss) → (∀ s ∈ ss, StepD l s) → ss.length + ds.length ≤ 4 →
    ∃ ss' t' y' h', loopS [] (gnm 4) steps_body ds [some (.ref k), some (.tup (l.map .str)), x2, some (.ref f), t, y] h = .nx [some (.ref k), some (.tup (l.map .str)), x2, some (.ref f), t', y'] h' ∧ h'[f]? = some (.lst ss') ∧ (∀ s ∈ ss', StepD l s) ∧ ss'.length ≤ ss.length + ds.length ∧ Src h' k ∧ KX k f h h'
  | [], ss, t, y, h, S, e, hs, hn => ⟨ss, t, y, h, loop_nil rfl, e, hs, by simp, S, KX.refl⟩
  | d :: ds, ss, t, y, h, S, e, hs, hn => by
    obtain ⟨a, h1, e1, ma, S1, g1⟩ := pickN (l := l) (L := ["here"]) (e := [some (.ref k), some (.tup (l.map .str)), x2, some (.ref f), some d, y]) (i := 1) (j := 0) S (by simp) hl (by simp) rfl rfl (fun _ => strs1)
    obtain ⟨b, h2, e2, mb, S2, g2⟩ := pickN (l := l) (L := ["new", "new", "here", "nothing"]) (e := [some (.ref k), some (.tup (l.map .str)), x2, some (.ref f), some d, some (.str a)]) (i := 1) (j := 0) S1 (by simp) hl (by simp) rfl rfl (fun _ => strs4)
    have f1 := g1.2 _ _ hf e
    have f2 := g2.2 _ _ hf f1
    have e3 := append_i (y := .tup [.str a, .str b]) f2 (by simp only [List.length_cons] at hn; omega)
    have k3 : KX k f h2 (h2.set f (.lst (ss ++ [.tup [.str a, .str b]]))) := KX.set
    have st : StepD l (.tup [.str a, .str b]) := by
      refine mkS ?_ ?_
      · rcases ma with z | z
        · simp only [List.mem_cons, List.not_mem_nil, or_false] at z
          exact .inl z
        · exact .inr z
      · rcases mb with z | z
        · simp only [List.mem_cons, List.not_mem_nil, or_false] at z
          rcases z with z | z | z | z
          · exact .inr (.inl z)
          · exact .inr (.inl z)
          · exact .inl z
          · exact .inr (.inr (.inl z))
        · exact .inr (.inr (.inr z))
    obtain ⟨ss', t', y', h', e4, q1, q2, q3, S', k4⟩ := steps_loop (x2 := x2) hf hl ds (ss ++ [.tup [.str a, .str b]]) (some d) (some (.str a)) _ (S2.other hf) (set_get f2) (faA hs (fa1 st fa0)) (by simp only [List.length_append, List.length_cons, List.length_nil] at hn ⊢; omega)
    refine ⟨ss', t', y', h', ?_, q1, q2, by simp only [List.length_append, List.length_cons, List.length_nil] at q3 ⊢; omega, S', ((g1.trans g2).kx.trans k3).trans k4⟩
    rw [← e4]
    apply loop_cons rfl rfl
    unfold steps_body
    refine es_seq (es_set' e1 rfl) ?_
    exact es_exp (ev_bm (ev_var rfl) (ty_lst f1) (ev_cons (ev_on (ev_cons (ev_var rfl) (ev_cons e2 ev_nil)) (tup_new (by decide : 2 ≤ 1000000))) ev_nil) e3)
theorem steps {h : MH} {k : Nat} {l : List Str} {most : Int} (S : Src h k) (hl : l.length ≤ 3) (m0 : 0 ≤ most) (m1 : most ≤ 4) : ∃ d h', m_law_steps [.ref k, .tup (l.map .str), .int most] h = .ok d h' ∧ StepsD l d ∧ Src h' k ∧ KG k h h' := by
  have hk := S.lt
  obtain ⟨v, h2, e2, v0, v1, S2, g2, n2⟩ := draw2 (span := most + 1) (S.app (t := [O.lst []])) (by omega) (by omega)
  have g1 : KG k h (h ++ [O.lst []]) := KG.app
  have e3 : h2[h.length]? = some (.lst []) := g2.2 _ _ (by omega) (by simp)
  obtain ⟨ss', t', y', h', e9, q1, q2, q3, S', k9⟩ := steps_loop (f := h.length) (l := l) (x2 := some (.int most)) (by omega) hl (rangeD 0 v.toNat) [] none none h2 S2 e3 fa0 (by unfold rangeD; simp; omega)
  refine ⟨.tup ss', h', ?_, ⟨ss', rfl, by unfold rangeD at q3; simp at q3; omega, q2⟩, S', KX.kg (g1.trans g2) (Nat.le_refl _) k9⟩
  refine ef_rt rfl ?_
  unfold b_law_steps
  refine es_seq (es_set' (ev_on ev_nil (lst_new (by decide : 0 ≤ 1000000))) rfl) ?_
  refine es_seq (es_for (ei_rng (ev_cons (ev_on (ev_cons (ev_var rfl) (ev_cons (ev_bin (ev_var rfl) ev_con add_i) ev_nil)) e2) ev_nil) (by omega)) e9) ?_
  exact es_ret (ev_on (ev_cons (ev_var rfl) ev_nil) (by unfold tupleF seqOf; dsimp only; rw [q1]))
def TestsD (l : List Str) (d : D) : Prop := ∃ ts, d = .tup ts ∧ ts.length ≤ 4 ∧ ∀ t ∈ ts, TestD l t
def tests_body : SM := seqS (setS 6 (onA m_law_pick (consA (varE 0) (consA (bin addF (onA lstF (consA (conE (.str "here")) (consA (conE (.str "here")) (consA (conE (.str "new")) (nilA))))) (onA listF (consA (varE 1) (nilA)))) (nilA))))) (seqS (setS 7 (onA m_law_pick (consA (varE 0) (consA (bin addF (onA lstF (consA (conE (.str "new")) (consA (conE (.str "here")) (consA (conE (.str "nothing")) (nilA))))) (onA listF (consA (varE 1) (nilA)))) (nilA))))) (expS (bmE "list" appF (varE 5) (consA (onA tupF (consA (varE 6) (consA (varE 7) (consA (bin gtF (onA m_law_draw (consA (varE 0) (consA (conE (.int 3)) (nilA)))) (conE (.int 0))) (nilA))))) (nilA)))))
theorem tests_loop {k f : Nat} {l : List Str} {x2 x4 : Option D} (hf : f ≠ k) (hl : l.length ≤ 3) : ∀ (ds ts : List D) (t y z : Option D) (h : MH), Src h k → h[f]? = some (.lst ts) → (∀ s ∈ ts, TestD l s) → ts.length + ds.length ≤ 4 →
    ∃ ts' t' y' z' h', loopS [] (gnm 3) tests_body ds [some (.ref k), some (.tup (l.map .str)), x2, t, x4, some (.ref f), y, z] h = .nx [some (.ref k), some (.tup (l.map .str)), x2, t', x4, some (.ref f), y', z'] h' ∧ h'[f]? = some (.lst ts') ∧ (∀ s ∈ ts', TestD l s) ∧ ts'.length ≤ ts.length + ds.length ∧ Src h' k ∧ KX k f h h'
  | [], ts, t, y, z, h, S, e, hs, hn => ⟨ts, t, y, z, h, loop_nil rfl, e, hs, by simp, S, KX.refl⟩
  | d :: ds, ts, t, y, z, h, S, e, hs, hn => by
    obtain ⟨a, h1, e1, ma, S1, g1⟩ := pickN (l := l) (L := ["here", "here", "new"]) (e := [some (.ref k), some (.tup (l.map .str)), x2, some d, x4, some (.ref f), y, z]) (i := 1) (j := 0) S (by simp) hl (by simp) rfl rfl (fun _ => strs3)
    obtain ⟨b, h2, e2, mb, S2, g2⟩ := pickN (l := l) (L := ["new", "here", "nothing"]) (e := [some (.ref k), some (.tup (l.map .str)), x2, some d, x4, some (.ref f), some (.str a), z]) (i := 1) (j := 0) S1 (by simp) hl (by simp) rfl rfl (fun _ => strs3)
    obtain ⟨v, h3, e3, v0, v1, S3, g3, _⟩ := draw2 (span := 3) S2 (by decide) (by decide)
    have f1 := g1.2 _ _ hf e
    have f2 := g2.2 _ _ hf f1
    have f3 := g3.2 _ _ hf f2
    have e4 := append_i (y := .tup [.str a, .str b, .bl (decide (0 < v))]) f3 (by simp only [List.length_cons] at hn; omega)
    have k4 : KX k f h3 (h3.set f (.lst (ts ++ [.tup [.str a, .str b, .bl (decide (0 < v))]]))) := KX.set
    have st : TestD l (.tup [.str a, .str b, .bl (decide (0 < v))]) := by
      refine mkT ?_ ?_
      · rcases ma with z | z
        · simp only [List.mem_cons, List.not_mem_nil, or_false] at z
          rcases z with z | z | z
          · exact .inl z
          · exact .inl z
          · exact .inr (.inl z)
        · exact .inr (.inr z)
      · rcases mb with z | z
        · simp only [List.mem_cons, List.not_mem_nil, or_false] at z
          rcases z with z | z | z
          · exact .inr (.inl z)
          · exact .inl z
          · exact .inr (.inr (.inl z))
        · exact .inr (.inr (.inr z))
    obtain ⟨ts', t', y', z', h', e5, q1, q2, q3, S', k5⟩ := tests_loop (x2 := x2) (x4 := x4) hf hl ds (ts ++ [.tup [.str a, .str b, .bl (decide (0 < v))]]) (some d) (some (.str a)) (some (.str b)) _ (S3.other hf) (set_get f3) (faA hs (fa1 st fa0)) (by simp only [List.length_append, List.length_cons, List.length_nil] at hn ⊢; omega)
    refine ⟨ts', t', y', z', h', ?_, q1, q2, by simp only [List.length_append, List.length_cons, List.length_nil] at q3 ⊢; omega, S', (((g1.trans g2).trans g3).kx.trans k4).trans k5⟩
    rw [← e5]
    apply loop_cons rfl rfl
    unfold tests_body
    refine es_seq (es_set' e1 rfl) ?_
    refine es_seq (es_set' e2 rfl) ?_
    exact es_exp (ev_bm (ev_var rfl) (ty_lst f2) (ev_cons (ev_on (ev_cons (ev_var rfl) (ev_cons (ev_var rfl) (ev_cons (ev_bin (ev_on (ev_cons (ev_var rfl) (ev_cons ev_con ev_nil)) e3) ev_con gt_i) ev_nil))) (tup_new (by decide : 3 ≤ 1000000))) ev_nil) e4)
theorem tests {h : MH} {k : Nat} {l : List Str} {mo : Int} (S : Src h k) (hl : l.length ≤ 3) (m1 : 1 ≤ mo) (m2 : mo ≤ 2) : ∃ d h', m_law_tests [.ref k, .tup (l.map .str), .int mo] h = .ok d h' ∧ TestsD l d ∧ Src h' k ∧ KG k h h' := by
  obtain ⟨v, h1, e1, v0, v1, S1, g1, n1⟩ := draw2 (span := 9) S (by decide) (by decide)
  have hk := S1.lt
  obtain ⟨h2, d2⟩ : ∃ x, x = h1 ++ [O.lst []] := ⟨_, rfl⟩
  have g2 : KG k h1 h2 := by rw [d2]; exact KG.app
  have S2 : Src h2 k := by rw [d2]; exact S1.app
  have q2 : h2[h1.length]? = some (.lst []) := by rw [d2]; simp
  have many : ∃ w h3, ifE (valT (bin gtF (varE 4) (conE (.int 0)))) (bin addF (conE (.int 1)) (onA m_law_draw (consA (varE 0) (consA (varE 2) (nilA))))) (conE (.int 0)) [some (.ref k), some (.tup (l.map .str)), some (.int mo), none, some (.int v), some (.ref h1.length), none, none] h2 = .ok (.int w) h3 ∧ 0 ≤ w ∧ w ≤ 2 ∧ Src h3 k ∧ KG k h2 h3 := by
    by_cases c : 0 < v
    · obtain ⟨w, h3, e3, w0, w1, S3, g3, _⟩ := draw2 (span := mo) S2 (by omega) (by omega)
      exact ⟨1 + w, h3, ev_ifT (ev_val (ev_bin (ev_var rfl) ev_con (gt_i.trans (by rw [decide_eq_true c])))) (ev_bin ev_con (ev_on (ev_cons (ev_var rfl) (ev_cons (ev_var rfl) ev_nil)) e3) add_i), by omega, by omega, S3, g3⟩
    · exact ⟨0, h2, ev_ifF (ev_val (ev_bin (ev_var rfl) ev_con (gt_i.trans (by rw [decide_eq_false c])))) ev_con, by omega, by omega, S2, KG.refl⟩
  obtain ⟨w, h3, e3, w0, w1, S3, g3⟩ := many
  have q3 := g3.2 _ _ (by omega) q2
  obtain ⟨ts, t', y', z', h4, e4, q4, m4, n4, S4, k4⟩ := tests_loop (k := k) (f := h1.length) (l := l) (x2 := some (.int mo)) (x4 := some (.int v)) (by omega) hl (rangeD 0 w.toNat) [] none none none h3 S3 q3 fa0 (by unfold rangeD; simp; omega)
  have n4 : ts.length ≤ 2 := by unfold rangeD at n4; simp at n4; omega
  have g4 : KG k h h4 := KX.kg ((g1.trans g2).trans g3) (by have := g1.1; omega) k4
  have start : ∀ {m : SM} {s : ML.S}, m [some (.ref k), some (.tup (l.map .str)), some (.int mo), t', some (.int v), some (.ref h1.length), y', z'] h4 = s → (seqS (parS [4, 5] (consA (onA m_law_draw (consA (varE 0) (consA (conE (.int 9)) (nilA)))) (consA (onA lstF (nilA)) (nilA)))) (seqS (forS (rng1I (consA (ifE (valT (bin gtF (varE 4) (conE (.int 0)))) (bin addF (conE (.int 1)) (onA m_law_draw (consA (varE 0) (consA (varE 2) (nilA))))) (conE (.int 0))) (nilA))) (gnm 3) tests_body) m)) [some (.ref k), some (.tup (l.map .str)), some (.int mo), none, none, none, none, none] h = s := fun {m s} p => by
    refine es_seq (es_par2 (ev_cons (ev_on (ev_cons (ev_var rfl) (ev_cons ev_con ev_nil)) e1) (ev_cons (ev_on ev_nil (new0 d2)) ev_nil))) ?_
    exact es_seq (es_for (ei_rng (ev_cons e3 ev_nil) (by omega)) e4) p
  have tup : ∀ {n : Nat} {h : MH} {us : List D}, h[n]? = some (.lst us) → tupleF [.ref n] h = .ok (.tup us) h := fun e => by unfold tupleF seqOf; dsimp only; rw [e]
  by_cases c : v = 1
  · subst c
    obtain ⟨h5, d5⟩ : ∃ x, x = h4 ++ [O.lst [.tup [.str "here", .str "here", .bl true]]] := ⟨_, rfl⟩
    have g5 : KG k h4 h5 := by rw [d5]; exact KG.app
    have q5 : h5[h4.length]? = some (.lst [.tup [.str "here", .str "here", .bl true]]) := by rw [d5]; simp
    have S5 : Src h5 k := by rw [d5]; exact S4.app
    have q5' := g5.2 _ _ (by omega) q4
    obtain ⟨R, dR⟩ : ∃ R, R = (List.replicate (4 - (ts.length : Int)).toNat [D.tup [.str "here", .str "here", .bl true]]).flatten := ⟨_, rfl⟩
    have lR : R.length = 4 - ts.length := by rw [dR]; simp <;> omega
    have mR : ∀ d ∈ R, TestD l d := fun d hd => by
      rw [dR] at hd
      obtain ⟨u, hu1, hu2⟩ := List.mem_flatten.mp hd
      obtain ⟨_, z⟩ := List.mem_replicate.mp hu1
      subst z
      simp only [List.mem_cons, List.not_mem_nil, or_false] at hu2
      subst hu2
      exact mkT lh sh
    obtain ⟨h6, d6⟩ : ∃ x, x = h5 ++ [O.lst R] := ⟨_, rfl⟩
    have g6 : KG k h5 h6 := by rw [d6]; exact KG.app
    have q6 : h6[h5.length]? = some (.lst R) := by rw [d6]; simp
    have S6 : Src h6 k := by rw [d6]; exact S5.app
    have e6 : mulF (.ref h4.length) (.int (4 - (ts.length : Int))) h5 = .ok (.ref h5.length) h6 := by
      unfold mulF lstOf
      dsimp only
      rw [q5]
      dsimp only
      rw [if_pos (by simp; omega), d6, dR]
    have q6' := g6.2 _ _ (by omega) q5'
    have e7 := addL q6 q6' (by omega)
    refine ⟨.tup (R ++ ts), h6 ++ [.lst (R ++ ts)], ?_, ⟨_, rfl, by simp; omega, faA mR m4⟩, S6.app, ((g4.trans g5).trans g6).trans KG.app⟩
    refine ef_rt rfl ?_
    unfold b_law_tests
    refine start (es_ret (ev_ifT (ev_val (ev_bin (ev_var rfl) ev_con eq_iT)) (ev_on (ev_cons (ev_bin (ev_bin (ev_on (ev_cons (tup3 ev_con ev_con ev_con) ev_nil) (new1 d5)) (ev_bin ev_con (ev_on (ev_cons (ev_var rfl) ev_nil) (len_lst q5')) sub_i) e6) (ev_var rfl) e7) ev_nil) (tup List.getElem?_concat_length))))
  · refine ⟨.tup ts, h4, ?_, ⟨ts, rfl, by omega, m4⟩, S4, g4⟩
    refine ef_rt rfl ?_
    unfold b_law_tests
    exact start (es_ret (ev_ifF (ev_val (ev_bin (ev_var rfl) ev_con (eq_iF c))) (ev_on (ev_cons (ev_var rfl) ev_nil) (tup q4))))
end ML
namespace ML
open PySem PySem.Spec PyProof.Rows L2
theorem sS {l : List Str} {s : Str} (h : s ∈ l) : SrcN l s := .inr (.inr (.inr h))
theorem good {h : MH} {k : Nat} {l : List Str} (S : Src h k) (hw : ("was" : Str) ∈ l) : ∃ n ls h', m_law_good [.ref k, .str "was"] h = .ok (.ref n) h' ∧ h'[n]? = some (.lst ls) ∧ (∀ d ∈ ls, LineD l false d) ∧ ls.length ≤ 3 ∧ h.length ≤ n ∧ Src h' k ∧ KG k h h' := by
  have hk := S.lt
  obtain ⟨t1, dt1⟩ : ∃ x, x = D.tup [.tup [.tup [.str "here", .str "was", .bl true]], .tup [.tup [.str "here", .str "new"], .tup [.str "was", .str "new"]]] := ⟨_, rfl⟩
  obtain ⟨t2, dt2⟩ : ∃ x, x = D.tup [.tup [.tup [.str "here", .str "new", .bl true]], .tup [.tup [.str "was", .str "new"]]] := ⟨_, rfl⟩
  obtain ⟨t3, dt3⟩ : ∃ x, x = D.tup [.tup [.tup [.str "new", .str "was", .bl true]], .tup []] := ⟨_, rfl⟩
  have L1 : LineD l false t1 := by rw [dt1]; exact mkL1 (by simp) (fun z => (nomatch z)) (fa1 (mkT lh (sS hw)) fa0) (mkSs (by simp) (fa1 (mkS th sn) (fa1 (mkS (.inr hw) sn) fa0)))
  have L2 : LineD l false t2 := by rw [dt2]; exact mkL1 (by simp) (fun z => (nomatch z)) (fa1 (mkT lh sn) fa0) (mkSs (by simp) (fa1 (mkS (.inr hw) sn) fa0))
  have L3 : LineD l false t3 := by rw [dt3]; exact mkL1 (by simp) (fun z => (nomatch z)) (fa1 (mkT ln (sS hw)) fa0) (mkSs (by simp) fa0)
  obtain ⟨n, dn⟩ : ∃ n, n = h.length := ⟨_, rfl⟩
  obtain ⟨h1, d1⟩ : ∃ x, x = h ++ [O.lst [t1, t2]] := ⟨_, rfl⟩
  have g1 : KG k h h1 := by rw [d1]; exact KG.app
  have S1 : Src h1 k := by rw [d1]; exact S.app
  have q1 : h1[n]? = some (.lst [t1, t2]) := by rw [d1, dn]; simp
  have e1 : lstF [t1, t2] h = .ok (.ref n) h1 := by rw [d1, dn]; exact lst_new (by simp)
  have nk : n ≠ k := by omega
  obtain ⟨h2, d2⟩ : ∃ x, x = h1.set n (.lst [t1, t2, t3]) := ⟨_, rfl⟩
  have e2 : appF (.ref n) [t3] h1 = .ok .non h2 := by rw [d2]; exact append_i q1 (by simp)
  have q2 : h2[n]? = some (.lst [t1, t2, t3]) := by rw [d2]; exact set_get q1
  have S2 : Src h2 k := by rw [d2]; exact S1.other nk
  have k2 : KG k h h2 := ((g1.kb (b := h.length)).trans (by rw [d2]; exact KB.set (by omega))).kg
  obtain ⟨v, h3, e3, v0, v1, S3, g3, n3⟩ := draw2 (span := 5) S2 (by decide) (by decide)
  have q3 := g3.2 _ _ nk q2
  have lh3 : h.length ≤ h3.length := (k2.trans g3).1
  -- pop
  have A : ∃ h4 ls, ifS (valT (bin eqF (varE 3) (conE (.int 0)))) (expS (bmE "list" popF (varE 2) (consA (onA m_law_draw (consA (varE 0) (consA (conE (.int 3)) (nilA)))) (nilA)))) (passS) [some (.ref k), some (.str "was"), some (.ref n), some (.int v)] h3 = .nx [some (.ref k), some (.str "was"), some (.ref n), some (.int v)] h4 ∧ h4[n]? = some (.lst ls) ∧ (∀ d ∈ ls, LineD l false d) ∧ ls.length ≤ 3 ∧ (v ≠ 0 → ls = [t1, t2, t3]) ∧ Src h4 k ∧ KG k h h4 := by
    by_cases c : v = 0
    · subst c
      obtain ⟨w, h4, e4, w0, w1, S4, g4, _⟩ := draw2 (span := 3) S3 (by decide) (by decide)
      have q4 := g4.2 _ _ nk q3
      have e5 := pop_i q4 w0 (by simpa using w1) (by simp)
      refine ⟨_, _, es_ifT (ev_val (ev_bin (ev_var rfl) ev_con eq_iT)) (es_exp (ev_bm (ev_var rfl) (ty_lst q3) (ev_cons (ev_on (ev_cons (ev_var rfl) (ev_cons ev_con ev_nil)) e4) ev_nil) e5)), set_get q4, fun d hd => fa1 L1 (fa1 L2 (fa1 L3 fa0)) d (List.mem_of_mem_eraseIdx hd), Nat.le_trans (List.length_eraseIdx_le _ _) (by simp), fun z => absurd rfl z, S4.other nk, (((k2.trans g3).trans g4).kb.trans (KB.set (by omega))).kg⟩
    · exact ⟨h3, _, es_ifF (ev_val (ev_bin (ev_var rfl) ev_con (eq_iF c))) es_pass, q3, fa1 L1 (fa1 L2 (fa1 L3 fa0)), by simp, fun _ => rfl, S3, k2.trans g3⟩
  obtain ⟨h4, ls4, e4, q4, m4, l4, z4, S4, k4⟩ := A
  have B : ∃ n' h5 ls, ifS (valT (bin eqF (varE 3) (conE (.int 1)))) (setS 2 (onA m_law_mixed (consA (varE 0) (consA (varE 2) (nilA))))) (passS) [some (.ref k), some (.str "was"), some (.ref n), some (.int v)] h4 = .nx [some (.ref k), some (.str "was"), some (.ref n'), some (.int v)] h5 ∧ h5[n']? = some (.lst ls) ∧ (∀ d ∈ ls, LineD l false d) ∧ ls.length ≤ 3 ∧ (v = 2 → ls = [t1, t2, t3]) ∧ h.length ≤ n' ∧ n' ≠ k ∧ Src h5 k ∧ KG k h h5 := by
    by_cases c : v = 1
    · subst c
      obtain ⟨n', h5, ls', e5, q5, m5, l5, b5, S5, g5⟩ := mixed S4 (.inr ⟨n, rfl, q4⟩) (by omega)
      have := k4.1
      exact ⟨n', h5, ls', es_ifT (ev_val (ev_bin (ev_var rfl) ev_con eq_iT)) (es_set' (ev_on (ev_cons (ev_var rfl) (ev_cons (ev_var rfl) ev_nil)) e5) rfl), q5, fun d hd => m4 d (m5 d hd), by omega, fun z => absurd z (by decide), by omega, by omega, S5, k4.trans g5⟩
    · exact ⟨n, h4, ls4, es_ifF (ev_val (ev_bin (ev_var rfl) ev_con (eq_iF c))) es_pass, q4, m4, l4, fun z => z4 (by omega), by omega, nk, S4, k4⟩
  obtain ⟨n', h5, ls5, e5, q5, m5, l5, z5, b5, nk5, S5, k5⟩ := B
  have C : ∃ h6 ls, ifS (valT (bin eqF (varE 3) (conE (.int 2)))) (setX (varE 2) (conE (.int 0)) (onA tupF (consA (bin ixF (bin ixF (varE 2) (conE (.int 0))) (conE (.int 0))) (consA (revE (bin ixF (bin ixF (varE 2) (conE (.int 0))) (conE (.int 1)))) (nilA))))) (passS) [some (.ref k), some (.str "was"), some (.ref n'), some (.int v)] h5 = .nx [some (.ref k), some (.str "was"), some (.ref n'), some (.int v)] h6 ∧ h6[n']? = some (.lst ls) ∧ (∀ d ∈ ls, LineD l false d) ∧ ls.length ≤ 3 ∧ Src h6 k ∧ KG k h h6 := by
    by_cases c : v = 2
    · have := z5 c
      subst this c
      obtain ⟨t1', dt1'⟩ : ∃ x, x = D.tup [.tup [.tup [.str "here", .str "was", .bl true]], .tup [.tup [.str "was", .str "new"], .tup [.str "here", .str "new"]]] := ⟨_, rfl⟩
      have L1' : LineD l false t1' := by rw [dt1']; exact mkL1 (by simp) (fun z => (nomatch z)) (fa1 (mkT lh (sS hw)) fa0) (mkSs (by simp) (fa1 (mkS (.inr hw) sn) (fa1 (mkS th sn) fa0)))
      have i0 : ∀ {e : Env} (he : e[2]? = some (some (.ref n'))), bin ixF (varE 2) (conE (.int 0)) e h5 = .ok t1 h5 := fun he => ev_bin (ev_var he) ev_con (ix_lst q5 (by decide) rfl)
      have st : stF (.ref n') (.int 0) t1' h5 = some (h5.set n' (.lst [t1', t2, t3])) := by simp [stF, q5, ixN]
      refine ⟨_, [t1', t2, t3], es_ifT (ev_val (ev_bin (ev_var rfl) ev_con eq_iT)) (es_setX (z := t1') (x := .ref n') (y := .int 0) ?_ (ev_var rfl) ev_con st), set_get q5, fa1 L1' (fa1 L2 (fa1 L3 fa0)), by simp, S5.other nk5, ((k5.kb (b := h.length)).trans (KB.set b5)).kg⟩
      rw [dt1'] 
      refine tup2 (ev_bin (i0 rfl) ev_con ?_) ?_
      · rw [dt1]; exact ix_tup (by decide) rfl
      · have i1 : bin ixF (bin ixF (varE 2) (conE (.int 0))) (conE (.int 1)) [some (.ref k), some (.str "was"), some (.ref n'), some (.int 2)] h5 = .ok (.tup [.tup [.str "here", .str "new"], .tup [.str "was", .str "new"]]) h5 := ev_bin (i0 rfl) ev_con (by rw [dt1]; exact ix_tup (by decide) rfl)
        unfold revE
        rw [i1]
        rfl
    · exact ⟨h5, ls5, es_ifF (ev_val (ev_bin (ev_var rfl) ev_con (eq_iF c))) es_pass, q5, m5, l5, S5, k5⟩
  obtain ⟨h6, ls6, e6, q6, m6, l6, S6, k6⟩ := C
  refine ⟨n', ls6, h6, ?_, q6, m6, l6, b5, S6, k6⟩
  refine ef_rt rfl ?_
  unfold b_law_good
  refine es_seq (es_set' (ev_on (ev_cons (h1 := h) (x := t1) ?_ (ev_cons (h1 := h) (x := t2) ?_ ev_nil)) e1) rfl) ?_
  · rw [dt1]; exact tup2 (tup1 (tup3 ev_con (ev_var rfl) ev_con)) (tup2 (tup2 ev_con ev_con) (tup2 (ev_var rfl) ev_con))
  · rw [dt2]; exact tup2 (tup1 (tup3 ev_con ev_con ev_con)) (tup1 (tup2 (ev_var rfl) ev_con))
  refine es_seq (es_exp (ev_bm (ev_var rfl) (ty_lst q1) (ev_cons (h1 := h1) (x := t3) ?_ ev_nil) e2)) ?_
  · rw [dt3]; exact tup2 (tup1 (tup3 ev_con (ev_var rfl) ev_con)) tup0
  refine es_seq (es_set' (ev_on (ev_cons (ev_var rfl) (ev_cons ev_con ev_nil)) e3) rfl) ?_
  refine es_seq e4 (es_seq e5 (es_seq e6 (es_ret (ev_var rfl))))
theorem lc_mapA {srcs : List (Nat × List D)} {elt : EM} {n i : Nat} {e0 : Env} {h0 : MH} {f : D → D} (hs : ∀ h, GA h0 h → IT.ok h srcs = true) (hn : h0.length ≤ n) : ∀ (ds acc : List D) (h : MH), GA h0 h → h[n]? = some (.lst acc) → acc.length + ds.length < 1000 → (∀ d ∈ ds, ∀ h, GA h0 h → ∃ h', elt (e0.set i (some d)) h = .ok (f d) h' ∧ GA h h') →
    ∃ h', lcLoop srcs (gnm i) yesT elt n e0 ds h = .ok (.ref n) h' ∧ h'[n]? = some (.lst (acc ++ ds.map f)) ∧ GA h0 h'
  | [], acc, h, p, e, hl, hd => ⟨h, by unfold lcLoop; rw [if_pos (hs h p)], by simpa using e, p⟩
  | d :: ds, acc, h, p, e, hl, hd => by
    obtain ⟨h1, e1, g1⟩ := hd d List.mem_cons_self h p
    have q1 := g1.2 _ _ e
    obtain ⟨h', e2, e3, p'⟩ := lc_mapA hs hn ds (acc ++ [f d]) (h1.set n (.lst (acc ++ [f d]))) ((p.trans g1).setB hn) (set_get q1) (by simp only [List.length_append, List.length_cons, List.length_nil] at hl ⊢; omega) (fun x hx => hd x (List.mem_cons_of_mem _ hx))
    refine ⟨h', ?_, by rw [e3]; simp, p'⟩
    rw [← e2]
    conv => lhs; unfold lcLoop
    rw [if_pos (hs h p)]
    have tg : gnm i d e0 h = some (e0.set i (some d)) := rfl
    rw [tg]
    dsimp only [yesT]
    rw [e1]
    dsimp only
    rw [q1]
    dsimp only
    rw [if_pos (by simp only [List.length_cons] at hl; omega)]
theorem ev_mapL {elt : EM} {i : Nat} {e : Env} {own : List Nat} {it : IM} {ds : List D} {srcs : List (Nat × List D)} {h : MH} {f : D → D} (hi : it e h = .ok ⟨ds, srcs⟩ h) (hs : ∀ h1, GA h h1 → IT.ok h1 srcs = true) (hl : ds.length < 900) (hd : ∀ d ∈ ds, ∀ h1, GA h h1 → ∃ h2, elt ((wipeM e own).set i (some d)) h1 = .ok (f d) h2 ∧ GA h1 h2) :
    ∃ h', lcE own it (gnm i) yesT elt e h = .ok (.ref h.length) h' ∧ h'[h.length]? = some (.lst (ds.map f)) ∧ GA h h' := by
  obtain ⟨h', e1, e2, p'⟩ := lc_mapA (n := h.length) (i := i) (elt := elt) (e0 := wipeM e own) (f := f) hs (Nat.le_refl _) ds [] (h ++ [O.lst []]) GA.app (by simp) (by simp; omega) hd
  refine ⟨h', ?_, by simpa using e2, p'⟩
  unfold lcE
  rw [hi]
  exact e1
theorem ev_mapT {elt : EM} {i : Nat} {e : Env} {own : List Nat} {it : IM} {ds : List D} {srcs : List (Nat × List D)} {h : MH} {f : D → D} (hi : it e h = .ok ⟨ds, srcs⟩ h) (hs : ∀ h1, GA h h1 → IT.ok h1 srcs = true) (hl : ds.length < 900) (hd : ∀ d ∈ ds, ∀ h1, GA h h1 → ∃ h2, elt ((wipeM e own).set i (some d)) h1 = .ok (f d) h2 ∧ GA h1 h2) :
    ∃ h', onA tupleF (consA (lcE own it (gnm i) yesT elt) nilA) e h = .ok (.tup (ds.map f)) h' ∧ GA h h' := by
  obtain ⟨h', e1, e2, g⟩ := ev_mapL (own := own) hi hs hl hd
  exact ⟨h', ev_on (ev_cons e1 ev_nil) (by unfold tupleF seqOf; dsimp only; rw [e2]), g⟩
def subS (w s : Str) : Str := if s = "was" then w else s
def subD (w : Str) : D → D
  | .str s => .str (subS w s)
  | d => d
def subE (w : Str) : D → D
  | .tup xs => .tup (xs.map (subD w))
  | d => d
def subPn (w : Str) : D → D
  | .tup xs => .tup (xs.map (subE w))
  | d => d
def subL (w : Str) : D → D
  | .tup xs => .tup (xs.map (subPn w))
  | d => d
theorem sub_mem {w s : Str} {l : List Str} (h : s ∈ l) : subS w s ∈ l.map (subS w) := List.mem_map.mpr ⟨s, h, rfl⟩
theorem sub_no {w s : Str} (h : s ≠ "was") : subS w s = s := by unfold subS; rw [if_neg h]
theorem LeftN.sub {w s : Str} {l : List Str} (p : LeftN l s) : LeftN (l.map (subS w)) (subS w s) := by
  rcases p with z | z | z
  · rw [z, sub_no (by decide)]; exact .inl rfl
  · rw [z, sub_no (by decide)]; exact .inr (.inl rfl)
  · exact .inr (.inr (sub_mem z))
theorem TgtN.sub {w s : Str} {l : List Str} (p : TgtN l s) : TgtN (l.map (subS w)) (subS w s) := by
  rcases p with z | z
  · rw [z, sub_no (by decide)]; exact .inl rfl
  · exact .inr (sub_mem z)
theorem SrcN.sub {w s : Str} {l : List Str} (p : SrcN l s) : SrcN (l.map (subS w)) (subS w s) := by
  rcases p with z | z | z | z
  · rw [z, sub_no (by decide)]; exact .inl rfl
  · rw [z, sub_no (by decide)]; exact .inr (.inl rfl)
  · rw [z, sub_no (by decide)]; exact .inr (.inr (.inl rfl))
  · exact .inr (.inr (.inr (sub_mem z)))
theorem TestD.sub {w : Str} {l : List Str} {d : D} (p : TestD l d) : TestD (l.map (subS w)) (subE w d) := by
  obtain ⟨a, b, v, rfl, p1, p2⟩ := p
  exact ⟨_, _, v, rfl, p1.sub, p2.sub⟩
theorem StepD.sub {w : Str} {l : List Str} {d : D} (p : StepD l d) : StepD (l.map (subS w)) (subE w d) := by
  obtain ⟨a, b, rfl, p1, p2⟩ := p
  exact ⟨_, _, rfl, p1.sub, p2.sub⟩
theorem StepsD.sub {w : Str} {l : List Str} {d : D} (p : StepsD l d) : StepsD (l.map (subS w)) (subPn w d) := by
  obtain ⟨ss, rfl, h, p⟩ := p
  refine ⟨_, rfl, by simpa using h, fun s hs => ?_⟩
  obtain ⟨t, ht, e⟩ := List.mem_map.mp hs
  rw [← e]
  exact (p t ht).sub
theorem LineD.sub {w : Str} {l : List Str} {b : Bool} {d : D} (p : LineD l b d) : LineD (l.map (subS w)) b (subL w d) := by
  obtain ⟨ts, st, rfl, h, n, pt, hl, ps⟩ := p
  refine ⟨ts.map (subE w), st.map (subPn w), rfl, by simpa using h, fun z => by rw [n z]; rfl, fun t ht => ?_, by simpa using hl, fun s hs => ?_⟩
  · obtain ⟨t', h', e⟩ := List.mem_map.mp ht
    rw [← e]
    exact (pt t' h').sub
  · obtain ⟨t', h', e⟩ := List.mem_map.mp hs
    rw [← e]
    exact (ps t' h').sub
theorem LinesD.sub {w : Str} {l : List Str} {ls : List D} (p : LinesD l ls) : LinesD (l.map (subS w)) (ls.map (subL w)) := by
  obtain ⟨p1, p2, p3, p4⟩ := p
  refine ⟨by simpa using p1, by simpa using p2, fun d hd => ?_, fun d hd => ?_⟩
  · obtain ⟨t, ht, e⟩ := List.mem_map.mp hd
    rw [← e]
    exact (p3 t ht).sub
  · rw [List.getLast?_map] at hd
    cases q : ls.getLast? with
    | none => rw [q] at hd; cases hd
    | some t =>
      rw [q] at hd
      have e : subL w t = d := by simpa using hd
      rw [← e]
      exact (p4 t q).sub
theorem map_sub {w : Str} {l : List Str} : (l.map D.str).map (subD w) = (l.map (subS w)).map D.str := by simp [List.map_map, Function.comp_def, subD]
/-- a plain entry: texts and bools -/
def EntD (d : D) : Prop := ∃ xs, d = .tup xs ∧ xs.length ≤ 100 ∧ ∀ x ∈ xs, (∃ s, x = .str s) ∨ ∃ b, x = .bl b
theorem sub_elt {w : Str} {x : D} {e : Env} {h : MH} {i : Nat} (hx : (∃ s, x = .str s) ∨ ∃ b, x = .bl b) (h0 : e[0]? = some (some (.str w))) (hi : e[i]? = some (some x)) : ifE (valT (bin eqF (varE i) (conE (.str "was")))) (varE 0) (varE i) e h = .ok (subD w x) h := by
  rcases hx with ⟨s, rfl⟩ | ⟨b, rfl⟩
  · have q : eqF (.str s) (.str "was") h = .ok (.bl (decide (s = "was"))) h := by
      unfold eqF eqT eqTop isScal
      dsimp only
      rw [scal_str]
    by_cases c : s = "was"
    · rw [decide_eq_true c] at q
      have : subD w (.str s) = .str w := by show D.str (subS w s) = _; unfold subS; rw [if_pos c]
      rw [this]
      exact ev_ifT (ev_val (ev_bin (ev_var hi) ev_con q)) (ev_var h0)
    · rw [decide_eq_false c] at q
      have : subD w (.str s) = .str s := by show D.str (subS w s) = _; unfold subS; rw [if_neg c]
      rw [this]
      exact ev_ifF (ev_val (ev_bin (ev_var hi) ev_con q)) (ev_var hi)
  · exact ev_ifF (ev_val (ev_bin (ev_var hi) ev_con (by rfl))) (ev_var hi)
def PartD (d : D) : Prop := ∃ es, d = .tup es ∧ es.length ≤ 100 ∧ ∀ x ∈ es, EntD x
def PlD (d : D) : Prop := ∃ ps, d = .tup ps ∧ ps.length ≤ 100 ∧ ∀ x ∈ ps, PartD x
theorem TestD.ent {l : List Str} {d : D} (p : TestD l d) : EntD d := by
  obtain ⟨a, b, v, rfl, _⟩ := p
  exact ⟨_, rfl, by simp, fa1 (.inl ⟨_, rfl⟩) (fa1 (.inl ⟨_, rfl⟩) (fa1 (.inr ⟨_, rfl⟩) fa0))⟩
theorem StepD.ent {l : List Str} {d : D} (p : StepD l d) : EntD d := by
  obtain ⟨a, b, rfl, _⟩ := p
  exact ⟨_, rfl, by simp, fa1 (.inl ⟨_, rfl⟩) (fa1 (.inl ⟨_, rfl⟩) fa0)⟩
theorem LineD.pl {l : List Str} {b : Bool} {d : D} (p : LineD l b d) : PlD d := by
  obtain ⟨ts, st, rfl, h, n, pt, hl, ps⟩ := p
  refine ⟨_, rfl, by simp; omega, fa1 ⟨ts, rfl, by omega, fun t ht => (pt t ht).ent⟩ fun s hs => ?_⟩
  obtain ⟨ss, rfl, h4, p4⟩ := ps s hs
  exact ⟨ss, rfl, by omega, fun t ht => (p4 t ht).ent⟩
def noted_body : SM := seqS (setS 5 (lcE [6] (seqI (varE 4)) (gnm 6) (yesT) (onA tupleF (consA (lcE [8] (seqI (varE 6)) (gnm 8) (yesT) (onA tupleF (consA (lcE [9] (seqI (varE 8)) (gnm 9) (yesT) (ifE (valT (bin eqF (varE 9) (conE (.str "was")))) (varE 0) (varE 9))) (nilA)))) (nilA))))) (expS (bmE "list" appF (varE 3) (consA (onA tupleF (consA (varE 5) (nilA))) (nilA))))
theorem noted_line {w : Str} {d x1 : D} {x2 x3 x5 : Option D} {h : MH} (p : PlD d) : ∃ h', lcE [6] (seqI (varE 4)) (gnm 6) (yesT) (onA tupleF (consA (lcE [8] (seqI (varE 6)) (gnm 8) (yesT) (onA tupleF (consA (lcE [9] (seqI (varE 8)) (gnm 9) (yesT) (ifE (valT (bin eqF (varE 9) (conE (.str "was")))) (varE 0) (varE 9))) (nilA)))) (nilA))) [some (.str w), some x1, x2, x3, some d, x5, none, none, none, none] h = .ok (.ref h.length) h' ∧ (∃ ps, subL w d = .tup ps ∧ h'[h.length]? = some (.lst ps)) ∧ GA h h' := by
  obtain ⟨ps, rfl, hp, pp⟩ := p
  obtain ⟨h', e, q, g⟩ := ev_mapL (own := [6]) (i := 6) (it := seqI (varE 4)) (f := subPn w) (elt := onA tupleF (consA (lcE [8] (seqI (varE 6)) (gnm 8) (yesT) (onA tupleF (consA (lcE [9] (seqI (varE 8)) (gnm 9) (yesT) (ifE (valT (bin eqF (varE 9) (conE (.str "was")))) (varE 0) (varE 9))) (nilA)))) (nilA))) (e := [some (.str w), some x1, x2, x3, some (.tup ps), x5, none, none, none, none]) (h := h) (i_tup (ev_var rfl)) (fun _ _ => it_nil) (by omega) (fun d hd h1 g1 => by
    obtain ⟨es, rfl, he, pe⟩ := pp d hd
    obtain ⟨h2, e2, g2⟩ := ev_mapT (own := [8]) (i := 8) (it := seqI (varE 6)) (f := subE w) (elt := onA tupleF (consA (lcE [9] (seqI (varE 8)) (gnm 9) (yesT) (ifE (valT (bin eqF (varE 9) (conE (.str "was")))) (varE 0) (varE 9))) (nilA))) (e := [some (.str w), some x1, x2, x3, some (.tup ps), x5, some (.tup es), none, none, none]) (h := h1) (i_tup (ev_var rfl)) (fun _ _ => it_nil) (by omega) (fun d hd h3 g3 => by
      obtain ⟨xs, rfl, hx, px⟩ := pe d hd
      obtain ⟨h4, e4, g4⟩ := ev_mapT (own := [9]) (i := 9) (it := seqI (varE 8)) (f := subD w) (elt := ifE (valT (bin eqF (varE 9) (conE (.str "was")))) (varE 0) (varE 9)) (e := [some (.str w), some x1, x2, x3, some (.tup ps), x5, some (.tup es), none, some (.tup xs), none]) (h := h3) (i_tup (ev_var rfl)) (fun _ _ => it_nil) (by omega) (fun d hd h5 g5 => ⟨h5, sub_elt (px d hd) rfl rfl, GA.refl⟩)
      exact ⟨h4, e4, g4⟩)
    exact ⟨h2, e2, g2⟩)
  exact ⟨h', e, ⟨_, rfl, q⟩, g⟩
end ML
namespace ML
open PySem PySem.Spec PyProof.Rows L2
theorem noted_loop {w : Str} {x1 : D} {n f : Nat} {ls : List D} (nf : n ≠ f) : ∀ (ds acc : List D) (t y : Option D) (h : MH), h[n]? = some (.lst ls) → h[f]? = some (.lst acc) → (∀ d ∈ ds, PlD d) → acc.length + ds.length ≤ 100 →
    ∃ t' y' h', loopS [(n, ls)] (gnm 4) noted_body ds [some (.str w), some x1, some (.ref n), some (.ref f), t, y, none, none, none, none] h = .nx [some (.str w), some x1, some (.ref n), some (.ref f), t', y', none, none, none, none] h' ∧ h'[f]? = some (.lst (acc ++ ds.map (subL w))) ∧ KG f h h'
  | [], acc, t, y, h, en, ef, hd, hl => ⟨t, y, h, loop_nil (stands1 en), by simpa using ef, KG.refl⟩
  | d :: ds, acc, t, y, h, en, ef, hd, hl => by
    obtain ⟨h1, e1, ⟨ps, p1, q1⟩, g1⟩ := noted_line (w := w) (x1 := x1) (x2 := some (.ref n)) (x3 := some (.ref f)) (x5 := y) (h := h) (hd d List.mem_cons_self)
    have ef1 := g1.2 _ _ ef
    have en1 := g1.2 _ _ en
    have e2 : tupleF [.ref h.length] h1 = .ok (subL w d) h1 := by unfold tupleF seqOf; dsimp only; rw [q1, p1]
    have e3 := append_i (y := subL w d) ef1 (by simp only [List.length_cons] at hl; omega)
    obtain ⟨t', y', h', e4, q4, k4⟩ := noted_loop (w := w) (x1 := x1) (ls := ls) nf ds (acc ++ [subL w d]) (some d) (some (.ref h.length)) (h1.set f (.lst (acc ++ [subL w d]))) (by rw [List.getElem?_set_ne (Ne.symm nf)]; exact en1) (set_get ef1) (fun x hx => hd x (List.mem_cons_of_mem _ hx)) (by simp only [List.length_append, List.length_cons, List.length_nil] at hl ⊢; omega)
    refine ⟨t', y', h', ?_, by rw [q4]; simp, (g1.kg.trans KG.set).trans k4⟩
    rw [← e4]
    apply loop_cons (stands1 en) rfl
    unfold noted_body
    refine es_seq (es_set' e1 rfl) ?_
    exact es_exp (ev_bm (ev_var rfl) (ty_lst ef1) (ev_cons (ev_on (ev_cons (ev_var rfl) ev_nil) e2) ev_nil) e3)
theorem noted {h : MH} {w : Str} {l : List Str} {n : Nat} {ls : List D} (en : h[n]? = some (.lst ls)) (hp : ∀ d ∈ ls, PlD d) (hl : l.length ≤ 100) (hls : ls.length ≤ 90) :
    ∃ h', m_law_noted_as [.str w, .tup (l.map .str), .ref n] h = .ok (.tup [.tup ((l.map (subS w)).map .str), .tup (ls.map (subL w))]) h' ∧ GA h h' := by
  have hn := (List.getElem?_eq_some_iff.mp en).1
  obtain ⟨h1, d1⟩ : ∃ x, x = h ++ [O.lst []] := ⟨_, rfl⟩
  have g1 : GA h h1 := by rw [d1]; exact GA.app
  have q1 : h1[h.length]? = some (.lst []) := by rw [d1]; simp
  obtain ⟨t', y', h2, e2, q2, k2⟩ := noted_loop (w := w) (x1 := .tup (l.map .str)) (f := h.length) (n := n) (by omega) ls [] none none h1 (g1.2 _ _ en) q1 hp (by simp; omega)
  have g2 : GA h h2 := ⟨Nat.le_trans g1.1 k2.1, fun m o e => k2.2 m o (by have := (List.getElem?_eq_some_iff.mp e).1; omega) (g1.2 _ _ e)⟩
  obtain ⟨h3, e3, g3⟩ := ev_mapT (own := [7]) (i := 7) (it := seqI (varE 1)) (f := subD w) (elt := ifE (valT (bin eqF (varE 7) (conE (.str "was")))) (varE 0) (varE 7)) (e := [some (.str w), some (.tup (l.map .str)), some (.ref n), some (.ref h.length), t', y', none, none, none, none]) (h := h2) (i_tup (ev_var rfl)) (fun _ _ => it_nil) (by simp; omega) (fun d hd h5 g5 => by
    obtain ⟨s, _, e⟩ := List.mem_map.mp hd
    subst e
    exact ⟨h5, sub_elt (.inl ⟨_, rfl⟩) rfl rfl, GA.refl⟩)
  rw [map_sub] at e3
  rw [List.nil_append] at q2
  refine ⟨h3, ?_, g2.trans g3⟩
  have q3 := g3.2 _ _ q2
  refine ef_rt rfl ?_
  unfold b_law_noted_as
  refine es_seq (es_set' (ev_on ev_nil (new0 d1)) rfl) ?_
  refine es_seq (es_for (ei_lst (ev_var rfl) (g1.2 _ _ en)) e2) ?_
  exact es_ret (ev_on (ev_cons e3 (ev_cons (ev_on (ev_cons (ev_var rfl) ev_nil) (by unfold tupleF seqOf; dsimp only; rw [q3])) ev_nil)) (tup_new (by decide : 2 ≤ 1000000)))
theorem any_dec {s : Str} {L : List Str} : (L.any fun y => scalEq (.str y) (.str s)) = decide (s ∈ L) := by
  by_cases c : s ∈ L
  · rw [any_mem c, decide_eq_true c]
  · rw [decide_eq_false c]
    cases z : L.any fun y => scalEq (.str y) (.str s) with
    | false => rfl
    | true =>
      obtain ⟨y, hy, q⟩ := List.any_eq_true.mp z
      rw [scal_str] at q
      exact absurd (of_decide_eq_true q ▸ hy) c
theorem in_tupD {h : MH} {s : Str} {L : List Str} : inF (.str s) (.tup (L.map D.str)) h = .ok (.bl (decide (s ∈ L))) h := by rw [in_tup, any_dec]
def bases : List (List Str) := [[], ["was"], ["was"], ["beside"], ["was", "due"], ["beside", "was"], ["elder", "was"], ["was", "elder"], ["beside", "elder"], ["due", "beside", "was"], ["elder", "beside", "was"]]
def words : List Str := ["was", "was", "was", "last", "mark", "mine", "own", "take"]
theorem bases_ok : ∀ l ∈ bases, ∀ w ∈ words, RegsOk (l.map (subS w)) ∧ ∀ z ∈ l.map (subS w), z ≠ "more" ∧ z ≠ "zzz" := by
  unfold RegsOk GoodN
  decide +kernel
theorem bases_len : ∀ l ∈ bases, l.length ≤ 3 := by decide
/-- lines so far -/
def LnsL (h : MH) (n : Nat) (l : List Str) (m : Nat) : Prop := ∃ ls, h[n]? = some (.lst ls) ∧ ls.length ≤ m ∧ ∀ d ∈ ls, LineD l false d
def plan_body : SM := seqS (setS 7 (onA tupF (consA (onA m_law_tests (consA (varE 0) (consA (varE 2) (consA (conE (.int 2)) (nilA))))) (consA (onA m_law_steps (consA (varE 0) (consA (varE 2) (consA (conE (.int 3)) (nilA))))) (nilA))))) (seqS (ifS (valT (bin eqF (onA m_law_draw (consA (varE 0) (consA (conE (.int 4)) (nilA)))) (conE (.int 0)))) (setS 7 (bin addF (varE 7) (onA tupF (consA (onA m_law_steps (consA (varE 0) (consA (varE 2) (consA (conE (.int 2)) (nilA))))) (nilA))))) (passS)) (expS (bmE "list" insF (varE 3) (consA (onA m_law_draw (consA (varE 0) (consA (bin addF (onA lenF (consA (varE 3) (nilA))) (conE (.int 1))) (nilA)))) (consA (varE 7) (nilA))))))
theorem plan_loop {k n : Nat} {l : List Str} {x1 x5 x6 : Option D} (nk : n ≠ k) (hl : l.length ≤ 3) : ∀ (ds : List D) (m : Nat) (t y : Option D) (h : MH), Src h k → LnsL h n l m → m + ds.length ≤ 20 →
    ∃ t' y' h', loopS [] (gnm 4) plan_body ds [some (.ref k), x1, some (.tup (l.map .str)), some (.ref n), t, x5, x6, y] h = .nx [some (.ref k), x1, some (.tup (l.map .str)), some (.ref n), t', x5, x6, y'] h' ∧ LnsL h' n l (m + ds.length) ∧ Src h' k ∧ KX k n h h'
  | [], m, t, y, h, S, L, hm => ⟨t, y, h, loop_nil rfl, L, S, KX.refl⟩
  | d :: ds, m, t, y, h, S, L, hm => by
    obtain ⟨ls, en, hls, pls⟩ := L
    obtain ⟨dt, h1, e1, ⟨ts, rfl, t4, pt⟩, S1, g1⟩ := tests (mo := 2) S hl (by decide) (by decide)
    obtain ⟨s1, h2, e2, p2, S2, g2⟩ := steps (most := 3) S1 hl (by decide) (by decide)
    obtain ⟨c, h3, e3, c0, c1, S3, g3, _⟩ := draw2 (span := 4) S2 (by decide) (by decide)
    have A : ∃ L h4, ifS (valT (bin eqF (onA m_law_draw (consA (varE 0) (consA (conE (.int 4)) (nilA)))) (conE (.int 0)))) (setS 7 (bin addF (varE 7) (onA tupF (consA (onA m_law_steps (consA (varE 0) (consA (varE 2) (consA (conE (.int 2)) (nilA))))) (nilA))))) (passS) [some (.ref k), x1, some (.tup (l.map .str)), some (.ref n), some d, x5, x6, some (.tup [.tup ts, s1])] h2 = .nx [some (.ref k), x1, some (.tup (l.map .str)), some (.ref n), some d, x5, x6, some L] h4 ∧ LineD l false L ∧ Src h4 k ∧ KG k h3 h4 := by
      by_cases z : c = 0
      · subst z
        obtain ⟨s2, h4, e4, p4, S4, g4⟩ := steps (most := 2) S3 hl (by decide) (by decide)
        exact ⟨_, h4, es_ifT (ev_val (ev_bin (ev_on (ev_cons (ev_var rfl) (ev_cons ev_con ev_nil)) e3) ev_con eq_iT)) (es_set' (ev_bin (ev_var rfl) (ev_on (ev_cons (ev_on (ev_cons (ev_var rfl) (ev_cons (ev_var rfl) (ev_cons ev_con ev_nil))) e4) ev_nil) (tup_new (by decide : 1 ≤ 1000000))) (add_tup (by simp))) rfl), mkL2 t4 (fun z => (nomatch z)) pt p2 p4, S4, g4⟩
      · exact ⟨_, h3, es_ifF (ev_val (ev_bin (ev_on (ev_cons (ev_var rfl) (ev_cons ev_con ev_nil)) e3) ev_con (eq_iF z))) es_pass, mkL1 t4 (fun z => (nomatch z)) pt p2, S3, KG.refl⟩
    obtain ⟨L, h4, e4, PL, S4, g4⟩ := A
    have kk := ((g1.trans g2).trans g3).trans g4
    have en4 := kk.2 _ _ nk en
    obtain ⟨v, h5, e5, v0, v1, S5, g5, _⟩ := draw2 (span := (ls.length : Int) + 1) S4 (by omega) (by omega)
    have en5 := g5.2 _ _ nk en4
    have e6 := ins_i (y := L) en5 v0 (by omega) (by omega)
    obtain ⟨t', y', h', e7, L7, S7, k7⟩ := plan_loop (x1 := x1) (x5 := x5) (x6 := x6) nk hl ds (m + 1) (some d) (some L) (h5.set n (.lst (ls.take v.toNat ++ [L] ++ ls.drop v.toNat))) (S5.other nk) ⟨_, set_get en5, by simp; omega, faA (faA (fun d hd => pls d (List.mem_of_mem_take hd)) (fa1 PL fa0)) (fun d hd => pls d (List.mem_of_mem_drop hd))⟩ (by simp only [List.length_cons] at hm; omega)
    refine ⟨t', y', h', ?_, by simp only [List.length_cons]; rw [show m + (ds.length + 1) = m + 1 + ds.length by omega]; exact L7, S7, ((kk.trans g5).kx.trans KX.set).trans k7⟩
    rw [← e7]
    apply loop_cons rfl rfl
    unfold plan_body
    refine es_seq (es_set' (ev_on (ev_cons (ev_on (ev_cons (ev_var rfl) (ev_cons (ev_var rfl) (ev_cons ev_con ev_nil))) e1) (ev_cons (ev_on (ev_cons (ev_var rfl) (ev_cons (ev_var rfl) (ev_cons ev_con ev_nil))) e2) ev_nil)) (tup_new (by decide : 2 ≤ 1000000))) rfl) ?_
    refine es_seq e4 ?_
    exact es_exp (ev_bm (ev_var rfl) (ty_lst en4) (ev_cons (ev_on (ev_cons (ev_var rfl) (ev_cons (ev_bin (ev_on (ev_cons (ev_var rfl) ev_nil) (len_lst en4)) ev_con add_i) ev_nil)) e5) (ev_cons (ev_var rfl) ev_nil)) e6)
end ML
namespace ML
open PySem PySem.Spec PyProof.Rows L2
/-- the ends that a plan may have -/
def EndsL (h : MH) (x : D) (k b : Nat) (l : List Str) (m : Nat) : Prop := ∃ n es, x = .ref n ∧ n ≠ k ∧ b ≤ n ∧ h[n]? = some (.lst es) ∧ 0 < es.length ∧ es.length ≤ m ∧ ∀ d ∈ es, LineD l true d
theorem EndsL.kg {h h' : MH} {x : D} {k b m : Nat} {l : List Str} (p : EndsL h x k b l m) (g : KG k h h') : EndsL h' x k b l m := by
  obtain ⟨n, es, e, nk, hb, q, r⟩ := p
  exact ⟨n, es, e, nk, hb, g.2 _ _ nk q, r⟩
theorem ends_add {h : MH} {x : D} {k b m : Nat} {l : List Str} (p : EndsL h x k b l m) (hb : k < b) (hl : b ≤ h.length) {es : List D} {y : Nat} (ey : h[y]? = some (.lst es)) (he : ∀ d ∈ es, LineD l true d) (hm : m + es.length ≤ 100) : ∃ d, addF x (.ref y) h = .ok d (h ++ [.lst ((match x with | .ref n => (match h[n]? with | some (.lst us) => us | _ => []) | _ => []) ++ es)]) ∧ EndsL (h ++ [.lst ((match x with | .ref n => (match h[n]? with | some (.lst us) => us | _ => []) | _ => []) ++ es)]) d k b l (m + es.length) := by
  obtain ⟨n, us, rfl, nk, nb, q, u0, u1, pu⟩ := p
  have e := addL q ey (by omega)
  dsimp only
  rw [q]
  dsimp only
  exact ⟨_, e, h.length, us ++ es, rfl, by omega, hl, List.getElem?_concat_length, by simp; omega, by simp; omega, faA pu he⟩
theorem plan {h : MH} {k : Nat} (S : Src h k) : ∃ l ls h', m_law_plan [.ref k] h = .ok (.tup [.tup (l.map .str), .tup ls]) h' ∧ RegsOk l ∧ (∀ z ∈ l, z ≠ "more" ∧ z ≠ "zzz") ∧ LinesD l ls ∧ Src h' k ∧ KG k h h' := by
  have hk := S.lt
  -- names
  obtain ⟨L1, dL1⟩ : ∃ x, x = ([[], ["was"], ["was"], ["beside"], ["was", "due"], ["beside", "was"], ["elder", "was"], ["was", "elder"]] : List (List Str)).map fun l => D.tup (l.map .str) := ⟨_, rfl⟩
  obtain ⟨L2, dL2⟩ : ∃ x, x = ([["beside", "elder"], ["due", "beside", "was"], ["elder", "beside", "was"]] : List (List Str)).map fun l => D.tup (l.map .str) := ⟨_, rfl⟩
  obtain ⟨h1, d1⟩ : ∃ x, x = h ++ [O.lst L1] := ⟨_, rfl⟩
  have g1 : KG k h h1 := by rw [d1]; exact KG.app
  have S1 : Src h1 k := by rw [d1]; exact S.app
  have q1 : h1[h.length]? = some (.lst L1) := by rw [d1]; simp
  have ll1 : L1.length = 8 := by rw [dL1]; rfl
  have ll2 : L2.length = 3 := by rw [dL2]; rfl
  have e1 : lstF L1 h = .ok (.ref h.length) h1 := by rw [d1]; exact lst_new (by omega)
  obtain ⟨h2, d2⟩ : ∃ x, x = h1 ++ [O.lst L2] := ⟨_, rfl⟩
  have g2 : KG k h1 h2 := by rw [d2]; exact KG.app
  have S2 : Src h2 k := by rw [d2]; exact S1.app
  have q2 : h2[h1.length]? = some (.lst L2) := by rw [d2]; simp
  have e2 : lstF L2 h1 = .ok (.ref h1.length) h2 := by rw [d2]; exact lst_new (by omega)
  have b1 := g1.1
  have b2 := g2.1
  obtain ⟨h3, d3⟩ : ∃ x, x = h2 ++ [O.lst (L1 ++ L2)] := ⟨_, rfl⟩
  have g3 : KG k h2 h3 := by rw [d3]; exact KG.app
  have S3 : Src h3 k := by rw [d3]; exact S2.app
  have q3 : h3[h2.length]? = some (.lst (L1 ++ L2)) := by rw [d3]; simp
  have e3 : addF (.ref h.length) (.ref h1.length) h2 = .ok (.ref h2.length) h3 := by rw [d3]; exact addL (g2.2 _ _ (by omega) q1) q2 (by omega)
  obtain ⟨dn, h4, e4, mn, S4, g4, _⟩ := pick2 S3 (by omega) q3 (by simp; omega) (by simp; omega)
  obtain ⟨l, lb, rfl⟩ : ∃ l ∈ bases, dn = .tup (l.map .str) := by
    have : L1 ++ L2 = bases.map fun l => D.tup (l.map .str) := by rw [dL1, dL2]; rfl
    rw [this] at mn
    obtain ⟨l, h1, h2⟩ := List.mem_map.mp mn
    exact ⟨l, h1, h2.symm⟩
  have l3 := bases_len l lb
  -- lines
  obtain ⟨h5, d5⟩ : ∃ x, x = h4 ++ [O.lst []] := ⟨_, rfl⟩
  have g5 : KG k h4 h5 := by rw [d5]; exact KG.app
  have S5 : Src h5 k := by rw [d5]; exact S4.app
  have q5 : h5[h4.length]? = some (.lst []) := by rw [d5]; simp
  have b3 := g3.1
  have b4 := g4.1
  have b5 := g5.1
  have A : ∃ n h6, ifS (andT (valT (bin inF (conE (.str "was")) (varE 2))) (valT (bin gtF (onA m_law_draw (consA (varE 0) (consA (conE (.int 3)) (nilA)))) (conE (.int 0))))) (setS 3 (onA m_law_good (consA (varE 0) (consA (conE (.str "was")) (nilA))))) (passS) [some (.ref k), some (.ref h.length), some (.tup (l.map .str)), some (.ref h4.length), none, none, none, none] h5 = .nx [some (.ref k), some (.ref h.length), some (.tup (l.map .str)), some (.ref n), none, none, none, none] h6 ∧ h.length ≤ n ∧ LnsL h6 n l 3 ∧ Src h6 k ∧ KG k h5 h6 := by
    by_cases c : ("was" : Str) ∈ l
    · obtain ⟨v, h6, e6, v0, v1, S6, g6, _⟩ := draw2 (span := 3) S5 (by decide) (by decide)
      by_cases c2 : 0 < v
      · obtain ⟨n, ls, h7, e7, q7, m7, n7, bn, S7, g7⟩ := good S6 c
        have := g6.1
        exact ⟨n, h7, es_ifT (ev_andT (ev_val (ev_bin ev_con (ev_var rfl) (in_tupD.trans (by rw [decide_eq_true c])))) (ev_val (ev_bin (ev_on (ev_cons (ev_var rfl) (ev_cons ev_con ev_nil)) e6) ev_con (gt_i.trans (by rw [decide_eq_true c2]))))) (es_set' (ev_on (ev_cons (ev_var rfl) (ev_cons ev_con ev_nil)) e7) rfl), by omega, ⟨ls, q7, n7, m7⟩, S7, g6.trans g7⟩
      · exact ⟨h4.length, h6, es_ifF (ev_andT (ev_val (ev_bin ev_con (ev_var rfl) (in_tupD.trans (by rw [decide_eq_true c])))) (ev_val (ev_bin (ev_on (ev_cons (ev_var rfl) (ev_cons ev_con ev_nil)) e6) ev_con (gt_i.trans (by rw [decide_eq_false c2]))))) es_pass, by omega, ⟨[], g6.2 _ _ (by omega) q5, by simp, fa0⟩, S6, g6⟩
    · exact ⟨h4.length, h5, es_ifF (ev_andF (ev_val (ev_bin ev_con (ev_var rfl) (in_tupD.trans (by rw [decide_eq_false c]))))) es_pass, by omega, ⟨[], q5, by simp, fa0⟩, S5, KG.refl⟩
  obtain ⟨n, h6, e6, bn, L6, S6, g6⟩ := A
  obtain ⟨v, h7, e7, v0, v1, S7, g7, _⟩ := draw2 (span := 3) S6 (by decide) (by decide)
  have L7 : LnsL h7 n l 3 := by
    obtain ⟨ls, q, r⟩ := L6
    exact ⟨ls, g7.2 _ _ (by omega) q, r⟩
  obtain ⟨t', y', h8, e8, L8, S8, k8⟩ := plan_loop (k := k) (n := n) (l := l) (x1 := some (.ref h.length)) (x5 := none) (x6 := none) (by omega) l3 (rangeD 0 v.toNat) 3 none none h7 S7 L7 (by unfold rangeD; simp; omega)
  have b7 := ((((((g1.trans g2).trans g3).trans g4).trans g5).trans g6).trans g7)
  have G8 : KG k h h8 := KX.kg b7 bn k8
  obtain ⟨ls, q8, n8, p8⟩ := L8
  have n8 : ls.length ≤ 6 := by unfold rangeD at n8; simp at n8; omega
  -- ends
  obtain ⟨s1, h9, e9, p9, S9, g9⟩ := steps (most := 3) S8 l3 (by decide) (by decide)
  have b8 := G8.1
  have b9 := g9.1
  obtain ⟨h10, d10⟩ : ∃ x, x = h9 ++ [O.lst [.tup [.tup [], s1], .tup [.tup [], .tup [.tup [.str "here", .str "new"]]]]] := ⟨_, rfl⟩
  have g10 : KG k h9 h10 := by rw [d10]; exact KG.app
  have S10 : Src h10 k := by rw [d10]; exact S9.app
  have b10 := g10.1
  have E10 : EndsL h10 (.ref h9.length) k h.length l 2 := ⟨_, _, rfl, by omega, by omega, by rw [d10]; exact List.getElem?_concat_length, by simp, by simp, fa1 (mkL1 (by simp) (fun _ => rfl) fa0 p9) (fa1 (mkL1 (by simp) (fun _ => rfl) fa0 (mkSs (by simp) (fa1 (mkS th sn) fa0))) fa0)⟩
  have e10 : lstF [.tup [.tup [], s1], .tup [.tup [], .tup [.tup [.str "here", .str "new"]]]] h9 = .ok (.ref h9.length) h10 := by rw [d10]; exact lst_new (by simp)
  have B : ∃ x h11, ifS (valT (bin inF (conE (.str "was")) (varE 2))) (setS 5 (bin addF (varE 5) (bin mulF (onA lstF (consA (onA tupF (consA (onA tupF (nilA)) (consA (onA tupF (consA (onA tupF (consA (conE (.str "here")) (consA (conE (.str "new")) (nilA)))) (consA (onA tupF (consA (conE (.str "was")) (consA (conE (.str "new")) (nilA)))) (nilA)))) (consA (onA tupF (consA (onA tupF (consA (conE (.str "was")) (consA (conE (.str "new")) (nilA)))) (nilA))) (nilA))))) (nilA))) (conE (.int 4))))) (passS) [some (.ref k), some (.ref h.length), some (.tup (l.map .str)), some (.ref n), t', some (.ref h9.length), none, y'] h10 = .nx [some (.ref k), some (.ref h.length), some (.tup (l.map .str)), some (.ref n), t', some x, none, y'] h11 ∧ EndsL h11 x k h.length l 6 ∧ Src h11 k ∧ KG k h10 h11 := by
    by_cases c : ("was" : Str) ∈ l
    · obtain ⟨t, dt⟩ : ∃ t, t = D.tup [.tup [], .tup [.tup [.str "here", .str "new"], .tup [.str "was", .str "new"]], .tup [.tup [.str "was", .str "new"]]] := ⟨_, rfl⟩
      have pt : LineD l true t := by rw [dt]; exact mkL2 (by simp) (fun _ => rfl) fa0 (mkSs (by simp) (fa1 (mkS th sn) (fa1 (mkS (.inr c) sn) fa0))) (mkSs (by simp) (fa1 (mkS (.inr c) sn) fa0))
      obtain ⟨h11, d11⟩ : ∃ x, x = h10 ++ [O.lst [t]] := ⟨_, rfl⟩
      have g11 : KG k h10 h11 := by rw [d11]; exact KG.app
      have S11 : Src h11 k := by rw [d11]; exact S10.app
      have q11 : h11[h10.length]? = some (.lst [t]) := by rw [d11]; simp
      have b11 := g11.1
      obtain ⟨h12, d12⟩ : ∃ x, x = h11 ++ [O.lst [t, t, t, t]] := ⟨_, rfl⟩
      have g12 : KG k h11 h12 := by rw [d12]; exact KG.app
      have S12 : Src h12 k := by rw [d12]; exact S11.app
      have q12 : h12[h11.length]? = some (.lst [t, t, t, t]) := by rw [d12]; simp
      have b12 := g12.1
      have e12 : mulF (.ref h10.length) (.int 4) h11 = .ok (.ref h11.length) h12 := by
        unfold mulF lstOf
        dsimp only
        rw [q11]
        dsimp only
        rw [if_pos (by simp), d12]
        rfl
      obtain ⟨x, e13, E13⟩ := ends_add ((E10.kg g11).kg g12) hk (by omega) q12 (fa1 pt (fa1 pt (fa1 pt (fa1 pt fa0)))) (by simp)
      refine ⟨x, _, es_ifT (ev_val (ev_bin ev_con (ev_var rfl) (in_tupD.trans (by rw [decide_eq_true c])))) (es_set' (ev_bin (ev_var rfl) (ev_bin (ev_on (ev_cons (x := t) (h1 := h10) ?_ ev_nil) (new1 d11)) ev_con e12) e13) rfl), E13, S12.app, (g11.trans g12).trans KG.app⟩
      rw [dt]
      exact tup3 tup0 (tup2 (tup2 ev_con ev_con) (tup2 ev_con ev_con)) (tup1 (tup2 ev_con ev_con))
    · refine ⟨.ref h9.length, h10, es_ifF (ev_val (ev_bin ev_con (ev_var rfl) (in_tupD.trans (by rw [decide_eq_false c])))) es_pass, ?_, S10, KG.refl⟩
      obtain ⟨n, es, a1, a2, a3, a4, a5, a6, a7⟩ := E10
      exact ⟨n, es, a1, a2, a3, a4, a5, by omega, a7⟩
  obtain ⟨x, h11, e11, E11, S11, g11⟩ := B
  have b11 := g11.1
  have C : ∃ x' h12, ifS (valT (bin inF (conE (.str "beside")) (varE 2))) (setS 5 (bin addF (varE 5) (onA lstF (consA (onA tupF (consA (onA tupF (nilA)) (consA (onA tupF (consA (onA tupF (consA (conE (.str "beside")) (consA (conE (.str "here")) (nilA)))) (consA (onA tupF (consA (conE (.str "here")) (consA (conE (.str "new")) (nilA)))) (nilA)))) (nilA)))) (consA (onA tupF (consA (onA tupF (nilA)) (consA (onA tupF (consA (onA tupF (consA (conE (.str "beside")) (consA (conE (.str "new")) (nilA)))) (nilA))) (nilA)))) (nilA)))))) (passS) [some (.ref k), some (.ref h.length), some (.tup (l.map .str)), some (.ref n), t', some x, none, y'] h11 = .nx [some (.ref k), some (.ref h.length), some (.tup (l.map .str)), some (.ref n), t', some x', none, y'] h12 ∧ EndsL h12 x' k h.length l 8 ∧ Src h12 k ∧ KG k h11 h12 := by
    by_cases c : ("beside" : Str) ∈ l
    · obtain ⟨t, dt⟩ : ∃ t, t = D.tup [.tup [], .tup [.tup [.str "beside", .str "here"], .tup [.str "here", .str "new"]]] := ⟨_, rfl⟩
      obtain ⟨u, du⟩ : ∃ t, t = D.tup [.tup [], .tup [.tup [.str "beside", .str "new"]]] := ⟨_, rfl⟩
      have pt : LineD l true t := by rw [dt]; exact mkL1 (by simp) (fun _ => rfl) fa0 (mkSs (by simp) (fa1 (mkS (.inr c) sh) (fa1 (mkS th sn) fa0)))
      have pu : LineD l true u := by rw [du]; exact mkL1 (by simp) (fun _ => rfl) fa0 (mkSs (by simp) (fa1 (mkS (.inr c) sn) fa0))
      obtain ⟨h12, d12⟩ : ∃ x, x = h11 ++ [O.lst [t, u]] := ⟨_, rfl⟩
      have g12 : KG k h11 h12 := by rw [d12]; exact KG.app
      have S12 : Src h12 k := by rw [d12]; exact S11.app
      have q12 : h12[h11.length]? = some (.lst [t, u]) := by rw [d12]; simp
      have b12 := g12.1
      have e12 : lstF [t, u] h11 = .ok (.ref h11.length) h12 := by rw [d12]; exact lst_new (by simp)
      obtain ⟨x', e13, E13⟩ := ends_add (E11.kg g12) hk (by omega) q12 (fa1 pt (fa1 pu fa0)) (by simp)
      refine ⟨x', _, es_ifT (ev_val (ev_bin ev_con (ev_var rfl) (in_tupD.trans (by rw [decide_eq_true c])))) (es_set' (ev_bin (ev_var rfl) (ev_on (ev_cons (x := t) (h1 := h11) ?_ (ev_cons (x := u) (h1 := h11) ?_ ev_nil)) e12) e13) rfl), E13, S12.app, g12.trans KG.app⟩
      · rw [dt]
        exact tup2 tup0 (tup2 (tup2 ev_con ev_con) (tup2 ev_con ev_con))
      · rw [du]
        exact tup2 tup0 (tup1 (tup2 ev_con ev_con))
    · refine ⟨x, h11, es_ifF (ev_val (ev_bin ev_con (ev_var rfl) (in_tupD.trans (by rw [decide_eq_false c])))) es_pass, ?_, S11, KG.refl⟩
      obtain ⟨n, es, a1, a2, a3, a4, a5, a6, a7⟩ := E11
      exact ⟨n, es, a1, a2, a3, a4, a5, by omega, a7⟩
  obtain ⟨x', h12, e12, E12, S12, g12⟩ := C
  -- word
  obtain ⟨dw, h13, e13, W13, S13, g13⟩ := StrL.new (L := ["was", "was", "was", "last", "mark", "mine", "own", "take"]) (by simp) S12
  obtain ⟨w, h14, e14, mw, S14, g14⟩ := W13.pick (by simp) (by simp) S13
  obtain ⟨en, es, rfl, nk, nb, qe, e0, e1', pe⟩ := (E12.kg g13).kg g14
  obtain ⟨L, h15, e15, mL, S15, g15, _⟩ := pick2 S14 nk qe e0 (by omega)
  have PL := pe L mL
  obtain ⟨h16, d16⟩ : ∃ x, x = h15 ++ [O.lst [L]] := ⟨_, rfl⟩
  have g16 : KG k h15 h16 := by rw [d16]; exact KG.app
  have S16 : Src h16 k := by rw [d16]; exact S15.app
  have q16 : h16[h15.length]? = some (.lst [L]) := by rw [d16]; simp
  have kk := ((((((g9.trans g10).trans g11).trans g12).trans g13).trans g14).trans g15).trans g16
  have qn := kk.2 _ _ (by omega) q8
  have e17 := addL qn q16 (by simp; omega)
  have b16 := (G8.trans kk).1
  have LD : LinesD l (ls ++ [L]) := LinesD.snoc (by omega) p8 PL
  obtain ⟨h18, e18, g18⟩ := noted (h := h16 ++ [.lst (ls ++ [L])]) (w := w) (l := l) (n := h16.length) (ls := ls ++ [L]) List.getElem?_concat_length (fun d hd => (LD.2.2.1 d hd).pl) (by omega) (by simp; omega)
  have RO := bases_ok l lb w mw
  have S18 : Src h18 k := by
    obtain ⟨r, m, e, q⟩ := S16.app (t := [O.lst (ls ++ [L])])
    exact ⟨r, m, g18.2 _ _ e, q⟩
  refine ⟨l.map (subS w), (ls ++ [L]).map (subL w), h18, ?_, RO.1, RO.2, LD.sub, S18, (((G8.trans kk).trans KG.app).trans g18.kg)⟩
  refine ef_rt rfl ?_
  unfold b_law_plan
  have t0 : ∀ {e : Env} {h : MH}, onA tupF nilA e h = .ok (.tup (([] : List Str).map .str)) h := tup0
  refine es_seq (es_set' (ev_on (ev_cons tup0 (ev_cons (tup1 ev_con) (ev_cons (tup1 ev_con) (ev_cons (tup1 ev_con) (ev_cons (tup2 ev_con ev_con) (ev_cons (tup2 ev_con ev_con) (ev_cons (tup2 ev_con ev_con) (ev_cons (tup2 ev_con ev_con) ev_nil)))))))) (by rw [dL1] at e1; exact e1)) rfl) ?_
  refine es_seq (es_set' (ev_on (ev_cons (ev_var rfl) (ev_cons (ev_bin (ev_var rfl) (ev_on (ev_cons (tup2 ev_con ev_con) (ev_cons (tup3 ev_con ev_con ev_con) (ev_cons (tup3 ev_con ev_con ev_con) ev_nil))) (by rw [dL2] at e2; exact e2)) e3) ev_nil)) e4) rfl) ?_
  refine es_seq (es_set' (ev_on ev_nil (new0 d5)) rfl) ?_
  refine es_seq e6 ?_
  refine es_seq (es_for (ei_rng (ev_cons (ev_on (ev_cons (ev_var rfl) (ev_cons ev_con ev_nil)) e7) ev_nil) (by omega)) e8) ?_
  refine es_seq (es_set' (ev_on (ev_cons (ev_on (ev_cons tup0 (ev_cons (ev_on (ev_cons (ev_var rfl) (ev_cons (ev_var rfl) (ev_cons ev_con ev_nil))) e9) ev_nil)) (tup_new (by decide : 2 ≤ 1000000))) (ev_cons (tup2 tup0 (tup1 (tup2 ev_con ev_con))) ev_nil)) e10) rfl) ?_
  refine es_seq e11 ?_
  refine es_seq e12 ?_
  refine es_seq (es_set' (ev_on (ev_cons (ev_var rfl) (ev_cons (ev_on (ev_cons ev_con (ev_cons ev_con (ev_cons ev_con (ev_cons ev_con (ev_cons ev_con (ev_cons ev_con (ev_cons ev_con (ev_cons ev_con ev_nil)))))))) e13) ev_nil)) e14) rfl) ?_
  exact es_ret (ev_on (ev_cons (ev_var rfl) (ev_cons (ev_var rfl) (ev_cons (ev_bin (ev_var rfl) (ev_on (ev_cons (ev_on (ev_cons (ev_var rfl) (ev_cons (ev_var rfl) ev_nil)) e15) ev_nil) (new1 d16)) e17) ev_nil))) e18)
end ML
namespace ML
open PySem PySem.Spec PyProof.Rows L2
abbrev RuleO (l : List Str) (ls : List D) : O := .ins "Rule" [("own_names", .tup (l.map .str)), ("rows", .tup ls)]
def ruleV (l : List Str) (ls : List D) : PV := .ins "Rule" [("own_names", .tup (l.map .str)), ("rows", .tup (ls.map im))]
section
variable {l : List Str} {ls : List D} {h : MH} {n : Nat} {A : Nat → Prop} {as bs : PA} {e : PEnv} {xs ys : List PV} {v : PV}
theorem noRef_test {d : D} (p : TestD l d) : noRef d = true := by obtain ⟨a, b, v, rfl, _⟩ := p; rfl
theorem noRef_line {d : D} {b : Bool} (p : LineD l b d) : noRef d = true := by
  obtain ⟨tt, st, rfl, _, _, h3, _, h5⟩ := p
  unfold noRef noRefs
  rw [noRefs_all, Bool.and_eq_true]
  constructor
  · unfold noRef
    rw [noRefs_all, List.all_eq_true]
    exact fun t ht => noRef_test (h3 t ht)
  · rw [List.all_eq_true]
    intro x hx
    obtain ⟨ss, rfl, _, h⟩ := h5 x hx
    unfold noRef
    rw [noRefs_all, List.all_eq_true]
    intro y hy
    obtain ⟨a, b, rfl, _⟩ := h y hy
    rfl
theorem rep_strs : Rep A h (.tup (l.map .str)) (.tup (l.map .str)) := by
  unfold Rep
  exact ⟨_, rfl, reps_strs l⟩
theorem propP_ok {t : List (Str × PFM)} {c : Str} {fs : List (Str × PV)} {f : PFM} (ht : t.lookup c = some f) (k : f [.ins c fs] = .ok v) : propP t (.ins c fs) = .ok v := by
  unfold propP
  dsimp only
  rw [ht]
  dsimp only
  rw [k]
theorem lp_nil : loopP g m [] e = .nx e := rfl
theorem lp_cons (p : g v e = some e1) (q : m e1 = .nx e2) (k : loopP g m vs e2 = r) : loopP g m (v :: vs) e = r := by
  unfold loopP
  rw [p]
  dsimp only
  rw [q]
  exact k
end
open Classical in
noncomputable def specP (R : List PV → PV → Prop) : PFM := fun vs => if h : ∃ v, R vs v then .ok (Classical.choose h) else .bad
def SpecRun (m : FM) (R : List PV → PV → Prop) : Prop := ∀ A h vs v ds, R vs v → (∀ n, A n → n < h.length) → Reps A h vs ds → ∃ d h', m ds h = .ok d h' ∧ GV h h' ∧ Rep A h' v d
theorem specP_ok {m : FM} {R : List PV → PV → Prop} {vs : List PV} {v : PV} (run : SpecRun m R) (heap : ∀ vs v, R vs v → ∃ h ds, Reps (fun _ => False) h vs ds) (r : R vs v) : specP R vs = .ok v := by
  have one : ∀ v', R vs v' → v' = v := fun v' r' => by
    obtain ⟨h, ds, q⟩ := heap vs v r
    obtain ⟨d, h', e, _, a⟩ := run _ h vs v ds r (fun _ z => z.elim) q
    obtain ⟨d', h'', e', _, a'⟩ := run _ h vs v' ds r' (fun _ z => z.elim) q
    rw [e] at e'
    cases e'
    exact Rep.one v' a' a
  unfold specP
  rw [dif_pos ⟨v, r⟩, one _ (Classical.choose_spec ⟨v, r⟩)]
def planV (l : List Str) (ls : List D) : PV := .tup [.tup (l.map .str), .tup (ls.map im)]
def SeqP (x : PV) (xs : List PV) : Prop := x = .tup xs ∨ x = .lst xs
def RuR (vs : List PV) (v : PV) : Prop := ∃ l ls x y, vs = [x, y] ∧ SeqP x (l.map .str) ∧ SeqP y (ls.map im) ∧ RegsOk l ∧ LinesD l ls ∧ v = ruleV l ls
section
variable {A : Nat → Prop} {h : MH} {l : List Str} {ls : List D} {d : D} {ns : List Str} {n : Nat}
theorem strs_im {l : List Str} : (l.map PV.str) = (l.map D.str).map im := by rw [List.map_map]; rfl
theorem seqv_of {xs : List D} {x : PV} (hn : noRefs xs = true) (hx : SeqP x (xs.map im)) (r : Rep A h x d) : SeqV h d xs := by
  rcases hx with e | e <;> subst e <;> unfold Rep at r
  · obtain ⟨ds, rfl, r⟩ := r
    rw [← ims_map] at r
    rw [reps_back _ hn r]
    exact .inl rfl
  · obtain ⟨n, ds, rfl, _, x, r⟩ := r
    rw [← ims_map] at r
    rw [reps_back _ hn r] at x
    exact .inr ⟨n, rfl, x⟩
theorem noRefs_strs : noRefs (l.map D.str) = true := by
  rw [noRefs_all, List.all_eq_true]
  intro d hd
  obtain ⟨z, _, rfl⟩ := List.mem_map.mp hd
  rfl
theorem noRefs_lines (L : LinesD l ls) : noRefs ls = true := by
  rw [noRefs_all, List.all_eq_true]
  exact fun d hd => noRef_line (L.2.2.1 d hd)
theorem makeX_ok (g : RegsOk l) (L : LinesD l ls) {x y : D} (N : SeqV h x (l.map .str)) (M : SeqV h y ls) : ∃ h', makeX "Rule" m_Rule_init [x, y] h = .ok (.ref h.length) h' ∧ h'[h.length]? = some (RuleO l ls) ∧ GA h h' := by
  obtain ⟨h4, e4, s4, g4⟩ := init_ok (h := h ++ [O.ins "Rule" []]) (s := h.length) (by simp) (N.ga GA.app) (M.ga GA.app) g L
  refine ⟨h4, ?_, s4, Nat.le_trans GA.app.1 g4.1, fun m o e => g4.2 m o (by have := (List.getElem?_eq_some_iff.mp e).1; omega) (GA.app.2 m o e)⟩
  unfold makeX
  rw [e4]
theorem own_rule (e : h[n]? = some (RuleO l ls)) (L : LinesD l ls) : OwnRep A h (ruleV l ls) n := by
  refine ⟨_, e, ?_⟩
  unfold RepF
  refine ⟨_, _, rfl, rep_strs, ?_⟩
  unfold RepF
  refine ⟨_, _, rfl, ?_, by unfold RepF; rfl⟩
  unfold Rep
  exact ⟨_, rfl, reps_imm fun d hd => noRef_line (L.2.2.1 d hd)⟩
theorem ru_run {vs : List PV} {v : PV} {ds : List D} (R : RuR vs v) (r : Reps A h vs ds) : ∃ d h', makeX "Rule" m_Rule_init ds h = .ok d h' ∧ GV h h' ∧ Fr A h h' v d := by
  obtain ⟨l, ls, x, y, rfl, hx, hy, g, L, rfl⟩ := R
  obtain ⟨d1, t, rfl, q1, r⟩ := r.inv
  obtain ⟨d2, t, rfl, q2, r⟩ := r.inv
  rw [r.invNil]
  rw [strs_im] at hx
  obtain ⟨h', e, q, ga⟩ := makeX_ok g L (seqv_of noRefs_strs hx q1) (seqv_of (noRefs_lines L) hy q2)
  exact ⟨_, h', e, ga, h.length, rfl, Nat.le_refl _, own_rule q L⟩
end
noncomputable def p_Rule : PFM := specP RuR
theorem mk_Rule : FFOK (makeX "Rule" m_Rule_init) p_Rule := fun A h vs ds lo q => by
  unfold p_Rule specP
  split
  · rename_i hv
    obtain ⟨d, h', e, g, r⟩ := ru_run (Classical.choose_spec hv) q
    exact ⟨d, h', e, g, r⟩
  · trivial
section
variable {A : Nat → Prop} {h : MH} {l : List Str} {ls : List D} {d : D} {ns : List Str} {n : Nat} {x y : PV}
theorem ruleP (g : RegsOk l) (L : LinesD l ls) (hx : SeqP x (l.map .str)) (hy : SeqP y (ls.map im)) : p_Rule [x, y] = .ok (ruleV l ls) := by
  refine specP_ok (m := makeX "Rule" m_Rule_init) (fun A h vs v ds R lo q => ?_) ?_ ⟨l, ls, x, y, rfl, hx, hy, g, L, rfl⟩
  · obtain ⟨d, h', e, g, r⟩ := ru_run R q
    exact ⟨d, h', e, g, r.rep lo⟩
  · rintro vs v ⟨l, ls, x, y, rfl, hx, hy, g, L, rfl⟩
    have rl : ∀ {A : Nat → Prop} {h : MH}, Reps A h (ls.map im) ls := reps_imm fun d hd => noRef_line (L.2.2.1 d hd)
    obtain ⟨h, dh⟩ : ∃ h : MH, h = [.lst (l.map .str), .lst ls] := ⟨_, rfl⟩
    have a : ∃ d, Rep (fun _ => False) h x d := by
      rcases hx with e | e <;> subst e
      · exact ⟨_, rep_strs⟩
      · refine ⟨.ref 0, ?_⟩
        unfold Rep
        exact ⟨0, _, rfl, fun z => z, by rw [dh]; rfl, reps_strs l⟩
    have b : ∃ d, Rep (fun _ => False) h y d := by
      rcases hy with e | e <;> subst e
      · refine ⟨.tup ls, ?_⟩
        unfold Rep
        exact ⟨_, rfl, rl⟩
      · refine ⟨.ref 1, ?_⟩
        unfold Rep
        exact ⟨1, _, rfl, fun z => z, by rw [dh]; rfl, rl⟩
    obtain ⟨d1, a⟩ := a
    obtain ⟨d2, b⟩ := b
    exact ⟨h, [d1, d2], .cons a (.cons b .nil)⟩
end
section
variable {β : Type} {g : PG} {tst : PT} {elt : PX} {e0 e : PEnv} {enc : β → PV}
theorem lc_runM (p : β → Bool) (f : β → PV) : ∀ (ys : List β), (∀ v ∈ ys, ∃ e1, g (enc v) e0 = some e1 ∧ tst e1 = .ok (p v) ∧ (p v = true → elt e1 = .ok (f v))) → lcLP g tst elt e0 (ys.map enc) = .ok ((ys.filter p).map f)
  | [], _ => rfl
  | v :: vs, h => by
    obtain ⟨e1, h1, h2, h3⟩ := h v (.head _)
    have ih := lc_runM p f vs fun x hx => h x (.tail _ hx)
    rw [List.map_cons]
    unfold lcLP
    rw [h1]
    dsimp only
    rw [h2]
    cases c : p v with
    | false =>
      rw [List.filter_cons_of_neg (by rw [c]; decide)]
      exact ih
    | true =>
      dsimp only
      rw [h3 c, List.filter_cons_of_pos c, ih]
      rfl
theorem q_lcM {own : List Nat} {it : PA} {ys : List β} (p : β → Bool) (f : β → PV) (hi : it e = .ok (ys.map enc)) (ho : notOwn own e = true) (hl : ys.length ≤ 1000000)
    (h : ∀ v ∈ ys, ∃ e1, g (enc v) (wipeP e own) = some e1 ∧ tst e1 = .ok (p v) ∧ (p v = true → elt e1 = .ok (f v))) : lcP own it g tst elt e = .ok (.lst ((ys.filter p).map f)) := by
  unfold lcP
  rw [hi, PR.bind_ok, if_pos ⟨ho, by rw [List.length_map]; exact hl⟩, lc_runM p f ys h]
  rfl
theorem q_lcMY {own : List Nat} {it : PA} {ys : List β} (f : β → PV) (hi : it e = .ok (ys.map enc)) (ho : notOwn own e = true) (hl : ys.length ≤ 1000000)
    (h : ∀ v ∈ ys, ∃ e1, g (enc v) (wipeP e own) = some e1 ∧ elt e1 = .ok (f v)) : lcP own it g yesP elt e = .ok (.lst (ys.map f)) := by
  have := q_lcM (tst := yesP) (elt := elt) (fun _ => true) f hi ho hl fun v hv => by
    obtain ⟨e1, a, b⟩ := h v hv
    exact ⟨e1, a, rfl, fun _ => b⟩
  rw [this, List.filter_eq_self.mpr fun _ _ => rfl]
end
end ML
namespace ML
open PySem PySem.Spec PyProof.Rows L2 TL
def stepT (a b : Str) : Str := a ++ (" from " : Str) ++ b
def testT (a b : Str) (v : Bool) : Str := a ++ (if v then (" is " : Str) else " is not ") ++ b
def stpT : D → Str
  | .tup [.str a, .str b] => stepT a b
  | _ => ""
def tstT : D → Str
  | .tup [.str a, .str b, .bl v] => testT a b v
  | _ => ""
def stpsT : D → Str
  | .tup ss => if ss.isEmpty then "do nothing" else Txt.join ", " (ss.map stpT)
  | _ => ""
def headT (ts : List D) : Str := if ts.isEmpty then "otherwise" else Txt.join ", " (ts.map tstT)
def restT : List D → Str
  | [s] => stpsT s
  | [s, u] => ("ask " : Str) ++ stpsT s ++ (" or " : Str) ++ stpsT u
  | _ => ""
def linT : D → Str
  | .tup (.tup ts :: st) => headT ts ++ (": " : Str) ++ restT st
  | _ => ""
def regT (l : List Str) : Str := Txt.join " " (("registers" : Str) :: l)
def rowsT (l : List Str) (ls : List D) : List Str := regT l :: ls.map linT
def rulT (l : List Str) (ls : List D) : Str := Txt.join "\n" (rowsT l ls)
/-- a word of the text of a rule -/
structure Wd (z : Str) : Prop where
  ne : tl z ≠ []
  ok : ∀ c ∈ tl z, 97 ≤ c ∧ c ≤ 122
  len : z.length ≤ 8
  nor : z ≠ "or"
  nask : z ≠ "ask"
  ndo : z ≠ "do"
/-- only letters and some signs -/
def Sg (S : List Nat) (z : Str) : Prop := ∀ c ∈ tl z, (97 ≤ c ∧ c ≤ 122) ∨ c ∈ S
section
variable {l : List Str} {z a b : Str} {S T : List Nat} {x y : Str} {ps : List Str}
theorem Sg.app (p : Sg S x) (q : Sg S y) : Sg S (x ++ y) := fun c h => by
  rw [tl_append] at h
  rcases List.mem_append.mp h with h | h
  · exact p c h
  · exact q c h
theorem Sg.mono (p : Sg S x) (h : ∀ c ∈ S, c ∈ T) : Sg T x := fun c hc => (p c hc).imp id (h c)
theorem joinL_mem {c : Nat} : ∀ {ps : List (List Nat)}, c ∈ joinL S ps → c ∈ S ∨ ∃ p ∈ ps, c ∈ p
  | [], h => nomatch h
  | [p], h => .inr ⟨p, .head _, h⟩
  | p :: q :: r, h => by
    have h : c ∈ p ++ (S ++ joinL S (q :: r)) := h
    rcases List.mem_append.mp h with h | h
    · exact .inr ⟨p, .head _, h⟩
    · rcases List.mem_append.mp h with h | h
      · exact .inl h
      · rcases joinL_mem h with h | ⟨u, hu, h⟩
        · exact .inl h
        · exact .inr ⟨u, .tail _ hu, h⟩
theorem Sg.join (q : Sg S y) (p : ∀ z ∈ ps, Sg S z) : Sg S (Txt.join y ps) := fun c h => by
  rw [join_eq, tl_join] at h
  rcases joinL_mem h with h | ⟨u, hu, h⟩
  · exact q c h
  · obtain ⟨w, hw, rfl⟩ := List.mem_map.mp hu
    exact p w hw c h
theorem Sg.no {c : Nat} (p : Sg S x) (h1 : c ∉ S) (h2 : ¬ (97 ≤ c ∧ c ≤ 122)) : c ∉ tl x := fun h => by
  rcases p c h with q | q
  · exact h2 q
  · exact h1 q
theorem Wd.sg (w : Wd z) : Sg S z := fun c h => .inl (w.ok c h)
theorem Wd.no {c : Nat} (w : Wd z) (h : ¬ (97 ≤ c ∧ c ≤ 122)) : c ∉ tl z := (w.sg (S := [])).no (fun z => nomatch z) h
theorem wd_good (g : GoodN z) : Wd z := by
  have nb : ∀ s : Str, s ∈ barred → z ≠ s := fun s hs e => g.2.2.2 (e ▸ hs)
  refine ⟨fun e => ?_, g.2.2.1, g.2.1, nb _ (by decide), nb _ (by decide), nb _ (by decide)⟩
  have := g.1
  rw [len_tl, e] at this
  exact absurd this (by decide)
theorem wd_here : Wd "here" := ⟨by decide +kernel, by decide +kernel, by decide +kernel, by decide +kernel, by decide +kernel, by decide +kernel⟩
theorem wd_new : Wd "new" := ⟨by decide +kernel, by decide +kernel, by decide +kernel, by decide +kernel, by decide +kernel, by decide +kernel⟩
theorem wd_nothing : Wd "nothing" := ⟨by decide +kernel, by decide +kernel, by decide +kernel, by decide +kernel, by decide +kernel, by decide +kernel⟩
theorem wd_src (R : RegsOk l) (h : SrcN l z) : Wd z := by
  rcases h with h | h | h | h
  · rw [h]; exact wd_here
  · rw [h]; exact wd_new
  · rw [h]; exact wd_nothing
  · exact wd_good (R.2.2 z h)
theorem wd_left (R : RegsOk l) (h : LeftN l z) : Wd z := by
  rcases h with h | h | h
  · exact wd_src R (.inl h)
  · exact wd_src R (.inr (.inl h))
  · exact wd_src R (.inr (.inr (.inr h)))
theorem wd_tgt (R : RegsOk l) (h : TgtN l z) : Wd z := by
  rcases h with h | h
  · exact wd_src R (.inl h)
  · exact wd_src R (.inr (.inr (.inr h)))
theorem split_join1 {s : Nat} {S : List Nat} {y : Str} (ey : tl y = s :: S) (hk : y.cps.all (· < 256) = true) {parts : List Str} (hne : parts ≠ []) (hp : ∀ p ∈ parts, s ∉ tl p) {x : Str} (e : x = Txt.join y parts) : Txt.split x y = parts := by
  rw [e]
  exact split_join ey hk hne hp
theorem no_sp (w : Wd z) : 32 ∉ tl z := w.no (by decide)
theorem split_test (wa : Wd a) (wb : Wd b) (v : Bool) : Txt.split (testT a b v) " " = if v then [a, "is", b] else [a, "is", "not", b] := by
  cases v with
  | true =>
    refine split_join1 (s := 32) (S := []) (by decide +kernel) (by decide +kernel) (by simp) (fun p hp => ?_) (ext_tl ?_)
    · have hp : p ∈ [a, "is", b] := hp
      simp only [List.mem_cons, List.not_mem_nil, or_false] at hp
      rcases hp with e | e | e <;> rw [e]
      · exact no_sp wa
      · decide +kernel
      · exact no_sp wb
    · rw [join_eq, tl_join]
      show tl (a ++ (" is " : Str) ++ b) = tl a ++ (tl " " ++ (tl "is" ++ (tl " " ++ tl b)))
      rw [tl_append, tl_append, show tl (" is " : Str) = tl " " ++ tl "is" ++ tl " " from by decide +kernel]
      simp only [List.append_assoc]
  | false =>
    refine split_join1 (s := 32) (S := []) (by decide +kernel) (by decide +kernel) (by simp) (fun p hp => ?_) (ext_tl ?_)
    · have hp : p ∈ [a, "is", "not", b] := hp
      simp only [List.mem_cons, List.not_mem_nil, or_false] at hp
      rcases hp with e | e | e | e <;> rw [e]
      · exact no_sp wa
      · decide +kernel
      · decide +kernel
      · exact no_sp wb
    · rw [join_eq, tl_join]
      show tl (a ++ (" is not " : Str) ++ b) = tl a ++ (tl " " ++ (tl "is" ++ (tl " " ++ (tl "not" ++ (tl " " ++ tl b)))))
      rw [tl_append, tl_append, show tl (" is not " : Str) = tl " " ++ tl "is" ++ tl " " ++ tl "not" ++ tl " " from by decide +kernel]
      simp only [List.append_assoc]
theorem split_step (wa : Wd a) (wb : Wd b) : Txt.split (stepT a b) " " = [a, "from", b] := by
  refine split_join1 (s := 32) (S := []) (by decide +kernel) (by decide +kernel) (by simp) (fun p hp => ?_) (ext_tl ?_)
  · simp only [List.mem_cons, List.not_mem_nil, or_false] at hp
    rcases hp with e | e | e <;> rw [e]
    · exact no_sp wa
    · decide +kernel
    · exact no_sp wb
  · rw [join_eq, tl_join]
    show tl (a ++ (" from " : Str) ++ b) = tl a ++ (tl " " ++ (tl "from" ++ (tl " " ++ tl b)))
    rw [tl_append, tl_append, show tl (" from " : Str) = tl " " ++ tl "from" ++ tl " " from by decide +kernel]
    simp only [List.append_assoc]
theorem sg_step (wa : Wd a) (wb : Wd b) : Sg [32] (stepT a b) := ((wa.sg).app (by unfold Sg; decide +kernel)).app wb.sg
theorem sg_test (wa : Wd a) (wb : Wd b) (v : Bool) : Sg [32] (testT a b v) := by
  refine Sg.app (Sg.app wa.sg ?_) wb.sg
  cases v
  · show Sg [32] " is not "
    unfold Sg
    decide +kernel
  · show Sg [32] " is "
    unfold Sg
    decide +kernel
theorem sg_stp (R : RegsOk l) {d : D} (p : StepD l d) : Sg [32] (stpT d) := by
  obtain ⟨a, b, rfl, h1, h2⟩ := p
  exact sg_step (wd_tgt R h1) (wd_src R h2)
theorem sg_tst (R : RegsOk l) {d : D} (p : TestD l d) : Sg [32] (tstT d) := by
  obtain ⟨a, b, v, rfl, h1, h2⟩ := p
  exact sg_test (wd_left R h1) (wd_src R h2) v
theorem sg_stps (R : RegsOk l) {d : D} (p : StepsD l d) : Sg [32, 44] (stpsT d) := by
  obtain ⟨ss, rfl, _, h⟩ := p
  cases ss with
  | nil =>
    show Sg [32, 44] "do nothing"
    unfold Sg
    decide +kernel
  | cons s ss =>
    refine Sg.join (y := ", ") (ps := (s :: ss).map stpT) (by unfold Sg; decide +kernel) fun z hz => ?_
    obtain ⟨s, hs, rfl⟩ := List.mem_map.mp hz
    exact (sg_stp R (h s hs)).mono (by decide)
theorem sg_head (R : RegsOk l) {ts : List D} (h : ∀ t ∈ ts, TestD l t) : Sg [32, 44] (headT ts) := by
  cases ts with
  | nil =>
    show Sg [32, 44] "otherwise"
    unfold Sg
    decide +kernel
  | cons s ss =>
    refine Sg.join (y := ", ") (ps := (s :: ss).map tstT) (by unfold Sg; decide +kernel) fun z hz => ?_
    obtain ⟨s, hs, rfl⟩ := List.mem_map.mp hz
    exact (sg_tst R (h s hs)).mono (by decide)
theorem sg_rest (R : RegsOk l) {st : List D} (h : ∀ s ∈ st, StepsD l s) : Sg [32, 44] (restT st) := by
  match st, h with
  | [], _ => exact fun c h => nomatch h
  | [s], h => exact sg_stps R (h s (.head _))
  | [s, u], h =>
    refine (((Sg.app ?_ (sg_stps R (h s (.head _)))).app ?_).app (sg_stps R (h u (.tail _ (.head _)))))
    · unfold Sg
      decide +kernel
    · unfold Sg
      decide +kernel
  | _ :: _ :: _ :: _, _ => exact fun c h => nomatch h
theorem sg_lin (R : RegsOk l) {d : D} {b : Bool} (p : LineD l b d) : Sg [32, 44, 58] (linT d) := by
  obtain ⟨ts, st, rfl, _, _, h3, _, h5⟩ := p
  refine (Sg.app ((sg_head R h3).mono (by decide)) ?_).app ((sg_rest R h5).mono (by decide))
  unfold Sg
  decide +kernel
theorem sg_reg (R : RegsOk l) : Sg [32] (regT l) := by
  refine Sg.join (by unfold Sg; decide +kernel) fun z hz => ?_
  rcases List.mem_cons.mp hz with e | e
  · rw [e]
    unfold Sg
    decide +kernel
  · exact (wd_good (R.2.2 z e)).sg
theorem split_parts {f : D → Str} {xs : List D} (hn : xs ≠ []) (h : ∀ x ∈ xs, Sg [32] (f x)) : Txt.split (Txt.join ", " (xs.map f)) ", " = xs.map f := by
  refine split_join (s := 44) (S := [32]) (by decide +kernel) (by decide +kernel) (fun e => hn (List.map_eq_nil_iff.mp e)) fun p hp => ?_
  obtain ⟨x, hx, rfl⟩ := List.mem_map.mp hp
  exact (h x hx).no (by decide) (by decide)
theorem split_rows (R : RegsOk l) {ls : List D} (L : LinesD l ls) : Txt.split (rulT l ls) "\n" = rowsT l ls := by
  refine split_join (s := 10) (S := []) (by decide +kernel) (by decide +kernel) (by unfold rowsT; simp) fun p hp => ?_
  rcases List.mem_cons.mp hp with e | e
  · rw [e]
    exact (sg_reg R).no (by decide) (by decide)
  · obtain ⟨x, hx, rfl⟩ := List.mem_map.mp e
    exact (sg_lin R (L.2.2.1 x hx)).no (by decide) (by decide)
theorem split_reg (R : RegsOk l) : Txt.split (regT l) " " = ("registers" : Str) :: l := by
  refine split_join (s := 32) (S := []) (by decide +kernel) (by decide +kernel) (by simp) fun p hp => ?_
  rcases List.mem_cons.mp hp with e | e
  · rw [e]
    decide +kernel
  · exact no_sp (wd_good (R.2.2 p e))
theorem part_lin (R : RegsOk l) {ts st : List D} (h3 : ∀ t ∈ ts, TestD l t) : Txt.partition (linT (.tup (.tup ts :: st))) ": " = (headT ts, (": " : Str), restT st) :=
  partition_app (s := 58) (S := [32]) (by decide +kernel) ((sg_head R h3).no (by decide) (by decide))
theorem tl_inj {a b : Str} (h : tl a = tl b) : a = b := ext_tl h
/-- the first word -/
theorem word_eq : ∀ {w u r : List Nat}, 32 ∉ w → 32 ∉ u → (w ++ 32 :: r).take (u.length + 1) = u ++ [32] → w = u
  | [], [], _, _, _, _ => rfl
  | [], b :: u, r, _, hu, e => by
    have e : 32 :: r.take (b :: u).length = b :: (u ++ [32]) := e
    injection e with e1 _
    exact absurd (e1 ▸ .head _) hu
  | a :: w, [], r, hw, _, e => by
    have e : [a] = [32] := e
    injection e with e1 _
    exact absurd (e1 ▸ .head _) hw
  | a :: w, b :: u, r, hw, hu, e => by
    have e : a :: (w ++ 32 :: r).take (u.length + 1) = b :: (u ++ [32]) := e
    injection e with e1 e2
    rw [e1, word_eq (fun z => hw (.tail _ z)) (fun z => hu (.tail _ z)) e2]
theorem head_ne (R : RegsOk l) {ts : List D} (hn : ts ≠ []) (h : ∀ t ∈ ts, TestD l t) : headT ts ≠ "otherwise" := fun e => by
  cases ts with
  | nil => exact hn rfl
  | cons t ts =>
    obtain ⟨a, b, v, rfl, _⟩ := h t (.head _)
    have m : 32 ∈ tl (headT (.tup [.str a, .str b, .bl v] :: ts)) := by
      unfold headT
      rw [if_neg (by simp), join_eq, tl_join]
      have m1 : 32 ∈ tl (testT a b v) := by
        unfold testT
        rw [tl_append, tl_append]
        refine List.mem_append_left _ (List.mem_append_right _ ?_)
        cases v
        · show 32 ∈ tl (" is not " : Str)
          decide +kernel
        · show 32 ∈ tl (" is " : Str)
          decide +kernel
      cases ts with
      | nil => exact m1
      | cons u us => exact List.mem_append_left _ m1
    rw [e] at m
    exact absurd m (by decide +kernel)
/-- how a row of steps begins -/
theorem steps_head (R : RegsOk l) {s : D} {ss : List D} (p : StepD l s) : ∃ a r, Wd a ∧ tl (stpsT (.tup (s :: ss))) = tl a ++ 32 :: r := by
  obtain ⟨a, b, rfl, h1, h2⟩ := p
  have e0 : ∃ r, tl (stepT a b) = tl a ++ 32 :: r := by
    refine ⟨[102, 114, 111, 109, 32] ++ tl b, ?_⟩
    unfold stepT
    rw [tl_append, tl_append, show tl (" from " : Str) = [32, 102, 114, 111, 109, 32] from by decide +kernel, List.append_assoc]
    rfl
  obtain ⟨r, e0⟩ := e0
  have e1 : stpsT (.tup (.tup [.str a, .str b] :: ss)) = Txt.join ", " (stepT a b :: ss.map stpT) := rfl
  rw [e1, join_eq, tl_join]
  cases ss with
  | nil => exact ⟨a, r, wd_tgt R h1, e0⟩
  | cons u us =>
    refine ⟨a, r ++ (tl ", " ++ joinL (tl ", ") ((u :: us).map stpT |>.map tl)), wd_tgt R h1, ?_⟩
    show tl (stepT a b) ++ (tl ", " ++ joinL (tl ", ") ((u :: us).map stpT |>.map tl)) = _
    rw [e0, List.append_assoc]
    rfl
theorem steps_ne (R : RegsOk l) {s : D} {ss : List D} (p : StepD l s) : stpsT (.tup (s :: ss)) ≠ "do nothing" := fun e => by
  obtain ⟨a, r, w, q⟩ := steps_head (ss := ss) R p
  rw [e] at q
  have : (tl a ++ 32 :: r).take ([100, 111] : List Nat).length.succ = [100, 111] ++ [32] := by
    rw [← q]
    decide +kernel
  have := word_eq (no_sp w) (by decide) this
  exact w.ndo (tl_inj (this.trans (by decide +kernel)))
theorem starts_iff {x y : Str} (hy : tl y ≠ []) : Txt.startswith x y = pre (tl y) (tl x) := by
  have k := at_iff (x := x) hy 0
  rw [List.drop_zero] at k
  cases h : pre (tl y) (tl x) with
  | true =>
    obtain ⟨k1, k2⟩ := k.mpr h
    unfold Txt.startswith
    rw [k2, Bool.and_true, decide_eq_true_iff]
    exact k1
  | false =>
    cases h2 : Txt.startswith x y with
    | false => rfl
    | true =>
      unfold Txt.startswith at h2
      rw [Bool.and_eq_true, decide_eq_true_iff] at h2
      rw [k.mp h2] at h
      cases h
theorem starts_no (R : RegsOk l) {d : D} (p : StepsD l d) : Txt.startswith (stpsT d) "ask " = false := by
  rw [starts_iff (by decide +kernel)]
  obtain ⟨ss, rfl, _, h⟩ := p
  cases ss with
  | nil => decide +kernel
  | cons s ss =>
    obtain ⟨a, r, w, q⟩ := steps_head (ss := ss) R (h s (.head _))
    rw [q]
    cases c : pre (tl ("ask " : Str)) (tl a ++ 32 :: r) with
    | false => rfl
    | true =>
      have e : (tl a ++ 32 :: r).take ([97, 115, 107] : List Nat).length.succ = [97, 115, 107] ++ [32] := (eq_of_beq c).trans (by decide +kernel)
      have := word_eq (no_sp w) (by decide) e
      exact absurd (tl_inj (this.trans (by decide +kernel))) w.nask
theorem starts_yes {x : Str} : Txt.startswith (("ask " : Str) ++ x) "ask " = true := by
  rw [starts_iff (by decide +kernel), tl_append]
  exact pre_self _ _
theorem cut_ask {x : Str} : cutS (("ask " : Str) ++ x) (some 4) none = x := by
  refine ext_tl ?_
  have l4 : ((("ask " : Str) ++ x).length) = 4 + x.length := by
    rw [len_tl, tl_append, List.length_append, ← len_tl x]
    congr 1
  unfold cutS
  show ((tl (("ask " : Str) ++ x)).drop (HT.sIx (("ask " : Str) ++ x).length 0 (some ((4 : Nat) : Int)))).take (HT.sIx (("ask " : Str) ++ x).length (("ask " : Str) ++ x).length none - HT.sIx (("ask " : Str) ++ x).length 0 (some ((4 : Nat) : Int))) = tl x
  rw [HT.sIx_nat, HT.sIx_none, l4, tl_append, show min 4 (4 + x.length) = 4 from by omega, List.drop_left' (by decide +kernel)]
  rw [List.take_of_length_le]
  rw [← len_tl]
  omega
theorem free_or : ∀ (ws : List (List Nat)) (q : List Nat), ws ≠ [] → (∀ w ∈ ws, 32 ∉ w ∧ w ≠ [111, 114]) → (q = [] ∨ ∃ r, q = 32 :: r) → ∀ i, i < (joinL [32] ws).length → pre [32, 111, 114, 32] ((joinL [32] ws ++ q).drop i) = false
  | [], _, h, _, _, _, _ => absurd rfl h
  | [w], q, _, hw, _, i, hi => free_of (hw w (.head _)).1 i hi
  | w :: w2 :: r, q, _, hw, hq, i, hi => by
    have e : joinL [32] (w :: w2 :: r) = w ++ (32 :: joinL [32] (w2 :: r)) := rfl
    rw [e] at hi ⊢
    by_cases c1 : i < w.length
    · rw [List.append_assoc]
      exact free_of (hw w (.head _)).1 i c1
    · rw [List.append_assoc]
      have e2 : (w ++ (32 :: joinL [32] (w2 :: r) ++ q)).drop i = (32 :: (joinL [32] (w2 :: r) ++ q)).drop (i - w.length) := by
        rw [List.drop_append, List.drop_of_length_le (by omega), List.nil_append]
        rfl
      rw [e2]
      by_cases c2 : i = w.length
      · rw [c2, Nat.sub_self, List.drop_zero]
        cases c : pre [32, 111, 114, 32] (32 :: (joinL [32] (w2 :: r) ++ q)) with
        | false => rfl
        | true =>
          have t : 32 :: (joinL [32] (w2 :: r) ++ q).take 3 = [32, 111, 114, 32] := eq_of_beq c
          injection t with _ t
          obtain ⟨n2, o2⟩ := hw w2 (.tail _ (.head _))
          have y : joinL [32] (w2 :: r) ++ q = w2 ∨ ∃ z, joinL [32] (w2 :: r) ++ q = w2 ++ 32 :: z := by
            cases r with
            | nil =>
              rcases hq with e | ⟨z, e⟩
              · exact .inl (by rw [e, List.append_nil]; rfl)
              · exact .inr ⟨z, by rw [e]; rfl⟩
            | cons u us =>
              refine .inr ⟨joinL [32] (u :: us) ++ q, ?_⟩
              show (w2 ++ (32 :: joinL [32] (u :: us))) ++ q = _
              rw [List.append_assoc]
              rfl
          rcases y with y | ⟨z, y⟩
          · rw [y] at t
            have : 32 ∈ w2 := List.mem_of_mem_take (by rw [t]; decide)
            exact absurd this n2
          · rw [y] at t
            exact absurd (word_eq n2 (u := [111, 114]) (by decide) t) o2
      · obtain ⟨j, ej⟩ : ∃ j, i - w.length = j + 1 := ⟨i - w.length - 1, by omega⟩
        rw [ej, List.drop_succ_cons]
        refine free_or (w2 :: r) q (by simp) (fun v hv => hw v (.tail _ hv)) hq j ?_
        rw [List.length_append, List.length_cons] at hi
        omega
theorem joinL_app {S : List Nat} : ∀ {u v : List (List Nat)}, u ≠ [] → v ≠ [] → joinL S (u ++ v) = joinL S u ++ (S ++ joinL S v)
  | [], _, h, _ => absurd rfl h
  | [p], q :: v, _, _ => rfl
  | [p], [], _, h => absurd rfl h
  | p :: q :: u, v, _, h => by
    show p ++ (S ++ joinL S (q :: u ++ v)) = (p ++ (S ++ joinL S (q :: u))) ++ (S ++ joinL S v)
    rw [joinL_app (u := q :: u) (by simp) h]
    simp only [List.append_assoc]
/-- the words of steps -/
def wds : List D → List (List Nat)
  | [] => []
  | [d] => (match d with
    | .tup [.str a, .str b] => [tl a, tl "from", tl b]
    | _ => [])
  | d :: r => (match d with
    | .tup [.str a, .str b] => [tl a, tl "from", tl b ++ [44]]
    | _ => []) ++ wds r
theorem wds_ok (R : RegsOk l) : ∀ {ss : List D}, ss ≠ [] → (∀ s ∈ ss, StepD l s) → wds ss ≠ [] ∧ (∀ w ∈ wds ss, 32 ∉ w ∧ w ≠ [111, 114]) ∧ joinL [44, 32] ((ss.map stpT).map tl) = joinL [32] (wds ss)
  | [], h, _ => absurd rfl h
  | [d], _, h => by
    obtain ⟨a, b, rfl, h1, h2⟩ := h d (.head _)
    have wa := wd_tgt R h1
    have wb := wd_src R h2
    have nor : ∀ {z : Str}, Wd z → tl z ≠ [111, 114] := fun {z} w e => w.nor (tl_inj (e.trans (by decide +kernel)))
    refine ⟨by simp [wds], fun w hw => ?_, ?_⟩
    · have hw : w ∈ [tl a, tl "from", tl b] := hw
      simp only [List.mem_cons, List.not_mem_nil, or_false] at hw
      rcases hw with e | e | e <;> rw [e]
      · exact ⟨no_sp wa, nor wa⟩
      · exact ⟨by decide +kernel, by decide +kernel⟩
      · exact ⟨no_sp wb, nor wb⟩
    · show tl (a ++ (" from " : Str) ++ b) = tl a ++ ([32] ++ (tl "from" ++ ([32] ++ tl b)))
      rw [tl_append, tl_append, show tl (" from " : Str) = [32] ++ tl "from" ++ [32] from by decide +kernel]
      simp only [List.append_assoc]
  | d :: u :: r, _, h => by
    obtain ⟨i1, i2, i3⟩ := wds_ok R (ss := u :: r) (by simp) fun s hs => h s (.tail _ hs)
    obtain ⟨a, b, rfl, h1, h2⟩ := h d (.head _)
    have wa := wd_tgt R h1
    have wb := wd_src R h2
    have ew : wds (.tup [.str a, .str b] :: u :: r) = [tl a, tl "from", tl b ++ [44]] ++ wds (u :: r) := rfl
    refine ⟨by rw [ew]; simp, fun w hw => ?_, ?_⟩
    · rw [ew] at hw
      rcases List.mem_append.mp hw with hw | hw
      · simp only [List.mem_cons, List.not_mem_nil, or_false] at hw
        rcases hw with e | e | e <;> rw [e]
        · exact ⟨no_sp wa, fun e => wa.nor (tl_inj (e.trans (by decide +kernel)))⟩
        · exact ⟨by decide +kernel, by decide +kernel⟩
        · refine ⟨fun z => ?_, fun z => ?_⟩
          · rcases List.mem_append.mp z with y | y
            · exact no_sp wb y
            · exact absurd y (by decide)
          · have : 44 ∈ ([111, 114] : List Nat) := by rw [← z]; simp
            exact absurd this (by decide)
      · exact i2 w hw
    · rw [ew, joinL_app (by simp) i1, ← i3]
      show tl (a ++ (" from " : Str) ++ b) ++ ([44, 32] ++ joinL [44, 32] (((u :: r).map stpT).map tl)) = (tl a ++ ([32] ++ (tl "from" ++ ([32] ++ (tl b ++ [44]))))) ++ ([32] ++ joinL [44, 32] (((u :: r).map stpT).map tl))
      rw [tl_append, tl_append, show tl (" from " : Str) = [32] ++ tl "from" ++ [32] from by decide +kernel]
      simp only [List.append_assoc]
      rfl
theorem steps_words (R : RegsOk l) {d : D} (p : StepsD l d) : ∃ ws : List (List Nat), ws ≠ [] ∧ (∀ w ∈ ws, 32 ∉ w ∧ w ≠ [111, 114]) ∧ tl (stpsT d) = joinL [32] ws := by
  obtain ⟨ss, rfl, _, h⟩ := p
  cases ss with
  | nil => exact ⟨[[100, 111], [110, 111, 116, 104, 105, 110, 103]], by simp, by decide, by decide +kernel⟩
  | cons s ss =>
    obtain ⟨i1, i2, i3⟩ := wds_ok R (ss := s :: ss) (by simp) h
    refine ⟨_, i1, i2, ?_⟩
    show tl (Txt.join ", " ((s :: ss).map stpT)) = _
    rw [join_eq, tl_join, ← i3]
    congr 1
theorem split_or (R : RegsOk l) {s u : D} (p : StepsD l s) (q : StepsD l u) : Txt.split (stpsT s ++ (" or " : Str) ++ stpsT u) " or " = [stpsT s, stpsT u] := by
  obtain ⟨w1, n1, o1, e1⟩ := steps_words R p
  obtain ⟨w2, n2, o2, e2⟩ := steps_words R q
  have eo : tl (" or " : Str) = [32, 111, 114, 32] := by decide +kernel
  refine map_tl_inj ?_
  rw [split_spl _ _ (by decide +kernel) (kind_ok (by decide +kernel)), tl_append, tl_append, List.append_assoc, eo]
  rw [spl_part (by simp) (fun i hi => ?_), List.nil_append]
  · rw [spl_last fun i hi => ?_]
    · rfl
    · have := free_or w2 [] n2 o2 (.inl rfl) i (by rw [← e2]; exact hi)
      rw [List.append_nil, ← e2] at this
      exact this
  · have := free_or w1 ([32, 111, 114, 32] ++ tl (stpsT u)) n1 o1 (.inr ⟨_, rfl⟩) i (by rw [← e1]; exact hi)
    rw [← e1] at this
    exact this
end
end ML
namespace ML
open PySem PySem.Spec PyProof.Rows L2
noncomputable def pb_rule_of : PSM := seqP (setP 2 (slV (ifEP (andTP (valP (binP neP (bvarP 1) (onP lstP (nilP)))) (valP (binP eqP (binP ixP (binP ixP (bvarP 1) (unP negP (conP (.int 1)))) (conP (.int 0))) (onP tupP (nilP))))) (onP lstP (nilP)) (onP lstP (consP (onP tupP (consP (onP tupP (nilP)) (consP (onP tupP (nilP)) (nilP)))) (nilP)))))) (tryNP (retP (onP p_Rule (consP (varP 0) (consP (slEP (onP lstP (starP (bvarP 1) (starP (bvarP 2) (nilP)))) (noOP) (someOP (binP addP (conP (.int 8)) (conP (.int 1))))) (nilP))))))
noncomputable def p_rule_of : PFM := fnP 2 3 pb_rule_of
theorem fk_rule_of : FOK m_rule_of p_rule_of := fn_okP (np := 2) (n := 3) (s := b_rule_of) (ps := pb_rule_of) (s_seqP (s_setP 2 (sl_v (x_ifP (t_andP (t_valP (x_bin op_neP (b_var 1) (x_b (x_f (f_lst a_nilP))))) (t_valP (x_bin op_eqP (x_b (x_bin op_ixP (x_b (x_bin op_ixP (b_var 1) (x_b (x_un op_negP (x_b x_int))))) (x_b x_int))) (x_b (x_tup a_nilP))))) (x_f (f_lst a_nilP)) (x_f (f_lst (a_consP (x_tup (a_consP (x_tup a_nilP) (a_consP (x_tup a_nilP) a_nilP))) a_nilP)))))) (s_tryNP (s_retP (x_f (f_onM mk_Rule (a_consP (x_var 0) (a_consP (x_slP (x_b (x_f (f_lst (a_starP (b_var 1) (a_starP (b_var 2) a_nilP))))) o_noP (o_someP (x_bin op_addP (x_b x_int) (x_b x_int)))) a_nilP)))))))
noncomputable def pb_read_rule : PSM := seqP (ifP (notTP (valP (onP (isiP "str") (consP (bvarP 0) (consP (conP (.ty "str")) (nilP)))))) (raiseP "BadText" "line" (conP (.int 1))) (passP)) (seqP (setP 1 (slV (bmP "str" splitP (bvarP 0) (consP (conP (.str "\n")) (nilP))))) (seqP (setP 2 (slV (bmP "str" splitP (binP ixP (bvarP 1) (conP (.int 0))) (consP (conP (.str " ")) (nilP))))) (seqP (ifP (orTP (valP (binP neP (binP ixP (bvarP 2) (conP (.int 0))) (conP (.str "registers")))) (valP (binP isNP (onP p_rule_of (consP (slEP (bvarP 2) (someOP (conP (.int 1))) (noOP)) (consP (onP lstP (nilP)) (nilP)))) (conP .non)))) (raiseP "BadText" "line" (conP (.int 1))) (passP)) (seqP (setP 3 (slO (onP lstP (nilP)))) (seqP (forP (enumP (consP (slEP (bvarP 1) (someOP (conP (.int 1))) (noOP)) (nilP))) (gtpP [gnmP 4, gnmP 5]) (seqP (setP 6 (slV (onP p_read_line (consP (varP 5) (nilP))))) (seqP (ifP (orTP (valP (binP isNP (bvarP 6) (conP .non))) (orTP (valP (binP geP (bvarP 4) (conP (.int 8)))) (orTP (valP (binP isNP (onP p_rule_of (consP (slEP (bvarP 2) (someOP (conP (.int 1))) (noOP)) (consP (onP lstP (consP (varP 6) (nilP))) (nilP)))) (conP .non))) (valP (binP neP (onP p_line_text (consP (varP 6) (nilP))) (bvarP 5)))))) (raiseP "BadText" "line" (binP addP (bvarP 4) (conP (.int 2)))) (passP)) (seqP (ifP (andTP (valP (binP eqP (bvarP 4) (binP subP (conP (.int 8)) (conP (.int 1))))) (valP (binP neP (binP ixP (bvarP 6) (conP (.int 0))) (onP tupP (nilP))))) (raiseP "BadText" "line" (binP addP (bvarP 4) (conP (.int 2)))) (passP)) (ownP isLstP 3 appendP (varP 6)))))) (seqP (ifP (orTP (valP (binP eqP (bvarP 3) (onP lstP (nilP)))) (valP (binP neP (binP ixP (binP ixP (bvarP 3) (unP negP (conP (.int 1)))) (conP (.int 0))) (onP tupP (nilP))))) (raiseP "BadText" "line" (binP addP (onP lenP (consP (bvarP 1) (nilP))) (conP (.int 1)))) (passP)) (frzS [3] (retP (onP p_Rule (consP (slEP (bvarP 2) (someOP (conP (.int 1))) (noOP)) (consP (varP 3) (nilP))))))))))))
noncomputable def p_read_rule : PFM := fnP 1 7 pb_read_rule
theorem fk_read_rule : FOK m_read_rule p_read_rule := fn_okP (np := 1) (n := 7) (s := b_read_rule) (ps := pb_read_rule) (s_seqP (s_ifP (t_notP (t_valP (x_ops ops_isiP (a1_cons (b_var 0) (a1_cons (x_b x_ty) a1_nil))))) (s_raiseP x_int) s_passP) (s_seqP (s_setP 1 (sl_v (x_bmP opm_splitP (b_var 0) (a1_cons (x_b x_str) a1_nil)))) (s_seqP (s_setP 2 (sl_v (x_bmP opm_splitP (x_b (x_bin op_ixP (b_var 1) (x_b x_int))) (a1_cons (x_b x_str) a1_nil)))) (s_seqP (s_ifP (t_orP (t_valP (x_bin op_neP (x_b (x_bin op_ixP (b_var 2) (x_b x_int))) (x_b x_str))) (t_valP (x_bin op_isNP (x_b (x_on fk_rule_of (a_consP (x_slP (b_var 2) (o_someP x_int) o_noP) (a_consP (x_f (f_lst a_nilP)) a_nilP)))) (x_b x_non)))) (s_raiseP x_int) s_passP) (s_seqP (s_setP 3 (sl_o (f_lst a_nilP))) (s_seqP (s_forP (i_enumP (a_consP (x_slP (b_var 1) (o_someP x_int) o_noP) a_nilP)) (g_gtpP (gs_consP (g_gnmP 4) (gs_consP (g_gnmP 5) gs_nilP))) (s_seqP (s_setP 6 (sl_v (x_on fk_read_line (a_consP (x_var 5) a_nilP)))) (s_seqP (s_ifP (t_orP (t_valP (x_bin op_isNP (b_var 6) (x_b x_non))) (t_orP (t_valP (x_bin op_geP (b_var 4) (x_b x_int))) (t_orP (t_valP (x_bin op_isNP (x_b (x_on fk_rule_of (a_consP (x_slP (b_var 2) (o_someP x_int) o_noP) (a_consP (x_f (f_lst (a_consP (x_var 6) a_nilP))) a_nilP)))) (x_b x_non))) (t_valP (x_bin op_neP (x_b (x_on fk_line_text (a_consP (x_var 6) a_nilP))) (b_var 5)))))) (s_raiseP (x_bin op_addP (b_var 4) (x_b x_int))) s_passP) (s_seqP (s_ifP (t_andP (t_valP (x_bin op_eqP (b_var 4) (x_b (x_bin op_subP (x_b x_int) (x_b x_int))))) (t_valP (x_bin op_neP (x_b (x_bin op_ixP (b_var 6) (x_b x_int))) (x_b (x_tup a_nilP))))) (s_raiseP (x_bin op_addP (b_var 4) (x_b x_int))) s_passP) (s_append (x_var 6)))))) (s_seqP (s_ifP (t_orP (t_valP (x_bin op_eqP (b_var 3) (x_b (x_f (f_lst a_nilP))))) (t_valP (x_bin op_neP (x_b (x_bin op_ixP (x_b (x_bin op_ixP (b_var 3) (x_b (x_un op_negP (x_b x_int))))) (x_b x_int))) (x_b (x_tup a_nilP))))) (s_raiseP (x_bin op_addP (x_b (x_ops ops_lenP (a1_cons (b_var 1) a1_nil))) (x_b x_int))) s_passP) (s_frz (s_retP (x_f (f_onM mk_Rule (a_consP (x_slP (b_var 2) (o_someP x_int) o_noP) (a_consP (x_var 3) a_nilP)))))))))))))
noncomputable def pb_law_rule : PSM := retP (onP p_Rule (consP (onP listP (consP (binP ixP (bvarP 0) (conP (.int 0))) (nilP))) (consP (onP listP (consP (binP ixP (bvarP 0) (conP (.int 1))) (nilP))) (nilP))))
noncomputable def p_law_rule : PFM := fnP 1 1 pb_law_rule
theorem fk_law_rule : FOK m_law_rule p_law_rule := fn_okP (np := 1) (n := 1) (s := b_law_rule) (ps := pb_law_rule) (s_retP (x_f (f_onM mk_Rule (a_consP (x_f (f_ops fops_listP (a1_cons (x_b (x_bin op_ixP (b_var 0) (x_b x_int))) a1_nil))) (a_consP (x_f (f_ops fops_listP (a1_cons (x_b (x_bin op_ixP (b_var 0) (x_b x_int))) a1_nil))) a_nilP)))))
end ML
namespace ML
open PySem PySem.Spec PyProof.Rows L2 TL
theorem len_app (x y : Str) : (x ++ y).length = x.length + y.length := by rw [len_tl, tl_append, List.length_append, ← len_tl, ← len_tl]
theorem joinL_len {S : List Nat} {B : Nat} : ∀ {ps : List (List Nat)}, (∀ p ∈ ps, p.length ≤ B) → (joinL S ps).length ≤ ps.length * (B + S.length)
  | [], _ => Nat.zero_le _
  | [p], h => by
    have := h p (.head _)
    show p.length ≤ 1 * (B + S.length)
    omega
  | p :: q :: r, h => by
    have h1 := h p (.head _)
    have h2 := joinL_len (S := S) (ps := q :: r) fun x hx => h x (.tail _ hx)
    have e : joinL S (p :: q :: r) = p ++ (S ++ joinL S (q :: r)) := rfl
    rw [e, List.length_append, List.length_append, List.length_cons, Nat.succ_mul]
    omega
theorem join_len {y : Str} {ps : List Str} {B : Nat} (h : ∀ p ∈ ps, p.length ≤ B) : (Txt.join y ps).length ≤ ps.length * (B + y.length) := by
  rw [len_tl, join_eq, tl_join, len_tl y]
  have := joinL_len (S := tl y) (B := B) (ps := ps.map tl) fun p hp => by
    obtain ⟨z, hz, rfl⟩ := List.mem_map.mp hp
    rw [← len_tl]
    exact h z hz
  rwa [List.length_map] at this
theorem sum_len {ps : List Str} {B : Nat} (h : ∀ p ∈ ps, p.length ≤ B) : (ps.map (·.length)).sum ≤ ps.length * B := by
  induction ps with
  | nil => exact Nat.zero_le _
  | cons p ps ih =>
    have h1 := h p (.head _)
    have h2 := ih fun x hx => h x (.tail _ hx)
    rw [List.map_cons, List.sum_cons, List.length_cons, Nat.succ_mul]
    omega
theorem strsP_ok : ∀ l : List Str, strsP (l.map .str) = some l
  | [] => rfl
  | z :: l => by
    rw [List.map_cons]
    unfold strsP
    rw [strsP_ok l]
theorem neP_tnil {xs : List PV} : neP (.tup xs) (.tup []) = .ok (.bl (!xs.isEmpty)) := by cases xs <;> rfl
theorem eqP_tnil {xs : List PV} : eqP (.tup xs) (.tup []) = .ok (.bl xs.isEmpty) := by cases xs <;> rfl
theorem neP_lnil {xs : List PV} : neP (.lst xs) (.lst []) = .ok (.bl (!xs.isEmpty)) := by cases xs <;> rfl
theorem eqP_lnil {xs : List PV} : eqP (.lst xs) (.lst []) = .ok (.bl xs.isEmpty) := by cases xs <;> rfl
theorem map_str (f : D → Str) (xs : List D) : (xs.map fun s => PV.str (f s)) = (xs.map f).map .str := by rw [List.map_map]; rfl
theorem addP_str {a b : Str} (h : a.length + b.length ≤ 1000000) : addP (.str a) (.str b) = .ok (.str (a ++ b)) := by unfold addP; dsimp only; rw [if_pos h]
theorem im_tup {xs : List D} : im (.tup xs) = .tup (xs.map im) := by unfold im; rw [ims_map]
section
variable {e : PEnv} {o m : PX} {as : PA} {xs : List PV} {a x y acc : Str} {f : PV → List PV → PR PV} {r : PR PV} {ms : List PX}
theorem q_bms (p : o e = .ok (.str a)) (q : as e = .ok xs) (k : f (.str a) xs = r) : bmP "str" f o as e = r := by
  unfold bmP
  rw [p, PR.bind_ok, if_pos (show tyP (.str a) = some "str" from rfl), q]
  exact k
theorem joinP_ok {ss : List Str} {B : Nat} (h : ∀ s ∈ ss, s.length ≤ B) (hb : ss.length * (B + a.length) ≤ 1000000) : joinP (.str a) [.lst (ss.map .str)] = .ok (.str (Txt.join a ss)) := by
  unfold joinP seqOfP
  dsimp only
  rw [strsP_ok]
  dsimp only
  rw [if_pos]
  have := sum_len h
  rw [Nat.mul_add] at hb
  omega
theorem q_join {ss : List Str} {B : Nat} (p : o e = .ok (.str a)) (q : as e = .ok [.lst (ss.map .str)]) (h : ∀ s ∈ ss, s.length ≤ B) (hb : ss.length * (B + a.length) ≤ 1000000) : bmP "str" joinP o as e = .ok (.str (Txt.join a ss)) := q_bms p q (joinP_ok h hb)
theorem splitP_ok {x y : Str} (h : (y.length == 0) = false) (hx : x.length ≤ 1000000) : splitP (.str x) [.str y] = .ok (.lst ((Txt.split x y).map .str)) := by
  unfold splitP
  dsimp only
  rw [if_pos ⟨h, hx⟩]
theorem partP_ok {x y : Str} (h : (y.length == 0) = false) (hx : x.length ≤ 1000000) : partP (.str x) [.str y] = .ok (.tup [.str (Txt.partition x y).1, .str (Txt.partition x y).2.1, .str (Txt.partition x y).2.2]) := by
  unfold partP
  dsimp only
  rw [if_pos ⟨h, hx⟩]
theorem q_jsn : jsGP [] acc e = .ok (.str acc) := rfl
theorem q_jsc (p : m e = .ok (.str y)) (h : (acc ++ y).length ≤ 1000000) (k : jsGP ms (acc ++ y) e = r) : jsGP (m :: ms) acc e = r := by
  show (m e).bind _ = _
  rw [p, PR.bind_ok]
  dsimp only
  rw [if_pos h]
  exact k
theorem q_fmt (p : m e = .ok (.str y)) (h : y.length ≤ 1000000) : unP fmtP m e = .ok (.str y) := q_un p (by unfold fmtP; dsimp only; rw [if_pos h])
theorem emp_app (x : Str) : Str.empty ++ x = x := ext_tl (by rw [tl_append]; rfl)
theorem js3 {m1 m2 m3 : PX} {a b c : Str} (p : m1 e = .ok (.str a)) (q : m2 e = .ok (.str b)) (k : m3 e = .ok (.str c)) (h : a.length + b.length + c.length ≤ 1000000) : jsP [m1, m2, m3] e = .ok (.str (a ++ b ++ c)) := by
  refine q_jsc p (by rw [emp_app]; omega) ?_
  rw [emp_app]
  exact q_jsc q (by rw [len_app]; omega) (q_jsc k (by rw [len_app, len_app]; omega) q_jsn)
theorem js5 {m1 m2 m3 m4 m5 : PX} {a b c d u : Str} (p : m1 e = .ok (.str a)) (q : m2 e = .ok (.str b)) (k : m3 e = .ok (.str c)) (k4 : m4 e = .ok (.str d)) (k5 : m5 e = .ok (.str u)) (h : a.length + b.length + c.length + d.length + u.length ≤ 1000000) : jsP [m1, m2, m3, m4, m5] e = .ok (.str (a ++ b ++ c ++ d ++ u)) := by
  refine q_jsc p (by rw [emp_app]; omega) ?_
  rw [emp_app]
  exact q_jsc q (by rw [len_app]; omega) (q_jsc k (by rw [len_app, len_app]; omega) (q_jsc k4 (by rw [len_app, len_app, len_app]; omega) (q_jsc k5 (by rw [len_app, len_app, len_app, len_app]; omega) q_jsn)))
theorem app_assoc (a b c : Str) : a ++ b ++ c = a ++ (b ++ c) := ext_tl (by rw [tl_append, tl_append, tl_append, tl_append, List.append_assoc])
end
section
variable {l : List Str} {ls : List D} {d s u : D} {b : Bool} {ts st : List D}
theorem len_from : (" from " : Str).length = 6 := by decide +kernel
theorem stp_len (R : RegsOk l) (p : StepD l d) : (stpT d).length ≤ 22 := by
  obtain ⟨x, y, rfl, h1, h2⟩ := p
  have w1 := (wd_tgt R h1).len
  have w2 := (wd_src R h2).len
  show (x ++ (" from " : Str) ++ y).length ≤ 22
  rw [len_app, len_app, len_from]
  omega
theorem len_is (v : Bool) : (if v then (" is " : Str) else " is not ").length ≤ 8 := by cases v <;> decide +kernel
theorem tst_len (R : RegsOk l) (p : TestD l d) : (tstT d).length ≤ 24 := by
  obtain ⟨x, y, v, rfl, h1, h2⟩ := p
  have w1 := (wd_left R h1).len
  have w2 := (wd_src R h2).len
  have w3 := len_is v
  show (x ++ (if v then (" is " : Str) else " is not ") ++ y).length ≤ 24
  rw [len_app, len_app]
  omega
theorem len_cm : (", " : Str).length = 2 := by decide +kernel
theorem stps_len (R : RegsOk l) (p : StepsD l d) : (stpsT d).length ≤ 100 := by
  obtain ⟨ss, rfl, h4, h⟩ := p
  show (if ss.isEmpty then ("do nothing" : Str) else Txt.join ", " (ss.map stpT)).length ≤ 100
  split
  · decide +kernel
  · have := join_len (y := ", ") (ps := ss.map stpT) (B := 22) fun z hz => by
      obtain ⟨q, hq, rfl⟩ := List.mem_map.mp hz
      exact stp_len R (h q hq)
    rw [List.length_map, len_cm] at this
    have : ss.length * (22 + 2) ≤ 4 * (22 + 2) := Nat.mul_le_mul_right _ h4
    omega
theorem head_len (R : RegsOk l) (h4 : ts.length ≤ 4) (h : ∀ t ∈ ts, TestD l t) : (headT ts).length ≤ 110 := by
  unfold headT
  split
  · decide +kernel
  · have := join_len (y := ", ") (ps := ts.map tstT) (B := 24) fun z hz => by
      obtain ⟨q, hq, rfl⟩ := List.mem_map.mp hz
      exact tst_len R (h q hq)
    rw [List.length_map, len_cm] at this
    have : ts.length * (24 + 2) ≤ 4 * (24 + 2) := Nat.mul_le_mul_right _ h4
    omega
theorem len_ask : ("ask " : Str).length = 4 := by decide +kernel
theorem len_or : (" or " : Str).length = 4 := by decide +kernel
theorem len_col : (": " : Str).length = 2 := by decide +kernel
theorem rest_len (R : RegsOk l) (h : ∀ s ∈ st, StepsD l s) : (restT st).length ≤ 208 := by
  match st, h with
  | [], _ => decide +kernel
  | [s], h => exact Nat.le_trans (stps_len R (h s (.head _))) (by decide)
  | [s, u], h =>
    have h1 := stps_len R (h s (.head _))
    have h2 := stps_len R (h u (.tail _ (.head _)))
    show (("ask " : Str) ++ stpsT s ++ (" or " : Str) ++ stpsT u).length ≤ 208
    rw [len_app, len_app, len_app, len_ask, len_or]
    omega
  | _ :: _ :: _ :: _, _ =>
    show ("" : Str).length ≤ 208
    decide +kernel
theorem lin_len (R : RegsOk l) (p : LineD l b d) : (linT d).length ≤ 320 := by
  obtain ⟨ts, st, rfl, h1, _, h3, _, h5⟩ := p
  have a1 := head_len R h1 h3
  have a2 := rest_len R h5
  show (headT ts ++ (": " : Str) ++ restT st).length ≤ 320
  rw [len_app, len_app, len_col]
  omega
theorem reg_len (R : RegsOk l) : (regT l).length ≤ 40 := by
  have := join_len (y := " ") (ps := ("registers" : Str) :: l) (B := 9) fun z hz => by
    rcases List.mem_cons.mp hz with e | e
    · rw [e]; decide +kernel
    · exact Nat.le_trans (wd_good (R.2.2 z e)).len (by decide)
  rw [List.length_cons, show (" " : Str).length = 1 from by decide +kernel] at this
  have h3 := R.1
  have : (l.length + 1) * (9 + 1) ≤ 4 * (9 + 1) := Nat.mul_le_mul_right _ (by omega)
  unfold regT
  omega
theorem rows_len (R : RegsOk l) (L : LinesD l ls) : ∀ z ∈ rowsT l ls, z.length ≤ 320 := fun z hz => by
  rcases List.mem_cons.mp hz with e | e
  · rw [e]
    exact Nat.le_trans (reg_len R) (by decide)
  · obtain ⟨y, hy, rfl⟩ := List.mem_map.mp e
    exact lin_len R (L.2.2.1 y hy)
theorem rows_num (L : LinesD l ls) : (rowsT l ls).length ≤ 9 := by
  unfold rowsT
  rw [List.length_cons, List.length_map]
  have := L.2.1
  omega
theorem len_nl : ("\n" : Str).length = 1 := by decide +kernel
theorem rul_len (R : RegsOk l) (L : LinesD l ls) : (rulT l ls).length ≤ 2889 := by
  have := join_len (y := "\n") (rows_len R L)
  rw [len_nl] at this
  have : (rowsT l ls).length * (320 + 1) ≤ 9 * (320 + 1) := Nat.mul_le_mul_right _ (rows_num L)
  unfold rulT
  omega
theorem test_textP (R : RegsOk l) (p : TestD l d) : p_test_text [im d] = .ok (.str (tstT d)) := by
  obtain ⟨x, y, v, rfl, h1, h2⟩ := p
  have w1 := (wd_left R h1).len
  have w2 := (wd_src R h2).len
  have w3 := len_is v
  unfold p_test_text
  refine f_rt rfl ?_
  unfold pb_test_text
  refine r_seq (e1 := [.val (.tup [.str x, .str y, .bl v]), .val (.str x), .val (.str y), .val (.bl v)]) (r_asg (q_var rfl) rfl) (r_ret (q_if (q_val (bo := v) (q_var rfl)) (fun z => ?_) fun z => ?_))
  · subst z
    exact js3 (q_fmt (q_bvar rfl) (by omega)) q_con (q_fmt (q_bvar rfl) (by omega)) (by have w3 := len_is true; simp only [if_true] at w3; omega)
  · subst z
    exact js3 (q_fmt (q_bvar rfl) (by omega)) q_con (q_fmt (q_bvar rfl) (by omega)) (by have w3 := len_is false; simp only [if_false, Bool.false_eq_true] at w3; omega)
theorem steps_textP (R : RegsOk l) (p : StepsD l d) : p_steps_text [im d] = .ok (.str (stpsT d)) := by
  obtain ⟨ss, rfl, h4, h⟩ := p
  rw [im_tup]
  have k := q_lcMY (e := [.val (.tup (ss.map im)), .no, .no]) (own := [1, 2]) (it := seqItP (varP 0)) (g := gtpP [gnmP 1, gnmP 2]) (elt := jsP [unP fmtP (bvarP 1), conP (.str " from "), unP fmtP (bvarP 2)]) (enc := im) (ys := ss) (fun s => .str (stpT s)) (q_seqT (q_var rfl)) rfl (by omega) fun s hs => by
    obtain ⟨x, y, rfl, h1, h2⟩ := h s hs
    have w1 := (wd_tgt R h1).len
    have w2 := (wd_src R h2).len
    exact ⟨[.val (.tup (ss.map im)), .val (.str x), .val (.str y)], rfl, js3 (q_fmt (q_bvar rfl) (by omega)) q_con (q_fmt (q_bvar rfl) (by omega)) (by rw [len_from]; omega)⟩
  rw [map_str stpT] at k
  unfold p_steps_text
  refine f_rt rfl ?_
  unfold pb_steps_text
  refine r_ret (q_if (q_val (q_bin (q_bvar rfl) (q_on q_nil rfl) neP_tnil)) (fun z => ?_) fun z => ?_)
  · have hne : ss.isEmpty = false := by cases ss with | nil => exact nomatch z | cons _ _ => rfl
    show bmP _ _ _ _ _ = PR.ok (PV.str (if ss.isEmpty then ("do nothing" : Str) else Txt.join ", " (ss.map stpT)))
    rw [hne]
    refine q_join (B := 22) q_con (q_cons k q_nil) (fun z hz => ?_) ?_
    · obtain ⟨q, hq, rfl⟩ := List.mem_map.mp hz
      exact stp_len R (h q hq)
    · rw [List.length_map, len_cm]
      omega
  · cases ss with
    | nil => rfl
    | cons _ _ => exact nomatch z
theorem line_textP (R : RegsOk l) (p : LineD l b d) : p_line_text [im d] = .ok (.str (linT d)) := by
  obtain ⟨ts, st, rfl, h1, h2, h3, h4, h5⟩ := p
  have hl := head_len R h1 h3
  rw [im_tup, List.map_cons, im_tup]
  obtain ⟨W, dW⟩ : ∃ W : PV, W = .tup (.tup (ts.map im) :: st.map im) := ⟨_, rfl⟩
  have i0 : ixP W (.int 0) = .ok (.tup (ts.map im)) := by rw [dW]; exact ixP_tup (i := 0) rfl
  have k := q_lcMY (e := [.val W, .no, .no]) (own := [2]) (it := seqItP (binP ixP (bvarP 0) (conP (.int 0)))) (g := gnmP 2) (elt := onP p_test_text (consP (varP 2) (nilP))) (enc := im) (ys := ts) (fun s => .str (tstT s)) (q_seqT (q_bin (q_bvar rfl) q_con i0)) rfl (by omega) fun s hs => ⟨[.val W, .no, .val (im s)], rfl, q_on (q_cons (q_var rfl) q_nil) (test_textP R (h3 s hs))⟩
  rw [map_str tstT] at k
  rw [← dW]
  unfold p_line_text
  refine f_rt rfl ?_
  unfold pb_line_text
  refine r_seq (e1 := [.val W, .val (.str (headT ts)), .no]) (r_setV (q_if (q_val (q_bin (q_bin (q_bvar rfl) q_con i0) (q_on q_nil rfl) neP_tnil)) (fun z => ?_) fun z => ?_) rfl) ?_
  · have hne : ts.isEmpty = false := by cases ts with | nil => exact nomatch z | cons _ _ => rfl
    show bmP _ _ _ _ _ = PR.ok (PV.str (if ts.isEmpty then ("otherwise" : Str) else Txt.join ", " (ts.map tstT)))
    rw [hne]
    refine q_join (B := 24) q_con (q_cons k q_nil) (fun z hz => ?_) ?_
    · obtain ⟨q, hq, rfl⟩ := List.mem_map.mp hz
      exact tst_len R (h3 q hq)
    · rw [List.length_map, len_cm]
      omega
  · cases ts with
    | nil => rfl
    | cons _ _ => exact nomatch z
  · have lW : lenP [W] = .ok (.int (st.length + 1 : Nat)) := by rw [dW, lenP_tup, List.length_cons, List.length_map]
    match st, h4, h5 with
    | [s], _, h5 =>
      have i1 : ixP W (.int 1) = .ok (im s) := by rw [dW]; exact ixP_tup (i := 1) rfl
      have s1 := stps_len R (h5 s (.head _))
      have s1' : (restT [s]).length ≤ 100 := s1
      exact r_seqR (r_ifT (q_val (q_bin (q_on (q_cons (q_bvar rfl) q_nil) lW) q_con rfl)) (r_ret (js3 (q_fmt (q_bvar rfl) (by omega)) q_con (q_fmt (q_on (q_cons (q_bin (q_bvar rfl) q_con i1) q_nil) (steps_textP R (h5 s (.head _)))) (by omega)) (by rw [len_col]; omega))))
    | [s, u], _, h5 =>
      have i1 : ixP W (.int 1) = .ok (im s) := by rw [dW]; exact ixP_tup (i := 1) rfl
      have i2 : ixP W (.int 2) = .ok (im u) := by rw [dW]; exact ixP_tup (i := 2) rfl
      have s1 := stps_len R (h5 s (.head _))
      have s2 := stps_len R (h5 u (.tail _ (.head _)))
      refine r_seq (r_ifF (q_val (q_bin (q_on (q_cons (q_bvar rfl) q_nil) lW) q_con rfl)) r_pass) (r_ret ?_)
      rw [js5 (q_fmt (q_bvar rfl) (by omega)) q_con (q_fmt (q_on (q_cons (q_bin (q_bvar rfl) q_con i1) q_nil) (steps_textP R (h5 s (.head _)))) (by omega)) q_con (q_fmt (q_on (q_cons (q_bin (q_bvar rfl) q_con i2) q_nil) (steps_textP R (h5 u (.tail _ (.head _))))) (by omega)) (by rw [len_or, show (": ask " : Str).length = 6 from by decide +kernel]; omega)]
      congr 2
      show _ = headT ts ++ (": " : Str) ++ (("ask " : Str) ++ stpsT s ++ (" or " : Str) ++ stpsT u)
      refine ext_tl ?_
      rw [tl_append, tl_append, tl_append, tl_append, tl_append, tl_append, tl_append, tl_append, tl_append, show tl (": ask " : Str) = tl (": " : Str) ++ tl ("ask " : Str) from by decide +kernel]
      simp only [List.append_assoc]
    | [], h4, _ => simp at h4
    | _ :: _ :: _ :: _, h4, _ => simp at h4
theorem rule_textP (R : RegsOk l) (L : LinesD l ls) : p_rule_text [ruleV l ls] = .ok (.str (rulT l ls)) := by
  have k := q_lcMY (e := [.val (ruleV l ls), .no]) (own := [1]) (it := seqItP (unP (propP [("Rule", p_Rule_lines)]) (varP 0))) (g := gnmP 1) (elt := onP p_line_text (consP (varP 1) (nilP))) (enc := im) (ys := ls) (fun s => .str (linT s)) (q_seqT (q_un (q_var rfl) (propP_ok (t := [("Rule", p_Rule_lines)]) rfl rfl))) rfl (by have := L.2.1; omega) fun s hs => ⟨[.val (ruleV l ls), .val (im s)], rfl, q_on (q_cons (q_var rfl) q_nil) (line_textP R (L.2.2.1 s hs))⟩
  rw [map_str linT] at k
  have kr : onP lstP (consP (conP (.str "registers")) (starP (unP (propP [("Rule", p_Rule_registers)]) (varP 0)) (nilP))) [.val (ruleV l ls), .no] = .ok (.lst ((("registers" : Str) :: l).map .str)) := by
    refine q_on (q_cons q_con (q_star (q_un (q_var rfl) (propP_ok (t := [("Rule", p_Rule_registers)]) rfl rfl)) rfl q_nil)) ?_
    rw [List.append_nil]
    exact lstP_le (by rw [List.length_cons, List.length_map]; have := R.1; omega)
  have kj : bmP "str" joinP (conP (.str " ")) (consP (onP lstP (consP (conP (.str "registers")) (starP (unP (propP [("Rule", p_Rule_registers)]) (varP 0)) (nilP)))) (nilP)) [.val (ruleV l ls), .no] = .ok (.str (regT l)) := by
    refine q_join (B := 9) q_con (q_cons kr q_nil) (fun z hz => ?_) ?_
    · rcases List.mem_cons.mp hz with e | e
      · rw [e]; decide +kernel
      · exact Nat.le_trans (wd_good (R.2.2 z e)).len (by decide)
    · rw [List.length_cons, show (" " : Str).length = 1 from by decide +kernel]
      have := R.1
      omega
  unfold p_rule_text
  refine f_rt rfl ?_
  unfold pb_rule_text
  refine r_ret (q_join (B := 320) q_con (q_cons (q_on (q_cons kj (q_star k rfl q_nil)) ?_) q_nil) (rows_len R L) ?_)
  · rw [List.append_nil]
    exact lstP_le (by rw [List.length_cons, List.length_map, List.length_map]; have := L.2.1; omega)
  · have := rows_num L
    rw [len_nl]
    omega
theorem law_writtenP (R : RegsOk l) (p : StepsD l d) : p_law_written [im d] = .ok (.str (stpsT d)) := by
  obtain ⟨ss, rfl, h4, h⟩ := p
  rw [im_tup]
  unfold p_law_written
  refine f_rt rfl ?_
  unfold pb_law_written
  cases ss with
  | nil => exact r_seqR (r_ifT (q_val (q_bin (q_bvar rfl) (q_on q_nil rfl) eqP_tnil)) (r_ret rfl))
  | cons s0 sr =>
    obtain ⟨ss, ds⟩ : ∃ ss, ss = s0 :: sr := ⟨_, rfl⟩
    have hne : ss.isEmpty = false := by rw [ds]; rfl
    rw [← ds] at h h4 ⊢
    have k := q_lcMY (e := [.val (.tup (ss.map im)), .no]) (own := [1]) (it := seqItP (varP 0)) (g := gnmP 1) (elt := binP addP (binP addP (binP ixP (bvarP 1) (conP (.int 0))) (conP (.str " from "))) (binP ixP (bvarP 1) (conP (.int 1)))) (enc := im) (ys := ss) (fun s => .str (stpT s)) (q_seqT (q_var rfl)) rfl (by omega) fun s hs => by
      obtain ⟨x, y, rfl, h1, h2⟩ := h s hs
      have w1 := (wd_tgt R h1).len
      have w2 := (wd_src R h2).len
      exact ⟨[.val (.tup (ss.map im)), .val (.tup [.str x, .str y])], rfl, q_bin (q_bin (q_bin (q_bvar rfl) q_con (ixP_tup (i := 0) rfl)) q_con (addP_str (by rw [len_from]; omega))) (q_bin (q_bvar rfl) q_con (ixP_tup (i := 1) rfl)) (addP_str (by rw [len_app, len_from]; omega))⟩
    rw [map_str stpT] at k
    refine r_seq (r_ifF (q_val (q_bin (q_bvar rfl) (q_on q_nil rfl) (eqP_tnil.trans (by rw [ds]; rfl)))) r_pass) (r_ret ?_)
    show bmP _ _ _ _ _ = PR.ok (PV.str (if ss.isEmpty then ("do nothing" : Str) else Txt.join ", " (ss.map stpT)))
    rw [hne]
    refine q_join (B := 22) q_con (q_cons k q_nil) (fun z hz => ?_) ?_
    · obtain ⟨q, hq, rfl⟩ := List.mem_map.mp hz
      exact stp_len R (h q hq)
    · rw [List.length_map, len_cm]
      omega
/-- rows of a rule's text, one by one -/
def wline : PSM := seqP (setP 3 (slV (lcP [6] (seqItP (binP ixP (bvarP 2) (conP (.int 0)))) (gnmP 6) (yesP) (binP addP (binP addP (binP ixP (bvarP 6) (conP (.int 0))) (ifEP (valP (binP ixP (bvarP 6) (conP (.int 2)))) (conP (.str " is ")) (conP (.str " is not ")))) (binP ixP (bvarP 6) (conP (.int 1))))))) (seqP (setP 4 (slV (ifEP (valP (binP neP (bvarP 3) (onP lstP (nilP)))) (bmP "str" joinP (conP (.str ", ")) (consP (bvarP 3) (nilP))) (conP (.str "otherwise"))))) (seqP (setP 5 (slV (lcP [7] (seqItP (slEP (bvarP 2) (someOP (conP (.int 1))) (noOP))) (gnmP 7) (yesP) (onP p_law_written (consP (varP 7) (nilP)))))) (ownP isLstP 1 appendP (binP addP (binP addP (bvarP 4) (conP (.str ": "))) (ifEP (valP (binP eqP (onP lenP (consP (bvarP 5) (nilP))) (conP (.int 1)))) (binP ixP (bvarP 5) (conP (.int 0))) (binP addP (binP addP (binP addP (conP (.str "ask ")) (binP ixP (bvarP 5) (conP (.int 0)))) (conP (.str " or "))) (binP ixP (bvarP 5) (conP (.int 1)))))))))
def slo : Option PV → Slot
  | none => .no
  | some v => .val v
theorem cut1 {x : PV} {st : List D} (h : st.length = 1 ∨ st.length = 2) : slP (.tup (x :: st.map im)) (some 1) none = .ok (.tup (st.map im)) := by
  match st, h with
  | [a], _ => rfl
  | [a, b], _ => rfl
  | [], h => simp at h
  | _ :: _ :: _ :: _, h => simp at h
theorem wline_ok (R : RegsOk l) (p : LineD l b d) {v0 : PV} {acc : List Str} {x3 x4 x5 : Option PV} (ha : acc.length ≤ 20) : ∃ y3 y4 y5, wline [.val v0, .own (.lst (acc.map .str)), .val (im d), slo x3, slo x4, slo x5, .no, .no] = .nx [.val v0, .own (.lst ((acc ++ [linT d]).map .str)), .val (im d), slo y3, slo y4, slo y5, .no, .no] := by
  obtain ⟨ts, st, rfl, h1, h2, h3, h4, h5⟩ := p
  have hl := head_len R h1 h3
  have hr := rest_len R h5
  rw [im_tup, List.map_cons, im_tup]
  obtain ⟨W, dW⟩ : ∃ W : PV, W = .tup (.tup (ts.map im) :: st.map im) := ⟨_, rfl⟩
  have i0 : ixP W (.int 0) = .ok (.tup (ts.map im)) := by rw [dW]; exact ixP_tup (i := 0) rfl
  rw [← dW]
  obtain ⟨A, dA⟩ : ∃ A : PV, A = .lst (acc.map .str) := ⟨_, rfl⟩
  rw [← dA]
  have k := q_lcMY (e := [.val v0, .own A, .val W, slo x3, slo x4, slo x5, .no, .no]) (own := [6]) (it := seqItP (binP ixP (bvarP 2) (conP (.int 0)))) (g := gnmP 6) (elt := binP addP (binP addP (binP ixP (bvarP 6) (conP (.int 0))) (ifEP (valP (binP ixP (bvarP 6) (conP (.int 2)))) (conP (.str " is ")) (conP (.str " is not ")))) (binP ixP (bvarP 6) (conP (.int 1)))) (enc := im) (ys := ts) (fun s => .str (tstT s)) (q_seqT (q_bin (q_bvar rfl) q_con i0)) rfl (by omega) fun s hs => by
    obtain ⟨x, y, v, rfl, g1, g2⟩ := h3 s hs
    have w1 := (wd_left R g1).len
    have w2 := (wd_src R g2).len
    have w3 := len_is v
    refine ⟨[.val v0, .own A, .val W, slo x3, slo x4, slo x5, .val (.tup [.str x, .str y, .bl v]), .no], rfl, q_bin (q_bin (q_bin (q_bvar rfl) q_con (ixP_tup (i := 0) rfl)) (q_if (r := .ok (.str (if v then " is " else " is not "))) (q_val (bo := v) (q_bin (q_bvar rfl) q_con (ixP_tup (i := 2) rfl))) (fun z => by rw [z]; rfl) (fun z => by rw [z]; rfl)) (addP_str (by omega))) (q_bin (q_bvar rfl) q_con (ixP_tup (i := 1) rfl)) (addP_str (by rw [len_app]; omega))⟩
  rw [map_str tstT] at k
  obtain ⟨T, dT⟩ : ∃ T : PV, T = .lst ((ts.map tstT).map .str) := ⟨_, rfl⟩
  rw [← dT] at k
  have hh : ifEP (valP (binP neP (bvarP 3) (onP lstP (nilP)))) (bmP "str" joinP (conP (.str ", ")) (consP (bvarP 3) (nilP))) (conP (.str "otherwise")) [.val v0, .own A, .val W, .val T, slo x4, slo x5, .no, .no] = .ok (.str (headT ts)) := by
    refine q_if (q_val (q_bin (q_bvar rfl) (q_on q_nil rfl) (by rw [dT]; exact neP_lnil))) (fun z => ?_) fun z => ?_
    · have hne : ts.isEmpty = false := by cases ts with | nil => exact nomatch z | cons _ _ => rfl
      show bmP _ _ _ _ _ = PR.ok (PV.str (if ts.isEmpty then ("otherwise" : Str) else Txt.join ", " (ts.map tstT)))
      rw [hne]
      refine q_join (B := 24) q_con (q_cons (q_bvar (by rw [dT]; rfl)) q_nil) (fun z hz => ?_) ?_
      · obtain ⟨q, hq, rfl⟩ := List.mem_map.mp hz
        exact tst_len R (h3 q hq)
      · rw [List.length_map, len_cm]
        omega
    · cases ts with
      | nil => rfl
      | cons _ _ => exact nomatch z
  have k2 := q_lcMY (e := [.val v0, .own A, .val W, .val T, .val (.str (headT ts)), slo x5, .no, .no]) (own := [7]) (it := seqItP (slEP (bvarP 2) (someOP (conP (.int 1))) (noOP))) (g := gnmP 7) (elt := onP p_law_written (consP (varP 7) (nilP))) (enc := im) (ys := st) (fun s => .str (stpsT s)) (q_seqT (q_sl (q_bvar rfl) (q_someO q_con) q_noO (by rw [dW]; exact cut1 h4))) rfl (by omega) fun s hs => ⟨[.val v0, .own A, .val W, .val T, .val (.str (headT ts)), slo x5, .no, .val (im s)], rfl, q_on (q_cons (q_var rfl) q_nil) (law_writtenP R (h5 s hs))⟩
  rw [map_str stpsT] at k2
  obtain ⟨U, dU⟩ : ∃ U : PV, U = .lst ((st.map stpsT).map .str) := ⟨_, rfl⟩
  rw [← dU] at k2
  have kr : ifEP (valP (binP eqP (onP lenP (consP (bvarP 5) (nilP))) (conP (.int 1)))) (binP ixP (bvarP 5) (conP (.int 0))) (binP addP (binP addP (binP addP (conP (.str "ask ")) (binP ixP (bvarP 5) (conP (.int 0)))) (conP (.str " or "))) (binP ixP (bvarP 5) (conP (.int 1)))) [.val v0, .own A, .val W, .val T, .val (.str (headT ts)), .val U, .no, .no] = .ok (.str (restT st)) := by
    have lU : lenP [U] = .ok (.int (st.length : Nat)) := by rw [dU, lenP_lst, List.length_map, List.length_map]
    match st, h4, h5 with
    | [s], _, h5 =>
      exact q_ifT (q_val (q_bin (q_on (q_cons (q_bvar rfl) q_nil) lU) q_con rfl)) (q_bin (q_bvar rfl) q_con (by rw [dU]; exact ixP_lst (i := 0) rfl))
    | [s, u], _, h5 =>
      have s1 := stps_len R (h5 s (.head _))
      have s2 := stps_len R (h5 u (.tail _ (.head _)))
      exact q_ifF (q_val (q_bin (q_on (q_cons (q_bvar rfl) q_nil) lU) q_con rfl)) (q_bin (q_bin (q_bin q_con (q_bin (q_bvar rfl) q_con (by rw [dU]; exact ixP_lst (i := 0) rfl)) (addP_str (by rw [len_ask]; omega))) q_con (addP_str (by rw [len_app, len_ask, len_or]; omega))) (q_bin (q_bvar rfl) q_con (by rw [dU]; exact ixP_lst (i := 1) rfl)) (addP_str (by rw [len_app, len_app, len_ask, len_or]; omega)))
    | [], h4, _ => simp at h4
    | _ :: _ :: _ :: _, h4, _ => simp at h4
  refine ⟨some T, some (.str (headT ts)), some U, ?_⟩
  unfold wline
  refine r_seq (e1 := [.val v0, .own A, .val W, .val T, slo x4, slo x5, .no, .no]) (r_setV k rfl) (r_seq (e1 := [.val v0, .own A, .val W, .val T, .val (.str (headT ts)), slo x5, .no, .no]) (r_setV hh rfl) (r_seq (e1 := [.val v0, .own A, .val W, .val T, .val (.str (headT ts)), .val U, .no, .no]) (r_setV k2 rfl) ?_))
  refine r_app (l := acc.map .str) (v := .str (headT ts ++ (": " : Str) ++ restT st)) (q_bin (q_bin (q_bvar rfl) q_con (addP_str (by rw [len_col]; omega))) kr (addP_str (by rw [len_app, len_col]; omega))) (by rw [dA]; rfl) (by rw [List.length_map]; omega) ?_
  rw [List.map_append]
  rfl
theorem wloop (R : RegsOk l) {v0 : PV} : ∀ {ds : List D} {acc : List Str} {x2 x3 x4 x5 : Option PV}, (∀ d ∈ ds, LineD l b d) → acc.length + ds.length ≤ 20 →
    ∃ y2 y3 y4 y5, loopP (gnmP 2) wline (ds.map im) [.val v0, .own (.lst (acc.map .str)), slo x2, slo x3, slo x4, slo x5, .no, .no] = .nx [.val v0, .own (.lst ((acc ++ ds.map linT).map .str)), slo y2, slo y3, slo y4, slo y5, .no, .no]
  | [], acc, x2, x3, x4, x5, _, _ => ⟨x2, x3, x4, x5, by rw [List.map_nil, List.map_nil, List.append_nil]; exact lp_nil⟩
  | d :: ds, acc, x2, x3, x4, x5, h, hn => by
    rw [List.length_cons] at hn
    obtain ⟨y3, y4, y5, k⟩ := wline_ok R (h d (.head _)) (v0 := v0) (acc := acc) (x3 := x3) (x4 := x4) (x5 := x5) (by omega)
    obtain ⟨z2, z3, z4, z5, k2⟩ := wloop R (v0 := v0) (ds := ds) (acc := acc ++ [linT d]) (x2 := some (im d)) (x3 := y3) (x4 := y4) (x5 := y5) (fun x hx => h x (.tail _ hx)) (by rw [List.length_append, List.length_cons, List.length_nil]; omega)
    refine ⟨z2, z3, z4, z5, lp_cons (e1 := [.val v0, .own (.lst (acc.map .str)), .val (im d), slo x3, slo x4, slo x5, .no, .no]) (by cases x2 <;> rfl) k ?_⟩
    rw [show (acc ++ (d :: ds).map linT) = (acc ++ [linT d]) ++ ds.map linT from by rw [List.map_cons, List.append_assoc]; rfl]
    exact k2
theorem law_linesP (R : RegsOk l) (L : LinesD l ls) : p_law_lines [planV l ls] = .ok (.lst ((rowsT l ls).map .str)) := by
  obtain ⟨v0, dv⟩ : ∃ v0 : PV, v0 = planV l ls := ⟨_, rfl⟩
  have i0 : ixP v0 (.int 0) = .ok (.tup (l.map .str)) := by rw [dv]; exact ixP_tup (i := 0) rfl
  have i1 : ixP v0 (.int 1) = .ok (.tup (ls.map im)) := by rw [dv]; exact ixP_tup (i := 1) rfl
  obtain ⟨y2, y3, y4, y5, k⟩ := wloop R (v0 := v0) (ds := ls) (acc := [regT l]) (x2 := none) (x3 := none) (x4 := none) (x5 := none) L.2.2.1 (by have := L.2.1; rw [List.length_cons, List.length_nil]; omega)
  have l3 := R.1
  rw [← dv]
  unfold p_law_lines
  refine f_rt rfl ?_
  unfold pb_law_lines
  refine r_seq (e1 := [.val v0, .own (.lst ([regT l].map .str)), .no, .no, .no, .no, .no, .no]) (r_setO (q_on (q_cons (x := .str (regT l)) ?_ q_nil) rfl) rfl) (r_seq (r_for (q_seqT (q_bin (q_bvar rfl) q_con i1)) k) (r_frz (e1 := [.val v0, .val (.lst (([regT l] ++ ls.map linT).map .str)), slo y2, slo y3, slo y4, slo y5, .no, .no]) rfl (r_ret (q_var rfl))))
  refine q_join (ss := ("registers" : Str) :: l) (B := 9) q_con (q_cons (q_bin (q_on (q_cons q_con q_nil) rfl) (q_on (q_cons (q_bin (q_bvar rfl) q_con i0) q_nil) ?_) (addP_lst (l := [.str "registers"]) (m := l.map .str) (by rw [List.length_map, List.length_cons, List.length_nil]; omega))) q_nil) (fun z hz => ?_) ?_
  · rfl
  · rcases List.mem_cons.mp hz with e | e
    · rw [e]; decide +kernel
    · exact Nat.le_trans (wd_good (R.2.2 z e)).len (by decide)
  · rw [List.length_cons, show (" " : Str).length = 1 from by decide +kernel]
    omega
theorem law_ruleP (g : RegsOk l) (L : LinesD l ls) : p_law_rule [planV l ls] = .ok (ruleV l ls) := by
  unfold p_law_rule
  refine f_rt rfl ?_
  unfold pb_law_rule
  exact r_ret (q_on (q_cons (x := .lst (l.map .str)) (q_on (q_cons (q_bin (y := .int 0) (q_bvar (v := planV l ls) rfl) q_con (r := .ok (.tup (l.map .str))) rfl) q_nil) rfl) (q_cons (x := .lst (ls.map im)) (q_on (q_cons (q_bin (y := .int 1) (q_bvar (v := planV l ls) rfl) q_con (r := .ok (.tup (ls.map im))) rfl) q_nil) rfl) q_nil)) (ruleP g L (.inr rfl) (.inr rfl)))
end
end ML
namespace ML
open PySem PySem.Spec PyProof.Rows L2 TL
section
variable {l : List Str} {ls : List D} {d s u : D} {b : Bool} {ts st : List D}
theorem non_tup {xs : List PV} (h : ∀ x ∈ xs, ∃ u, x = .tup u) : anyFP (fun z => eqvP deep z .non) xs = some false := by
  induction xs with
  | nil => rfl
  | cons x xs ih =>
    obtain ⟨u, rfl⟩ := h x (.head _)
    unfold anyFP
    rw [ih fun y hy => h y (.tail _ hy)]
    rfl
theorem in_nonT {xs : List PV} (h : ∀ x ∈ xs, ∃ u, x = .tup u) : inP .non (.tup xs) = .ok (.bl false) := by
  have k : inTP .non (.tup xs) = some false := non_tup h
  unfold inP
  rw [k]
theorem in_nonL {xs : List PV} (h : ∀ x ∈ xs, ∃ u, x = .tup u) : inP .non (.lst xs) = .ok (.bl false) := by
  have k : inTP .non (.lst xs) = some false := non_tup h
  unfold inP
  rw [k]
theorem len_sp : ((" " : Str).length == 0) = false := by decide +kernel
theorem len_nl0 : (("\n" : Str).length == 0) = false := by decide +kernel
theorem len_cm0 : ((", " : Str).length == 0) = false := by decide +kernel
theorem len_col0 : ((": " : Str).length == 0) = false := by decide +kernel
theorem len_or0 : ((" or " : Str).length == 0) = false := by decide +kernel
theorem read_testP (R : RegsOk l) (p : TestD l d) : p_read_test [.str (tstT d)] = .ok (im d) := by
  have hl := tst_len R p
  obtain ⟨x, y, v, rfl, h1, h2⟩ := p
  have e1 := split_test (wd_left R h1) (wd_src R h2) v
  obtain ⟨z, dz⟩ : ∃ z, z = tstT (.tup [.str x, .str y, .bl v]) := ⟨_, rfl⟩
  have e2 : Txt.split z " " = if v then [x, "is", y] else [x, "is", "not", y] := by rw [dz]; exact e1
  rw [← dz] at hl ⊢
  unfold p_read_test
  refine f_rt rfl ?_
  unfold pb_read_test
  refine r_seq (e1 := [.val (.str z), .val (.lst ((Txt.split z " ").map .str))]) (r_setV (q_bms (q_bvar rfl) (q_cons q_con q_nil) (splitP_ok len_sp (by omega))) rfl) ?_
  rw [e2]
  cases v with
  | true => exact r_seqR (r_ifT (q_andT (q_val (q_bin (q_on (q_cons (q_bvar rfl) q_nil) rfl) q_con rfl)) (q_val (q_bin (q_bin (q_bvar rfl) q_con (ixP_lst (i := 1) rfl)) q_con (eqP_str.trans rfl)))) (r_ret (q_on (q_cons (q_bin (q_bvar rfl) q_con (ixP_lst (i := 0) rfl)) (q_cons (q_bin (q_bvar rfl) q_con (ixP_lst (i := 2) rfl)) (q_cons q_con q_nil))) rfl)))
  | false => exact r_seq (r_ifF (q_andF (q_val (q_bin (q_on (q_cons (q_bvar rfl) q_nil) rfl) q_con rfl))) r_pass) (r_ret (q_ifT (q_andT (q_val (q_bin (q_on (q_cons (q_bvar rfl) q_nil) rfl) q_con rfl)) (q_val (q_bin (q_sl (q_bvar rfl) (q_someO q_con) (q_someO q_con) rfl) (q_on (q_cons q_con (q_cons q_con q_nil)) rfl) rfl))) (q_on (q_cons (q_bin (q_bvar rfl) q_con (ixP_lst (i := 0) rfl)) (q_cons (q_bin (q_bvar rfl) q_con (ixP_lst (i := 3) rfl)) (q_cons q_con q_nil))) rfl)))
theorem read_stepP (R : RegsOk l) (p : StepD l d) : p_read_step [.str (stpT d)] = .ok (im d) := by
  have hl := stp_len R p
  obtain ⟨x, y, rfl, h1, h2⟩ := p
  have e1 := split_step (wd_tgt R h1) (wd_src R h2)
  obtain ⟨z, dz⟩ : ∃ z, z = stpT (.tup [.str x, .str y]) := ⟨_, rfl⟩
  have e2 : Txt.split z " " = [x, "from", y] := by rw [dz]; exact e1
  rw [← dz] at hl ⊢
  unfold p_read_step
  refine f_rt rfl ?_
  unfold pb_read_step
  refine r_seq (e1 := [.val (.str z), .val (.lst ((Txt.split z " ").map .str))]) (r_setV (q_bms (q_bvar rfl) (q_cons q_con q_nil) (splitP_ok len_sp (by omega))) rfl) ?_
  rw [e2]
  exact r_ret (q_ifT (q_andT (q_val (q_bin (q_on (q_cons (q_bvar rfl) q_nil) rfl) q_con rfl)) (q_val (q_bin (q_bin (q_bvar rfl) q_con (ixP_lst (i := 1) rfl)) q_con (eqP_str.trans rfl)))) (q_on (q_cons (q_bin (q_bvar rfl) q_con (ixP_lst (i := 0) rfl)) (q_cons (q_bin (q_bvar rfl) q_con (ixP_lst (i := 2) rfl)) q_nil)) rfl))
abbrev rtab : List (Str × PFM) := [("read_test", p_read_test), ("read_step", p_read_step)]
theorem read_partsP {x g : Str} {pf : PFM} (hg : rtab.lookup g = some pf) {xs : List D} {f : D → Str} (hx : Txt.split x ", " = xs.map f) (hl : x.length ≤ 1000000) (hn : xs.length ≤ 10) (h : ∀ d ∈ xs, pf [.str (f d)] = .ok (im d) ∧ ∃ u, im d = .tup u) : p_read_parts [.str x, .glb g] = .ok (.tup (xs.map im)) := by
  have sp : bmP "str" splitP (bvarP 0) (consP (conP (.str ", ")) (nilP)) [.val (.str x), .val (.glb g), .no, .no] = .ok (.lst (xs.map fun d => .str (f d))) := by
    rw [map_str f, ← hx]
    exact q_bms (q_bvar rfl) (q_cons q_con q_nil) (splitP_ok len_cm0 hl)
  have k := q_lcMY (e := [.val (.str x), .val (.glb g), .no, .no]) (own := [3]) (it := seqItP (bmP "str" splitP (bvarP 0) (consP (conP (.str ", ")) (nilP)))) (g := gnmP 3) (elt := callVP rtab 1 (consP (varP 3) (nilP))) (enc := fun d => .str (f d)) (ys := xs) (fun d => im d) (q_seqL sp) rfl (by omega) fun d hd => by
    refine ⟨[.val (.str x), .val (.glb g), .no, .val (.str (f d))], rfl, ?_⟩
    unfold callVP
    show (match rtab.lookup g with | some m => _ | none => _) = _
    rw [hg]
    dsimp only
    rw [q_cons (q_var rfl) q_nil, PR.bind_ok]
    exact (h d hd).1
  unfold p_read_parts
  refine f_rt rfl ?_
  unfold pb_read_parts
  refine r_seq (e1 := [.val (.str x), .val (.glb g), .val (.tup (xs.map im)), .no]) (r_setV (q_on (q_cons k q_nil) rfl) rfl) (r_ret (q_ifF (q_val (q_bin q_con (q_bvar rfl) (in_nonT fun y hy => ?_))) (q_var rfl)))
  obtain ⟨d, hd, rfl⟩ := List.mem_map.mp hy
  exact (h d hd).2
theorem read_stepsP (R : RegsOk l) (p : StepsD l d) : p_read_steps [.str (stpsT d)] = .ok (im d) := by
  have hl := stps_len R p
  obtain ⟨ss, rfl, h4, h⟩ := p
  unfold p_read_steps
  refine f_rt rfl ?_
  unfold pb_read_steps
  cases ss with
  | nil => exact r_ret (q_ifT (q_val (q_bin (q_bvar rfl) q_con (eqP_str.trans (by rfl)))) (q_on q_nil rfl))
  | cons s0 sr =>
    have hs : Txt.split (stpsT (.tup (s0 :: sr))) ", " = (s0 :: sr).map stpT := split_parts (by simp) fun x hx => sg_stp R (h x hx)
    refine r_ret (q_ifF (q_val (q_bin (q_bvar rfl) q_con (eqP_str.trans (by rw [decide_eq_false (steps_ne R (h s0 (.head _)))])))) (q_on (q_cons (q_var rfl) (q_cons q_con q_nil)) ?_))
    rw [im_tup]
    refine read_partsP (g := "read_step") rfl hs (by omega) (by omega) fun d hd => ⟨read_stepP R (h d hd), ?_⟩
    obtain ⟨x, y, rfl, _⟩ := h d hd
    exact ⟨_, rfl⟩
theorem read_headP (R : RegsOk l) (h1 : ts.length ≤ 4) (h3 : ∀ t ∈ ts, TestD l t) {E : PEnv} (e5 : E[5]? = some (.val (.str (headT ts)))) : ifEP (valP (binP eqP (bvarP 5) (conP (.str "otherwise")))) (onP tupP (nilP)) (onP p_read_parts (consP (varP 5) (consP (conP (.glb "read_test")) (nilP)))) E = .ok (.tup (ts.map im)) := by
  have hl := head_len R h1 h3
  cases ts with
  | nil => exact q_ifT (q_val (q_bin (q_bvar e5) q_con (eqP_str.trans (by rfl)))) (q_on q_nil rfl)
  | cons s0 sr =>
    have hs : Txt.split (headT (s0 :: sr)) ", " = (s0 :: sr).map tstT := split_parts (by simp) fun x hx => sg_tst R (h3 x hx)
    refine q_ifF (q_val (q_bin (q_bvar e5) q_con (eqP_str.trans (by rw [decide_eq_false (head_ne R (by simp) h3)])))) (q_on (q_cons (q_var e5) (q_cons q_con q_nil)) ?_)
    refine read_partsP (g := "read_test") rfl hs (by omega) (by omega) fun d hd => ⟨read_testP R (h3 d hd), ?_⟩
    obtain ⟨x, y, v, rfl, _⟩ := h3 d hd
    exact ⟨_, rfl⟩
theorem st_two (h : st.length = 1 ∨ st.length = 2) : (∃ s, st = [s]) ∨ ∃ s u, st = [s, u] := by
  match st, h with
  | [s], _ => exact .inl ⟨s, rfl⟩
  | [s, u], _ => exact .inr ⟨s, u, rfl⟩
  | [], h => simp at h
  | _ :: _ :: _ :: _, h => simp at h
theorem read_lineP (R : RegsOk l) (p : LineD l b d) : p_read_line [.str (linT d)] = .ok (im d) := by
  have hlen := lin_len R p
  obtain ⟨ts, st, rfl, h1, h2, h3, h4, h5⟩ := p
  have hr := rest_len R h5
  have hp := part_lin R (st := st) h3
  rw [im_tup, List.map_cons, im_tup]
  obtain ⟨z, dz⟩ : ∃ z, z = linT (.tup (.tup ts :: st)) := ⟨_, rfl⟩
  rw [← dz] at hlen hp ⊢
  obtain ⟨H, dH⟩ : ∃ H : PV, H = .str (headT ts) := ⟨_, rfl⟩
  obtain ⟨T, dT⟩ : ∃ T : PV, T = .tup (ts.map im) := ⟨_, rfl⟩
  obtain ⟨Q, dQ⟩ : ∃ Q : PV, Q = .str (restT st) := ⟨_, rfl⟩
  obtain ⟨S, dS⟩ : ∃ S : PV, S = .lst ((st.map stpsT).map .str) := ⟨_, rfl⟩
  obtain ⟨U, dU⟩ : ∃ U : PV, U = .lst (st.map im) := ⟨_, rfl⟩
  have kp : bmP "str" partP (bvarP 0) (consP (conP (.str ": ")) (nilP)) [.val (.str z), .no, .no, .no, .no, .no, .no, .no, .no] = .ok (.tup [H, .str ": ", Q]) := by
    refine q_bms (q_bvar rfl) (q_cons q_con q_nil) ((partP_ok len_col0 (by omega)).trans ?_)
    rw [hp, dH, dQ]
  have k1 : ifEP (valP (binP eqP (bvarP 5) (conP (.str "otherwise")))) (onP tupP (nilP)) (onP p_read_parts (consP (varP 5) (consP (conP (.glb "read_test")) (nilP)))) [.val (.str z), .no, .no, .no, .no, .val H, .val (.str ": "), .val Q, .no] = .ok T := by
    rw [dT, dH]
    exact read_headP R h1 h3 rfl
  have st1 : ∀ {E : PEnv}, E[7]? = some (.val Q) → bmP "str" startsP (bvarP 7) (consP (conP (.str "ask ")) (nilP)) E = .ok (.bl (decide (st.length = 2))) := by
    intro E hE
    rw [dQ] at hE
    refine q_bms (q_bvar hE) (q_cons q_con q_nil) ?_
    show PR.ok (PV.bl (Txt.startswith (restT st) "ask ")) = _
    match st, h4, h5 with
    | [s], _, h5 =>
      show PR.ok (PV.bl (Txt.startswith (stpsT s) "ask ")) = _
      rw [starts_no R (h5 s (.head _))]
      rfl
    | [s, u], _, h5 =>
      show PR.ok (PV.bl (Txt.startswith (("ask " : Str) ++ stpsT s ++ (" or " : Str) ++ stpsT u) "ask ")) = _
      rw [app_assoc, app_assoc, starts_yes]
      rfl
    | [], h4, _ => simp at h4
    | _ :: _ :: _ :: _, h4, _ => simp at h4
  have k2 : ifEP (valP (bmP "str" startsP (bvarP 7) (consP (conP (.str "ask ")) (nilP)))) (bmP "str" splitP (slEP (bvarP 7) (someOP (conP (.int 4))) (noOP)) (consP (conP (.str " or ")) (nilP))) (onP lstP (consP (varP 7) (nilP))) [.val (.str z), .val T, .no, .no, .no, .val H, .val (.str ": "), .val Q, .no] = .ok S := by
    refine q_if (q_val (st1 rfl)) (fun y => ?_) fun y => ?_
    · rcases st_two h4 with ⟨s, rfl⟩ | ⟨s, u, rfl⟩
      · exact nomatch y
      · have es : restT [s, u] = ("ask " : Str) ++ (stpsT s ++ (" or " : Str) ++ stpsT u) := by
          show ("ask " : Str) ++ stpsT s ++ (" or " : Str) ++ stpsT u = _
          rw [app_assoc, app_assoc, app_assoc]
        have hl2 : (stpsT s ++ (" or " : Str) ++ stpsT u).length ≤ 1000000 := by
          rw [es, len_app] at hr
          omega
        refine q_bms (a := stpsT s ++ (" or " : Str) ++ stpsT u) (q_sl (x := Q) (q_bvar rfl) (q_someO q_con) q_noO ?_) (q_cons q_con q_nil) ((splitP_ok len_or0 hl2).trans ?_)
        · rw [dQ]
          unfold slP
          dsimp only
          rw [if_pos (by omega), es, cut_ask]
        · rw [split_or R (h5 s (.head _)) (h5 u (.tail _ (.head _))), dS]
          rfl
    · rcases st_two h4 with ⟨s, rfl⟩ | ⟨s, u, rfl⟩
      · refine q_on (q_cons (x := Q) (q_var rfl) q_nil) ?_
        rw [dQ, dS]
        rfl
      · exact nomatch y
  have k3 : lcP [8] (seqItP (varP 2)) (gnmP 8) (yesP) (onP p_read_steps (consP (varP 8) (nilP))) [.val (.str z), .val T, .val S, .no, .no, .val H, .val (.str ": "), .val Q, .no] = .ok U := by
    rw [dU]
    exact q_lcMY (enc := fun s => .str (stpsT s)) (ys := st) (fun s => im s) (q_seqL (q_var (by rw [dS, ← map_str stpsT]; rfl))) rfl (by omega) fun s hs => ⟨[.val (.str z), .val T, .val S, .no, .no, .val H, .val (.str ": "), .val Q, .val (.str (stpsT s))], rfl, q_on (q_cons (q_var rfl) q_nil) (read_stepsP R (h5 s hs))⟩
  have k4 : ifEP (valP (bmP "str" startsP (bvarP 7) (consP (conP (.str "ask ")) (nilP)))) (binP eqP (onP lenP (consP (bvarP 2) (nilP))) (conP (.int 2))) (conP (.bl true)) [.val (.str z), .val T, .val S, .val U, .no, .val H, .val (.str ": "), .val Q, .no] = .ok (.bl true) := by
    refine q_if (q_val (st1 rfl)) (fun y => ?_) fun y => q_con
    have y := of_decide_eq_true y
    refine q_bin (q_on (q_cons (q_bvar rfl) q_nil) (r := .ok (.int (st.length : Nat))) ?_) q_con ?_
    · rw [dS, lenP_lst, List.length_map, List.length_map]
    · rw [y]
      rfl
  have kt : orTP (valP (binP eqP (bvarP 6) (conP (.str "")))) (orTP (valP (binP isNP (bvarP 1) (conP .non))) (orTP (valP (binP inP (conP .non) (bvarP 3))) (notTP (valP (varP 4))))) [.val (.str z), .val T, .val S, .val U, .val (.bl true), .val H, .val (.str ": "), .val Q, .no] = .ok false := by
    refine q_orF (q_val (q_bin (q_bvar rfl) q_con (eqP_str.trans rfl))) (q_orF (q_val (q_bin (q_bvar rfl) q_con (by rw [dT]; rfl))) (q_orF (q_val (q_bin q_con (q_bvar rfl) ?_)) (q_not (bo := true) (q_val (q_var rfl)))))
    rw [dU]
    refine in_nonL fun y hy => ?_
    obtain ⟨s, hs, rfl⟩ := List.mem_map.mp hy
    obtain ⟨ss, rfl, _⟩ := h5 s hs
    exact ⟨_, im_tup⟩
  unfold p_read_line
  refine f_rt rfl ?_
  unfold pb_read_line
  refine r_seq (e1 := [.val (.str z), .no, .no, .no, .no, .val H, .val (.str ": "), .val Q, .no]) (r_asg kp rfl) (r_seq (e1 := [.val (.str z), .val T, .no, .no, .no, .val H, .val (.str ": "), .val Q, .no]) (r_setV k1 rfl) (r_seq (e1 := [.val (.str z), .val T, .val S, .no, .no, .val H, .val (.str ": "), .val Q, .no]) (r_setV k2 rfl) (r_seq (e1 := [.val (.str z), .val T, .val S, .val U, .no, .val H, .val (.str ": "), .val Q, .no]) (r_setV k3 rfl) (r_seq (e1 := [.val (.str z), .val T, .val S, .val U, .val (.bl true), .val H, .val (.str ": "), .val Q, .no]) (r_setV k4 rfl) (r_seq (r_ifF kt r_pass) (r_ret (q_on (q_cons (q_var rfl) (q_star (l := st.map im) (q_bvar rfl) (by rw [dU]; rfl) q_nil)) ?_)))))))
  rw [List.append_nil, dT]
  exact tupP_le (by rw [List.length_cons, List.length_map]; rcases h4 with h | h <;> omega)
end
end ML
namespace ML
open PySem PySem.Spec PyProof.Rows L2 TL
def neX_lawP : PV → PV → PR PV := eqIP true "Rule" ["Rule"] p_Rule_eq neP
theorem op_neX_lawP : Op2 neX_law neX_lawP := opP_eqI fk_Rule_eq op_neP
/-- values of texts, numbers and tuples of them -/
def tame : Nat → PV → Prop
  | 0, v => isScalP v = true
  | n + 1, v => isScalP v = true ∨ ∃ l, v = .tup l ∧ ∀ x ∈ l, tame n x
theorem eqZ_some {f : PV → PV → Option Bool} : ∀ {l : List PV}, (∀ x ∈ l, f x x = some true) → eqZP f l l = some true
  | [], _ => rfl
  | x :: l, h => by
    unfold eqZP
    rw [h x (.head _), eqZ_some fun y hy => h y (.tail _ hy)]
    rfl
theorem eqv_tame : ∀ (n : Nat) (v : PV) (m : Nat), tame n v → n < m → eqvP m v v = some true := by
  have sc : ∀ (v : PV) (m : Nat), isScalP v = true → eqvP (m + 1) v v = some true := fun v m h => by
    have k : ∃ b, eqvP (m + 1) v v = some b := by
      unfold eqvP eqTopP
      rw [h]
      exact ⟨_, rfl⟩
    obtain ⟨b, k⟩ := k
    rw [k, eqvP_self _ _ _ k]
  intro n
  induction n with
  | zero =>
    intro v m h hm
    cases m with
    | zero => omega
    | succ m => exact sc v m h
  | succ n ih =>
    intro v m h hm
    cases m with
    | zero => omega
    | succ m =>
      rcases h with h | ⟨l, rfl, h⟩
      · exact sc v m h
      · have k : ∃ b, eqvP (m + 1) (.tup l) (.tup l) = some b := by
          unfold eqvP eqTopP isScalP seqOfP
          dsimp only
          rw [if_pos rfl]
          unfold eqSeqP
          rw [if_neg (fun z => z.2 rfl), eqZ_some fun x hx => ih x m (h x hx) (by omega)]
          exact ⟨_, rfl⟩
        obtain ⟨b, k⟩ := k
        rw [k, eqvP_self _ _ _ k]
theorem eqP_tame {v : PV} (h : tame 8 v) : eqP v v = .ok (.bl true) := by
  have k : eqTP v v = eqvP (deep + 1) v v := rfl
  unfold eqP
  rw [k, eqv_tame 8 v (deep + 1) h (by decide)]
theorem tame_le : ∀ (n m : Nat) (v : PV), tame n v → n ≤ m → tame m v := by
  intro n
  induction n with
  | zero =>
    intro m v h _
    cases m with
    | zero => exact h
    | succ m => exact .inl h
  | succ n ih =>
    intro m v h hm
    cases m with
    | zero => omega
    | succ m =>
      rcases h with h | ⟨l, rfl, h⟩
      · exact .inl h
      · exact .inr ⟨l, rfl, fun x hx => ih m x (h x hx) (by omega)⟩
theorem tame_tup {n : Nat} {l : List PV} (h : ∀ x ∈ l, tame n x) : tame (n + 1) (.tup l) := .inr ⟨l, rfl, h⟩
section
variable {l : List Str} {ls : List D} {d s u : D} {b : Bool} {ts st : List D}
theorem tame_line (p : LineD l b d) : tame 3 (im d) := by
  obtain ⟨ts, st, rfl, _, _, h3, _, h5⟩ := p
  rw [im_tup]
  refine tame_tup fun x hx => ?_
  rw [List.map_cons] at hx
  rcases List.mem_cons.mp hx with e | hx
  · rw [e, im_tup]
    refine tame_tup fun y hy => ?_
    obtain ⟨t, ht, rfl⟩ := List.mem_map.mp hy
    obtain ⟨a, c, v, rfl, _⟩ := h3 t ht
    rw [im_tup]
    refine tame_tup fun z hz => ?_
    simp only [List.map_cons, List.map_nil, List.mem_cons, List.not_mem_nil, or_false] at hz
    rcases hz with e | e | e <;> rw [e] <;> rfl
  · obtain ⟨s, hs, rfl⟩ := List.mem_map.mp hx
    obtain ⟨ss, rfl, _, h⟩ := h5 s hs
    rw [im_tup]
    refine tame_tup fun y hy => ?_
    obtain ⟨t, ht, rfl⟩ := List.mem_map.mp hy
    obtain ⟨a, c, rfl, _⟩ := h t ht
    rw [im_tup]
    refine tame_tup fun z hz => ?_
    simp only [List.map_cons, List.map_nil, List.mem_cons, List.not_mem_nil, or_false] at hz
    rcases hz with e | e <;> rw [e] <;> rfl
theorem rule_eqP (L : LinesD l ls) : p_Rule_eq [ruleV l ls, ruleV l ls] = .ok (.bl true) := by
  have e1 : eqP (.tup (l.map PV.str)) (.tup (l.map PV.str)) = .ok (.bl true) := eqP_tame (tame_le 1 8 _ (tame_tup fun x hx => by obtain ⟨z, _, rfl⟩ := List.mem_map.mp hx; rfl) (by decide))
  have e2 : eqP (.tup (ls.map im)) (.tup (ls.map im)) = .ok (.bl true) := eqP_tame (tame_le 4 8 _ (tame_tup fun x hx => by obtain ⟨z, hz, rfl⟩ := List.mem_map.mp hx; exact tame_line (L.2.2.1 z hz)) (by decide))
  unfold p_Rule_eq
  refine f_rt rfl ?_
  unfold pb_Rule_eq
  exact r_ret (q_andE (bo := true) (q_un (q_bvar rfl) rfl) fun _ => q_andE (bo := true) (b2 := true) (q_bin (q_un (q_bvar rfl) rfl) (q_un (q_bvar rfl) rfl) e1) fun _ => q_bin (q_un (q_bvar rfl) rfl) (q_un (q_bvar rfl) rfl) e2)
theorem neX_same (L : LinesD l ls) : neX_lawP (ruleV l ls) (ruleV l ls) = .ok (.bl false) := by
  unfold neX_lawP eqIP ruleV
  dsimp only
  rw [if_pos ⟨rfl, rfl⟩]
  have := rule_eqP L
  unfold ruleV at this
  rw [this]
  rfl
theorem neX_str {x : Str} : neX_lawP (.str x) (.str x) = .ok (.bl false) := by
  show neP (.str x) (.str x) = _
  rw [neP_str, decide_eq_true rfl]
  rfl
abbrev nilLine : D := .tup [.tup [], .tup []]
theorem nil_line : LineD l b nilLine := ⟨[], [.tup []], rfl, by decide, fun _ => rfl, (fun t h => (nomatch h)), .inl rfl, fun s hs => by
  simp only [List.mem_cons, List.not_mem_nil, or_false] at hs
  exact ⟨[], hs, by decide, fun s h => (nomatch h)⟩⟩
theorem nil_lines : LinesD l [nilLine] := ⟨by decide, by decide, fun d hd => by
  simp only [List.mem_cons, List.not_mem_nil, or_false] at hd
  rw [hd]
  exact nil_line, fun d hd => by
  cases hd
  exact nil_line⟩
theorem rule_of0 (R : RegsOk l) : p_rule_of [.lst (l.map .str), .lst []] = .ok (ruleV l [nilLine]) := by
  unfold p_rule_of
  refine f_rt rfl ?_
  unfold pb_rule_of
  refine r_seq (e1 := [.val (.lst (l.map .str)), .val (.lst []), .val (.lst [.tup [.tup [], .tup []]])]) (r_setV (q_ifF (q_andF (q_val (q_bin (q_bvar rfl) (q_on q_nil rfl) neP_lnil))) (q_on (q_cons (q_on (q_cons (q_on q_nil rfl) (q_cons (q_on q_nil rfl) q_nil)) rfl) q_nil) rfl)) rfl) ?_
  have k : retP (onP p_Rule (consP (varP 0) (consP (slEP (onP lstP (starP (bvarP 1) (starP (bvarP 2) (nilP)))) (noOP) (someOP (binP addP (conP (.int 8)) (conP (.int 1))))) (nilP)))) [.val (.lst (l.map .str)), .val (.lst []), .val (.lst [.tup [.tup [], .tup []]])] = .rt (ruleV l [nilLine]) := by
    exact r_ret (q_on (q_cons (q_var rfl) (q_cons (q_sl (q_on (q_star (q_bvar rfl) rfl (q_star (q_bvar rfl) rfl q_nil)) rfl) q_noO (q_someO (i := 9) (q_bin q_con q_con rfl)) rfl) q_nil)) (ruleP R nil_lines (.inr rfl) (.inr rfl)))
  unfold tryNP
  rw [k]
theorem rule_of1 (R : RegsOk l) (p : LineD l false d) : ∃ v, p_rule_of [.lst (l.map .str), .lst [im d]] = .ok v ∧ isNonP v = false := by
  have p0 := p
  obtain ⟨ts, st, rfl, h1, h2, h3, h4, h5⟩ := p
  obtain ⟨W, dW⟩ : ∃ W : PV, W = im (.tup (.tup ts :: st)) := ⟨_, rfl⟩
  have dW2 : W = .tup (.tup (ts.map im) :: st.map im) := by rw [dW, im_tup, List.map_cons, im_tup]
  have tt : andTP (valP (binP neP (bvarP 1) (onP lstP (nilP)))) (valP (binP eqP (binP ixP (binP ixP (bvarP 1) (unP negP (conP (.int 1)))) (conP (.int 0))) (onP tupP (nilP)))) [.val (.lst (l.map .str)), .val (.lst [W]), .no] = .ok (ts.map im).isEmpty := by
    refine q_andT (q_val (q_bin (q_bvar rfl) (q_on q_nil rfl) neP_lnil)) (q_val (q_bin (q_bin (x := W) (q_bin (q_bvar rfl) (q_un q_con rfl) rfl) q_con (r := .ok (.tup (ts.map im))) ?_) (q_on q_nil rfl) eqP_tnil))
    rw [dW2]
    exact ixP_tup (i := 0) rfl
  rw [← dW]
  cases c : ts with
  | nil =>
    have L1 : LinesD l [.tup (.tup ts :: st)] := ⟨by simp, by simp, fun d hd => by
      simp only [List.mem_cons, List.not_mem_nil, or_false] at hd
      rw [hd]
      exact p0, fun d hd => by
      cases hd
      exact ⟨ts, st, rfl, h1, fun _ => c, h3, h4, h5⟩⟩
    refine ⟨ruleV l [.tup (.tup ts :: st)], ?_, rfl⟩
    unfold p_rule_of
    refine f_rt rfl ?_
    unfold pb_rule_of
    refine r_seq (e1 := [.val (.lst (l.map .str)), .val (.lst [W]), .val (.lst [])]) (r_setV (q_ifT (tt.trans (by rw [c]; rfl)) (q_on q_nil rfl)) rfl) ?_
    have k : retP (onP p_Rule (consP (varP 0) (consP (slEP (onP lstP (starP (bvarP 1) (starP (bvarP 2) (nilP)))) (noOP) (someOP (binP addP (conP (.int 8)) (conP (.int 1))))) (nilP)))) [.val (.lst (l.map .str)), .val (.lst [W]), .val (.lst [])] = .rt (ruleV l [.tup (.tup ts :: st)]) := by
      exact r_ret (q_on (q_cons (q_var rfl) (q_cons (q_sl (q_on (q_star (q_bvar rfl) rfl (q_star (q_bvar rfl) rfl q_nil)) rfl) q_noO (q_someO (i := 9) (q_bin q_con q_con rfl)) rfl) q_nil)) (ruleP R L1 (.inr rfl) (.inr (by rw [dW]; rfl))))
    unfold tryNP
    rw [k]
  | cons t0 tr =>
    have L1 : LinesD l [.tup (.tup ts :: st), nilLine] := ⟨by simp, by simp, fun d hd => by
      simp only [List.mem_cons, List.not_mem_nil, or_false] at hd
      rcases hd with hd | hd <;> rw [hd]
      · exact p0
      · exact nil_line, fun d hd => by
      cases hd
      exact nil_line⟩
    refine ⟨ruleV l [.tup (.tup ts :: st), nilLine], ?_, rfl⟩
    unfold p_rule_of
    refine f_rt rfl ?_
    unfold pb_rule_of
    refine r_seq (e1 := [.val (.lst (l.map .str)), .val (.lst [W]), .val (.lst [.tup [.tup [], .tup []]])]) (r_setV (q_ifF (tt.trans (by rw [c]; rfl)) (q_on (q_cons (q_on (q_cons (q_on q_nil rfl) (q_cons (q_on q_nil rfl) q_nil)) rfl) q_nil) rfl)) rfl) ?_
    have k : retP (onP p_Rule (consP (varP 0) (consP (slEP (onP lstP (starP (bvarP 1) (starP (bvarP 2) (nilP)))) (noOP) (someOP (binP addP (conP (.int 8)) (conP (.int 1))))) (nilP)))) [.val (.lst (l.map .str)), .val (.lst [W]), .val (.lst [.tup [.tup [], .tup []]])] = .rt (ruleV l [.tup (.tup ts :: st), nilLine]) := by
      exact r_ret (q_on (q_cons (q_var rfl) (q_cons (q_sl (q_on (q_star (q_bvar rfl) rfl (q_star (q_bvar rfl) rfl q_nil)) rfl) q_noO (q_someO (i := 9) (q_bin q_con q_con rfl)) rfl) q_nil)) (ruleP R L1 (.inr rfl) (.inr (by rw [dW]; rfl))))
    unfold tryNP
    rw [k]
theorem cut_one {x : PV} {xs : List PV} : slP (.lst (x :: xs)) (some 1) none = .ok (.lst xs) := by
  show PR.ok (PV.lst (cutP (x :: xs) (some ((1 : Nat) : Int)) none)) = _
  unfold cutP
  rw [HT.sIx_nat, HT.sIx_none, List.length_cons, show min 1 (xs.length + 1) = 1 from by omega, List.drop_succ_cons, List.drop_zero, Nat.add_sub_cancel, List.take_length]
theorem ixP_lstN {l : List PV} {i : Nat} {d : PV} (hi : 0 < i) (hl : i ≤ l.length) (h : l[l.length - i]? = some d) : ixP (.lst l) (.int (-(i : Nat))) = .ok d := by
  show (match atI l (-(i : Nat)) with | some d => PR.ok d | none => .bad) = _
  rw [atI_neg hi hl h]
noncomputable def rbody : PSM := (seqP (setP 6 (slV (onP p_read_line (consP (varP 5) (nilP))))) (seqP (ifP (orTP (valP (binP isNP (bvarP 6) (conP .non))) (orTP (valP (binP geP (bvarP 4) (conP (.int 8)))) (orTP (valP (binP isNP (onP p_rule_of (consP (slEP (bvarP 2) (someOP (conP (.int 1))) (noOP)) (consP (onP lstP (consP (varP 6) (nilP))) (nilP)))) (conP .non))) (valP (binP neP (onP p_line_text (consP (varP 6) (nilP))) (bvarP 5)))))) (raiseP "BadText" "line" (binP addP (bvarP 4) (conP (.int 2)))) (passP)) (seqP (ifP (andTP (valP (binP eqP (bvarP 4) (binP subP (conP (.int 8)) (conP (.int 1))))) (valP (binP neP (binP ixP (bvarP 6) (conP (.int 0))) (onP tupP (nilP))))) (raiseP "BadText" "line" (binP addP (bvarP 4) (conP (.int 2)))) (passP)) (ownP isLstP 3 appendP (varP 6)))))
theorem rbody_ok (R : RegsOk l) {pre post : List D} (L : LinesD l ls) (e : ls = pre ++ d :: post) {v0 v1 : PV} {x6 : Option PV} : rbody [.val v0, .val v1, .val (.lst ((("registers" : Str) :: l).map .str)), .own (.lst (pre.map im)), .val (.int (pre.length : Nat)), .val (.str (linT d)), slo x6] =
    .nx [.val v0, .val v1, .val (.lst ((("registers" : Str) :: l).map .str)), .own (.lst ((pre ++ [d]).map im)), .val (.int (pre.length : Nat)), .val (.str (linT d)), .val (im d)] := by
  have p : LineD l false d := L.2.2.1 d (by rw [e]; exact List.mem_append_right _ (.head _))
  have l8 : pre.length + 1 + post.length ≤ 8 := by
    have := L.2.1
    rw [e, List.length_append, List.length_cons] at this
    omega
  obtain ⟨v, kv, nv⟩ := rule_of1 R p
  have ll := lin_len R p
  obtain ⟨ts, st, ed, h1, h2, h3, h4, h5⟩ := p
  obtain ⟨W, dW⟩ : ∃ W : PV, W = im d := ⟨_, rfl⟩
  have dW2 : W = .tup (.tup (ts.map im) :: st.map im) := by rw [dW, ed, im_tup, List.map_cons, im_tup]
  have kl := line_textP R (L.2.2.1 d (by rw [e]; exact List.mem_append_right _ (.head _)))
  have kr := read_lineP R (L.2.2.1 d (by rw [e]; exact List.mem_append_right _ (.head _)))
  rw [← dW] at kl kr kv ⊢
  obtain ⟨I, dI⟩ : ∃ I : PV, I = .lst ((("registers" : Str) :: l).map .str) := ⟨_, rfl⟩
  obtain ⟨O, dO⟩ : ∃ O : PV, O = .lst (pre.map im) := ⟨_, rfl⟩
  rw [← dI, ← dO]
  have sI : slP I (some 1) none = .ok (.lst (l.map .str)) := by rw [dI, List.map_cons]; exact cut_one
  unfold rbody
  refine r_seq (e1 := [.val v0, .val v1, .val I, .own O, .val (.int (pre.length : Nat)), .val (.str (linT d)), .val W]) (r_setV (q_on (q_cons (q_var rfl) q_nil) kr) rfl) ?_
  refine r_seq (r_ifF (q_orF (q_val (q_bin (q_bvar rfl) q_con (by rw [dW2]; rfl))) (q_orF (q_val (q_bin (q_bvar rfl) q_con ?_)) (q_orF (q_val (q_bin (q_on (q_cons (q_sl (q_bvar rfl) (q_someO q_con) q_noO sI) (q_cons (q_on (q_cons (q_var rfl) q_nil) rfl) q_nil)) kv) q_con ?_)) (q_val (q_bin (q_on (q_cons (q_var rfl) q_nil) kl) (q_bvar rfl) (neP_str.trans (by rw [decide_eq_true rfl]; rfl))))))) r_pass) ?_
  · show PR.ok (PV.bl (decide ((8 : Int) ≤ (pre.length : Nat)))) = _
    rw [decide_eq_false (by omega)]
  · show PR.ok (PV.bl (isNonP v)) = _
    rw [nv]
  · refine r_seq (r_ifF ?_ r_pass) ?_
    · have t1 : valP (binP eqP (bvarP 4) (binP subP (conP (.int 8)) (conP (.int 1)))) [.val v0, .val v1, .val I, .own O, .val (.int (pre.length : Nat)), .val (.str (linT d)), .val W] = .ok (decide ((pre.length : Int) = 7)) := q_val (q_bin (q_bvar rfl) (q_bin q_con q_con rfl) eqP_int)
      by_cases c : pre.length = 7
      · have pn : post = [] := List.eq_nil_of_length_eq_zero (by omega)
        have lst : ls.getLast? = some d := by rw [e, pn, List.getLast?_append]; rfl
        obtain ⟨ts', st', ed', _, z, _⟩ := L.2.2.2 d lst
        rw [ed] at ed'
        injection ed' with ed'
        injection ed' with ed' _
        injection ed' with ed'
        have tn : ts = [] := ed'.trans (z rfl)
        refine q_andT (t1.trans (by rw [decide_eq_true (by omega)])) (q_val (q_bin (q_bin (x := W) (q_bvar rfl) q_con (r := .ok (.tup [])) ?_) (q_on q_nil rfl) neP_tnil))
        rw [dW2, tn]
        exact ixP_tup (i := 0) rfl
      · exact q_andF (t1.trans (by rw [decide_eq_false (by omega)]))
    · refine r_app (l := pre.map im) (q_var rfl) (by rw [dO]; rfl) (by rw [List.length_map]; omega) ?_
      rw [List.map_append, dW]
      rfl
theorem rloop (R : RegsOk l) (L : LinesD l ls) {v0 v1 : PV} : ∀ {post pre : List D} {x4 x5 x6 : Option PV}, ls = pre ++ post →
    ∃ y4 y5 y6, loopP (gtpP [gnmP 4, gnmP 5]) rbody (enumK pre.length ((post.map linT).map .str)) [.val v0, .val v1, .val (.lst ((("registers" : Str) :: l).map .str)), .own (.lst (pre.map im)), slo x4, slo x5, slo x6] = .nx [.val v0, .val v1, .val (.lst ((("registers" : Str) :: l).map .str)), .own (.lst (ls.map im)), slo y4, slo y5, slo y6]
  | [], pre, x4, x5, x6, e => ⟨x4, x5, x6, by rw [e, List.append_nil]; exact lp_nil⟩
  | d :: post, pre, x4, x5, x6, e => by
    have k := rbody_ok R L e (v0 := v0) (v1 := v1) (x6 := x6)
    obtain ⟨y4, y5, y6, k2⟩ := rloop R L (v0 := v0) (v1 := v1) (post := post) (pre := pre ++ [d]) (x4 := some (.int (pre.length : Nat))) (x5 := some (.str (linT d))) (x6 := some (im d)) (by rw [e, List.append_assoc]; rfl)
    refine ⟨y4, y5, y6, ?_⟩
    rw [List.map_cons, List.map_cons, enumK_cons]
    refine lp_cons (e1 := [.val v0, .val v1, .val (.lst ((("registers" : Str) :: l).map .str)), .own (.lst (pre.map im)), .val (.int (pre.length : Nat)), .val (.str (linT d)), slo x6]) (by cases x4 <;> cases x5 <;> rfl) k ?_
    rw [List.length_append, List.length_cons, List.length_nil] at k2
    exact k2
theorem read_ruleP (R : RegsOk l) (L : LinesD l ls) : p_read_rule [.str (rulT l ls)] = .ok (ruleV l ls) := by
  have hl := rul_len R L
  obtain ⟨y4, y5, y6, k⟩ := rloop R L (v0 := .str (rulT l ls)) (v1 := .lst ((rowsT l ls).map .str)) (post := ls) (pre := []) (x4 := none) (x5 := none) (x6 := none) rfl
  obtain ⟨z, dz⟩ : ∃ z, z = rulT l ls := ⟨_, rfl⟩
  have hz : Txt.split z "\n" = rowsT l ls := by rw [dz]; exact split_rows R L
  rw [← dz] at hl k ⊢
  obtain ⟨V, dV⟩ : ∃ V : PV, V = .lst ((rowsT l ls).map .str) := ⟨_, rfl⟩
  obtain ⟨I, dI⟩ : ∃ I : PV, I = .lst ((("registers" : Str) :: l).map .str) := ⟨_, rfl⟩
  rw [← dV, ← dI] at k
  have sI : slP I (some 1) none = .ok (.lst (l.map .str)) := by rw [dI, List.map_cons]; exact cut_one
  have i0 : ixP V (.int 0) = .ok (.str (regT l)) := by rw [dV]; exact ixP_lst (i := 0) rfl
  have sV : slP V (some 1) none = .ok (.lst ((ls.map linT).map .str)) := by rw [dV]; exact cut_one
  have ir : ixP I (.int 0) = .ok (.str "registers") := by rw [dI]; exact ixP_lst (i := 0) rfl
  have lr := reg_len R
  unfold p_read_rule
  refine f_rt rfl ?_
  unfold pb_read_rule
  refine r_seq (r_ifF (q_not (bo := true) (q_val (q_on (q_cons (q_bvar rfl) (q_cons q_con q_nil)) rfl))) r_pass) ?_
  refine r_seq (e1 := [.val (.str z), .val V, .no, .no, .no, .no, .no]) (r_setV (q_bms (q_bvar rfl) (q_cons q_con q_nil) ((splitP_ok len_nl0 (by omega)).trans (by rw [hz, dV]))) rfl) ?_
  refine r_seq (e1 := [.val (.str z), .val V, .val I, .no, .no, .no, .no]) (r_setV (q_bms (q_bin (q_bvar rfl) q_con i0) (q_cons q_con q_nil) ((splitP_ok len_sp (by omega)).trans (by rw [split_reg R, dI]))) rfl) ?_
  refine r_seq (r_ifF (q_orF (q_val (q_bin (q_bin (q_bvar rfl) q_con ir) q_con (neP_str.trans (by rw [decide_eq_true rfl]; rfl)))) (q_val (q_bin (q_on (q_cons (q_sl (q_bvar rfl) (q_someO q_con) q_noO sI) (q_cons (q_on q_nil rfl) q_nil)) (rule_of0 R)) q_con rfl))) r_pass) ?_
  refine r_seq (e1 := [.val (.str z), .val V, .val I, .own (.lst []), .no, .no, .no]) (r_setO (q_on q_nil rfl) rfl) ?_
  refine r_seq (r_for (q_enumL (q_cons (q_sl (q_bvar rfl) (q_someO q_con) q_noO sV) q_nil)) k) ?_
  have ln := L.1
  obtain ⟨dl, hdl⟩ : ∃ dl, ls.getLast? = some dl := by
    cases q : ls.getLast? with
    | none => rw [List.getLast?_eq_none_iff] at q; rw [q] at ln; exact absurd ln (by decide)
    | some dl => exact ⟨dl, rfl⟩
  obtain ⟨ts, st, ed, _, zt, _⟩ := L.2.2.2 dl hdl
  have tn := zt rfl
  have ix : (ls.map im)[(ls.map im).length - 1]? = some (im dl) := by
    rw [List.getElem?_map, List.length_map, ← List.getLast?_eq_getElem?, hdl]
    rfl
  have il : im dl = .tup (.tup [] :: st.map im) := by rw [ed, tn, im_tup, List.map_cons, im_tup]; rfl
  obtain ⟨M, dM⟩ : ∃ M : PV, M = .lst (ls.map im) := ⟨_, rfl⟩
  rw [← dM]
  refine r_seq (r_ifF (q_orF (q_val (q_bin (x := M) (q_bown rfl) (q_on q_nil rfl) ?_)) (q_val (q_bin (q_bin (x := im dl) (q_bin (x := M) (y := .int (-((1 : Nat) : Int))) (q_bown rfl) (q_un q_con rfl) ?_) q_con (r := .ok (.tup [])) ?_) (q_on q_nil rfl) neP_tnil))) r_pass) ?_
  · rw [dM, eqP_lnil]
    cases ls with
    | nil => exact absurd ln (by decide)
    | cons _ _ => rfl
  · rw [dM]
    exact ixP_lstN (by decide) (by rw [List.length_map]; exact ln) ix
  · rw [il]
    exact ixP_tup (i := 0) rfl
  · refine r_frz (e1 := [.val (.str z), .val V, .val I, .val M, slo y4, slo y5, slo y6]) rfl (r_ret (q_on (q_cons (q_sl (q_bvar rfl) (q_someO q_con) q_noO sI) (q_cons (q_var rfl) q_nil)) (ruleP R L (.inr rfl) (.inr dM))))
end
end ML
namespace ML
open PySem PySem.Spec PyProof.Rows L2
def b_frag : SM := forS (seqI (varE 3)) (gnm 4) (seqS (parS [5, 6] (consA (onA m_law_rule (consA (varE 4) (nilA))) (consA (bmE "str" joinF (conE (.str "\n")) (consA (onA m_law_lines (consA (varE 4) (nilA))) (nilA))) (nilA)))) (seqS (ifS (orT (valT (bin neX_law (onA m_rule_text (consA (varE 5) (nilA))) (varE 6))) (valT (bin neX_law (onK 0 1 m_rule_text (nilA) (consA (varE 5) (nilA))) (varE 6)))) (retS (conE (.bl false))) (passS)) (ifS (orT (valT (bin neX_law (onA m_read_rule (consA (varE 6) (nilA))) (varE 5))) (orT (valT (bin neX_law (onK 0 1 m_read_rule (nilA) (consA (varE 6) (nilA))) (varE 5))) (valT (bin neX_law (onA m_rule_text (consA (onA m_read_rule (consA (varE 6) (nilA))) (nilA))) (varE 6))))) (retS (conE (.bl false))) (passS))))
end ML
namespace ML
open PySem PySem.Spec PyProof.Rows L2
noncomputable def pb_frag : PSM := forP (seqItP (varP 3)) (gnmP 4) (seqP (par2P 5 6 (slV (onP p_law_rule (consP (varP 4) (nilP)))) (slV (bmP "str" joinP (conP (.str "\n")) (consP (onP p_law_lines (consP (varP 4) (nilP))) (nilP))))) (seqP (ifP (orTP (valP (binP neX_lawP (onP p_rule_text (consP (varP 5) (nilP))) (bvarP 6))) (valP (binP neX_lawP (onKP 0 1 p_rule_text (nilP) (consP (varP 5) (nilP))) (bvarP 6)))) (retP (conP (.bl false))) (passP)) (ifP (orTP (valP (binP neX_lawP (onP p_read_rule (consP (varP 6) (nilP))) (bvarP 5))) (orTP (valP (binP neX_lawP (onKP 0 1 p_read_rule (nilP) (consP (varP 6) (nilP))) (bvarP 5))) (valP (binP neX_lawP (onP p_rule_text (consP (onP p_read_rule (consP (varP 6) (nilP))) (nilP))) (bvarP 6))))) (retP (conP (.bl false))) (passP))))
theorem okb_frag : okS b_frag pb_frag := (s_forP (i_seqP (x_var 3)) (g_gnmP 4) (s_seqP (s_par2P 5 6 (sl_v (x_on fk_law_rule (a_consP (x_var 4) a_nilP))) (sl_v (x_bmP opm_joinP (x_b x_str) (a1_cons (x_b (x_on fk_law_lines (a_consP (x_var 4) a_nilP))) a1_nil)))) (s_seqP (s_ifP (t_orP (t_valP (x_bin op_neX_lawP (x_b (x_on fk_rule_text (a_consP (x_var 5) a_nilP))) (b_var 6))) (t_valP (x_bin op_neX_lawP (x_b (x_onK fk_rule_text a_nilP (a_consP (x_var 5) a_nilP))) (b_var 6)))) (s_retP x_bl) s_passP) (s_ifP (t_orP (t_valP (x_bin op_neX_lawP (x_b (x_on fk_read_rule (a_consP (x_var 6) a_nilP))) (b_var 5))) (t_orP (t_valP (x_bin op_neX_lawP (x_b (x_onK fk_read_rule a_nilP (a_consP (x_var 6) a_nilP))) (b_var 5))) (t_valP (x_bin op_neX_lawP (x_b (x_on fk_rule_text (a_consP (x_on fk_read_rule (a_consP (x_var 6) a_nilP)) a_nilP))) (b_var 6))))) (s_retP x_bl) s_passP))))
end ML
namespace ML
open PySem PySem.Spec PyProof.Rows L2
noncomputable def askP : PSM := (seqP (par2P 5 6 (slV (onP p_law_rule (consP (varP 4) (nilP)))) (slV (bmP "str" joinP (conP (.str "\n")) (consP (onP p_law_lines (consP (varP 4) (nilP))) (nilP))))) (seqP (ifP (orTP (valP (binP neX_lawP (onP p_rule_text (consP (varP 5) (nilP))) (bvarP 6))) (valP (binP neX_lawP (onKP 0 1 p_rule_text (nilP) (consP (varP 5) (nilP))) (bvarP 6)))) (retP (conP (.bl false))) (passP)) (ifP (orTP (valP (binP neX_lawP (onP p_read_rule (consP (varP 6) (nilP))) (bvarP 5))) (orTP (valP (binP neX_lawP (onKP 0 1 p_read_rule (nilP) (consP (varP 6) (nilP))) (bvarP 5))) (valP (binP neX_lawP (onP p_rule_text (consP (onP p_read_rule (consP (varP 6) (nilP))) (nilP))) (bvarP 6))))) (retP (conP (.bl false))) (passP))))
section
variable {l : List Str} {ls : List D} {x2 x5 x6 : Option PV} {S : PV}
theorem ask_ok (R : RegsOk l) (L : LinesD l ls) : askP [.no, .no, .no, .val S, .val (planV l ls), slo x5, slo x6, .no] = .nx [.no, .no, .no, .val S, .val (planV l ls), .val (ruleV l ls), .val (.str (rulT l ls)), .no] := by
  have e1 := law_ruleP R L
  have e2 := law_linesP R L
  have e3 := rule_textP R L
  have e4 := read_ruleP R L
  have e5 := neX_same L
  have e6 : neX_lawP (.str (rulT l ls)) (.str (rulT l ls)) = .ok (.bl false) := neX_str
  have kj : ∀ {E : PEnv}, E[4]? = some (.val (planV l ls)) → bmP "str" joinP (conP (.str "\n")) (consP (onP p_law_lines (consP (varP 4) (nilP))) (nilP)) E = .ok (.str (rulT l ls)) := fun {E} h4 => by
    refine q_join (B := 320) q_con (q_cons (q_on (q_cons (q_var h4) q_nil) e2) q_nil) (rows_len R L) ?_
    have := rows_num L
    rw [len_nl]
    omega
  obtain ⟨P, dP⟩ : ∃ P : PV, P = planV l ls := ⟨_, rfl⟩
  obtain ⟨V, dV⟩ : ∃ V : PV, V = ruleV l ls := ⟨_, rfl⟩
  obtain ⟨T, dT⟩ : ∃ T : PV, T = .str (rulT l ls) := ⟨_, rfl⟩
  rw [← dP] at kj e1
  rw [← dV] at e1 e3 e4 e5
  rw [← dT] at kj e3 e4 e6
  rw [← dP, ← dV, ← dT]
  unfold askP
  refine r_seq (e1 := [.no, .no, .no, .val S, .val P, .val V, .val T, .no]) (r_par2 (r_slV (q_on (q_cons (q_var rfl) q_nil) e1)) (r_slV (kj rfl)) rfl) ?_
  refine r_seq (r_ifF (q_orF (q_val (q_bin (q_on (q_cons (q_var rfl) q_nil) e3) (q_bvar rfl) e6)) (q_val (q_bin (q_onK (xs := []) (ys := [V]) q_nil (q_cons (q_var rfl) q_nil) rfl rfl e3) (q_bvar rfl) e6))) r_pass) ?_
  exact r_ifF (q_orF (q_val (q_bin (q_on (q_cons (q_var rfl) q_nil) e4) (q_bvar rfl) e5)) (q_orF (q_val (q_bin (q_onK (xs := []) (ys := [T]) q_nil (q_cons (q_var rfl) q_nil) rfl rfl e4) (q_bvar rfl) e5)) (q_val (q_bin (q_on (q_cons (q_on (q_cons (q_var rfl) q_nil) e4) q_nil) e3) (q_bvar rfl) e6)))) r_pass
theorem ask_all {A : PV} : ∀ {ps : List (List Str × List D)} {x4 x5 x6 : Option PV}, (∀ p ∈ ps, RegsOk p.1 ∧ LinesD p.1 p.2) →
    ∃ y4 y5 y6, loopP (gnmP 4) askP (ps.map fun p => planV p.1 p.2) [.no, .no, .no, .val A, slo x4, slo x5, slo x6, .no] = .nx [.no, .no, .no, .val A, slo y4, slo y5, slo y6, .no]
  | [], x4, x5, x6, _ => ⟨x4, x5, x6, lp_nil⟩
  | p :: ps, x4, x5, x6, h => by
    obtain ⟨R, L⟩ := h p (.head _)
    obtain ⟨y4, y5, y6, k⟩ := ask_all (A := A) (ps := ps) (x4 := some (planV p.1 p.2)) (x5 := some (ruleV p.1 p.2)) (x6 := some (.str (rulT p.1 p.2))) fun q hq => h q (.tail _ hq)
    exact ⟨y4, y5, y6, lp_cons (e1 := [.no, .no, .no, .val A, .val (planV p.1 p.2), slo x5, slo x6, .no]) (by cases x4 <;> rfl) (ask_ok R L) k⟩
theorem frag_run {ps : List (List Str × List D)} (h : ∀ p ∈ ps, RegsOk p.1 ∧ LinesD p.1 p.2) : ∃ y4 y5 y6, pb_frag [.no, .no, .no, .val (.lst (ps.map fun p => planV p.1 p.2)), .no, .no, .no, .no] = .nx [.no, .no, .no, .val (.lst (ps.map fun p => planV p.1 p.2)), slo y4, slo y5, slo y6, .no] := by
  obtain ⟨y4, y5, y6, k⟩ := ask_all (A := .lst (ps.map fun p => planV p.1 p.2)) (x4 := none) (x5 := none) (x6 := none) h
  refine ⟨y4, y5, y6, ?_⟩
  unfold pb_frag
  exact r_for (q_seqL (q_var rfl)) k
end
end ML
namespace ML
open PySem PySem.Spec PyProof.Rows L2
section
variable {P : MH → Prop} {Q : D → Prop} {elt : EM} {n i k : Nat} {e0 e : Env}
theorem lc_draw (nk : n ≠ k) (hP : ∀ h o, P h → P (h.set n o)) : ∀ (ds acc : List D) (h : MH), P h → h[n]? = some (.lst acc) → (∀ x ∈ acc, Q x) → acc.length + ds.length < 1000 → (∀ d ∈ ds, ∀ h, P h → ∃ y h', elt (e0.set i (some d)) h = .ok y h' ∧ Q y ∧ P h' ∧ KG k h h') →
    ∃ ys h', lcLoop [] (gnm i) yesT elt n e0 ds h = .ok (.ref n) h' ∧ h'[n]? = some (.lst ys) ∧ (∀ x ∈ ys, Q x) ∧ ys.length = acc.length + ds.length ∧ P h' ∧ h.length ≤ h'.length ∧ ∀ (m : Nat) o, m ≠ k → m ≠ n → h[m]? = some o → h'[m]? = some o
  | [], acc, h, p, e, q, hl, hd => ⟨acc, h, by unfold lcLoop; rw [if_pos (show IT.ok h [] = true from rfl)], e, q, rfl, p, Nat.le_refl _, fun m o _ _ z => z⟩
  | d :: ds, acc, h, p, e, q, hl, hd => by
    obtain ⟨y, h1, e1, q1, p1, g1⟩ := hd d (.head _) h p
    have a1 := g1.2 _ _ nk e
    obtain ⟨ys, h', e2, a2, q2, l2, p2, n2, k2⟩ := lc_draw nk hP ds (acc ++ [y]) (h1.set n (.lst (acc ++ [y]))) (hP _ _ p1) (set_get a1) (fun x hx => by
      rcases List.mem_append.mp hx with z | z
      · exact q x z
      · rw [List.mem_singleton.mp z]
        exact q1) (by simp only [List.length_append, List.length_cons, List.length_nil] at hl ⊢; omega) (fun x hx => hd x (.tail _ hx))
    refine ⟨ys, h', ?_, a2, q2, by rw [l2]; simp only [List.length_append, List.length_cons, List.length_nil]; omega, p2, by have := g1.1; rw [List.length_set] at n2; omega, fun m o mk mn z => k2 m o mk mn (by rw [List.getElem?_set_ne (Ne.symm mn)]; exact g1.2 _ _ mk z)⟩
    rw [← e2]
    conv => lhs; unfold lcLoop
    rw [if_pos (show IT.ok h [] = true from rfl)]
    have tg : gnm i d e0 h = some (e0.set i (some d)) := rfl
    rw [tg]
    dsimp only [yesT]
    rw [e1]
    dsimp only
    rw [a1]
    dsimp only
    rw [if_pos (by simp only [List.length_cons] at hl; omega)]
theorem ev_draw {own : List Nat} {it : IM} {ds : List D} {h : MH} (hi : it e h = .ok ⟨ds, []⟩ h) (p : P (h ++ [.lst []])) (hP : ∀ h1 o, P h1 → P (h1.set h.length o)) (hk : h.length ≠ k) (hl : ds.length < 900)
    (hd : ∀ d ∈ ds, ∀ h1, P h1 → ∃ y h2, elt ((wipeM e own).set i (some d)) h1 = .ok y h2 ∧ Q y ∧ P h2 ∧ KG k h1 h2) :
    ∃ ys h', lcE own it (gnm i) yesT elt e h = .ok (.ref h.length) h' ∧ h'[h.length]? = some (.lst ys) ∧ (∀ x ∈ ys, Q x) ∧ ys.length = ds.length ∧ P h' ∧ KG k h h' := by
  obtain ⟨ys, h', e1, a1, q1, l1, p1, n1, k1⟩ := lc_draw (P := P) (Q := Q) (elt := elt) (i := i) (e0 := wipeM e own) hk hP ds [] (h ++ [.lst []]) p (by simp) (fun x hx => (nomatch hx)) (by simp only [List.length_nil]; omega) hd
  refine ⟨ys, h', ?_, a1, q1, by rw [l1]; simp, p1, by rw [List.length_append] at n1; omega, fun m o mk z => k1 m o mk (by have := (List.getElem?_eq_some_iff.mp z).1; omega) (by rw [List.getElem?_append_left (List.getElem?_eq_some_iff.mp z).1]; exact z)⟩
  unfold lcE
  rw [hi]
  exact e1
end
theorem rev_tup {m : EM} {e : Env} {h h1 : MH} {xs : List D} (p : m e h = .ok (.tup xs) h1) : revE m e h = .ok (.tup xs.reverse) h1 := by
  unfold revE
  rw [p]
  rfl
theorem lt_iB {a b : Int} {h : MH} : ltF (.int a) (.int b) h = .ok (.bl (decide (a < b))) h := by
  by_cases c : a < b
  · rw [decide_eq_true c]; exact lt_T c
  · rw [decide_eq_false c]; exact lt_F c
theorem tuple_lst {h : MH} {n : Nat} {xs : List D} (e : h[n]? = some (.lst xs)) : tupleF [.ref n] h = .ok (.tup xs) h := by
  unfold tupleF seqOf
  dsimp only
  rw [e]
def GB : SM := (seqS (setS 5 (onA tupleF (consA (lcE [7] (rng1I (consA (conE (.int 4)) (nilA))) (gnm 7) (yesT) (onA tupF (consA (onA m_law_pick (consA (varE 0) (consA (varE 1) (nilA)))) (consA (onA m_law_pick (consA (varE 0) (consA (bin addF (varE 1) (onA lstF (consA (conE (.str "new")) (nilA)))) (nilA)))) (consA (bin gtF (varE 2) (conE (.int 3))) (nilA)))))) (nilA)))) (seqS (setS 6 (onA tupleF (consA (lcE [7] (rng1I (consA (conE (.int 4)) (nilA))) (gnm 7) (yesT) (onA tupF (consA (onA m_law_pick (consA (varE 0) (consA (varE 1) (nilA)))) (consA (onA m_law_pick (consA (varE 0) (consA (bin addF (varE 1) (onA lstF (consA (conE (.str "nothing")) (nilA)))) (nilA)))) (nilA))))) (nilA)))) (expS (bmE "list" appF (varE 4) (consA (bin addF (onA tupF (consA (ifE (valT (bin ltF (varE 2) (conE (.int 7)))) (varE 5) (onA tupF (nilA))) (consA (varE 6) (nilA)))) (bin mul01F (onA tupF (consA (revE (varE 6)) (nilA))) (onA intF (consA (bin gtF (varE 2) (conE (.int 5))) (nilA))))) (nilA))))))
/-- pick(source, words), pick(source, words + [z]) -/
theorem pickA {h : MH} {k r : Nat} {L : List Str} {e : Env} {i j : Nat} (S : Src h k) (er : h[r]? = some (.lst (L.map .str))) (nr : r ≠ k) (h0 : 0 < L.length) (h1 : L.length ≤ 100) (hj : e[j]? = some (some (.ref k))) (hi : e[i]? = some (some (.ref r))) : ∃ s h', onA m_law_pick (consA (varE j) (consA (varE i) (nilA))) e h = .ok (.str s) h' ∧ s ∈ L ∧ Src h' k ∧ KG k h h' := by
  obtain ⟨s, h', e1, ms, S1, g1⟩ := StrL.pick (L := L) ⟨r, rfl, nr, er⟩ h0 (by omega) S
  exact ⟨s, h', ev_on (ev_cons (ev_var hj) (ev_cons (ev_var hi) ev_nil)) e1, ms, S1, g1⟩
theorem pickB {h : MH} {k r : Nat} {L : List Str} {z : Str} {e : Env} {i j : Nat} (S : Src h k) (er : h[r]? = some (.lst (L.map .str))) (nr : r ≠ k) (h1 : L.length ≤ 100) (hj : e[j]? = some (some (.ref k))) (hi : e[i]? = some (some (.ref r))) : ∃ s h', onA m_law_pick (consA (varE j) (consA (bin addF (varE i) (onA lstF (consA (conE (.str z)) (nilA)))) (nilA))) e h = .ok (.str s) h' ∧ s ∈ L ++ [z] ∧ Src h' k ∧ KG k h h' := by
  obtain ⟨h2, d2⟩ : ∃ x, x = h ++ [O.lst [.str z]] := ⟨_, rfl⟩
  have g2 : KG k h h2 := by rw [d2]; exact KG.app
  have S2 : Src h2 k := by rw [d2]; exact S.app
  have q2 : h2[h.length]? = some (.lst [.str z]) := by rw [d2]; simp
  have e2 := addL (g2.2 _ _ nr er) q2 (by simp; omega)
  have l2 := S2.lt
  obtain ⟨s, h', e3, ms, S3, g3⟩ := StrL.pick (h := h2 ++ [.lst (L.map .str ++ [.str z])]) (k := k) (x := .ref h2.length) (L := L ++ [z]) ⟨h2.length, rfl, by omega, by rw [List.map_append]; simp⟩ (by simp) (by simp; omega) S2.app
  exact ⟨s, h', ev_on (ev_cons (ev_var hj) (ev_cons (ev_bin (ev_var hi) (ev_on (ev_cons ev_con ev_nil) (new1 d2)) e2) ev_nil)) e3, ms, S3, (g2.trans KG.app).trans g3⟩
section
variable {k r f n3 : Nat} {l : List Str} {h : MH} {x5 x6 : Option D}
theorem tgt_of {s : Str} (h : s ∈ ("here" : Str) :: l) : TgtN l s := by
  rcases List.mem_cons.mp h with e | e
  · exact .inl e
  · exact .inr e
theorem left_of {s : Str} (h : s ∈ ("here" : Str) :: l) : LeftN l s := by
  rcases List.mem_cons.mp h with e | e
  · exact .inl e
  · exact .inr (.inr e)
theorem src_of {s z : Str} (hz : z = "new" ∨ z = "nothing") (h : s ∈ (("here" : Str) :: l) ++ [z]) : SrcN l s := by
  rcases List.mem_append.mp h with h | h
  · rcases List.mem_cons.mp h with e | e
    · exact .inl e
    · exact .inr (.inr (.inr e))
  · rw [List.mem_singleton.mp h]
    rcases hz with e | e <;> rw [e]
    · exact .inr (.inl rfl)
    · exact .inr (.inr (.inl rfl))
theorem great_turn {ys : List D} {at' : Nat} (S : Src h k) (er : h[r]? = some (.lst ((("here" : Str) :: l).map .str))) (nr : r ≠ k) (rl : r < h.length) (ef : h[f]? = some (.lst ys)) (nf : f ≠ k) (fl : f < h.length) (fr : f ≠ r) (hl : l.length ≤ 3) (hy : ys.length ≤ 20) (ha : at' < 8) :
    ∃ d y5 y6 h', GB [some (.ref k), some (.ref r), some (.int (at' : Nat)), some (.ref n3), some (.ref f), x5, x6, none] h = .nx [some (.ref k), some (.ref r), some (.int (at' : Nat)), some (.ref n3), some (.ref f), y5, y6, none] h' ∧ LineD l (decide (at' = 7)) d ∧ h'[f]? = some (.lst (ys ++ [d])) ∧ Src h' k ∧ (∀ (m : Nat) o, m ≠ k → m ≠ f → h[m]? = some o → h'[m]? = some o) ∧ h.length ≤ h'.length := by
  have kl := S.lt
  have inv : ∀ {b : Nat}, b ≠ k → b ≠ r → ∀ h1 o, (Src h1 k ∧ h1[r]? = some (.lst ((("here" : Str) :: l).map .str))) → (Src (h1.set b o) k ∧ (h1.set b o)[r]? = some (.lst ((("here" : Str) :: l).map .str))) := fun {b} bk br h1 o p => ⟨p.1.other bk, by rw [List.getElem?_set_ne br]; exact p.2⟩
  obtain ⟨ts, h1, e1, q1, m1, n1, P1, g1⟩ := ev_draw (P := fun h1 => Src h1 k ∧ h1[r]? = some (.lst ((("here" : Str) :: l).map .str))) (Q := TestD l) (k := k) (i := 7) (own := [7]) (e := [some (.ref k), some (.ref r), some (.int (at' : Nat)), some (.ref n3), some (.ref f), x5, x6, none]) (h := h) (ds := rangeD 0 (4 : Int).toNat) (elt := (onA tupF (consA (onA m_law_pick (consA (varE 0) (consA (varE 1) (nilA)))) (consA (onA m_law_pick (consA (varE 0) (consA (bin addF (varE 1) (onA lstF (consA (conE (.str "new")) (nilA)))) (nilA)))) (consA (bin gtF (varE 2) (conE (.int 3))) (nilA)))))) (it := rng1I (consA (conE (.int 4)) (nilA))) (ei_rng (ev_cons ev_con ev_nil) (by decide)) ⟨S.app, by rw [List.getElem?_append_left rl]; exact er⟩ (inv (by omega) (by omega)) (by omega) (by decide) (fun d hd h1 p => by
    obtain ⟨a, h2, e2, ma, S2, g2⟩ := pickA (e := [some (.ref k), some (.ref r), some (.int (at' : Nat)), some (.ref n3), some (.ref f), x5, x6, some d]) (i := 1) (j := 0) p.1 p.2 nr (by simp) (by simp; omega) rfl rfl
    obtain ⟨b, h3, e3, mb, S3, g3⟩ := pickB (z := "new") (e := [some (.ref k), some (.ref r), some (.int (at' : Nat)), some (.ref n3), some (.ref f), x5, x6, some d]) (i := 1) (j := 0) S2 (g2.2 _ _ nr p.2) nr (by simp; omega) rfl rfl
    exact ⟨_, h3, ev_on (ev_cons e2 (ev_cons e3 (ev_cons (ev_bin (ev_var rfl) ev_con gt_i) ev_nil))) (tup_new (by decide : 3 ≤ 1000000)), ⟨a, b, _, rfl, left_of ma, src_of (.inl rfl) mb⟩, ⟨S3, g3.2 _ _ nr (g2.2 _ _ nr p.2)⟩, g2.trans g3⟩)
  have kl1 := P1.1.lt
  have b1 := g1.1
  obtain ⟨ss, h2, e2, q2, m2, n2, P2, g2⟩ := ev_draw (P := fun h1 => Src h1 k ∧ h1[r]? = some (.lst ((("here" : Str) :: l).map .str))) (Q := StepD l) (k := k) (i := 7) (own := [7]) (e := [some (.ref k), some (.ref r), some (.int (at' : Nat)), some (.ref n3), some (.ref f), some (.tup ts), x6, none]) (h := h1) (ds := rangeD 0 (4 : Int).toNat) (elt := (onA tupF (consA (onA m_law_pick (consA (varE 0) (consA (varE 1) (nilA)))) (consA (onA m_law_pick (consA (varE 0) (consA (bin addF (varE 1) (onA lstF (consA (conE (.str "nothing")) (nilA)))) (nilA)))) (nilA))))) (it := rng1I (consA (conE (.int 4)) (nilA))) (ei_rng (ev_cons ev_con ev_nil) (by decide)) ⟨P1.1.app, by rw [List.getElem?_append_left (by omega)]; exact P1.2⟩ (inv (by omega) (by omega)) (by omega) (by decide) (fun d hd h1 p => by
    obtain ⟨a, h2, e2, ma, S2, g2⟩ := pickA (e := [some (.ref k), some (.ref r), some (.int (at' : Nat)), some (.ref n3), some (.ref f), some (.tup ts), x6, some d]) (i := 1) (j := 0) p.1 p.2 nr (by simp) (by simp; omega) rfl rfl
    obtain ⟨b, h3, e3, mb, S3, g3⟩ := pickB (z := "nothing") (e := [some (.ref k), some (.ref r), some (.int (at' : Nat)), some (.ref n3), some (.ref f), some (.tup ts), x6, some d]) (i := 1) (j := 0) S2 (g2.2 _ _ nr p.2) nr (by simp; omega) rfl rfl
    exact ⟨_, h3, ev_on (ev_cons e2 (ev_cons e3 ev_nil)) (tup_new (by decide : 2 ≤ 1000000)), ⟨a, b, rfl, tgt_of ma, src_of (.inr rfl) mb⟩, ⟨S3, g3.2 _ _ nr (g2.2 _ _ nr p.2)⟩, g2.trans g3⟩)
  have n1 : ts.length = 4 := n1
  have n2 : ss.length = 4 := n2
  have f2 := g2.2 _ _ nf (g1.2 _ _ nf ef)
  obtain ⟨T, dT⟩ : ∃ T : List D, T = if at' < 7 then ts else [] := ⟨_, rfl⟩
  obtain ⟨U, dU⟩ : ∃ U : List D, U = if 5 < at' then [.tup ss.reverse] else [] := ⟨_, rfl⟩
  have sd : StepsD l (.tup ss) := mkSs (by omega) m2
  have sr : StepsD l (.tup ss.reverse) := mkSs (by rw [List.length_reverse]; omega) fun d hd => m2 d (List.mem_reverse.mp hd)
  have LD : LineD l (decide (at' = 7)) (.tup (.tup T :: .tup ss :: U)) := by
    refine ⟨T, .tup ss :: U, rfl, ?_, fun z => ?_, fun t ht => ?_, ?_, fun s hs => ?_⟩
    · rw [dT]
      split
      · omega
      · exact Nat.zero_le _
    · rw [dT, if_neg (by have := of_decide_eq_true z; omega)]
    · rw [dT] at ht
      split at ht
      · exact m1 t ht
      · cases ht
    · rw [dU]
      split
      · exact .inr rfl
      · exact .inl rfl
    · rcases List.mem_cons.mp hs with e | e
      · rw [e]; exact sd
      · rw [dU] at e
        split at e
        · rw [List.mem_singleton.mp e]; exact sr
        · cases e
  have ap := append_i (y := .tup (.tup T :: .tup ss :: U)) f2 (by omega)
  refine ⟨_, some (.tup ts), some (.tup ss), h2.set f (.lst (ys ++ [.tup (.tup T :: .tup ss :: U)])), ?_, LD, set_get f2, P2.1.other nf, fun m o mk mf z => by rw [List.getElem?_set_ne (Ne.symm mf)]; exact g2.2 _ _ mk (g1.2 _ _ mk z), by have := g2.1; rw [List.length_set]; omega⟩
  unfold GB
  refine es_seq (es_set' (ev_on (ev_cons e1 ev_nil) (tuple_lst q1)) rfl) ?_
  refine es_seq (es_set' (ev_on (ev_cons e2 ev_nil) (tuple_lst q2)) rfl) ?_
  refine es_exp (ev_bm (ev_var rfl) (ty_lst f2) (ev_cons (ev_bin (x := .tup [.tup T, .tup ss]) (y := .tup U) (h1 := h2) (h2 := h2) ?_ ?_ (add_tup (by rw [dU]; split <;> simp))) ev_nil) ap)
  · refine ev_on (ev_cons (x := .tup T) (h1 := h2) ?_ (ev_cons (ev_var rfl) ev_nil)) (tup_new (by decide : 2 ≤ 1000000))
    by_cases c : at' < 7
    · rw [dT, if_pos c]
      exact ev_ifT (ev_val (ev_bin (ev_var rfl) ev_con (lt_iB.trans (by rw [decide_eq_true (by omega)])))) (ev_var rfl)
    · rw [dT, if_neg c]
      exact ev_ifF (ev_val (ev_bin (ev_var rfl) ev_con (lt_iB.trans (by rw [decide_eq_false (by omega)])))) tup0
  · refine ev_bin (tup1 (rev_tup (ev_var rfl))) (ev_on (ev_cons (ev_bin (ev_var rfl) ev_con gt_i) ev_nil) (r := .ok (.int (if 5 < at' then 1 else 0)) h2) ?_) ?_
    · by_cases c : 5 < at'
      · rw [decide_eq_true (by omega), if_pos c]
        rfl
      · rw [decide_eq_false (by omega), if_neg c]
        rfl
    · by_cases c : 5 < at'
      · rw [dU, if_pos c, if_pos c]
        rfl
      · rw [dU, if_neg c, if_neg c]
        rfl
end
end ML
namespace ML
open PySem PySem.Spec PyProof.Rows L2
section
variable {k r f n3 : Nat} {l : List Str} {b : Bool} {d : D}
theorem LineD.fls (p : LineD l b d) : LineD l false d := by
  obtain ⟨ts, st, e, h1, h2, h3, h4, h5⟩ := p
  exact ⟨ts, st, e, h1, fun z => (nomatch z), h3, h4, h5⟩
theorem great_loop (nr : r ≠ k) (nf : f ≠ k) (fr : f ≠ r) (hl : l.length ≤ 3) : ∀ (is : List Nat) (ys : List D) (x2 x5 x6 : Option D) (h : MH), is ≠ [] → (∀ i ∈ is, i < 8) → is.getLast? = some 7 → Src h k → h[r]? = some (.lst ((("here" : Str) :: l).map .str)) → h[f]? = some (.lst ys) → ys.length + is.length ≤ 20 → (∀ d ∈ ys, LineD l false d) →
    ∃ zs y2 y5 y6 h', loopS [] (gnm 2) GB (is.map fun i => .int (i : Nat)) [some (.ref k), some (.ref r), x2, some (.ref n3), some (.ref f), x5, x6, none] h = .nx [some (.ref k), some (.ref r), y2, some (.ref n3), some (.ref f), y5, y6, none] h' ∧ h'[f]? = some (.lst zs) ∧ zs.length = ys.length + is.length ∧ (∀ d ∈ zs, LineD l false d) ∧ (∀ d, zs.getLast? = some d → LineD l true d) ∧ Src h' k ∧ (∀ (m : Nat) o, m ≠ k → m ≠ f → h[m]? = some o → h'[m]? = some o) ∧ h.length ≤ h'.length
  | [], _, _, _, _, _, hn, _, _, _, _, _, _, _ => absurd rfl hn
  | [i], ys, x2, x5, x6, h, _, hi, hlast, S, er, ef, hy, hL => by
    have i7 : i = 7 := by injection hlast
    obtain ⟨d, y5, y6, h', e1, L1, q1, S1, k1, n1⟩ := great_turn (n3 := n3) (x5 := x5) (x6 := x6) (at' := i) S er nr (List.getElem?_eq_some_iff.mp er).1 ef nf (List.getElem?_eq_some_iff.mp ef).1 fr hl (by simp only [List.length_cons, List.length_nil] at hy; omega) (hi i (.head _))
    rw [i7, decide_eq_true rfl] at L1
    refine ⟨ys ++ [d], some (.int (i : Nat)), y5, y6, h', (loop_cons rfl rfl e1).trans (loop_nil rfl), q1, by simp, fun x hx => ?_, fun x hx => ?_, S1, k1, n1⟩
    · rcases List.mem_append.mp hx with z | z
      · exact hL x z
      · rw [List.mem_singleton.mp z]
        exact L1.fls
    · rw [List.getLast?_append] at hx
      have hx : some d = some x := hx
      cases hx
      exact L1
  | i :: j :: is, ys, x2, x5, x6, h, _, hi, hlast, S, er, ef, hy, hL => by
    simp only [List.length_cons] at hy
    obtain ⟨d, y5, y6, h1, e1, L1, q1, S1, k1, n1⟩ := great_turn (n3 := n3) (x5 := x5) (x6 := x6) (at' := i) S er nr (List.getElem?_eq_some_iff.mp er).1 ef nf (List.getElem?_eq_some_iff.mp ef).1 fr hl (by omega) (hi i (.head _))
    obtain ⟨zs, y2, z5, z6, h', e2, q2, l2, m2, t2, S2, k2, n2⟩ := great_loop nr nf fr hl (j :: is) (ys ++ [d]) (some (.int (i : Nat))) y5 y6 h1 (by simp) (fun x hx => hi x (.tail _ hx)) (by rw [← hlast, List.getLast?_cons_cons]) S1 (k1 _ _ nr (Ne.symm fr) er) q1 (by simp only [List.length_append, List.length_cons, List.length_nil]; omega) (fun x hx => by
      rcases List.mem_append.mp hx with z | z
      · exact hL x z
      · rw [List.mem_singleton.mp z]
        exact L1.fls)
    exact ⟨zs, y2, z5, z6, h', (loop_cons rfl rfl e1).trans e2, q2, by rw [l2]; simp only [List.length_append, List.length_cons, List.length_nil]; omega, m2, t2, S2, fun m o mk mf z => k2 m o mk mf (k1 m o mk mf z), by omega⟩
end
def six : List Str := ["abcdefgh", "isnt", "asks", "beside", "elder", "ora"]
theorem six_good : ∀ z ∈ six, GoodN z := by
  unfold GoodN six
  decide +kernel
theorem six_nd : six.Nodup := by
  unfold six
  decide +kernel
def unS : D → Str
  | .str s => s
  | _ => ""
theorem perm_strs {xs : List D} {L : List Str} (p : xs.Perm (L.map .str)) : ∃ l : List Str, xs = l.map .str ∧ l.Perm L := by
  refine ⟨xs.map unS, ?_, ?_⟩
  · rw [List.map_map]
    have : ∀ x ∈ xs, (D.str ∘ unS) x = x := fun x hx => by
      obtain ⟨z, _, rfl⟩ := List.mem_map.mp (p.mem_iff.mp hx)
      rfl
    rw [List.map_congr_left this, List.map_id']
  · have := p.map unS
    rwa [List.map_map, show (unS ∘ D.str) = fun z => z from rfl, List.map_id'] at this
theorem cut3 {xs : List D} (h : xs.length = 6) : cutD xs none (some 3) = xs.take 3 := by
  show (xs.drop (HT.sIx xs.length 0 none)).take (HT.sIx xs.length xs.length (some ((3 : Nat) : Int)) - HT.sIx xs.length 0 none) = _
  rw [HT.sIx_none, HT.sIx_nat, h]
  rfl
section
variable {h : MH} {k : Nat}
theorem great (S : Src h k) : ∃ l ls h', m_law_great [.ref k] h = .ok (.tup [.tup (l.map .str), .tup ls]) h' ∧ RegsOk l ∧ LinesD l ls ∧ Src h' k ∧ KG k h h' := by
  have kl := S.lt
  obtain ⟨h1, d1⟩ : ∃ x, x = h ++ [O.lst (six.map .str)] := ⟨_, rfl⟩
  have g1 : KG k h h1 := by rw [d1]; exact KG.app
  have S1 : Src h1 k := by rw [d1]; exact S.app
  have q1 : h1[h.length]? = some (.lst (six.map .str)) := by rw [d1]; simp
  have e1 : lstF (six.map .str) h = .ok (.ref h.length) h1 := by rw [d1]; exact lst_new (by rw [List.length_map]; decide)
  obtain ⟨mn, h2, xs, e2, q2, m2, n2, p2, b2, S2, g2⟩ := mixedP S1 (.inr ⟨_, rfl, q1⟩) (by rw [List.length_map]; decide)
  have k1 := S1.lt
  have k2 := S2.lt
  obtain ⟨l6, rfl, pl⟩ := perm_strs p2
  have c3 : cutD (l6.map D.str) none (some 3) = (l6.take 3).map .str := by
    rw [cut3 (by rw [n2, List.length_map]; rfl), List.map_take]
  obtain ⟨l, dl⟩ : ∃ l, l = l6.take 3 := ⟨_, rfl⟩
  rw [← dl] at c3
  have Rl : RegsOk l := by
    refine ⟨by rw [dl, List.length_take]; omega, ?_, fun z hz => six_good z (pl.mem_iff.mp (List.mem_of_mem_take (by rw [← dl]; exact hz)))⟩
    rw [dl]
    exact (pl.nodup_iff.mpr six_nd).sublist (List.take_sublist _ _)
  -- names
  obtain ⟨h3, d3⟩ : ∃ x, x = h2 ++ [O.lst (l.map .str)] := ⟨_, rfl⟩
  have g3 : KG k h2 h3 := by rw [d3]; exact KG.app
  have S3 : Src h3 k := by rw [d3]; exact S2.app
  have q3 : h3[h2.length]? = some (.lst (l.map .str)) := by rw [d3]; simp
  have e3 : slF (.ref mn) none (some 3) h2 = .ok (.ref h2.length) h3 := by rw [slL q2, c3, d3]
  have l3 : h3.length = h2.length + 1 := by rw [d3]; simp
  -- lines
  obtain ⟨h4, d4⟩ : ∃ x, x = h3 ++ [O.lst []] := ⟨_, rfl⟩
  have g4 : KG k h3 h4 := by rw [d4]; exact KG.app
  have S4 : Src h4 k := by rw [d4]; exact S3.app
  have q4 : h4[h3.length]? = some (.lst []) := by rw [d4]; simp
  have l4 : h4.length = h3.length + 1 := by rw [d4]; simp
  -- words
  obtain ⟨h5, d5⟩ : ∃ x, x = h4 ++ [O.lst [.str "here"]] := ⟨_, rfl⟩
  have g5 : KG k h4 h5 := by rw [d5]; exact KG.app
  have S5 : Src h5 k := by rw [d5]; exact S4.app
  have q5 : h5[h4.length]? = some (.lst [.str "here"]) := by rw [d5]; simp
  have l5 : h5.length = h4.length + 1 := by rw [d5]; simp
  have a3 : h5[h2.length]? = some (.lst (l.map .str)) := g5.2 _ _ (by omega) (g4.2 _ _ (by omega) q3)
  have e6 := addL q5 a3 (by have := Rl.1; rw [List.length_map]; simp only [List.length_cons, List.length_nil]; omega)
  obtain ⟨h6, d6⟩ : ∃ x, x = h5 ++ [O.lst ([.str "here"] ++ l.map .str)] := ⟨_, rfl⟩
  rw [← d6] at e6
  have g6 : KG k h5 h6 := by rw [d6]; exact KG.app
  have S6 : Src h6 k := by rw [d6]; exact S5.app
  have q6 : h6[h5.length]? = some (.lst ((("here" : Str) :: l).map .str)) := by rw [d6]; simp
  have f6 : h6[h3.length]? = some (.lst []) := g6.2 _ _ (by omega) (g5.2 _ _ (by omega) q4)
  obtain ⟨zs, y2, y5, y6, h7, e7, q7, n7, m7, t7, S7, k7, b7⟩ := great_loop (k := k) (r := h5.length) (f := h3.length) (n3 := h2.length) (l := l) (by omega) (by omega) (by omega) Rl.1 [0, 1, 2, 3, 4, 5, 6, 7] [] none none none h6 (by simp) (by decide) rfl S6 q6 f6 (by decide) (fun d hd => (nomatch hd))
  have r7 : h7[h2.length]? = some (.lst (l.map .str)) := k7 _ _ (by omega) (by omega) (g6.2 _ _ (by omega) a3)
  have z8 : zs.length = 8 := n7
  have gall : KG k h h7 := by
    have c1 := g1.1
    have c2 := g2.1
    have c6 : h6.length = h5.length + 1 := by rw [d6]; simp
    refine ⟨by omega, fun m o mk z => ?_⟩
    have lt := (List.getElem?_eq_some_iff.mp z).1
    exact k7 m o mk (by omega) (g6.2 _ _ mk (g5.2 _ _ mk (g4.2 _ _ mk (g3.2 _ _ mk (g2.2 _ _ mk (g1.2 _ _ mk z))))))
  refine ⟨l, zs, h7, ?_, Rl, ⟨by omega, by omega, m7, t7⟩, S7, gall⟩
  refine ef_rt rfl ?_
  unfold b_law_great
  refine es_seq (es_par2 (x := .ref h2.length) (y := .ref h3.length) (h1 := h4) (ev_cons (h1 := h3) (ev_sl (ev_on (ev_cons (ev_var rfl) (ev_cons (ev_on (ev_cons ev_con (ev_cons ev_con (ev_cons ev_con (ev_cons ev_con (ev_cons ev_con (ev_cons ev_con ev_nil)))))) e1) ev_nil)) e2) ev_noO (ev_someO ev_con) e3) (ev_cons (ev_on ev_nil (new0 d4)) ev_nil))) ?_
  refine es_seq (es_set' (ev_bin (ev_on (ev_cons ev_con ev_nil) (new1 d5)) (ev_var rfl) e6) rfl) ?_
  refine es_seq (es_for (ei_rng (ev_cons ev_con ev_nil) (by decide)) e7) ?_
  exact es_ret (ev_on (ev_cons (ev_on (ev_cons (ev_var rfl) ev_nil) (tuple_lst r7)) (ev_cons (ev_on (ev_cons (ev_var rfl) ev_nil) (tuple_lst q7)) ev_nil)) (tup_new (by decide : 2 ≤ 1000000)))
end
abbrev planD (l : List Str) (ls : List D) : D := .tup [.tup (l.map .str), .tup ls]
def PlQ (d : D) : Prop := ∃ l ls, d = planD l ls ∧ RegsOk l ∧ LinesD l ls
def SOME : EM := (bin addF (lcE [7] (rng1I (consA (conE (.int 5)) (nilA))) (gnm 7) (yesT) (onA m_law_plan (consA (varE 2) (nilA)))) (onA lstF (consA (onA m_law_great (consA (varE 2) (nilA))) (consA (onA tupF (consA (onA tupF (nilA)) (consA (onA tupF (consA (onA tupF (consA (onA tupF (nilA)) (consA (onA tupF (nilA)) (nilA)))) (nilA))) (nilA)))) (consA (onA tupF (consA (onA tupF (nilA)) (consA (onA tupF (consA (onA tupF (consA (onA tupF (nilA)) (consA (onA tupF (nilA)) (consA (onA tupF (nilA)) (nilA))))) (nilA))) (nilA)))) (nilA))))))
theorem regs_nil : RegsOk [] := ⟨by decide, .nil, fun z hz => (nomatch hz)⟩
theorem one_line {st : List D} (h : st = [.tup []] ∨ st = [.tup [], .tup []]) : PlQ (planD [] [.tup (.tup [] :: st)]) := by
  have p : ∀ b, LineD [] b (.tup (.tup [] :: st)) := fun b => ⟨[], st, rfl, by decide, fun _ => rfl, (fun t h => (nomatch h)), by rcases h with e | e <;> rw [e] <;> simp, fun s hs => by
    have : s = .tup [] := by rcases h with e | e <;> rw [e] at hs <;> simpa using hs
    exact ⟨[], this, by decide, fun s h => (nomatch h)⟩⟩
  refine ⟨[], _, rfl, regs_nil, by simp, by simp, fun d hd => ?_, fun d hd => ?_⟩
  · rw [List.mem_singleton.mp hd]
    exact p _
  · cases hd
    exact p _
theorem some_ok {h : MH} {k : Nat} {s1 x3 x4 x5 x6 x7 : Option D} (S : Src h k) : ∃ ds n h', SOME [some (.ref 0), s1, some (.ref k), x3, x4, x5, x6, x7] h = .ok (.ref n) h' ∧ h'[n]? = some (.lst ds) ∧ (∀ d ∈ ds, PlQ d) ∧ KG k h h' := by
  have kl := S.lt
  obtain ⟨ds, h1, e1, q1, m1, n1, S1, g1⟩ := ev_draw (P := fun h1 => Src h1 k) (Q := PlQ) (k := k) (i := 7) (own := [7]) (e := [some (.ref 0), s1, some (.ref k), x3, x4, x5, x6, x7]) (h := h) (ds := rangeD 0 (5 : Int).toNat) (elt := onA m_law_plan (consA (varE 2) (nilA))) (it := rng1I (consA (conE (.int 5)) (nilA))) (ei_rng (ev_cons ev_con ev_nil) (by decide)) S.app (fun h1 o p => p.other (by omega)) (by omega) (by decide) (fun d hd h1 p => by
    obtain ⟨l, ls, h2, e2, R, _, L, S2, g2⟩ := plan p
    exact ⟨_, h2, ev_on (ev_cons (ev_var rfl) ev_nil) e2, ⟨l, ls, rfl, R, L⟩, S2, g2⟩)
  have n1 : ds.length = 5 := n1
  obtain ⟨l, ls, h2, e2, R, L, S2, g2⟩ := great S1
  obtain ⟨xs, dx⟩ : ∃ xs, xs = [planD l ls, planD [] [.tup [.tup [], .tup []]], planD [] [.tup [.tup [], .tup [], .tup []]]] := ⟨_, rfl⟩
  obtain ⟨h3, d3⟩ : ∃ x, x = h2 ++ [O.lst xs] := ⟨_, rfl⟩
  have g3 : KG k h2 h3 := by rw [d3]; exact KG.app
  have q3 : h3[h2.length]? = some (.lst xs) := by rw [d3]; simp
  have e3 : lstF xs h2 = .ok (.ref h2.length) h3 := by rw [d3]; exact lst_new (by rw [dx]; simp)
  have lx : xs.length = 3 := by rw [dx]; rfl
  have e4 := addL (g3.2 _ _ (by omega) (g2.2 _ _ (by omega) q1)) q3 (by omega)
  refine ⟨ds ++ xs, h3.length, _, ?_, List.getElem?_concat_length, fun d hd => ?_, ((g1.trans g2).trans g3).trans KG.app⟩
  · unfold SOME
    refine ev_bin e1 (ev_on (xs := xs) (h1 := h2) ?_ e3) e4
    rw [dx]
    exact ev_cons (ev_on (ev_cons (ev_var rfl) ev_nil) e2) (ev_cons (tup2 tup0 (tup1 (tup2 tup0 tup0))) (ev_cons (tup2 tup0 (tup1 (tup3 tup0 tup0 tup0))) ev_nil))
  · rcases List.mem_append.mp hd with z | z
    · exact m1 d z
    · rw [dx] at z
      simp only [List.mem_cons, List.not_mem_nil, or_false] at z
      rcases z with e | e | e <;> rw [e]
      · exact ⟨l, ls, rfl, R, L⟩
      · exact one_line (.inl rfl)
      · exact one_line (.inr rfl)
end ML
namespace ML
open PySem PySem.Spec PyProof.Rows L2
theorem k0_ret {a : EM} : K0 (retS a) := fun e h => by
  unfold retS ofE
  cases a e h <;> trivial
theorem k0_par2 {i j : Nat} {a : AM} (hi : i ≠ 0) (hj : j ≠ 0) : K0 (parS [i, j] a) := fun e h => by
  unfold parS ofA
  cases a e h with
  | ok ds h1 =>
    dsimp only
    by_cases c : ds.length = [i, j].length
    · rw [if_pos c]
      match ds, c with
      | [x, y], _ =>
        show ((e.set i (some x)).set j (some y))[0]? = e[0]?
        rw [List.getElem?_set_ne hj, List.getElem?_set_ne hi]
    · rw [if_neg c]
      trivial
  | _ => trivial
theorem k0_frag : K0 b_frag := by
  unfold b_frag
  repeat (any_goals (first | exact k0_pass | exact k0_exp | exact k0_ret | exact k0_set (by decide) | exact k0g_nm (by decide) | exact k0_par2 (by decide) (by decide) | apply k0_seq | apply k0_if | apply k0_for))
section
variable {l : List Str} {ls : List D}
theorem plan_im (L : LinesD l ls) : planV l ls = im (planD l ls) := by
  show _ = im (.tup [.tup (l.map .str), .tup ls])
  rw [im_tup]
  show _ = PV.tup [im (.tup (l.map .str)), im (.tup ls)]
  rw [im_tup, im_tup, ← strs_im]
  rfl
theorem plan_nr (L : LinesD l ls) : noRef (planD l ls) = true := by
  show noRef (.tup [.tup (l.map .str), .tup ls]) = true
  unfold noRef
  rw [noRefs_all, List.all_cons, List.all_cons, List.all_nil, Bool.and_true, Bool.and_eq_true]
  exact ⟨by unfold noRef; exact noRefs_strs, by unfold noRef; exact noRefs_lines L⟩
end
theorem plans_of : ∀ {ds : List D}, (∀ d ∈ ds, PlQ d) → ∃ ps : List (List Str × List D), ds = (ps.map fun p => planD p.1 p.2) ∧ ∀ p ∈ ps, RegsOk p.1 ∧ LinesD p.1 p.2
  | [], _ => ⟨[], rfl, fun p hp => (nomatch hp)⟩
  | d :: ds, h => by
    obtain ⟨l, ls, e, R, L⟩ := h d (.head _)
    obtain ⟨ps, e2, q⟩ := plans_of fun x hx => h x (.tail _ hx)
    refine ⟨(l, ls) :: ps, by rw [e, e2]; rfl, fun p hp => ?_⟩
    rcases List.mem_cons.mp hp with z | z
    · rw [z]
      exact ⟨R, L⟩
    · exact q p z
theorem reps_plans {A : Nat → Prop} {h : MH} : ∀ {ps : List (List Str × List D)}, (∀ p ∈ ps, RegsOk p.1 ∧ LinesD p.1 p.2) → Reps A h (ps.map fun p => planV p.1 p.2) (ps.map fun p => planD p.1 p.2)
  | [], _ => .nil
  | p :: ps, q => by
    have L := (q p (.head _)).2
    rw [List.map_cons, List.map_cons]
    refine .cons ?_ (reps_plans fun x hx => q x (.tail _ hx))
    rw [plan_im L]
    exact rep_im _ (plan_nr L)
def STARTB : SM := seqS (setS 2 (onA m_law_source (consA (varE 0) (consA (varE 1) (nilA))))) (seqS (setS 3 SOME) b_frag)
theorem law_eq : b_law = seqS (forS (rng1I (consA (onA max2F (consA (conE (.int 1)) (consA (onA min2F (consA (conE (.int 4)) (consA (onA lenF (consA (varE 0) (nilA))) (nilA)))) (nilA)))) (nilA))) (gnm 1) STARTB) (retS (conE (.bl true))) := rfl
section
variable {h : MH} {k n : Nat} {sc : List D}
theorem ask_run {s1 x4 x5 x6 x7 : Option D} {ds : List D} (z : h[0]? = some (.rdl sc)) (e : h[n]? = some (.lst ds)) (q : ∀ d ∈ ds, PlQ d) : ∃ y1 y2 y3 y4 y5 y6 y7 h', b_frag [some (.ref 0), s1, some (.ref k), some (.ref n), x4, x5, x6, x7] h = .nx [some (.ref 0), y1, y2, y3, y4, y5, y6, y7] h' ∧ h'[0]? = some (.rdl sc) := by
  obtain ⟨ps, rfl, pq⟩ := plans_of q
  obtain ⟨e0, de0⟩ : ∃ e0 : Env, e0 = [some (.ref 0), s1, some (.ref k), some (.ref n), x4, x5, x6, x7] := ⟨_, rfl⟩
  obtain ⟨V, dV⟩ : ∃ V : PV, V = .lst (ps.map fun p => planV p.1 p.2) := ⟨_, rfl⟩
  obtain ⟨p0, dp0⟩ : ∃ p0 : PEnv, p0 = [.no, .no, .no, .val V, .no, .no, .no, .no] := ⟨_, rfl⟩
  have pv : ∀ (i : Nat) v, p0[i]? = some (.val v) → i = 3 ∧ v = V := by
    rw [dp0]
    exact fun i v q => match i, v, q with
    | 3, v, q => by cases q; exact ⟨rfl, rfl⟩
    | 0, v, q => by cases q
    | 1, v, q => by cases q
    | 2, v, q => by cases q
    | 4, v, q => by cases q
    | 5, v, q => by cases q
    | 6, v, q => by cases q
    | 7, v, q => by cases q
    | n + 8, v, q => by cases q
  have po : ∀ (i : Nat) v, p0[i]? ≠ some (.own v) := by
    rw [dp0]
    exact fun i v q => match i, v, q with
    | 0, v, q => by cases q
    | 1, v, q => by cases q
    | 2, v, q => by cases q
    | 3, v, q => by cases q
    | 4, v, q => by cases q
    | 5, v, q => by cases q
    | 6, v, q => by cases q
    | 7, v, q => by cases q
    | n + 8, v, q => by cases q
  have now : ∀ m, ¬ Ow p0 e0 m := fun m w => by
    obtain ⟨i, v, w1, _⟩ := w
    exact po i v w1
  have er : ER (fun _ => False) p0 e0 h := by
    refine ⟨by rw [de0, dp0]; rfl, fun i v q => ?_, fun i v q => absurd q (po i v), fun i j v w n q1 _ _ _ => absurd q1 (po i v), fun n w => w.elim⟩
    obtain ⟨rfl, rfl⟩ := pv i v q
    refine ⟨.ref n, by rw [de0]; rfl, ?_⟩
    rw [dV]
    unfold Rep
    exact ⟨n, _, rfl, fun w => w.elim (fun w => w) (now n), e, reps_plans pq⟩
  obtain ⟨y4, y5, y6, fr⟩ := frag_run pq
  rw [← dV] at fr
  have K := okb_frag _ p0 e0 h er
  rw [dp0, fr] at K
  obtain ⟨e', h2, x2, er2, fm⟩ := K
  have kz := k0_frag e0 h
  rw [x2] at kz
  have kz : e'[0]? = e0[0]? := kz
  rw [de0] at kz
  have le := er2.len
  obtain ⟨b0, b1, b2, b3, b4, b5, b6, b7, rfl⟩ : ∃ b0 b1 b2 b3 b4 b5 b6 b7, e' = [b0, b1, b2, b3, b4, b5, b6, b7] := by
    match e', le with
    | [b0, b1, b2, b3, b4, b5, b6, b7], _ => exact ⟨b0, b1, b2, b3, b4, b5, b6, b7, rfl⟩
  have c0 : b0 = some (.ref 0) := by injection kz
  subst c0
  have z2 : h2[0]? = some (.rdl sc) := (fm.st 0 _ z fun w => now 0 (by rw [dp0]; exact w)).1
  rw [de0] at x2
  exact ⟨b1, b2, b3, b4, b5, b6, b7, h2, x2, z2⟩
end
theorem starts {ns : List Int} (hb : ∀ z ∈ ns, Builtin.Int.intBits z ≤ 1048576) : ∀ (ds : List D) (x1 x2 x3 x4 x5 x6 x7 : Option D) (h : MH), (∀ d ∈ ds, ∃ i : Int, d = .int i ∧ 0 ≤ i ∧ i < 100) → h[0]? = some (.rdl (ns.map .int)) → ∃ e' h', loopS [] (gnm 1) STARTB ds [some (.ref 0), x1, x2, x3, x4, x5, x6, x7] h = .nx e' h'
  | [], _, _, _, _, _, _, _, h, _, _ => ⟨_, h, loop_nil rfl⟩
  | d :: ds, x1, x2, x3, x4, x5, x6, x7, h, hd, e0 => by
    obtain ⟨i, rfl, i0, i1⟩ := hd d List.mem_cons_self
    obtain ⟨r, m, e1, r0, m0, m1⟩ := source (start := i) e0 hb i0 i1
    have h0 := (List.getElem?_eq_some_iff.mp e0).1
    have S1 : Src (h ++ [ML.O.lst [.int r, .int m]]) h.length := ⟨r, m, by simp, r0, m0, m1⟩
    obtain ⟨ps, n, h1, e2, q2, m2, g2⟩ := some_ok (s1 := some (.int i)) (x3 := x3) (x4 := x4) (x5 := x5) (x6 := x6) (x7 := x7) S1
    have z1 := g2.2 _ _ (by omega) (GA.app.2 _ _ e0)
    obtain ⟨y1, y2, y3, y4, y5, y6, y7, h2, e3, z2⟩ := ask_run (k := h.length) (s1 := some (.int i)) (x4 := x4) (x5 := x5) (x6 := x6) (x7 := x7) z1 q2 m2
    have e4 : STARTB [some (.ref 0), some (.int i), x2, x3, x4, x5, x6, x7] h = .nx [some (.ref 0), y1, y2, y3, y4, y5, y6, y7] h2 := by
      unfold STARTB
      exact es_seq (es_set' (ev_on (ev_cons (ev_var rfl) (ev_cons (ev_var rfl) ev_nil)) e1) rfl) (es_seq (es_set' e2 rfl) e3)
    obtain ⟨e', h', e5⟩ := starts hb ds y1 y2 y3 y4 y5 y6 y7 h2 (fun x hx => hd x (List.mem_cons_of_mem _ hx)) z2
    exact ⟨e', h', (loop_cons rfl rfl e4).trans e5⟩
theorem law_true : ∀ ns : List Int, ns.length ≤ 63 → (∀ z ∈ ns, Builtin.Int.intBits z ≤ 1048576) → ∃ h', b_law ([some (.ref 0)] ++ List.replicate (N_law.length - 1) none) (scriptM ns) = .rt (.bl true) h' := by
  intro ns hl hb
  have h0 : (scriptM ns)[0]? = some (.rdl (ns.map .int)) := rfl
  have a1 := len_rdl h0
  rw [List.length_map] at a1
  obtain ⟨y, a2, y1⟩ : ∃ y : Int, min2F [.int 4, .int (ns.length : Nat)] (scriptM ns) = .ok (.int y) (scriptM ns) ∧ y ≤ 4 := ⟨_, rfl, by split <;> omega⟩
  obtain ⟨z, a3, z0, z1⟩ : ∃ z : Int, max2F [.int 1, .int y] (scriptM ns) = .ok (.int z) (scriptM ns) ∧ 0 ≤ z ∧ z ≤ 4 := ⟨_, rfl, by split <;> omega, by split <;> omega⟩
  obtain ⟨e', h', p⟩ := starts hb (rangeD 0 z.toNat) none none none none none none none (scriptM ns) (fun d hd => by
    unfold rangeD at hd
    obtain ⟨i, hi, ei⟩ := List.mem_map.mp hd
    have := List.mem_range.mp hi
    exact ⟨_, ei.symm, by omega, by omega⟩) h0
  refine ⟨h', ?_⟩
  rw [law_eq]
  refine es_seq (es_for (ei_rng (ev_cons (ev_on (ev_cons ev_con (ev_cons (ev_on (ev_cons ev_con (ev_cons (ev_on (ev_cons (ev_var rfl) ev_nil) a1) ev_nil)) a2) ev_nil)) a3) ev_nil) ⟨by omega, by omega⟩) p) (es_ret ev_con)
end ML
namespace ML
open PySem PySem.Spec PyProof.Rows L2
theorem h_all {P : Program} {w : World} {K : PySem.W.Frag} {h : Heap} {mg : Str → Option Value} {fa : Addr} (KX : K.In h) (c : SaysM hchk hfn K) (G : h.Ns mainGlobals mg) (hfa : mg "law" = some (.ref fa)) :
    ∀ (base : Heap) (s : Shared) (H : Hp) (a : Addr) (ns : List Int), ns.length ≤ 63 → (∀ z ∈ ns, Builtin.Int.intBits z ≤ 1048576) → Env0 P w K mg base callerA [] s H → RdL K H a (ns.map V.int) →
        codeAny (model P w) callerA (.call (.ref fa) ⟨[.ref a], []⟩) (CR (L2.CX P w) [] P w H s (fun v _ => v = .bl true) fun _ _ _ => False) s :=
  all_mk KX G hfa (C_BadRegisters := (He.ga K "BadRegisters")) (C_BadLines := (He.ga K "BadLines")) (C_BadLine := (He.ga K "BadLine")) (C_BadText := (He.ga K "BadText")) (f_BadRegisters := (He.ma K (He.ga K "BadRegisters") "__init__")) (f_BadLines := (He.ma K (He.ga K "BadLines") "__init__")) (f_BadLine := (He.ma K (He.ga K "BadLine") "__init__")) (f_BadText := (He.ma K (He.ga K "BadText") "__init__")) (C_UpgradeError := (He.ga K "UpgradeError")) (C_Rule := (He.ga K "Rule")) (f_is_name := (He.ga K "is_name")) (f_need_registers := (He.ga K "need_registers")) (f_is_one_of := (He.ga K "is_one_of")) (f_is_test := (He.ga K "is_test")) (f_is_step := (He.ga K "is_step")) (f_are_steps := (He.ga K "are_steps")) (f_is_line := (He.ga K "is_line")) (f_Rule_init := (He.ma K (He.ga K "Rule") "__init__")) (f_Rule_registers := (gp K (He.ga K "Rule") "registers")) (f_Rule_lines := (gp K (He.ga K "Rule") "lines")) (f_Rule_eq := (He.ma K (He.ga K "Rule") "__eq__")) (f_test_text := (He.ga K "test_text")) (f_steps_text := (He.ga K "steps_text")) (f_line_text := (He.ga K "line_text")) (f_rule_text := (He.ga K "rule_text")) (f_read_test := (He.ga K "read_test")) (f_read_step := (He.ga K "read_step")) (f_read_parts := (He.ga K "read_parts")) (f_read_steps := (He.ga K "read_steps")) (f_read_line := (He.ga K "read_line")) (f_rule_of := (He.ga K "rule_of")) (f_read_rule := (He.ga K "read_rule")) (f_law_source := (He.ga K "_law_source")) (f_law_draw := (He.ga K "_law_draw")) (f_law_pick := (He.ga K "_law_pick")) (f_law_mixed := (He.ga K "_law_mixed")) (f_law_steps := (He.ga K "_law_steps")) (f_law_tests := (He.ga K "_law_tests")) (f_law_good := (He.ga K "_law_good")) (f_law_noted_as := (He.ga K "_law_noted_as")) (f_law_plan := (He.ga K "_law_plan")) (f_law_rule := (He.ga K "_law_rule")) (f_law_written := (He.ga K "_law_written")) (f_law_lines := (He.ga K "_law_lines")) (f_law_great := (He.ga K "_law_great")) (f_law := (He.ga K "law")) (v_BARRED := (He.ga K "BARRED")) (v_LETTERS := (tokS K "LETTERS")) (v_MOST_LINES := (tokI K "MOST_LINES")) (v_MOST_REGISTERS := (tokI K "MOST_REGISTERS")) (v_MOST_STEPS := (tokI K "MOST_STEPS")) (v_MOST_TESTS := (tokI K "MOST_TESTS")) (v_NOTHING := (tokS K "NOTHING"))
    (eq_of (c.fact 0 rfl))
    (eq_of (c.fact 1 rfl))
    (xco_of (c.fact 2 rfl))
    (c.def_ 0 (d := hd_BadRegisters) rfl)
    (c.fact 3 rfl)
    (eq_of (c.fact 4 rfl))
    (eq_of (c.fact 5 rfl))
    (xco_of (c.fact 6 rfl))
    (c.def_ 1 (d := hd_BadLines) rfl)
    (c.fact 7 rfl)
    (eq_of (c.fact 8 rfl))
    (eq_of (c.fact 9 rfl))
    (xco_of (c.fact 10 rfl))
    (c.def_ 2 (d := hd_BadLine) rfl)
    (c.fact 11 rfl)
    (eq_of (c.fact 12 rfl))
    (eq_of (c.fact 13 rfl))
    (xco_of (c.fact 14 rfl))
    (c.def_ 3 (d := hd_BadText) rfl)
    (c.fact 15 rfl)
    (eq_of (c.fact 16 rfl))
    (c.fact 17 rfl)
    (eq_of (c.fact 18 rfl))
    (eq_of (c.fact 19 rfl))
    (eq_of (c.fact 20 rfl))
    (eq_of (c.fact 21 rfl))
    (eq_of (c.fact 22 rfl))
    (eq_of (c.fact 23 rfl))
    (eq_of (c.fact 24 rfl))
    (eq_of (c.fact 25 rfl))
    (eq_of (c.fact 26 rfl))
    (eq_of (c.fact 27 rfl))
    (eq_of (c.fact 28 rfl))
    (eq_of (c.fact 29 rfl))
    (eq_of (c.fact 30 rfl))
    (eq_of (c.fact 31 rfl))
    (c.fact 32 rfl)
    (str_of (c.fact 33 rfl))
    (int_of (c.fact 34 rfl))
    (int_of (c.fact 35 rfl))
    (int_of (c.fact 36 rfl))
    (int_of (c.fact 37 rfl))
    (str_of (c.fact 38 rfl))
    (eq_of (c.fact 39 rfl))
    (eq_of (c.fact 40 rfl))
    (c.fact 41 rfl)
    (c.fact 42 rfl)
    (c.fact 43 rfl)
    (c.fact 44 rfl)
    (c.fact 45 rfl)
    (eq_of (c.fact 46 rfl))
    (c.def_ 4 (d := hd_is_name) rfl)
    (eq_of (c.fact 47 rfl))
    (c.def_ 5 (d := hd_need_registers) rfl)
    (eq_of (c.fact 48 rfl))
    (c.def_ 6 (d := hd_is_one_of) rfl)
    (eq_of (c.fact 49 rfl))
    (c.def_ 7 (d := hd_is_test) rfl)
    (eq_of (c.fact 50 rfl))
    (c.def_ 8 (d := hd_is_step) rfl)
    (eq_of (c.fact 51 rfl))
    (c.def_ 9 (d := hd_are_steps) rfl)
    (eq_of (c.fact 52 rfl))
    (c.def_ 10 (d := hd_is_line) rfl)
    (c.def_ 11 (d := hd_Rule_init) rfl)
    (c.def_ 12 (d := hd_Rule_registers) rfl)
    (c.def_ 13 (d := hd_Rule_lines) rfl)
    (c.def_ 14 (d := hd_Rule_eq) rfl)
    (eq_of (c.fact 53 rfl))
    (c.def_ 15 (d := hd_test_text) rfl)
    (eq_of (c.fact 54 rfl))
    (c.def_ 16 (d := hd_steps_text) rfl)
    (eq_of (c.fact 55 rfl))
    (c.def_ 17 (d := hd_line_text) rfl)
    (eq_of (c.fact 56 rfl))
    (c.def_ 18 (d := hd_rule_text) rfl)
    (eq_of (c.fact 57 rfl))
    (c.def_ 19 (d := hd_read_test) rfl)
    (eq_of (c.fact 58 rfl))
    (c.def_ 20 (d := hd_read_step) rfl)
    (eq_of (c.fact 59 rfl))
    (c.def_ 21 (d := hd_read_parts) rfl)
    (eq_of (c.fact 60 rfl))
    (c.def_ 22 (d := hd_read_steps) rfl)
    (eq_of (c.fact 61 rfl))
    (c.def_ 23 (d := hd_read_line) rfl)
    (eq_of (c.fact 62 rfl))
    (c.def_ 24 (d := hd_rule_of) rfl)
    (eq_of (c.fact 63 rfl))
    (c.def_ 25 (d := hd_read_rule) rfl)
    (eq_of (c.fact 64 rfl))
    (c.def_ 26 (d := hd_law_source) rfl)
    (eq_of (c.fact 65 rfl))
    (c.def_ 27 (d := hd_law_draw) rfl)
    (eq_of (c.fact 66 rfl))
    (c.def_ 28 (d := hd_law_pick) rfl)
    (eq_of (c.fact 67 rfl))
    (c.def_ 29 (d := hd_law_mixed) rfl)
    (eq_of (c.fact 68 rfl))
    (c.def_ 30 (d := hd_law_steps) rfl)
    (eq_of (c.fact 69 rfl))
    (c.def_ 31 (d := hd_law_tests) rfl)
    (eq_of (c.fact 70 rfl))
    (c.def_ 32 (d := hd_law_good) rfl)
    (eq_of (c.fact 71 rfl))
    (c.def_ 33 (d := hd_law_noted_as) rfl)
    (eq_of (c.fact 72 rfl))
    (c.def_ 34 (d := hd_law_plan) rfl)
    (eq_of (c.fact 73 rfl))
    (c.def_ 35 (d := hd_law_rule) rfl)
    (eq_of (c.fact 74 rfl))
    (c.def_ 36 (d := hd_law_written) rfl)
    (eq_of (c.fact 75 rfl))
    (c.def_ 37 (d := hd_law_lines) rfl)
    (eq_of (c.fact 76 rfl))
    (c.def_ 38 (d := hd_law_great) rfl)
    (eq_of (c.fact 77 rfl))
    (c.def_ 39 (d := hd_law) rfl)
    law_true
end ML
open PySem PySem.W PyProof.Rows in
set_option maxRecDepth 100000 in
set_option maxHeartbeats 0 in
theorem PySem.Challenge.cw_stillmine_k80_texts_of_rules_holds : PySem.Challenge.rw_stillmine_k80_texts_of_rules.Holds := by
  w_on; o_law
  refine HandSHeadRun.head_any (r := OpenLaw.row PySem.Challenge.rw_stillmine_k80_texts_of_rules) (q := view (OpenLaw.row PySem.Challenge.rw_stillmine_k80_texts_of_rules).prog [49]) (H := ML.hookM ML.hxs ML.hchk ML.hfn) (ob := ML.obM ML.hxs ML.hchk ML.hfn) (M := 9000) (loose := ML.hnames) (d := HandSHeadRun.topDef (OpenLaw.row PySem.Challenge.rw_stillmine_k80_texts_of_rules).prog 49) (kwd := []) ML.obM_eq
    (by kernel_rfl) (fun s => by kernel_rfl) ML.h_run (by kernel_rfl) (by kernel_rfl) (by kernel_rfl) (by rfl) (by first | assumption | decide +kernel) (by decide +kernel) ⟨rfl, rfl, rfl, rfl, rfl, by decide +kernel⟩ ?hw ?hc
  case hw => w_witness2
  case hc =>
    refine ML.walkE (l := PySem.Challenge.rw_stillmine_k80_texts_of_rules) (Z := ML.SaysM ML.hchk ML.hfn) rfl (by kernel_rfl) (fun w h Y => Y) ?F
    intro w K mg fa h KX c G hmg0
    have hmg : mg ("law" : PySem.Str) = some (.ref fa) := by
      have e : (HandSHeadRun.topDef (OpenLaw.row PySem.Challenge.rw_stillmine_k80_texts_of_rules).prog 49).name = ("law" : PySem.Str) := by kernel_rfl
      rw [← e]
      exact hmg0
    exact ML.h_all KX c G hmg
#print axioms PySem.Challenge.cw_stillmine_k80_texts_of_rules_holds
