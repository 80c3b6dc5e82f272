import PyProof.Rows.All
import Wide.All
import OpenK.AllK
import Wide.FinOn
import HandS.ForMost
import HandS.Exc
import KE.KDictKeyed
import KE.KeyNested
import KE.KDictWalk
import HandS.Defaults
import HandS.Property
import HandS.WordsExc
import KE.GoesNewDict
import HandS.Zip
import PyProof.NeKinds
import HandS.TupAny
import HandS.TupMul
import HandS.TupLe
import HandS.TupLen
import HandS.Star
import HandS.IsInst
import HandS.Conv
import HandS.DictComp
import KE.SortData
import KE.OsSortAny
import HandS.MakeKwOnly
import HandS.GenList
import KE.GoesZip
import KE.GoesMore
import KE.GoesEnum
import KE.KDictZip
import HandS.DictEq
import HandS.HeadHook4
import HandS.Style
import HandS.Head0
import HandS.Head1
import HandS.Head2
import HandS.HeadEnd
import PySem.Challenge.RW_fewbounds_k35_by_hand
set_option Elab.async false
set_option linter.all false
set_option maxRecDepth 100000
set_option maxHeartbeats 0
section
namespace Mi
open PySem PySem.Spec PyProof.Rows L2

/-- values as trees; ref: a thing of the little heap -/
inductive W where
  | non | bl (b : Bool) | int (i : Int) | str (s : Str)
  | tup (ws : List W) | lst (ws : List W) | dct (ks vs : List W) | ins (c : Nat) (fn : List Str) (fv : List W)
  | ref (n : Nat)
  /-- d.values() -/
  | dvs (ks vs : List W)
  /-- a built-in type, a class -/
  | ty (n : Nat)
  | cl (c : Nat)
  /-- the script: a list of ints that nobody writes -/
  | scr (ns : List Int)
  /-- the empty tuple that the written part holds (a default) -/
  | kt0

/-- things that change -/
inductive O where
  | lst (ws : List W) | dct (ks vs : List W) | ins (c : Nat) (fn : List Str) (fv : List W)

/-- the little heap: the next number, the newest first -/
structure MH where
  nx : Nat
  l : List (Nat × O)

def lookN (n : Nat) : List (Nat × O) → Option O
  | [] => none
  | (m, o) :: r => match Nat.beq n m with
    | true => some o
    | false => lookN n r
def MH.get (h : MH) (n : Nat) : Option O := lookN n h.l
def setN (n : Nat) (o : O) : List (Nat × O) → List (Nat × O)
  | [] => []
  | (m, u) :: r => match Nat.beq n m with
    | true => (m, o) :: r
    | false => (m, u) :: setN n o r
def MH.set (h : MH) (n : Nat) (o : O) : MH := ⟨h.nx, setN n o h.l⟩
def delN (n : Nat) : List (Nat × O) → List (Nat × O)
  | [] => []
  | (m, u) :: r => match Nat.beq n m with
    | true => delN n r
    | false => (m, u) :: delN n r
def MH.del (h : MH) (n : Nat) : MH := ⟨h.nx, delN n h.l⟩
def MH.new (h : MH) (o : O) : MH := ⟨h.nx + 1, (h.nx, o) :: h.l⟩

theorem lookN_set_same {n : Nat} {o u : O} : ∀ {l : List (Nat × O)}, lookN n l = some u → lookN n (setN n o l) = some o
  | (m, x) :: r, e => by
    unfold lookN at e
    unfold setN
    cases q : Nat.beq n m with
    | true => simp only [lookN, q]
    | false =>
      rw [q] at e
      simp only [lookN, q]
      exact lookN_set_same e
theorem lookN_set_other {n k : Nat} {o : O} (h : k ≠ n) : ∀ {l : List (Nat × O)}, lookN k (setN n o l) = lookN k l
  | [] => rfl
  | (m, x) :: r => by
    unfold setN
    cases q : Nat.beq n m with
    | true =>
      have e : n = m := Nat.eq_of_beq_eq_true q
      have e2 : Nat.beq k m = false := by
        cases z : Nat.beq k m with
        | false => rfl
        | true => exact absurd ((Nat.eq_of_beq_eq_true z).trans e.symm) h
      simp only [lookN, e2]
    | false =>
      simp only [lookN]
      cases Nat.beq k m with
      | true => rfl
      | false => exact lookN_set_other h
theorem lookN_del_same {n : Nat} : ∀ {l : List (Nat × O)}, lookN n (delN n l) = none
  | [] => rfl
  | (m, x) :: r => by
    unfold delN
    cases q : Nat.beq n m with
    | true => exact lookN_del_same
    | false => simp only [lookN, q]; exact lookN_del_same
theorem lookN_del_other {n k : Nat} (h : k ≠ n) : ∀ {l : List (Nat × O)}, lookN k (delN n l) = lookN k l
  | [] => rfl
  | (m, x) :: r => by
    unfold delN
    cases q : Nat.beq n m with
    | true =>
      have e : n = m := Nat.eq_of_beq_eq_true q
      have e2 : Nat.beq k m = false := by
        cases z : Nat.beq k m with
        | false => rfl
        | true => exact absurd ((Nat.eq_of_beq_eq_true z).trans e.symm) h
      simp only [lookN, e2]
      exact lookN_del_other h
    | false =>
      simp only [lookN]
      cases Nat.beq k m with
      | true => rfl
      | false => exact lookN_del_other h

/-- an exception: its class, its own attributes -/
structure Xc where
  c : Nat
  fs : Option (List Str × List W)

inductive R (α : Type) where
  | ok (a : α) (h : MH)
  | exc (x : Xc) (h : MH)
  | stuck

/-! ### what a tree stands for -/
/-- what stays through a whole law: the program, the world, the written part, where classes stand -/
structure Kt where
  P : Program
  w : World
  K : PySem.W.Frag
  adr : Nat → Addr
/-- where the little heap's things stand -/
structure Tie where
  ρ : Nat → Option Addr
  nx : Nat
  /-- things that are being made (a comprehension's list) -/
  hid : List Addr
structure Fz (T : Tie) (a : Addr) : Prop where
  own : ∀ n, T.ρ n ≠ some a
  hid : a ∉ T.hid
def exact (o : Obj) (a : Addr) : HO := .ext fun h => h.get? a = some o
def tyName : Nat → String
  | 0 => "int"
  | 1 => "str"
  | 2 => "bool"
  | 3 => "tuple"
  | 4 => "list"
  | 5 => "dict"
  | 6 => "NoneType"
  | 7 => "type"
  | _ => "object"
def valsO (d : Addr) : Obj := { cls := .type "dict_values", data := .fields #[.ref d] }
inductive Ents : List DictEntry → List V → List V → List Int → Prop
  | nil : Ents [] [] [] []
  | cons {e : DictEntry} {es k ks v vs i is} : RelV k e.key → RelV v e.val → e.hash = i → Ents es ks vs is → Ents (e :: es) (k :: ks) (v :: vs) (i :: is)
/-- the object o is a dict with the keys kv, the values vv, the keys' hashes hs -/
def DictO (o : Obj) (kv vv : List V) (hs : List Int) : Prop := o.ExactDict ∧ ∃ es ep, o.data = .dict es ep ∧ Ents es.toList kv vv hs
mutual
/-- a key, as the library tells keys -/
def nkW : W → Option NestedKey
  | .non => some NestedKey.none
  | .bl b => some (.num (if b then 1 else 0))
  | .int i => some (.num i)
  | .str s => some (.text s)
  | .tup ws => (nkWs ws).map NestedKey.tup
  | _ => none
def nkWs : List W → Option (List NestedKey)
  | [] => some []
  | x :: r => match nkW x, nkWs r with
    | some a, some b => some (a :: b)
    | _, _ => none
end
/-- a key: an int or a text; a tuple -/
def kS : W → Option Key
  | .int i => some (.inl i)
  | .str s => some (.inr s)
  | _ => none
def kT : W → Option NestedKey
  | .tup ws => match nkWs ws with
    | some ks => match Nat.ble (NestedKey.tup ks).depth 8 with
      | true => some (.tup ks)
      | false => none
    | none => none
  | _ => none
def KeysOk (ks : List W) : Prop := ks.length ≤ sizeLine ∧ ((∃ kl : List Key, ks.map kS = kl.map some ∧ kl.Nodup) ∨ ∃ kl : List NestedKey, ks.map kT = kl.map some ∧ kl.Nodup)
def hashW (w : World) (x : W) : Int := match x with
  | .int i => hashInt i
  | .str s => hashStr w s
  | x => match nkW x with
    | some k => k.hash w
    | none => 0
/-- a list within the written part -/
def SqK (K : PySem.W.Frag) (a : Addr) (xs : List V) : Prop := ∃ (o : Obj) (its : Array Value) (n : Nat), K.lookup a = some o ∧ o.cls = .type "list" ∧ o.dict = none ∧ o.data = .seq its n ∧ its.size ≤ sizeLine ∧ Vals xs its.toList
/-- the empty tuple within the written part -/
def K0 (K : PySem.W.Frag) (a : Addr) : Prop := ∃ (o : Obj) (n : Nat), K.lookup a = some o ∧ o.cls = .type "tuple" ∧ o.data = .seq #[] n
variable (G : Kt)
mutual
def Rep (T : Tie) (H : Hp) : W → V → Prop
  | .non, v => v = .non
  | .bl b, v => v = .bl b
  | .int i, v => v = .int i
  | .str s, v => v = .str s
  | .tup ws, v => ∃ a vs, v = .ref a ∧ Fz T a ∧ H a = some (.tup vs) ∧ Reps T H ws vs
  | .lst ws, v => ∃ a vs, v = .ref a ∧ Fz T a ∧ H a = some (.lst vs) ∧ Reps T H ws vs
  | .dct ks vs, v => ∃ a o kv vv, v = .ref a ∧ Fz T a ∧ (a == sysModules) = false ∧ KeysOk ks ∧ H a = some (exact o a) ∧ DictO o kv vv (ks.map (hashW G.w)) ∧ Reps T H ks kv ∧ Reps T H vs vv
  | .ins c fn fv, v => ∃ a dx vv, v = .ref a ∧ Fz T a ∧ Fz T dx ∧ H a = some (.ins (G.adr c) dx (fn.zip vv)) ∧ H dx = some (.own a) ∧ fn.length = vv.length ∧ Reps T H fv vv
  | .ref n, v => n < T.nx ∧ ∀ a, T.ρ n = some a → v = .ref a
  | .ty n, v => v = .ty (tyName n)
  | .cl c, v => v = .ref (G.adr c)
  | .scr ns, v => ∃ a, v = .ref a ∧ ((Fz T a ∧ Rd H a (.lst (ns.map V.int))) ∨ SqK G.K a (ns.map V.int))
  | .kt0, v => ∃ a, v = .ref a ∧ K0 G.K a
  | .dvs ks vs, v => ∃ b a o kv vv, v = .ref b ∧ Fz T b ∧ H b = some (exact (valsO a) b) ∧ Fz T a ∧ (a == sysModules) = false ∧ KeysOk ks ∧ H a = some (exact o a) ∧ DictO o kv vv (ks.map (hashW G.w)) ∧ Reps T H ks kv ∧ Reps T H vs vv
def Reps (T : Tie) (H : Hp) : List W → List V → Prop
  | [], vs => vs = []
  | x :: r, vs => ∃ v s, vs = v :: s ∧ Rep T H x v ∧ Reps T H r s
end
def RepO (T : Tie) (H : Hp) : O → Addr → Prop
  | .lst ws, a => ∃ vs, H a = some (.lst vs) ∧ Reps G T H ws vs
  | .dct ks vs, a => ∃ o kv vv, (a == sysModules) = false ∧ KeysOk ks ∧ H a = some (exact o a) ∧ DictO o kv vv (ks.map (hashW G.w)) ∧ Reps G T H ks kv ∧ Reps G T H vs vv
  | .ins c fn fv, a => ∃ dx vv, Fz T dx ∧ H a = some (.ins (G.adr c) dx (fn.zip vv)) ∧ H dx = some (.own a) ∧ fn.length = vv.length ∧ Reps G T H fv vv

/-- a tie as it must be -/
structure Tie.Ok (T : Tie) (H : Hp) : Prop where
  lt : ∀ m a, T.ρ m = some a → m < T.nx
  inj : ∀ m n a, T.ρ m = some a → T.ρ n = some a → m = n
  there : ∀ n a, T.ρ n = some a → H a ≠ none
  hid : ∀ n a, T.ρ n = some a → a ∉ T.hid
  hidT : ∀ a, a ∈ T.hid → H a ≠ none

/-- a later tie, a later heap: what is frozen stays -/
structure Ex (T T' : Tie) (H H' : Hp) : Prop where
  nx : T.nx ≤ T'.nx
  old : ∀ m, m < T.nx → T'.ρ m = T.ρ m ∨ T'.ρ m = none
  new : ∀ m a, T.nx ≤ m → T'.ρ m = some a → H a = none
  fz : ∀ a o, H a = some o → Fz T a → H' a = some o
  there : ∀ a, H a ≠ none → H' a ≠ none
  hid : ∀ a, a ∈ T.hid → a ∈ T'.hid
  hidN : ∀ a, a ∈ T'.hid → a ∈ T.hid ∨ H a = none
  hidS : ∀ a, a ∈ T.hid → H' a = H a

theorem Ex.rfl' {T : Tie} {H : Hp} (h : T.Ok H) : Ex T T H H :=
  ⟨Nat.le_refl _, fun _ _ => .inl rfl, fun m a hm e => absurd (h.lt m a e) (by omega), fun _ _ e _ => e, fun _ e => e, fun _ e => e, fun _ e => .inl e, fun _ _ => rfl⟩
theorem Ex.fzOf {T T' : Tie} {H H' : Hp} (x : Ex T T' H H') {a : Addr} (h : Fz T a) (t : H a ≠ none) : Fz T' a := ⟨fun m e => by
  by_cases hm : m < T.nx
  · rcases x.old m hm with q | q
    · rw [q] at e; exact h.own m e
    · rw [q] at e; cases e
  · exact t (x.new m a (by omega) e), fun hm => (x.hidN a hm).elim h.hid t⟩
theorem Ex.trans {T T1 T2 : Tie} {H H1 H2 : Hp} (x : Ex T T1 H H1) (y : Ex T1 T2 H1 H2) : Ex T T2 H H2 where
  nx := Nat.le_trans x.nx y.nx
  old := fun m hm => by
    rcases y.old m (Nat.lt_of_lt_of_le hm x.nx) with q | q
    · rw [q]; exact x.old m hm
    · exact .inr q
  new := fun m a hm e => by
    by_cases h1 : m < T1.nx
    · rcases y.old m h1 with q | q
      · exact x.new m a hm (by rw [← q]; exact e)
      · rw [q] at e; cases e
    · have z := y.new m a (by omega) e
      cases q : H a with
      | none => rfl
      | some o => exact absurd z (x.there a (by rw [q]; simp))
  fz := fun a o e f => y.fz a o (x.fz a o e f) (x.fzOf f (by rw [e]; simp))
  there := fun a h => y.there a (x.there a h)
  hid := fun a h => y.hid a (x.hid a h)
  hidN := fun a h => by
    rcases y.hidN a h with q | q
    · exact x.hidN a q
    · refine .inr ?_
      cases e : H a with
      | none => rfl
      | some o => exact absurd q (x.there a (by rw [e]; simp))
  hidS := fun a h => (y.hidS a (x.hid a h)).trans (x.hidS a h)


section
variable {G} {T T' : Tie} {H H' : Hp}
mutual
theorem rep_ex (x : Ex T T' H H')  : ∀ (w : W) (v : V), Rep G T H w v → Rep G T' H' w v
  | .non, v, h => h
  | .bl _, v, h => h
  | .int _, v, h => h
  | .str _, v, h => h
  | .tup ws, v, h => by
    unfold Rep at h ⊢
    obtain ⟨a, vs, e, f, q, r⟩ := h
    exact ⟨a, vs, e, x.fzOf f (by rw [q]; simp), x.fz _ _ q f, reps_ex x ws vs r⟩
  | .lst ws, v, h => by
    unfold Rep at h ⊢
    obtain ⟨a, vs, e, f, q, r⟩ := h
    exact ⟨a, vs, e, x.fzOf f (by rw [q]; simp), x.fz _ _ q f, reps_ex x ws vs r⟩
  | .dct ks vs, v, h => by
    unfold Rep at h ⊢
    obtain ⟨a, o, kv, vv, e, f, sm, ko, q, d, r1, r2⟩ := h
    exact ⟨a, o, kv, vv, e, x.fzOf f (by rw [q]; simp), sm, ko, x.fz a _ q f, d, reps_ex x ks kv r1, reps_ex x vs vv r2⟩
  | .ins c fn fv, v, h => by
    unfold Rep at h ⊢
    obtain ⟨a, dx, vv, e, f, f2, q, q2, l, r⟩ := h
    exact ⟨a, dx, vv, e, x.fzOf f (by rw [q]; simp), x.fzOf f2 (by rw [q2]; simp), x.fz a _ q f, x.fz dx _ q2 f2, l, reps_ex x fv vv r⟩
  | .ref n, v, h => by
    unfold Rep at h ⊢
    refine ⟨Nat.lt_of_lt_of_le h.1 x.nx, fun a e => ?_⟩
    rcases x.old n h.1 with q | q
    · exact h.2 a (by rw [← q]; exact e)
    · rw [q] at e; cases e
  | .ty _, v, h => by unfold Rep at h ⊢; exact h
  | .cl _, v, h => by unfold Rep at h ⊢; exact h
  | .kt0, v, h => by unfold Rep at h ⊢; exact h
  | .scr ns, v, h => by
    unfold Rep at h ⊢
    obtain ⟨a, e, q⟩ := h
    refine ⟨a, e, q.imp (fun q => ?_) id⟩
    obtain ⟨f, r⟩ := q
    rcases r with r | ⟨o, r⟩
    · exact ⟨x.fzOf f (by rw [r]; simp), .inl (x.fz _ _ r f)⟩
    · exact ⟨x.fzOf f (by rw [r]; simp), .inr ⟨o, x.fz _ _ r f⟩⟩
  | .dvs ks vs, v, h => by
    unfold Rep at h ⊢
    obtain ⟨b, a, o, kv, vv, e, fb, qb, f, sm, ko, q, d, r1, r2⟩ := h
    exact ⟨b, a, o, kv, vv, e, x.fzOf fb (by rw [qb]; simp), x.fz b _ qb fb, x.fzOf f (by rw [q]; simp), sm, ko, x.fz a _ q f, d, reps_ex x ks kv r1, reps_ex x vs vv r2⟩
theorem reps_ex (x : Ex T T' H H')  : ∀ (w : List W) (v : List V), Reps G T H w v → Reps G T' H' w v
  | [], v, h => h
  | y :: r, v, h => by
    unfold Reps at h ⊢
    obtain ⟨u, s, e, h1, h2⟩ := h
    exact ⟨u, s, e, rep_ex x y u h1, reps_ex x r s h2⟩
end
/-! ### lists of values -/
theorem Reps.length : ∀ {ws : List W} {vs : List V}, Reps G T H ws vs → ws.length = vs.length
  | [], vs, h => by unfold Reps at h; rw [h]; rfl
  | _ :: r, vs, h => by
    unfold Reps at h
    obtain ⟨u, s, e, _, h2⟩ := h
    rw [e, List.length_cons, List.length_cons, Reps.length h2]
theorem Reps.nil : Reps G T H [] [] := by unfold Reps; rfl
theorem Reps.cons {w : W} {ws : List W} {v : V} {vs : List V} (h : Rep G T H w v) (t : Reps G T H ws vs) : Reps G T H (w :: ws) (v :: vs) := by
  unfold Reps; exact ⟨v, vs, rfl, h, t⟩
theorem Reps.get : ∀ {ws : List W} {vs : List V} {i : Nat} {w : W}, Reps G T H ws vs → ws[i]? = some w → ∃ v, vs[i]? = some v ∧ Rep G T H w v
  | [], _, i, w, _, e => by simp at e
  | y :: r, vs, 0, w, h, e => by
    unfold Reps at h
    obtain ⟨u, s, rfl, h1, _⟩ := h
    simp at e; subst e
    exact ⟨u, rfl, h1⟩
  | y :: r, vs, i + 1, w, h, e => by
    unfold Reps at h
    obtain ⟨u, s, rfl, _, h2⟩ := h
    obtain ⟨v, e2, q⟩ := Reps.get (i := i) h2 (by simpa using e)
    exact ⟨v, by simpa using e2, q⟩
theorem Reps.append : ∀ {ws ws' : List W} {vs vs' : List V}, Reps G T H ws vs → Reps G T H ws' vs' → Reps G T H (ws ++ ws') (vs ++ vs')
  | [], ws', vs, vs', h, t => by unfold Reps at h; subst h; exact t
  | y :: r, ws', vs, vs', h, t => by
    unfold Reps at h
    obtain ⟨u, s, rfl, h1, h2⟩ := h
    exact Reps.cons h1 (Reps.append h2 t)
theorem Reps.take (n : Nat) : ∀ {ws : List W} {vs : List V}, Reps G T H ws vs → Reps G T H (ws.take n) (vs.take n) := by
  induction n with
  | zero => intro ws vs _; simpa using Reps.nil
  | succ n ih =>
    intro ws vs h
    cases ws with
    | nil => unfold Reps at h; subst h; simpa using Reps.nil
    | cons y r =>
      unfold Reps at h
      obtain ⟨u, s, rfl, h1, h2⟩ := h
      exact Reps.cons h1 (ih h2)
theorem Reps.drop (n : Nat) : ∀ {ws : List W} {vs : List V}, Reps G T H ws vs → Reps G T H (ws.drop n) (vs.drop n) := by
  induction n with
  | zero => intro ws vs h; exact h
  | succ n ih =>
    intro ws vs h
    cases ws with
    | nil => unfold Reps at h; subst h; simpa using Reps.nil
    | cons y r =>
      unfold Reps at h
      obtain ⟨u, s, rfl, h1, h2⟩ := h
      exact ih h2
end
end Mi

end
section
namespace Mi
open PySem PySem.Spec PyProof.Rows L2
abbrev Sl := L2.St

def nth : List (Option W) → Nat → Option W
  | [], _ => none
  | x :: _, 0 => x
  | _ :: r, n + 1 => nth r n
def put : List (Option W) → Nat → W → List (Option W)
  | [], _, _ => []
  | _ :: r, 0, w => some w :: r
  | x :: r, n + 1, w => x :: put r n w
theorem nth_put_same : ∀ {l : List (Option W)} {i : Nat} {w u : W}, nth (put l i w) i = some u → u = w
  | [], i, w, u, h => by unfold put nth at h; cases h
  | x :: r, 0, w, u, h => by unfold put nth at h; exact (Option.some.inj h).symm
  | x :: r, i + 1, w, u, h => by unfold put nth at h; exact nth_put_same h
theorem nth_put_other : ∀ {l : List (Option W)} {i j : Nat} {w : W}, j ≠ i → nth (put l i w) j = nth l j
  | [], i, j, w, h => by unfold put; rfl
  | x :: r, 0, 0, w, h => absurd rfl h
  | x :: r, 0, j + 1, w, h => by unfold put nth; rfl
  | x :: r, i + 1, 0, w, h => by unfold put nth; rfl
  | x :: r, i + 1, j + 1, w, h => by unfold put nth; exact nth_put_other (by omega)
def wipeM (l : List (Option W)) : List Nat → List (Option W)
  | [] => l
  | i :: r => (wipeM l r).set i none

abbrev Me := List (Option W)
def R.bind {α β : Type} (r : R α) (f : α → MH → R β) : R β := match r with
  | .ok a h => f a h
  | .exc x h => .exc x h
  | .stuck => .stuck
def ofO {α : Type} (o : Option α) (h : MH) : R α := match o with
  | some a => .ok a h
  | none => .stuck
abbrev EM := Me → MH → R W
abbrev AM := Me → MH → R (List W)

variable (G : Kt)
structure Hrel (T : Tie) (h : MH) (H : Hp) : Prop where
  ok : T.Ok H
  nx : T.nx = h.nx
  obj : ∀ n o, h.get n = some o → ∃ a, T.ρ n = some a ∧ RepO G T H o a
def Erel (T : Tie) (me : Me) (σ : Sl) (H : Hp) : Prop := me.length = σ.length ∧ ∀ i w, nth me i = some w → ∃ v, σ[i]? = some (some v) ∧ Rep G T H w v
def XcIs (T : Tie) (H : Hp) (x : Xc) (cls : Value) (d : Option Addr) : Prop := cls = .ref (G.adr x.c) ∧ match x.fs, d with
  | none, none => True
  | some (fn, fv), some d => ∃ vv, H d = some (.xd (fn.zip vv)) ∧ Fz T d ∧ fn.length = vv.length ∧ Reps G T H fv vv
  | _, _ => False
/-- what a computation leaves -/
def Res {α β : Type} (rp : Tie → Hp → α → β → Prop) (Y : WX) (T : Tie) (H : Hp) (σ : Sl) (r : R α) (Q : β → Hp → Prop) : Prop := match r with
  | .ok w h' => ∀ T' H' v, Hrel G T' h' H' → Ex T T' H H' → rp T' H' w v → Q v H'
  | .exc x h' => ∀ T' H' cls d, Hrel G T' h' H' → Ex T T' H H' → XcIs G T' H' x cls d → Y cls d σ H'
  | .stuck => False
abbrev ResV := Res G (Rep G)
abbrev ResL := Res G (Reps G)
/-- a test's truth -/
def RepB (_ : Tie) (_ : Hp) (w b : Bool) : Prop := w = b
abbrev ResB := Res G RepB
def asB (r : R W) : R Bool := r.bind fun w h => match w with
  | .bl b => .ok b h
  | _ => .stuck
/-- the readings -/
def rdE (Y : WX) (m : EM) : TE := fun σ H Q => ∃ T me h, Hrel G T h H ∧ Erel G T me σ H ∧ ResV G Y T H σ (m me h) Q
def rdA (Y : WX) (m : AM) : TA := fun σ H Q => ∃ T me h, Hrel G T h H ∧ Erel G T me σ H ∧ ResL G Y T H σ (m me h) Q
def rdT (Y : WX) (m : EM) : TT := fun σ H Q => ∃ T me h, Hrel G T h H ∧ Erel G T me σ H ∧ ResB G Y T H σ (asB (m me h)) Q

variable {G}
section
variable {T T1 : Tie} {H H1 : Hp} {me : Me} {σ : Sl} {h h1 : MH} {Y : WX}
theorem Erel.ex (e : Erel G T me σ H) (x : Ex T T1 H H1) : Erel G T1 me σ H1 := ⟨e.1, fun i w q =>
  let ⟨v, e1, r⟩ := e.2 i w q
  ⟨v, e1, rep_ex x w v r⟩⟩
theorem Res.ex {α β : Type} {rp : Tie → Hp → α → β → Prop} {r : R α} {Q : β → Hp → Prop} (q : Res G rp Y T H σ r Q) (x : Ex T T1 H H1) : Res G rp Y T1 H1 σ r Q := by
  cases r with
  | ok w h' => exact fun T' H' v hr x' rp => q T' H' v hr (x.trans x') rp
  | exc e h' => exact fun T' H' c d hr x' rp => q T' H' c d hr (x.trans x') rp
  | stuck => exact q
theorem Res.bind {α β γ δ : Type} {rp : Tie → Hp → α → β → Prop} {rq : Tie → Hp → γ → δ → Prop} {r : R α} {f : α → MH → R γ} {Q : δ → Hp → Prop} {Q' : β → Hp → Prop} (q : Res G rq Y T H σ (r.bind f) Q)
    (k : ∀ w h1, r = .ok w h1 → ∀ T1 H1 v, Hrel G T1 h1 H1 → Ex T T1 H H1 → rp T1 H1 w v → Res G rq Y T1 H1 σ (f w h1) Q → Q' v H1) : Res G rp Y T H σ r Q' := by
  cases r with
  | ok w h' => exact fun T' H' v hr x' rp => k w h' rfl T' H' v hr x' rp (Res.ex q x')
  | exc e h' => exact q
  | stuck => exact q
theorem Res.imp {α β : Type} {rp : Tie → Hp → α → β → Prop} {r : R α} {Q Q' : β → Hp → Prop} (q : Res G rp Y T H σ r Q) (k : ∀ v H', Q v H' → Q' v H') : Res G rp Y T H σ r Q' := by
  cases r with
  | ok w h' => exact fun T' H' v hr x' rp => k _ _ (q T' H' v hr x' rp)
  | exc e h' => exact q
  | stuck => exact q
end

/-! ### a heap that grew -/
def Grow (H H' : Hp) : Prop := ∀ a o, H a = some o → H' a = some o
theorem Grow.laid {H : Hp} {p : Addr} {o : HO} (hp : H p = none) : Grow H (upd H p o) := fun a u e => by rw [upd_ne (ne_of_none e hp)]; exact e
theorem Ex.grow {T : Tie} {H H' : Hp} (ok : T.Ok H) (g : Grow H H') : Ex T T H H' :=
  ⟨Nat.le_refl _, fun _ _ => .inl rfl, fun m a hm e => absurd (ok.lt m a e) (by omega), fun a o e _ => g a o e, fun a e => by
    cases q : H a with
    | none => exact absurd q e
    | some o => rw [g a o q]; simp, fun _ e => e, fun _ e => .inl e, fun a h => by
    cases q : H a with
    | none => exact absurd q (ok.hidT a h)
    | some o => exact g a o q⟩
theorem Tie.Ok.grow {T : Tie} {H H' : Hp} (ok : T.Ok H) (g : Grow H H') : T.Ok H' :=
  ⟨ok.lt, ok.inj, fun n a e => by
    cases q : H a with
    | none => exact absurd q (ok.there n a e)
    | some o => rw [g a o q]; simp, ok.hid, fun a e => by
    cases q : H a with
    | none => exact absurd q (ok.hidT a e)
    | some o => rw [g a o q]; simp⟩
theorem RepO.grow {T : Tie} {H H' : Hp} (ok : T.Ok H) (g : Grow H H') {o : O} {a : Addr} (r : RepO G T H o a) : RepO G T H' o a := by
  have x := Ex.grow ok g
  cases o with
  | lst ws => obtain ⟨vs, e, r⟩ := r; exact ⟨vs, g _ _ e, reps_ex x _ _ r⟩
  | dct ks vs => obtain ⟨o, kv, vv, sm, ko, e, d, r1, r2⟩ := r; exact ⟨o, kv, vv, sm, ko, g _ _ e, d, reps_ex x _ _ r1, reps_ex x _ _ r2⟩
  | ins c fn fv => obtain ⟨dx, vv, f, e, e2, l, r⟩ := r; exact ⟨dx, vv, f, g _ _ e, g _ _ e2, l, reps_ex x _ _ r⟩
theorem Hrel.grow {T : Tie} {h : MH} {H H' : Hp} (hr : Hrel G T h H) (g : Grow H H') : Hrel G T h H' :=
  ⟨hr.ok.grow g, hr.nx, fun n o e => let ⟨a, e1, r⟩ := hr.obj n o e; ⟨a, e1, r.grow hr.ok g⟩⟩
/-- what is new stands apart from the little heap's things -/
theorem Tie.Ok.fresh {T : Tie} {H : Hp} (ok : T.Ok H) {p : Addr} (hp : H p = none) : Fz T p := ⟨fun n e => ok.there n p e hp, fun e => ok.hidT p e hp⟩

/-! ### judgements -/
variable {X : Cx} {adr : Nat → Addr} {Y : WX}
abbrev kt (X : Cx) (adr : Nat → Addr) : Kt := ⟨X.prog, X.w, X.K, adr⟩
def ME (X : Cx) (adr : Nat → Addr) (Y : WX) (e : Expr) (m : EM) : Prop := PE X e (rdE (kt X adr) Y m)
def MA (X : Cx) (adr : Nat → Addr) (Y : WX) (es : List Expr) (m : AM) : Prop := PA X es (rdA (kt X adr) Y m)
/-- a test -/
def MT (X : Cx) (adr : Nat → Addr) (Y : WX) (e : Expr) (m : EM) : Prop := PT X e (rdT (kt X adr) Y m)
/-- within and, or -/
def MW (X : Cx) (adr : Nat → Addr) (Y : WX) (e : Expr) (m : EM) : Prop := PW X e (rdT (kt X adr) Y m)
theorem pe_imp {e : Expr} {t u : TE} (h : PE X e t) (i : ∀ σ H Q, u σ H Q → t σ H Q) : PE X e u := ⟨fun pins s σ H Q I q => h.run pins s σ H Q I (i σ H Q q)⟩
theorem pt_imp {e : Expr} {t u : TT} (h : PT X e t) (i : ∀ σ H Q, u σ H Q → t σ H Q) : PT X e u := ⟨fun pins s σ H Q I q => h.run pins s σ H Q I (i σ H Q q)⟩
theorem pw_imp {e : Expr} {t u : TT} (h : PW X e t) (i : ∀ σ H Q, u σ H Q → t σ H Q) : PW X e u := ⟨fun wh pins s σ H Q I q => h.run wh pins s σ H Q I (i σ H Q q)⟩
theorem pa_imp {es : List Expr} {t u : TA} (h : PA X es t) (i : ∀ σ H Q, u σ H Q → t σ H Q) : PA X es u := ⟨fun p pins s σ H Q I q => h.run p pins s σ H Q I (i σ H Q q)⟩
theorem MW.mt {e : Expr} {m : EM} (h : MW X adr Y e m) : MT X adr Y e m := PW.pt h

/-! ### names and constants -/
def mV (i : Nat) : EM := fun me h => ofO (nth me i) h
def mC (w : W) : EM := fun _ h => .ok w h
section
variable {x : Str} {pos : Pos} {i : Nat}
theorem me_var (hN : X.N[i]? = some x) (hv : Vis X.env.scope x) (hd : (x == ("__debug__" : Str)) = false) (hcd : (x == ("__classdict__" : Str)) = false) : ME X adr Y (.Name x pos) (mV i) := by
  refine pe_imp (pe_var hN hv hd hcd) fun σ H Q q => ?_
  obtain ⟨T, me, h, hr, he, q⟩ := q
  unfold mV at q
  cases e : nth me i with
  | none => rw [e] at q; exact q.elim
  | some w =>
    rw [e] at q
    obtain ⟨v, e1, rp⟩ := he.2 i w e
    exact ⟨v, e1, q T H v hr (Ex.rfl' hr.ok) rp⟩
theorem me_const {e : Expr} {w : W} {v : V} (h : PE X e (tC v)) (rp : ∀ T H, Rep (kt X adr) T H w v) : ME X adr Y e (mC w) := by
  refine pe_imp h fun σ H Q q => ?_
  obtain ⟨T, me, h, hr, he, q⟩ := q
  exact q T H v hr (Ex.rfl' hr.ok) (rp T H)
theorem me_int {i : Int} {j} : ME X adr Y (.Constant (.int i) j pos) (mC (.int i)) := me_const pe_int fun T H => by unfold Rep; rfl
theorem me_bl {b : Bool} {j} : ME X adr Y (.Constant (.bool b) j pos) (mC (.bl b)) := me_const pe_bl fun T H => by unfold Rep; rfl
theorem me_non {j} : ME X adr Y (.Constant .none j pos) (mC .non) := me_const pe_non fun T H => by unfold Rep; rfl
theorem me_str {z : Str} {j} : ME X adr Y (.Constant (.str z) j pos) (mC (.str z)) := me_const pe_str fun T H => by unfold Rep; rfl
/-- a constant of the module: an int, a text -/
theorem me_globI {i : Int} (hg : Gl X x) (hm : ∃ t, X.mg x = some (.int i t)) (hd : (x == ("__debug__" : Str)) = false) : ME X adr Y (.Name x pos) (mC (.int i)) := by
  obtain ⟨t, hm⟩ := hm
  exact me_const (v := .int i) (pe_glob hg hm ⟨t, rfl⟩ hd) fun T H => by unfold Rep; rfl
theorem me_globS {z : Str} (hg : Gl X x) (hm : ∃ t, X.mg x = some (.str z t)) (hd : (x == ("__debug__" : Str)) = false) : ME X adr Y (.Name x pos) (mC (.str z)) := by
  obtain ⟨t, hm⟩ := hm
  exact me_const (v := .str z) (pe_glob hg hm ⟨t, rfl⟩ hd) fun T H => by unfold Rep; rfl
end

/-! ### two-place operations by values -/
abbrev F2 := W → W → MH → Option W
/-- the rule r of a two-place operation is f -/
def Op2 (G : Kt) (r : R2) (f : F2) : Prop := ∀ T h H w1 w2 v1 v2, Hrel G T h H → Rep G T H w1 v1 → Rep G T H w2 v2 → ∀ w, f w1 w2 h = some w →
  ∀ Q : VK, (∀ T' H' v, Hrel G T' h H' → Ex T T' H H' → Rep G T' H' w v → Q v H') → r v1 v2 H Q
def mBin (f : F2) (a b : EM) : EM := fun me h => (a me h).bind fun x h1 => (b me h1).bind fun y h2 => ofO (f x y h2) h2
section
variable {a b : Expr} {ma mb : EM} {pos : Pos} {r : R2} {f : F2}
theorem rd_op (hf : Op2 (kt X adr) r f) : ∀ σ H Q, rdE (kt X adr) Y (mBin f ma mb) σ H Q → tOp r (rdE (kt X adr) Y ma) (rdE (kt X adr) Y mb) σ H Q := by
  intro σ H Q q
  obtain ⟨T, me, h, hr, he, q⟩ := q
  refine ⟨T, me, h, hr, he, Res.bind q fun w1 h1 _ T1 H1 v1 hr1 x1 rp1 q1 => ?_⟩
  refine ⟨T1, me, h1, hr1, he.ex x1, Res.bind q1 fun w2 h2 _ T2 H2 v2 hr2 x2 rp2 q2 => ?_⟩
  cases e : f w1 w2 h2 with
  | none => rw [e] at q2; exact q2.elim
  | some w =>
    rw [e] at q2
    exact hf T2 h2 H2 w1 w2 v1 v2 hr2 (rep_ex x2 _ _ rp1) rp2 w e Q q2
theorem me_bin {op : Operator} (ho : OpR X (binaryOp op) r) (hf : Op2 (kt X adr) r f) (ha : ME X adr Y a ma) (hb : ME X adr Y b mb) : ME X adr Y (.BinOp a op b pos) (mBin f ma mb) :=
  pe_imp (pe_op ho ha hb) (rd_op hf)
theorem me_cmp {op : CmpOp} (ho : OpR X (compareOp op) r) (hf : Op2 (kt X adr) r f) (ha : ME X adr Y a ma) (hb : ME X adr Y b mb) (hm : behindInMarks op b = false) : ME X adr Y (.Compare a [op] [b] pos) (mBin f ma mb) :=
  pe_imp (pe_cmpR ho ha hb hm) (rd_op hf)
/-- a reading as a test -/
theorem rd_test {m : EM} : ∀ σ H Q, rdT G Y m σ H Q → tTest (rdE G Y m) σ H Q := by
  intro σ H Q q
  obtain ⟨T, me, h, hr, he, q⟩ := q
  refine ⟨T, me, h, hr, he, Res.bind q fun w h1 _ T1 H1 v1 hr1 x1 rp1 q1 => ?_⟩
  cases w with
  | bl k =>
    unfold Rep at rp1
    exact ⟨k, rp1, q1 T1 H1 k hr1 (Ex.rfl' hr1.ok) rfl⟩
  | _ => exact q1.elim
theorem mt_cmp {op : CmpOp} (ho : OpR X (compareOp op) r) (hf : Op2 (kt X adr) r f) (ha : ME X adr Y a ma) (hb : ME X adr Y b mb) (hm : behindInMarks op b = false) : MT X adr Y (.Compare a [op] [b] pos) (mBin f ma mb) :=
  pt_imp (pt_cmpR ho ha hb hm) fun σ H Q q => by
    have z := rd_test σ H Q q
    exact rd_op (Y := Y) hf σ H _ z
/-- an expression that is its value's truth -/
theorem mt_val {m : EM} (ha : ME X adr Y a m) (he : ∀ whole, isTrue a X.env whole = (do let v ← whole; standAt a.pos; holding [v] (truthy v))) : MT X adr Y a m :=
  pt_imp (pt_val ha he) fun σ H Q q => rd_test σ H Q q
/-! ### and, or, not, if else -/
def mAnd (a b : EM) : EM := fun me h => (a me h).bind fun x h1 => match x with
  | .bl true => b me h1
  | .bl false => .ok (.bl false) h1
  | _ => .stuck
def mOr (a b : EM) : EM := fun me h => (a me h).bind fun x h1 => match x with
  | .bl true => .ok (.bl true) h1
  | .bl false => b me h1
  | _ => .stuck
def mNot (a : EM) : EM := fun me h => (a me h).bind fun x h1 => match x with
  | .bl k => .ok (.bl (!k)) h1
  | _ => .stuck
def mIf (t a b : EM) : EM := fun me h => (t me h).bind fun x h1 => match x with
  | .bl true => a me h1
  | .bl false => b me h1
  | _ => .stuck
theorem R.bind_bind {α β γ : Type} (r : R α) (f : α → MH → R β) (g : β → MH → R γ) : (r.bind f).bind g = r.bind fun a h => (f a h).bind g := by cases r <;> rfl
theorem asB_bind {α : Type} (r : R α) (f : α → MH → R W) : asB (r.bind f) = r.bind fun a h => asB (f a h) := R.bind_bind _ _ _
/-- a test, then -/
theorem Res.bindB {α β : Type} {rq : Tie → Hp → α → β → Prop} {T : Tie} {H : Hp} {σ : Sl} {r : R W} {f : W → MH → R α} {Q : β → Hp → Prop} {Q' : Bool → Hp → Prop} (q : Res G rq Y T H σ (r.bind f) Q) (hf : ∀ w h, (∀ b, w ≠ .bl b) → f w h = .stuck)
    (k : ∀ b h1, r = .ok (.bl b) h1 → ∀ T1 H1, Hrel G T1 h1 H1 → Ex T T1 H H1 → Res G rq Y T1 H1 σ (f (.bl b) h1) Q → Q' b H1) : ResB G Y T H σ (asB r) Q' := by
  cases r with
  | ok w h' =>
    have q : Res G rq Y T H σ (f w h') Q := q
    cases w with
    | bl b =>
      intro T' H' v hr x' rp
      cases rp
      exact k b h' rfl T' H' hr x' (Res.ex q x')
    | _ =>
      rw [hf _ _ (fun b z => by cases z)] at q
      exact q.elim
  | exc e h' => exact q
  | stuck => exact q
variable {c : Expr} {mc : EM} {rest : List Expr}
theorem mw_and1 (ha : MT X adr Y a ma) : MW X adr Y (.BoolOp .And [a] pos) ma := pw_and1 ha
theorem mw_or1 (ha : MT X adr Y a ma) : MW X adr Y (.BoolOp .Or [a] pos) ma := pw_or1 ha
theorem mw_and (ha : MT X adr Y a ma) (hb : MW X adr Y (.BoolOp .And (b :: rest) pos) mb) : MW X adr Y (.BoolOp .And (a :: b :: rest) pos) (mAnd ma mb) := by
  refine pw_imp (pw_and ha hb) fun σ H Q q => ?_
  obtain ⟨T, me, h, hr, he, q⟩ := q
  refine ⟨T, me, h, hr, he, ?_⟩
  unfold mAnd at q
  rw [asB_bind] at q
  refine Res.bindB q (fun w h n => ?_) fun k h1 _ T1 H1 hr1 x1 q1 => ?_
  · cases w <;> first | rfl | exact absurd rfl (n _)
  · cases k with
    | true => exact ⟨T1, me, h1, hr1, he.ex x1, q1⟩
    | false => exact q1 T1 H1 false hr1 (Ex.rfl' hr1.ok) rfl
theorem mw_or (ha : MT X adr Y a ma) (hb : MW X adr Y (.BoolOp .Or (b :: rest) pos) mb) : MW X adr Y (.BoolOp .Or (a :: b :: rest) pos) (mOr ma mb) := by
  refine pw_imp (pw_or ha hb) fun σ H Q q => ?_
  obtain ⟨T, me, h, hr, he, q⟩ := q
  refine ⟨T, me, h, hr, he, ?_⟩
  unfold mOr at q
  rw [asB_bind] at q
  refine Res.bindB q (fun w h n => ?_) fun k h1 _ T1 H1 hr1 x1 q1 => ?_
  · cases w <;> first | rfl | exact absurd rfl (n _)
  · cases k with
    | true => exact q1 T1 H1 true hr1 (Ex.rfl' hr1.ok) rfl
    | false => exact ⟨T1, me, h1, hr1, he.ex x1, q1⟩
theorem mt_not (ha : MT X adr Y a ma) : MT X adr Y (.UnaryOp .Not a pos) (mNot ma) := by
  refine pt_imp (pt_not ha) fun σ H Q q => ?_
  obtain ⟨T, me, h, hr, he, q⟩ := q
  refine ⟨T, me, h, hr, he, ?_⟩
  unfold mNot at q
  rw [asB_bind] at q
  refine Res.bindB q (fun w h n => ?_) fun k h1 _ T1 H1 hr1 x1 q1 => ?_
  · cases w <;> first | rfl | exact absurd rfl (n _)
  · exact q1 T1 H1 (!k) hr1 (Ex.rfl' hr1.ok) rfl
theorem me_one {op} {m : EM} (h : ME X adr Y a m) : ME X adr Y (.BoolOp op [a] pos) m := pe_one h
/-- a reading whose value is a bool -/
theorem rd_bool {m : EM} {f : W → MH → R W} {T : Tie} {H : Hp} {σ : Sl} {h : MH} {me : Me} {Q : VK} {Q' : VK} (q : ResV G Y T H σ ((m me h).bind f) Q) (hf : ∀ w h, (∀ b, w ≠ .bl b) → f w h = .stuck)
    (k : ∀ b h1 T1 H1, Hrel G T1 h1 H1 → Ex T T1 H H1 → ResV G Y T1 H1 σ (f (.bl b) h1) Q → Q' (.bl b) H1) : ResV G Y T H σ (m me h) Q' :=
  Res.bind q fun w h1 _ T1 H1 v1 hr1 x1 rp1 q1 => by
    cases w with
    | bl b =>
      unfold Rep at rp1
      subst rp1
      exact k b h1 T1 H1 hr1 x1 q1
    | _ => rw [hf _ _ (fun b z => by cases z)] at q1; exact q1.elim
theorem me_and (ha : ME X adr Y a ma) (hb : ME X adr Y (.BoolOp .And (b :: rest) pos) mb) : ME X adr Y (.BoolOp .And (a :: b :: rest) pos) (mAnd ma mb) := by
  refine pe_imp (pe_and ha hb) fun σ H Q q => ?_
  obtain ⟨T, me, h, hr, he, q⟩ := q
  refine ⟨T, me, h, hr, he, rd_bool q (fun w h n => ?_) fun k h1 T1 H1 hr1 x1 q1 => ⟨k, rfl, ?_⟩⟩
  · cases w <;> first | rfl | exact absurd rfl (n _)
  · cases k with
    | true => exact ⟨T1, me, h1, hr1, he.ex x1, q1⟩
    | false => exact q1 T1 H1 _ hr1 (Ex.rfl' hr1.ok) (by unfold Rep; rfl)
theorem me_or (ha : ME X adr Y a ma) (hb : ME X adr Y (.BoolOp .Or (b :: rest) pos) mb) : ME X adr Y (.BoolOp .Or (a :: b :: rest) pos) (mOr ma mb) := by
  refine pe_imp (pe_or ha hb) fun σ H Q q => ?_
  obtain ⟨T, me, h, hr, he, q⟩ := q
  refine ⟨T, me, h, hr, he, rd_bool q (fun w h n => ?_) fun k h1 T1 H1 hr1 x1 q1 => ⟨k, rfl, ?_⟩⟩
  · cases w <;> first | rfl | exact absurd rfl (n _)
  · cases k with
    | true => exact q1 T1 H1 _ hr1 (Ex.rfl' hr1.ok) (by unfold Rep; rfl)
    | false => exact ⟨T1, me, h1, hr1, he.ex x1, q1⟩
theorem me_not (ha : ME X adr Y a ma) : ME X adr Y (.UnaryOp .Not a pos) (mNot ma) := by
  refine pe_imp (pe_not ha) fun σ H Q q => ?_
  obtain ⟨T, me, h, hr, he, q⟩ := q
  refine ⟨T, me, h, hr, he, rd_bool q (fun w h n => ?_) fun k h1 T1 H1 hr1 x1 q1 => ⟨k, rfl, ?_⟩⟩
  · cases w <;> first | rfl | exact absurd rfl (n _)
  · exact q1 T1 H1 _ hr1 (Ex.rfl' hr1.ok) (by unfold Rep; rfl)
theorem me_ifExp (hc : MT X adr Y c mc) (ha : ME X adr Y a ma) (hb : ME X adr Y b mb) : ME X adr Y (.IfExp c a b pos) (mIf mc ma mb) := by
  refine pe_imp (pe_ifExp hc ha hb) fun σ H Q q => ?_
  obtain ⟨T, me, h, hr, he, q⟩ := q
  refine ⟨T, me, h, hr, he, Res.bindB q (fun w h n => ?_) fun k h1 _ T1 H1 hr1 x1 q1 => ?_⟩
  · cases w <;> first | rfl | exact absurd rfl (n _)
  · cases k with
    | true => exact ⟨T1, me, h1, hr1, he.ex x1, q1⟩
    | false => exact ⟨T1, me, h1, hr1, he.ex x1, q1⟩
/-! ### lists of arguments -/
def mNil : AM := fun _ h => .ok [] h
def mCons (a : EM) (r : AM) : AM := fun me h => (a me h).bind fun x h1 => (r me h1).bind fun xs h2 => .ok (x :: xs) h2
variable {es : List Expr} {mr : AM}
theorem ma_nil : MA X adr Y [] mNil := pa_imp pa_nil fun σ H Q q => by
  obtain ⟨T, me, h, hr, he, q⟩ := q
  exact q T H [] hr (Ex.rfl' hr.ok) Reps.nil
theorem ma_cons (ha : ME X adr Y a ma) (hrr : MA X adr Y es mr) (hs : starEach (a :: es) X.env = (false, eval a X.env) :: starEach es X.env) : MA X adr Y (a :: es) (mCons ma mr) :=
  pa_imp (pa_cons ha hrr hs) fun σ H Q q => by
    obtain ⟨T, me, h, hr, he, q⟩ := q
    refine ⟨T, me, h, hr, he, Res.bind q fun w1 h1 _ T1 H1 v1 hr1 x1 rp1 q1 => ?_⟩
    refine ⟨T1, me, h1, hr1, he.ex x1, Res.bind q1 fun ws h2 _ T2 H2 vs hr2 x2 rp2 q2 => ?_⟩
    exact q2 T2 H2 _ hr2 (Ex.rfl' hr2.ok) (Reps.cons (rep_ex x2 _ _ rp1) rp2)
/-- a call of a built-in by values -/
abbrev FA := List W → MH → Option W
def CallM (G : Kt) (r : List V → Hp → VK → Prop) (f : FA) : Prop := ∀ T h H ws vs, Hrel G T h H → Reps G T H ws vs → ∀ w, f ws h = some w →
  ∀ Q : VK, (∀ T' H' v, Hrel G T' h H' → Ex T T' H H' → Rep G T' H' w v → Q v H') → r vs H Q
def mCallB (f : FA) (as : AM) : EM := fun me h => (as me h).bind fun xs h1 => ofO (f xs h1) h1
theorem rd_callB {r : List V → Hp → VK → Prop} {f : FA} {as : AM} (hf : CallM (kt X adr) r f) : ∀ σ H Q, rdE (kt X adr) Y (mCallB f as) σ H Q → tCB r (rdA (kt X adr) Y as) σ H Q := by
  intro σ H Q q
  obtain ⟨T, me, h, hr, he, q⟩ := q
  refine ⟨T, me, h, hr, he, Res.bind q fun ws h1 _ T1 H1 vs hr1 x1 rp1 q1 => ?_⟩
  cases e : f ws h1 with
  | none => rw [e] at q1; exact q1.elim
  | some w =>
    rw [e] at q1
    exact hf T1 h1 H1 ws vs hr1 rp1 w e Q q1
theorem me_callB {x : Str} {id : String} {r : List V → Hp → VK → Prop} {f : FA} {e : Expr} {as : AM} {p : Pos} (hc : CallR X (.builtin id) r) (hf : CallM (kt X adr) r f) (hg : Gl X x) (hm : X.mg x = none) (hv : bootBuiltins x = some (.builtin id)) (ha : MA X adr Y (e :: es) as)
    (hn : x ≠ "__name__") (hdb : (x == ("__debug__" : Str)) = false) (he : starEach (e :: es) X.env = (false, eval e X.env) :: starEach es X.env) (hpl : (backTo pos (starEach es X.env)).any (·.1) = false) :
    ME X adr Y (.Call (.Name x p) (e :: es) [] pos) (mCallB f as) := pe_imp (pe_callB hc hg hm hv ha hn hdb he hpl) (rd_callB hf)
theorem me_callTy {x : Str} {id : String} {r : List V → Hp → VK → Prop} {f : FA} {e : Expr} {as : AM} {p : Pos} (hc : CallR X (.type id) r) (hf : CallM (kt X adr) r f) (hg : Gl X x) (hm : X.mg x = none) (hv : bootBuiltins x = some (.type id)) (ha : MA X adr Y (e :: es) as)
    (hn : x ≠ "__name__") (hdb : (x == ("__debug__" : Str)) = false) (he : starEach (e :: es) X.env = (false, eval e X.env) :: starEach es X.env) (hpl : (backTo pos (starEach es X.env)).any (·.1) = false) :
    ME X adr Y (.Call (.Name x p) (e :: es) [] pos) (mCallB f as) := pe_imp (pe_callTy hc hg hm hv ha hn hdb he hpl) (rd_callB hf)
end
end Mi

end
section
namespace Mi
open PySem PySem.Spec PyProof.Rows L2

inductive RS where
  | nx (me : Me) (h : MH) | rt (w : W) (h : MH) | bk (me : Me) (h : MH) | ct (me : Me) (h : MH) | exc (x : Xc) (me : Me) (h : MH) | stuck
abbrev SM := Me → MH → RS
def ResS (G : Kt) (Y : WX) (T : Tie) (H : Hp) (r : RS) (D : Ends) : Prop := match r with
  | .nx me h => ∀ T' H' σ', Hrel G T' h H' → Ex T T' H H' → Erel G T' me σ' H' → D.nx σ' H'
  | .rt w h => ∀ T' H' v, Hrel G T' h H' → Ex T T' H H' → Rep G T' H' w v → D.rt v H'
  | .bk me h => ∀ T' H' σ', Hrel G T' h H' → Ex T T' H H' → Erel G T' me σ' H' → D.bk σ' H'
  | .ct me h => ∀ T' H' σ', Hrel G T' h H' → Ex T T' H H' → Erel G T' me σ' H' → D.ct σ' H'
  | .exc x me h => ∀ T' H' σ' cls d, Hrel G T' h H' → Ex T T' H H' → Erel G T' me σ' H' → XcIs G T' H' x cls d → Y cls d σ' H'
  | .stuck => False
def rdS (G : Kt) (Y : WX) (m : SM) : TS := fun D σ H => ∃ T me h, Hrel G T h H ∧ Erel G T me σ H ∧ ResS G Y T H (m me h) D
def RS.ofE (me : Me) (r : R W) (f : W → MH → RS) : RS := match r with
  | .ok w h => f w h
  | .exc x h => .exc x me h
  | .stuck => .stuck

variable {G : Kt} {X : Cx} {adr : Nat → Addr} {Y : WX}
section
variable {T T1 : Tie} {H H1 : Hp} {me : Me} {σ : Sl} {h h1 : MH} {D : Ends}
theorem ResS.ex {r : RS} (q : ResS G Y T H r D) (x : Ex T T1 H H1) : ResS G Y T1 H1 r D := by
  cases r with
  | nx me h => exact fun T' H' σ' hr x' e => q T' H' σ' hr (x.trans x') e
  | rt w h => exact fun T' H' v hr x' e => q T' H' v hr (x.trans x') e
  | bk me h => exact fun T' H' σ' hr x' e => q T' H' σ' hr (x.trans x') e
  | ct me h => exact fun T' H' σ' hr x' e => q T' H' σ' hr (x.trans x') e
  | exc e me h => exact fun T' H' σ' c d hr x' e1 rp => q T' H' σ' c d hr (x.trans x') e1 rp
  | stuck => exact q
/-- an expression, then -/
theorem ResS.bindE {r : R W} {f : W → MH → RS} {Q' : VK} (he : Erel G T me σ H) (q : ResS G Y T H (RS.ofE me r f) D)
    (k : ∀ w h1, r = .ok w h1 → ∀ T1 H1 v, Hrel G T1 h1 H1 → Ex T T1 H H1 → Rep G T1 H1 w v → Erel G T1 me σ H1 → ResS G Y T1 H1 (f w h1) D → Q' v H1) : ResV G Y T H σ r Q' := by
  cases r with
  | ok w h' => exact fun T' H' v hr x' rp => k w h' rfl T' H' v hr x' rp (he.ex x') (q.ex x')
  | exc e h' => exact fun T' H' c d hr x' rp => q T' H' σ c d hr x' (he.ex x') rp
  | stuck => exact q
theorem ResS.bindB {r : R W} {f : W → MH → RS} {Q' : Bool → Hp → Prop} (he : Erel G T me σ H) (q : ResS G Y T H (RS.ofE me r f) D) (hf : ∀ w h, (∀ b, w ≠ .bl b) → f w h = .stuck)
    (k : ∀ b h1 T1 H1, Hrel G T1 h1 H1 → Ex T T1 H H1 → Erel G T1 me σ H1 → ResS G Y T1 H1 (f (.bl b) h1) D → Q' b H1) : ResB G Y T H σ (asB r) Q' := by
  cases r with
  | ok w h' =>
    have q : ResS G Y T H (f w h') D := q
    cases w with
    | bl b =>
      intro T' H' v hr x' rp
      cases rp
      exact k b h' T' H' hr x' (he.ex x') (q.ex x')
    | _ =>
      rw [hf _ _ (fun b z => by cases z)] at q
      exact q.elim
  | exc e h' => exact fun T' H' c d hr x' rp => q T' H' σ c d hr x' (he.ex x') rp
  | stuck => exact q
end
def MS (X : Cx) (adr : Nat → Addr) (Y : WX) (st : Stmt) (m : SM) : Prop := PS X st (rdS (kt X adr) Y m)
def MSs (X : Cx) (adr : Nat → Addr) (Y : WX) (st : List Stmt) (m : SM) : Prop := PSs X st (rdS (kt X adr) Y m)
theorem ps_imp {st : Stmt} {t u : TS} (h : PS X st t) (i : ∀ D σ H, u D σ H → t D σ H) : PS X st u := ⟨fun pins s σ H D I q => h.run pins s σ H D I (i D σ H q)⟩
theorem pss_imp {st : List Stmt} {t u : TS} (h : PSs X st t) (i : ∀ D σ H, u D σ H → t D σ H) : PSs X st u := ⟨fun pins s σ H D I q => h.run pins s σ H D I (i D σ H q)⟩

def sNil : SM := fun me h => .nx me h
def sSeq (a b : SM) : SM := fun me h => match a me h with
  | .nx me h => b me h
  | r => r
def sExpr (e : EM) : SM := fun me h => .ofE me (e me h) fun _ h => .nx me h
def sRet (e : EM) : SM := fun me h => .ofE me (e me h) fun w h => .rt w h
def sRetN : SM := fun _ h => .rt .non h
def sBreak : SM := fun me h => .bk me h
def sCont : SM := fun me h => .ct me h
def sNever : SM := fun _ _ => .stuck
def sIf (t : EM) (a b : SM) : SM := fun me h => .ofE me (t me h) fun w h => match w with
  | .bl true => a me h
  | .bl false => b me h
  | _ => .stuck
def sSet (i : Nat) (e : EM) : SM := fun me h => .ofE me (e me h) fun w h => .nx (put me i w) h
section
variable {st : Stmt} {rest : List Stmt} {a b : SM} {e : Expr} {m : EM} {pos : Pos}
theorem rds_nx : ∀ D σ H, rdS G Y sNil D σ H → tNext D σ H := fun D σ H ⟨T, me, h, hr, he, q⟩ => q T H σ hr (Ex.rfl' hr.ok) he
theorem ms_nil : MSs X adr Y [] sNil := pss_imp pss_nil rds_nx
theorem ms_pass : MS X adr Y (.Pass pos) sNil := ps_imp ps_pass rds_nx
theorem ms_break : MS X adr Y (.Break pos) sBreak := ps_imp ps_break fun D σ H ⟨T, me, h, hr, he, q⟩ => q T H σ hr (Ex.rfl' hr.ok) he
theorem ms_continue : MS X adr Y (.Continue pos) sCont := ps_imp ps_continue fun D σ H ⟨T, me, h, hr, he, q⟩ => q T H σ hr (Ex.rfl' hr.ok) he
theorem ms_never : MS X adr Y st sNever := ps_imp ps_never fun D σ H ⟨T, me, h, hr, he, q⟩ => q
theorem ms_cons (h1 : MS X adr Y st a) (h2 : MSs X adr Y rest b) : MSs X adr Y (st :: rest) (sSeq a b) := pss_imp (pss_cons h1 h2) fun D σ H ⟨T, me, h, hr, he, q⟩ => by
  refine ⟨T, me, h, hr, he, ?_⟩
  unfold sSeq at q
  cases e : a me h with
  | nx me1 h1 =>
    rw [e] at q
    exact fun T' H' σ' hr' x' e' => ⟨T', me1, h1, hr', e', q.ex x'⟩
  | rt w h1 => rw [e] at q; exact q
  | bk me1 h1 => rw [e] at q; exact q
  | ct me1 h1 => rw [e] at q; exact q
  | exc x me1 h1 => rw [e] at q; exact q
  | stuck => rw [e] at q; exact q
theorem ms_one (h1 : MS X adr Y st a) : MSs X adr Y [st] a := pss_one h1
theorem ms_expr (he : ME X adr Y e m) (hs : swapsWith e none pos.line X.env = pure false) : MS X adr Y (.Expr e pos) (sExpr m) := ps_imp (ps_expr he hs) fun D σ H ⟨T, me, h, hr, he, q⟩ =>
  ⟨T, me, h, hr, he, ResS.bindE he q fun w h1 _ T1 H1 v hr1 x1 rp e1 q1 => q1 T1 H1 σ hr1 (Ex.rfl' hr1.ok) e1⟩
theorem ms_ret (he : ME X adr Y e m) : MS X adr Y (.Return (some e) pos) (sRet m) := ps_imp (ps_ret he) fun D σ H ⟨T, me, h, hr, he, q⟩ =>
  ⟨T, me, h, hr, he, ResS.bindE he q fun w h1 _ T1 H1 v hr1 x1 rp e1 q1 => q1 T1 H1 v hr1 (Ex.rfl' hr1.ok) rp⟩
theorem ms_retN : MS X adr Y (.Return none pos) sRetN := ps_imp ps_retN fun D σ H ⟨T, me, h, hr, he, q⟩ => q T H .non hr (Ex.rfl' hr.ok) (by unfold Rep; rfl)
theorem ms_if {c : Expr} {mc : EM} {sa sb : List Stmt} (hc : MT X adr Y c mc) (ha : MSs X adr Y sa a) (hb : MSs X adr Y sb b) : MS X adr Y (.If c sa sb pos) (sIf mc a b) := ps_imp (ps_if hc ha hb) fun D σ H ⟨T, me, h, hr, he, q⟩ =>
  ⟨T, me, h, hr, he, ResS.bindB he q (fun w h n => by cases w <;> first | rfl | exact absurd rfl (n _)) fun k h1 T1 H1 hr1 x1 e1 q1 => by
    cases k with
    | true => exact ⟨T1, me, h1, hr1, e1, q1⟩
    | false => exact ⟨T1, me, h1, hr1, e1, q1⟩⟩
theorem put_length : ∀ {l : Me} {i : Nat} {w : W}, (put l i w).length = l.length
  | [], _, _ => rfl
  | _ :: _, 0, _ => rfl
  | x :: r, i + 1, w => by
    show (put r i w).length + 1 = r.length + 1
    rw [put_length]
theorem nth_lt : ∀ {l : Me} {i : Nat} {w : W}, nth l i = some w → i < l.length
  | [], _, _, h => by unfold nth at h; cases h
  | _ :: _, 0, _, _ => Nat.zero_lt_succ _
  | x :: r, i + 1, w, h => by unfold nth at h; exact Nat.succ_lt_succ (nth_lt h)
theorem Erel.put {T : Tie} {me : Me} {σ : Sl} {H : Hp} (e : Erel G T me σ H) {i : Nat} {w : W} {v : V} (rp : Rep G T H w v) : Erel G T (put me i w) (σ.set i (some v)) H := by
  refine ⟨by rw [put_length, e.1]; simp, fun j u q => ?_⟩
  by_cases hj : j = i
  · subst hj
    have lt := nth_lt q
    rw [put_length, e.1] at lt
    rw [nth_put_same q]
    exact ⟨v, List.getElem?_set_self lt, rp⟩
  · rw [nth_put_other hj] at q
    obtain ⟨u', e1, r⟩ := e.2 j u q
    exact ⟨u', by rw [List.getElem?_set_ne (Ne.symm hj)]; exact e1, r⟩
theorem ms_set {i : Nat} {x : Str} {pos' : Pos} (hN : X.N.Nodup) (hi : X.N[i]? = some x) (hx : Loc X.env.scope x) (he : ME X adr Y e m) (hs : swapsWith e (some (.Name x pos')) pos.line X.env = pure false) (hf : X.fn x = true ∨ X.env.scope.names.lookup x = some .local) :
    MS X adr Y (.Assign [.Name x pos'] e pos) (sSet i m) := ps_imp (ps_set hN hi hx he hs hf) fun D σ H ⟨T, me, h, hr, he, q⟩ =>
  ⟨T, me, h, hr, he, ResS.bindE he q fun w h1 _ T1 H1 v hr1 x1 rp e1 q1 => q1 T1 H1 _ hr1 (Ex.rfl' hr1.ok) (e1.put rp)⟩

/-! ### while -/
def sWhile (t : EM) (b : SM) : Nat → SM
  | 0 => fun _ _ => .stuck
  | n + 1 => fun me h => .ofE me (t me h) fun w h => match w with
    | .bl true => match b me h with
      | .nx me h => sWhile t b n me h
      | .ct me h => sWhile t b n me h
      | .bk me h => .nx me h
      | r => r
    | .bl false => .nx me h
    | _ => .stuck
theorem ms_while {c : Expr} {body : List Stmt} {mc : EM} {n : Nat} (hp : PassesOwn (model X.prog X.w) X.A X.env X.xe) (hc : MT X adr Y c mc) (hb : MSs X adr Y body b) : MS X adr Y (.While c body [] pos) (sWhile mc b n) := ps_imp (ps_while hp hc hb) fun D σ H ⟨T, me, h, hr, he, q⟩ => by
  refine ⟨fun k σ H => ∃ T me h, Hrel (kt X adr) T h H ∧ Erel (kt X adr) T me σ H ∧ ResS (kt X adr) Y T H (sWhile mc b k me h) D, ⟨n, T, me, h, hr, he, q⟩, ?_⟩
  rintro k σ H ⟨T, me, h, hr, he, q⟩
  cases k with
  | zero => exact q.elim
  | succ k =>
    refine ⟨T, me, h, hr, he, ResS.bindB he q (fun w h n => by cases w <;> first | rfl | exact absurd rfl (n _)) fun z h1 T1 H1 hr1 x1 e1 q1 => ?_⟩
    cases z with
    | false => exact q1 T1 H1 σ hr1 (Ex.rfl' hr1.ok) e1
    | true =>
      rw [if_pos rfl]
      refine ⟨fun σ H => ∃ T me h, Hrel (kt X adr) T h H ∧ Erel (kt X adr) T me σ H ∧ ResS (kt X adr) Y T H (sWhile mc b k me h) D, fun σ' H' w => ⟨k, by omega, w⟩, T1, me, h1, hr1, e1, ?_⟩
      cases eb : b me h1 with
      | nx me2 h2 =>
        simp only [eb] at q1
        exact fun T' H' σ' hr' x' e' => ⟨T', me2, h2, hr', e', q1.ex x'⟩
      | ct me2 h2 =>
        simp only [eb] at q1
        exact fun T' H' σ' hr' x' e' => ⟨T', me2, h2, hr', e', q1.ex x'⟩
      | bk me2 h2 => simp only [eb] at q1; exact q1
      | rt w h2 => simp only [eb] at q1; exact q1
      | exc x me2 h2 => simp only [eb] at q1; exact q1
      | stuck => simp only [eb] at q1; exact q1.elim

/-! ### targets -/
abbrev GM := W → Me → Option Me
theorem wipe_get (σ : Sl) : ∀ (vs : List Nat) (j : Nat), (wipe σ vs)[j]? = if j ∈ vs ∧ j < σ.length then some none else σ[j]?
  | [], j => by simp [wipe]
  | v :: vs, j => by
    unfold wipe
    by_cases hj : j = v
    · subst hj
      by_cases hl : j < σ.length
      · rw [List.getElem?_set_self (by rw [wipe_length]; exact hl)]
        simp [hl]
      · rw [List.getElem?_eq_none (by rw [List.length_set, wipe_length]; omega)]
        simp [hl]
    · rw [List.getElem?_set_ne (Ne.symm hj), wipe_get σ vs j]
      simp [hj]
theorem wipe_set {σ : Sl} {vs : List Nat} {i : Nat} {x : Option V} (h : i ∈ vs) : wipe (σ.set i x) vs = wipe σ vs := by
  apply List.ext_getElem?
  intro j
  rw [wipe_get, wipe_get, List.length_set]
  by_cases hj : j = i
  · subst hj
    by_cases hl : j < σ.length
    · simp [h, hl]
    · rw [List.getElem?_eq_none (l := σ.set j x) (by rw [List.length_set]; omega), List.getElem?_eq_none (l := σ) (by omega)]
  · rw [List.getElem?_set_ne (Ne.symm hj)]
def rdG (G : Kt) (g : GM) (vs : List Nat) : TG := fun v σ H Q => ∃ T me h w, Hrel G T h H ∧ Erel G T me σ H ∧ Rep G T H w v ∧ ∃ me', g w me = some me' ∧ ∀ σ', Erel G T me' σ' H → wipe σ' vs = wipe σ vs → Q σ' H
abbrev GMs := List W → Me → Option Me
def rdGs (G : Kt) (g : GMs) (sl : List Nat) : TGs := fun vs σ H Q => ∃ T me h ws, Hrel G T h H ∧ Erel G T me σ H ∧ Reps G T H ws vs ∧ ∃ me', g ws me = some me' ∧ ∀ σ', Erel G T me' σ' H → wipe σ' sl = wipe σ sl → Q σ' H
def MG (X : Cx) (adr : Nat → Addr) (tg : Expr) (g : GM) (sl : List Nat) : Prop := PG X tg (rdG (kt X adr) g sl)
def MGs (X : Cx) (adr : Nat → Addr) (tgs : List Expr) (g : GMs) (sl : List Nat) : Prop := PGs X tgs (rdGs (kt X adr) g sl)
theorem pg_imp {tg : Expr} {t u : TG} (h : PG X tg t) (i : ∀ v σ H Q, u v σ H Q → t v σ H Q) : PG X tg u := ⟨fun pins s σ H v w Q I r q => h.run pins s σ H v w Q I r (i v σ H Q q)⟩
theorem pgs_imp {tg : List Expr} {t u : TGs} (h : PGs X tg t) (i : ∀ v σ H Q, u v σ H Q → t v σ H Q) : PGs X tg u := ⟨fun pins s σ H v w Q I r q => h.run pins s σ H v w Q I r (i v σ H Q q)⟩
def gSet (i : Nat) : GM := fun w me => some (put me i w)
theorem mg_name {i : Nat} {x : Str} (hN : X.N.Nodup) (hi : X.N[i]? = some x) (hx : Loc X.env.scope x) (hf : X.fn x = true ∨ X.env.scope.names.lookup x = some .local) {sl : List Nat} (hs : i ∈ sl) : MG X adr (.Name x pos) (gSet i) sl :=
  pg_imp (pg_name hN hi hx hf) fun v σ H Q ⟨T, me, h, w, hr, he, rp, me', e, q⟩ => by
    cases e
    exact q _ (he.put rp) (wipe_set hs)
def gNo : GMs := fun ws me => match ws with
  | [] => some me
  | _ => none
def gAnd (g : GM) (r : GMs) : GMs := fun ws me => match ws with
  | w :: ws => match g w me with
    | some me => r ws me
    | none => none
  | [] => none
theorem mgs_nil {sl : List Nat} : MGs X adr [] gNo sl := pgs_imp pgs_nil fun v σ H Q ⟨T, me, h, ws, hr, he, rp, me', e, q⟩ => by
  cases ws with
  | nil =>
    cases e
    unfold Reps at rp
    exact ⟨rp, q σ he rfl⟩
  | cons _ _ => cases e
theorem mgs_cons {tg : Expr} {tgs : List Expr} {g : GM} {r : GMs} {sl : List Nat} (h1 : MG X adr tg g sl) (h2 : MGs X adr tgs r sl) (hs : (assignEach (tg :: tgs) X.env).map (·.2) = assign tg X.env :: (assignEach tgs X.env).map (·.2)) : MGs X adr (tg :: tgs) (gAnd g r) sl :=
  pgs_imp (pgs_cons h1 h2 hs) fun v σ H Q ⟨T, me, h, ws, hr, he, rp, me', e, q⟩ => by
    cases ws with
    | nil => cases e
    | cons w ws =>
      unfold Reps at rp
      obtain ⟨u, s, rfl, r1, r2⟩ := rp
      unfold gAnd at e
      dsimp only at e
      refine ⟨u, s, rfl, T, me, h, w, hr, he, r1, ?_⟩
      cases e1 : g w me with
      | none => rw [e1] at e; cases e
      | some me1 =>
        rw [e1] at e
        exact ⟨me1, rfl, fun σ' he' w1 => ⟨T, me1, h, ws, hr, he', r2, me', e, fun σ'' he'' w2 => q σ'' he'' (w2.trans w1)⟩⟩
def gTupM (n : Nat) (r : GMs) : GM := fun w me => match w with
  | .tup ws => match Nat.beq ws.length n with
    | true => r ws me
    | false => none
  | _ => none
theorem mg_tup {es : List Expr} {k n : Nat} {r : GMs} {sl : List Nat} (hc : X.calm = true) (h : MGs X adr es r sl) (hn : (assignEach es X.env).length = n) (hst : (assignEach es X.env).findIdx? (·.1) = none) : MG X adr (.Tuple es k pos) (gTupM n r) sl :=
  pg_imp (pg_tup hc h hn hst) fun v σ H Q ⟨T, me, h, w, hr, he, rp, me', e, q⟩ => by
    cases w with
    | tup ws =>
      unfold Rep at rp
      obtain ⟨a, vs, rfl, f, sq, rs⟩ := rp
      unfold gTupM at e
      simp only at e
      cases el : Nat.beq ws.length n with
      | false => rw [el] at e; cases e
      | true =>
        rw [el] at e
        exact ⟨a, vs, rfl, .inl (.inl sq), by rw [← rs.length]; exact Nat.eq_of_beq_eq_true el, T, me, h, ws, hr, he, rs, me', e, q⟩
    | _ => cases e
/-- target = value -/
def sAsg (g : GM) (m : EM) : SM := fun me h => .ofE me (m me h) fun w h => match g w me with
  | some me => .nx me h
  | none => .stuck
theorem ms_asg {tg : Expr} {g : GM} {sl : List Nat} (he : ME X adr Y e m) (hg : MG X adr tg g sl) (hs : swapsWithSole [tg] e pos.line X.env = pure false) (hw : swappedStores [tg] e X.env = pure none) (h1 : (assignEach [tg] X.env).map (·.2) = [assign tg X.env]) :
    MS X adr Y (.Assign [tg] e pos) (sAsg g m) := ps_imp (ps_asg he hg hs hw h1) fun D σ H ⟨T, me, h, hr, he, q⟩ =>
  ⟨T, me, h, hr, he, ResS.bindE he q fun w h1 _ T1 H1 v hr1 x1 rp e1 q1 => by
    cases e : g w me with
    | none => rw [e] at q1; exact q1.elim
    | some me2 =>
      rw [e] at q1
      exact ⟨T1, me, h1, w, hr1, e1, rp, me2, e, fun σ' he' _ => q1 T1 H1 σ' hr1 (Ex.rfl' hr1.ok) he'⟩⟩
end
/-! ### what is walked -/
/-- J walks the things ws -/
structure Wk (G : Kt) (T : Tie) (H : Hp) (ws : List W) (J : It) : Prop where
  go : ∀ T' H' (i : Nat), T'.Ok H' → Ex T T' H H' → i < ws.length → J.go i H'
  stop : ∀ T' H', T'.Ok H' → Ex T T' H H' → J.stop ws.length H'
  yld : ∀ T' H' (i : Nat) x H'' h w, Hrel G T' h H' → Ex T T' H H' → ws[i]? = some w → J.yld i H' x H'' → Hrel G T' h H'' ∧ Ex T' T' H' H'' ∧ Rep G T' H'' w x
def rdI (G : Kt) (Y : WX) (m : AM) : TI := fun σ H Q => ∃ T me h, Hrel G T h H ∧ Erel G T me σ H ∧ Res G (Wk G) Y T H σ (m me h) Q
def MI (X : Cx) (adr : Nat → Addr) (Y : WX) (tg iter : Expr) (m : AM) : Prop := PI X tg iter (rdI (kt X adr) Y m)
theorem pi_imp {tg iter : Expr} {t u : TI} (h : PI X tg iter t) (i : ∀ σ H Q, u σ H Q → t σ H Q) : PI X tg iter u := ⟨fun pins s σ H R I q => h.run pins s σ H R I (i σ H R q)⟩

/-! ### for -/
def sFor (g : GM) (b : SM) : List W → SM
  | [] => fun me h => .nx me h
  | w :: ws => fun me h => match g w me with
    | none => .stuck
    | some me => match b me h with
      | .nx me h => sFor g b ws me h
      | .ct me h => sFor g b ws me h
      | .bk me h => .nx me h
      | r => r
def RS.ofA (me : Me) (r : R (List W)) (f : List W → MH → RS) : RS := match r with
  | .ok w h => f w h
  | .exc x h => .exc x me h
  | .stuck => .stuck
def sForI (src : AM) (g : GM) (b : SM) : SM := fun me h => .ofA me (src me h) fun ws h => sFor g b ws me h
theorem ResS.bindA {β : Type} {rp : Tie → Hp → List W → β → Prop} {T : Tie} {H : Hp} {me : Me} {σ : Sl} {D : Ends} {r : R (List W)} {f : List W → MH → RS} {Q' : β → Hp → Prop} (he : Erel G T me σ H) (q : ResS G Y T H (RS.ofA me r f) D)
    (k : ∀ w h1, r = .ok w h1 → ∀ T1 H1 v, Hrel G T1 h1 H1 → Ex T T1 H H1 → rp T1 H1 w v → Erel G T1 me σ H1 → ResS G Y T1 H1 (f w h1) D → Q' v H1) : Res G rp Y T H σ r Q' := by
  cases r with
  | ok w h' => exact fun T' H' v hr x' rp => k w h' rfl T' H' v hr x' rp (he.ex x') (q.ex x')
  | exc e h' => exact fun T' H' c d hr x' rp => q T' H' σ c d hr x' (he.ex x') rp
  | stuck => exact q
theorem drop_cons {α : Type} {l : List α} {i : Nat} {w : α} {r : List α} (h : l.drop i = w :: r) : l[i]? = some w ∧ l.drop (i + 1) = r ∧ i < l.length := by
  have e : l[i]? = some w := by
    have := List.getElem?_drop (xs := l) (i := i) (j := 0)
    rw [h] at this
    simpa using this.symm
  refine ⟨e, ?_, ?_⟩
  · rw [← List.drop_drop, h]; rfl
  · exact (List.getElem?_eq_some_iff.mp e).1
theorem ms_for {tg iter : Expr} {body : List Stmt} {src : AM} {g : GM} {b : SM} {pos : Pos} {sl : List Nat} (hp : PassesOwn (model X.prog X.w) X.A X.env X.xe) (hc : X.calm = true) (hi : MI X adr Y tg iter src) (hg : MG X adr tg g sl) (hb : MSs X adr Y body b)
    (hs : ∀ x, foldedSetIterable iter X.env x = pure x) : MS X adr Y (.For tg iter body [] pos) (sForI src g b) := ps_imp (ps_for hp hc hi hg hb hs) fun D σ H ⟨T, me, h, hr, he, q⟩ => by
  refine ⟨T, me, h, hr, he, ResS.bindA he q fun ws h1 _ T1 H1 J hr1 x1 wk e1 q1 => ?_⟩
  refine ⟨fun i m σ H => m = ws.length - i ∧ i ≤ ws.length ∧ ∃ T me h, Hrel (kt X adr) T h H ∧ Ex T1 T H1 H ∧ Erel (kt X adr) T me σ H ∧ ResS (kt X adr) Y T H (sFor g b (ws.drop i) me h) D, ⟨ws.length, by simp, Nat.zero_le _, T1, me, h1, hr1, Ex.rfl' hr1.ok, e1, by simpa using q1⟩, ?_⟩
  rintro i m σ H ⟨rfl, hi, T2, me2, h2, hr2, x2, e2, q2⟩
  cases ed : ws.drop i with
  | nil =>
    have el : i = ws.length := by
      have := congrArg List.length ed
      simp at this
      omega
    subst el
    rw [ed] at q2
    exact .inl ⟨wk.stop T2 H hr2.ok x2, q2 T2 H σ hr2 (Ex.rfl' hr2.ok) e2⟩
  | cons w r =>
    obtain ⟨ew, er, lt⟩ := drop_cons ed
    rw [ed] at q2
    unfold sFor at q2
    refine .inr ⟨wk.go T2 H i hr2.ok x2 lt, fun σ H => ∃ T me h, Hrel (kt X adr) T h H ∧ Ex T1 T H1 H ∧ Erel (kt X adr) T me σ H ∧ ResS (kt X adr) Y T H (sFor g b (ws.drop (i + 1)) me h) D, fun σ' H' w => ⟨_, by omega, rfl, lt, w⟩, fun x H' y => ?_⟩
    obtain ⟨hr3, x3, rp⟩ := wk.yld T2 H i x H' h2 w hr2 x2 ew y
    have q3 := q2.ex x3
    cases eg : g w me2 with
    | none => rw [eg] at q3; exact q3.elim
    | some me3 =>
      rw [eg] at q3
      dsimp only at q3
      refine ⟨T2, me2, h2, w, hr3, e2.ex x3, rp, me3, eg, fun σ4 e4 _ => ⟨T2, me3, h2, hr3, e4, ?_⟩⟩
      cases eb : b me3 h2 with
      | nx me5 h5 =>
        rw [eb] at q3
        exact fun T' H' σ' hr' x' e' => ⟨T', me5, h5, hr', (x2.trans x3).trans x', e', by rw [er]; exact q3.ex x'⟩
      | ct me5 h5 =>
        rw [eb] at q3
        exact fun T' H' σ' hr' x' e' => ⟨T', me5, h5, hr', (x2.trans x3).trans x', e', by rw [er]; exact q3.ex x'⟩
      | bk me5 h5 => rw [eb] at q3; exact q3
      | rt w5 h5 => rw [eb] at q3; exact q3
      | exc x5 me5 h5 => rw [eb] at q3; exact q3
      | stuck => rw [eb] at q3; exact q3.elim

/-! ### list comprehensions -/
def wip : Me → Nat → Me
  | [], _ => []
  | _ :: r, 0 => none :: r
  | x :: r, n + 1 => x :: wip r n
def wipeW (me : Me) : List Nat → Me
  | [] => me
  | v :: vs => wip (wipeW me vs) v
theorem wip_length : ∀ (me : Me) (i : Nat), (wip me i).length = me.length
  | [], _ => rfl
  | _ :: _, 0 => rfl
  | x :: r, n + 1 => by
    show (wip r n).length + 1 = r.length + 1
    rw [wip_length]
theorem nth_wip_same : ∀ (me : Me) (i : Nat), nth (wip me i) i = none
  | [], _ => rfl
  | _ :: _, 0 => rfl
  | x :: r, n + 1 => nth_wip_same r n
theorem nth_wip_other : ∀ (me : Me) (i j : Nat), j ≠ i → nth (wip me i) j = nth me j
  | [], _, _, _ => rfl
  | _ :: _, 0, 0, h => absurd rfl h
  | _ :: _, 0, _ + 1, _ => rfl
  | _ :: _, _ + 1, 0, _ => rfl
  | _ :: r, i + 1, j + 1, h => nth_wip_other r i j (by omega)
theorem Erel.wipe {T : Tie} {me : Me} {σ : Sl} {H : Hp} (e : Erel G T me σ H) : ∀ (vs : List Nat), Erel G T (wipeW me vs) (L2.wipe σ vs) H
  | [] => e
  | v :: vs => by
    obtain ⟨l, z⟩ := Erel.wipe e vs
    unfold wipeW L2.wipe
    refine ⟨by rw [wip_length, l, List.length_set], fun j u q => ?_⟩
    by_cases hj : j = v
    · subst hj; rw [nth_wip_same] at q; cases q
    · rw [nth_wip_other _ _ _ hj] at q
      obtain ⟨x, e1, r⟩ := z j u q
      exact ⟨x, by rw [List.getElem?_set_ne (Ne.symm hj)]; exact e1, r⟩
/-- what raises is out of sight here -/
def R.nox {α : Type} (r : R α) : R α := match r with
  | .exc _ _ => .stuck
  | r => r
theorem Res.bindN {α β γ δ : Type} {rp : Tie → Hp → α → β → Prop} {rq : Tie → Hp → γ → δ → Prop} {T : Tie} {H : Hp} {σ τ : Sl} {Y0 : WX} {r : R α} {f : α → MH → R γ} {Q : δ → Hp → Prop} {Q' : β → Hp → Prop} (q : Res G rq Y T H σ (r.nox.bind f) Q)
    (k : ∀ w h1, r = .ok w h1 → ∀ T1 H1 v, Hrel G T1 h1 H1 → Ex T T1 H H1 → rp T1 H1 w v → Res G rq Y T1 H1 σ (f w h1) Q → Q' v H1) : Res G rp Y0 T H τ r Q' := by
  cases r with
  | ok w h' => exact fun T' H' v hr x' rp => k w h' rfl T' H' v hr x' rp (Res.ex q x')
  | exc e h' => exact q.elim
  | stuck => exact q.elim
/-- no wish -/
abbrev Y0 : WX := fun _ _ _ _ => False
def MTs (X : Cx) (adr : Nat → Addr) (Y : WX) (ifs : List Expr) (m : EM) : Prop := PTs X ifs (rdT (kt X adr) Y m)
abbrev yes : EM := mC (.bl true)
theorem mts_nil : MTs X adr Y [] yes := ⟨fun pins s σ H Q I q => pts_nil.run pins s σ H Q I (by
  obtain ⟨T, me, h, hr, he, q⟩ := q
  exact q T H true hr (Ex.rfl' hr.ok) rfl)⟩
theorem mts_one {c : Expr} {m : EM} (h : MT X adr Y c m) : MTs X adr Y [c] m := pts_one h
/-- the items that pass, each by e -/
def lcM (g : GM) (t e : EM) (me0 : Me) : List W → List W → MH → R (List W)
  | [], acc, h => .ok acc h
  | w :: ws, acc, h => match g w me0 with
    | none => .stuck
    | some me => (t me h).nox.bind fun b h => match b with
      | .bl true => (e me h).nox.bind fun x h => lcM g t e me0 ws (x :: acc) h
      | .bl false => lcM g t e me0 ws acc h
      | _ => .stuck
def rev (l : List W) : List W := go l []
where
  go : List W → List W → List W
  | [], a => a
  | x :: r, a => go r (x :: a)
theorem rev_go : ∀ (l a : List W), rev.go l a = l.reverse ++ a
  | [], a => by simp [rev.go]
  | x :: r, a => by unfold rev.go; rw [rev_go r]; simp
theorem rev_eq (l : List W) : rev l = l.reverse := by unfold rev; rw [rev_go]; simp
def lenOk (ws : List W) : Bool := Nat.blt ws.length 16777216
def mLc (src : AM) (g : GM) (t e : EM) (vs : List Nat) : EM := fun me h => (src me h).bind fun ws h => match lenOk ws with
  | true => (lcM g t e (wipeW me vs) ws [] h).bind fun xs h => .ok (.lst (rev xs)) h
  | false => .stuck
/-- hidden things in the tie -/
abbrev Tie.hide (T : Tie) (D : Addr) : Tie := { T with hid := D :: T.hid }
abbrev Tie.show (T : Tie) (D : Addr) : Tie := { T with hid := T.hid.filter fun a => decide (a ≠ D) }
mutual
theorem rep_as {T T' : Tie} {H H' : Hp} (hn : T.nx ≤ T'.nx) (hf : ∀ a o, H a = some o → Fz T a → Fz T' a ∧ H' a = some o) (hr : ∀ n a, n < T.nx → T'.ρ n = some a → T.ρ n = some a) : ∀ (w : W) (v : V), Rep G T H w v → Rep G T' H' w v
  | .non, v, h => h
  | .bl _, v, h => h
  | .int _, v, h => h
  | .str _, v, h => h
  | .tup ws, v, h => by
    unfold Rep at h ⊢
    obtain ⟨a, vs, e, f, q, r⟩ := h
    exact ⟨a, vs, e, (hf a _ q f).1, (hf a _ q f).2, reps_as hn hf hr ws vs r⟩
  | .lst ws, v, h => by
    unfold Rep at h ⊢
    obtain ⟨a, vs, e, f, q, r⟩ := h
    exact ⟨a, vs, e, (hf a _ q f).1, (hf a _ q f).2, reps_as hn hf hr ws vs r⟩
  | .dct ks vs, v, h => by
    unfold Rep at h ⊢
    obtain ⟨a, o, kv, vv, e, f, sm, ko, q, d, r1, r2⟩ := h
    exact ⟨a, o, kv, vv, e, (hf a _ q f).1, sm, ko, (hf a _ q f).2, d, reps_as hn hf hr ks kv r1, reps_as hn hf hr vs vv r2⟩
  | .ins c fn fv, v, h => by
    unfold Rep at h ⊢
    obtain ⟨a, dx, vv, e, f, f2, q, q2, l, r⟩ := h
    exact ⟨a, dx, vv, e, (hf a _ q f).1, (hf dx _ q2 f2).1, (hf a _ q f).2, (hf dx _ q2 f2).2, l, reps_as hn hf hr fv vv r⟩
  | .ref n, v, h => by
    unfold Rep at h ⊢
    exact ⟨Nat.lt_of_lt_of_le h.1 hn, fun a e => h.2 a (hr n a h.1 e)⟩
  | .ty _, v, h => by unfold Rep at h ⊢; exact h
  | .cl _, v, h => by unfold Rep at h ⊢; exact h
  | .kt0, v, h => by unfold Rep at h ⊢; exact h
  | .scr ns, v, h => by
    unfold Rep at h ⊢
    obtain ⟨a, e, q⟩ := h
    refine ⟨a, e, q.imp (fun q => ?_) id⟩
    obtain ⟨f, r⟩ := q
    rcases r with r | ⟨o, r⟩
    · exact ⟨(hf a _ r f).1, .inl (hf a _ r f).2⟩
    · exact ⟨(hf a _ r f).1, .inr ⟨o, (hf a _ r f).2⟩⟩
  | .dvs ks vs, v, h => by
    unfold Rep at h ⊢
    obtain ⟨b, a, o, kv, vv, e, fb, qb, f, sm, ko, q, d, r1, r2⟩ := h
    exact ⟨b, a, o, kv, vv, e, (hf b _ qb fb).1, (hf b _ qb fb).2, (hf a _ q f).1, sm, ko, (hf a _ q f).2, d, reps_as hn hf hr ks kv r1, reps_as hn hf hr vs vv r2⟩
theorem reps_as {T T' : Tie} {H H' : Hp} (hn : T.nx ≤ T'.nx) (hf : ∀ a o, H a = some o → Fz T a → Fz T' a ∧ H' a = some o) (hr : ∀ n a, n < T.nx → T'.ρ n = some a → T.ρ n = some a) : ∀ (w : List W) (v : List V), Reps G T H w v → Reps G T' H' w v
  | [], v, h => h
  | y :: r, v, h => by
    unfold Reps at h ⊢
    obtain ⟨u, s, e, h1, h2⟩ := h
    exact ⟨u, s, e, rep_as hn hf hr y u h1, reps_as hn hf hr r s h2⟩
end
theorem RepO.as {T T' : Tie} {H H' : Hp} (hn : T.nx ≤ T'.nx) (hf : ∀ a o, H a = some o → Fz T a → Fz T' a ∧ H' a = some o) (hr : ∀ n a, n < T.nx → T'.ρ n = some a → T.ρ n = some a) {o : O} {a : Addr} (ha : ∀ u, H a = some u → H' a = some u) (r : RepO G T H o a) : RepO G T' H' o a := by
  cases o with
  | lst ws => obtain ⟨vs, e, r⟩ := r; exact ⟨vs, ha _ e, reps_as hn hf hr _ _ r⟩
  | dct ks vs => obtain ⟨o, kv, vv, sm, ko, e, d, r1, r2⟩ := r; exact ⟨o, kv, vv, sm, ko, ha _ e, d, reps_as hn hf hr _ _ r1, reps_as hn hf hr _ _ r2⟩
  | ins c fn fv => obtain ⟨dx, vv, f, e, e2, l, r⟩ := r; exact ⟨dx, vv, (hf _ _ e2 f).1, ha _ e, (hf _ _ e2 f).2, l, reps_as hn hf hr _ _ r⟩
theorem Erel.as {T T' : Tie} {H H' : Hp} (hn : T.nx ≤ T'.nx) (hf : ∀ a o, H a = some o → Fz T a → Fz T' a ∧ H' a = some o) (hr : ∀ n a, n < T.nx → T'.ρ n = some a → T.ρ n = some a) {me : Me} {σ : Sl} (e : Erel G T me σ H) : Erel G T' me σ H' :=
  ⟨e.1, fun i w q => let ⟨v, e1, r⟩ := e.2 i w q; ⟨v, e1, rep_as hn hf hr w v r⟩⟩
/-- a new thing D laid and hidden -/
theorem hide_new {T : Tie} {h : MH} {H : Hp} (hr : Hrel G T h H) {D : Addr} {o : HO} (hD : H D = none) : Hrel G (T.hide D) h (upd H D o) ∧ Ex T (T.hide D) H (upd H D o) := by
  have ne : ∀ {a u}, H a = some u → a ≠ D := fun {a u} e z => by rw [z, hD] at e; cases e
  have ne' : ∀ {a}, H a ≠ none → a ≠ D := fun {a} e z => by rw [z] at e; exact e hD
  have hf : ∀ a u, H a = some u → Fz T a → Fz (T.hide D) a ∧ upd H D o a = some u := fun a u e f =>
    ⟨⟨f.own, fun hm => (List.mem_cons.mp hm).elim (ne e) f.hid⟩, by rw [upd_ne (ne e)]; exact e⟩
  have ok := hr.ok
  refine ⟨⟨⟨ok.lt, ok.inj, fun n a e => by rw [upd_ne (ne' (ok.there n a e))]; exact ok.there n a e, fun n a e hm => ?_, fun a hm => ?_⟩, hr.nx, fun n u e => ?_⟩,
    ⟨Nat.le_refl _, fun _ _ => .inl rfl, fun m a hm e => absurd (ok.lt m a e) (Nat.not_lt.mpr hm), fun a u e f => (hf a u e f).2, fun a e => by rw [upd_ne (ne' e)]; exact e,
      fun a hm => List.mem_cons_of_mem _ hm, fun a hm => (List.mem_cons.mp hm).elim (fun z => .inr (by rw [z]; exact hD)) .inl, fun a hm => upd_ne (ne' (ok.hidT a hm))⟩⟩
  · rcases List.mem_cons.mp hm with z | z
    · exact ok.there n a e (by rw [z]; exact hD)
    · exact ok.hid n a e z
  · by_cases z : a = D
    · subst z; rw [upd_same]; simp
    · rcases List.mem_cons.mp hm with q | q
      · exact absurd q z
      · rw [upd_ne z]; exact ok.hidT a q
  · obtain ⟨a, e1, r⟩ := hr.obj n u e
    exact ⟨a, e1, r.as (show T.nx ≤ (T.hide D).nx from Nat.le_refl _) hf (fun _ _ _ e => e) fun u e => by rw [upd_ne (ne e)]; exact e⟩
/-- the hidden thing D changes -/
theorem hid_set {T : Tie} {h : MH} {H : Hp} {D : Addr} {o : HO} (hr : Hrel G T h H) (hm : D ∈ T.hid) : Hrel G T h (upd H D o) ∧ (∀ a u, H a = some u → Fz T a → Fz T a ∧ upd H D o a = some u) := by
  have hf : ∀ a u, H a = some u → Fz T a → Fz T a ∧ upd H D o a = some u := fun a u e f => ⟨f, by rw [upd_ne (fun z => f.hid (by rw [z]; exact hm))]; exact e⟩
  have nr : ∀ {n a}, T.ρ n = some a → a ≠ D := fun {n a} e z => hr.ok.hid n a e (by rw [z]; exact hm)
  refine ⟨⟨⟨hr.ok.lt, hr.ok.inj, fun n a e => by rw [upd_ne (nr e)]; exact hr.ok.there n a e, hr.ok.hid, fun a ha => ?_⟩, hr.nx, fun n u e => ?_⟩, hf⟩
  · by_cases z : a = D
    · subst z; rw [upd_same]; simp
    · rw [upd_ne z]; exact hr.ok.hidT a ha
  · obtain ⟨a, e1, r⟩ := hr.obj n u e
    exact ⟨a, e1, r.as (Nat.le_refl _) hf (fun _ _ _ e => e) fun u e => by rw [upd_ne (nr e1)]; exact e⟩
/-- .. seen from a time when it was not there -/
theorem Ex.setD {T T' : Tie} {H H' : Hp} {D : Addr} {o : HO} (x : Ex T T' H H') (hD : H D = none) (ok : T.Ok H) : Ex T T' H (upd H' D o) :=
  ⟨x.nx, x.old, x.new, fun a u e f => by rw [upd_ne (fun z => by rw [z, hD] at e; cases e)]; exact x.fz a u e f, fun a e => by rw [upd_ne (fun z => by rw [z] at e; exact e hD)]; exact x.there a e,
    x.hid, x.hidN, fun a hm => by rw [upd_ne (fun z => ok.hidT a hm (by rw [z]; exact hD))]; exact x.hidS a hm⟩
/-- the hidden thing comes to light -/
theorem unhide {T T1 : Tie} {h : MH} {H H1 : Hp} {D : Addr} (hr : Hrel G T h H) (x : Ex T1 T H1 H) (ok1 : T1.Ok H1) (hD : H1 D = none) (hm : D ∈ T.hid) : Hrel G (T.show D) h H ∧ Ex T1 (T.show D) H1 H ∧ Fz (T.show D) D ∧ (∀ a u, H a = some u → Fz T a → Fz (T.show D) a ∧ H a = some u) := by
  have hf : ∀ a u, H a = some u → Fz T a → Fz (T.show D) a ∧ H a = some u := fun a u e f => ⟨⟨f.own, fun hm => f.hid (List.mem_filter.mp hm).1⟩, e⟩
  refine ⟨⟨⟨hr.ok.lt, hr.ok.inj, hr.ok.there, fun n a e hm => hr.ok.hid n a e (List.mem_filter.mp hm).1, fun a hm => hr.ok.hidT a (List.mem_filter.mp hm).1⟩, hr.nx, fun n u e => ?_⟩,
    ⟨x.nx, x.old, x.new, x.fz, x.there, fun a hm => List.mem_filter.mpr ⟨x.hid a hm, decide_eq_true fun z => ok1.hidT a hm (by rw [z]; exact hD)⟩, fun a hm => x.hidN a (List.mem_filter.mp hm).1, x.hidS⟩, ⟨fun n e => hr.ok.hid n D e hm, fun hm => of_decide_eq_true (List.mem_filter.mp hm).2 rfl⟩, hf⟩
  obtain ⟨a, e1, r⟩ := hr.obj n u e
  exact ⟨a, e1, r.as (show T.nx ≤ (T.show D).nx from Nat.le_refl _) hf (fun _ _ _ e => e) fun u e => e⟩
theorem nox_cases {α γ δ : Type} {rq : Tie → Hp → γ → δ → Prop} {T : Tie} {H : Hp} {σ : Sl} {r : R α} {f : α → MH → R γ} {Q : δ → Hp → Prop} (q : Res G rq Y T H σ (r.nox.bind f) Q) : ∃ w h, r = .ok w h ∧ Res G rq Y T H σ (f w h) Q := by
  cases r with
  | ok w h => exact ⟨w, h, rfl, q⟩
  | exc e h' => exact q.elim
  | stuck => exact q.elim
theorem reps_setD {T : Tie} {H : Hp} {D : Addr} {o : HO} (hm : D ∈ T.hid) {ws : List W} {vs : List V} (r : Reps G T H ws vs) : Reps G T (upd H D o) ws vs :=
  reps_as (Nat.le_refl _) (fun a u e f => ⟨f, by rw [upd_ne (fun z => f.hid (by rw [z]; exact hm))]; exact e⟩) (fun _ _ _ e => e) _ _ r
theorem rd_lc {src : AM} {g : GM} {t e : EM} {sl : List Nat} : ∀ σ H Q, rdE (kt X adr) Y (mLc src g t e sl) σ H Q → tLc (rdI (kt X adr) Y src) (rdG (kt X adr) g sl) (rdT (kt X adr) Y0 t) (rdE (kt X adr) Y0 e) sl σ H Q := by
  intro σ H Q ⟨T, me, h, hr, hE, q⟩
  refine ⟨T, me, h, hr, hE, Res.bind q fun ws h1 _ T1 H1 J hr1 x1 wk q1 D hD => ?_⟩
  have hE1 := (hE.ex x1).wipe sl
  cases lk : lenOk ws with
  | false => rw [lk] at q1; exact q1.elim
  | true =>
  rw [lk] at q1
  have lt : ws.length < sizeLine := by rw [sizeLine_eq]; exact Nat.le_of_ble_eq_true lk
  obtain ⟨hr2, x2⟩ := hide_new (o := .lst []) hr1 hD
  refine ⟨fun i m H => m = ws.length - i ∧ i ≤ ws.length ∧ ∃ T2 h2 acc av, Hrel (kt X adr) T2 h2 H ∧ Ex T1 T2 H1 H ∧ D ∈ T2.hid ∧ H D = some (.lst av) ∧ Reps (kt X adr) T2 H acc.reverse av ∧ acc.length ≤ i ∧
    ResV (kt X adr) Y T1 H1 σ ((lcM g t e (wipeW me sl) (ws.drop i) acc h2).bind fun xs h => .ok (.lst (rev xs)) h) Q, ⟨ws.length, by simp, Nat.zero_le _, T1.hide D, h1, [], [], hr2, x2, List.mem_cons_self, upd_same, Reps.nil, Nat.le_refl _, by simpa using q1⟩, ?_⟩
  rintro i m H2 ⟨rfl, hi, T2, h2, acc, av, hr2, x2, hm, hDv, rp, al, q2⟩
  cases ed : ws.drop i with
  | nil =>
    have el : i = ws.length := by
      have := congrArg List.length ed
      simp at this
      omega
    subst el
    rw [ed] at q2
    refine .inl ⟨wk.stop T2 H2 hr2.ok x2, ?_⟩
    obtain ⟨hr3, x3, fD, hf⟩ := unhide hr2 x2 hr1.ok hD hm
    refine q2 (T2.show D) H2 (.ref D) hr3 x3 ?_
    unfold Rep
    rw [rev_eq]
    exact ⟨D, av, rfl, fD, hDv, reps_as (show T2.nx ≤ (T2.show D).nx from Nat.le_refl _) hf (fun _ _ _ e => e) _ _ rp⟩
  | cons w r =>
    obtain ⟨ew, er, lt'⟩ := drop_cons ed
    rw [ed] at q2
    unfold lcM at q2
    refine .inr ⟨wk.go T2 H2 i hr2.ok x2 lt', fun H => ∃ T2 h2 acc av, Hrel (kt X adr) T2 h2 H ∧ Ex T1 T2 H1 H ∧ D ∈ T2.hid ∧ H D = some (.lst av) ∧ Reps (kt X adr) T2 H acc.reverse av ∧ acc.length ≤ i + 1 ∧
      ResV (kt X adr) Y T1 H1 σ ((lcM g t e (wipeW me sl) (ws.drop (i + 1)) acc h2).bind fun xs h => .ok (.lst (rev xs)) h) Q, fun H' z => ⟨_, by omega, rfl, lt', z⟩, fun x H3 y => ?_⟩
    obtain ⟨hr3, x3, rpw⟩ := wk.yld T2 H2 i x H3 h2 w hr2 x2 ew y
    have D3 : H3 D = some (.lst av) := by rw [x3.hidS D hm]; exact hDv
    have rp3 := reps_ex x3 _ _ rp
    cases eg : g w (wipeW me sl) with
    | none => rw [eg] at q2; exact q2.elim
    | some me3 =>
      rw [eg] at q2
      dsimp only at q2
      rw [R.bind_bind] at q2
      obtain ⟨b, h4, et, q3⟩ := nox_cases q2
      have x13 := x2.trans x3
      refine ⟨T2, wipeW me sl, h2, w, hr3, hE1.ex x13, rpw, me3, eg, fun σ4 e4 w4 => ⟨?_, T2, me3, h2, hr3, e4, ?_⟩⟩
      · rw [w4]
        apply List.ext_getElem?
        intro j
        rw [wipe_get, wipe_get, wipe_length]
        by_cases z : j ∈ sl ∧ j < σ.length
        · rw [if_pos z, if_pos z]
        · rw [if_neg z, if_neg z]
      · rw [et]
        cases b with
        | bl k =>
          intro T5 H5 k' hr5 x5 rk
          cases rk
          have D5 : H5 D = some (.lst av) := by rw [x5.hidS D hm]; exact D3
          have hm5 : D ∈ T5.hid := x5.hid D hm
          have rp5 := reps_ex x5 _ _ rp3
          cases k with
          | false =>
            rw [if_neg Bool.false_ne_true]
            exact ⟨T5, h4, acc, av, hr5, x13.trans x5, hm5, D5, rp5, by omega, by rw [er]; exact q3⟩
          | true =>
            rw [if_pos rfl]
            dsimp only at q3
            rw [R.bind_bind] at q3
            obtain ⟨xw, h6, ee, q4⟩ := nox_cases q3
            refine ⟨T5, me3, h4, hr5, e4.ex x5, ?_⟩
            rw [ee]
            intro T7 H7 v7 hr7 x7 rp7
            have D7 : H7 D = some (.lst av) := by rw [x7.hidS D hm5]; exact D5
            have hm7 : D ∈ T7.hid := x7.hid D hm5
            have rpa := reps_ex x7 _ _ rp5
            have avl : av.length < sizeLine := by rw [← rpa.length, List.length_reverse]; omega
            have x17 := (x13.trans x5).trans x7
            obtain ⟨hr8, hf8⟩ := hid_set (o := .lst (av ++ [v7])) hr7 hm7
            refine ⟨av, D7, avl, T7, h6, xw :: acc, av ++ [v7], hr8, x17.setD hD hr1.ok, hm7, upd_same, ?_, by simp; omega, by rw [er]; exact q4⟩
            rw [List.reverse_cons]
            exact reps_setD hm7 (rpa.append (.cons rp7 .nil))
        | _ => exact q3.elim
theorem me_lc {elt tg iter : Expr} {ifs : List Expr} {scope : Scope} {own : List (Str × Nat)} {pos : Pos} {src : AM} {g : GM} {t e : EM} {sl : List Nat} (hc : X.calm = true) (hN : X.N.Nodup) (hi : MI X adr Y tg iter src) (ok : BlkOk X.N X.env.scope scope own) (hsl : sl = own.map (·.2))
    (hg : ∀ (s : Shared) (H : Hp) (C : Addr) (cl : List (Str × Addr)) (fp : List Addr), MG (X.blk s H scope (compEnvC scope cl C X.env) fp) adr tg g sl) (ht : ∀ (s : Shared) (H : Hp) (C : Addr) (cl : List (Str × Addr)) (fp : List Addr), MTs (X.blk s H scope (compEnvC scope cl C X.env) fp) adr Y0 ifs t)
    (he : ∀ (s : Shared) (H : Hp) (C : Addr) (cl : List (Str × Addr)) (fp : List Addr), ME (X.blk s H scope (compEnvC scope cl C X.env) fp) adr Y0 elt e) (hs : ∀ x, foldedSetIterable iter X.env x = pure x) :
    ME X adr Y (.ListComp elt [⟨tg, iter, ifs, 0⟩] scope pos) (mLc src g t e sl) := by
  subst hsl
  exact pe_imp (pe_lc (g := rdG (kt X adr) g (own.map (fun x : Str × Nat => x.2))) (tt := rdT (kt X adr) Y0 t) (te := rdE (kt X adr) Y0 e) hc hN hi ok hg ht he hs) rd_lc
/-- name = [..], on one line -/
theorem ms_setLc {i : Nat} {y : Str} {py : Pos} {elt tg iter : Expr} {ifs : List Expr} {scope : Scope} {own : List (Str × Nat)} {pos spos : Pos} {src : AM} {g : GM} {t e : EM} {sl : List Nat} (hy : X.N[i]? = some y) (hyl : X.env.scope.names.lookup y = some .local)
    (hsw : swapsWith (.ListComp elt [⟨tg, iter, ifs, 0⟩] scope pos) (some (.Name y py)) spos.line X.env = pure true) (hc : X.calm = true) (hN : X.N.Nodup) (hi : MI X adr Y tg iter src) (ok : BlkOk X.N X.env.scope scope own) (hsl : sl = own.map (·.2))
    (hg : ∀ (s : Shared) (H : Hp) (C : Addr) (cl : List (Str × Addr)) (fp : List Addr), MG (X.blk s H scope (compEnvC scope cl C X.env) fp) adr tg g sl) (ht : ∀ (s : Shared) (H : Hp) (C : Addr) (cl : List (Str × Addr)) (fp : List Addr), MTs (X.blk s H scope (compEnvC scope cl C X.env) fp) adr Y0 ifs t)
    (he : ∀ (s : Shared) (H : Hp) (C : Addr) (cl : List (Str × Addr)) (fp : List Addr), ME (X.blk s H scope (compEnvC scope cl C X.env) fp) adr Y0 elt e) (hs : ∀ x, foldedSetIterable iter X.env x = pure x) :
    MS X adr Y (.Assign [.Name y py] (.ListComp elt [⟨tg, iter, ifs, 0⟩] scope pos) spos) (sSet i (mLc src g t e sl)) := by
  subst hsl
  refine ps_imp (ps_setLc (g := rdG (kt X adr) g (own.map (fun x : Str × Nat => x.2))) (tt := rdT (kt X adr) Y0 t) (te := rdE (kt X adr) Y0 e) hc hN hy hyl hsw hi ok hg ht he hs) fun D σ H ⟨T, me, h, hr, hE, q⟩ => rd_lc (adr := adr) (Y := Y) σ H _ ⟨T, me, h, hr, hE, ResS.bindE hE q fun w h1 _ T1 H1 v hr1 x1 rp e1 q1 => q1 T1 H1 _ hr1 (Ex.rfl' hr1.ok) (e1.put rp)⟩
end Mi

end
section
namespace Mi
open PySem PySem.Spec PyProof.Rows L2
variable {G : Kt} {X : Cx} {adr : Nat → Addr} {Y : WX}

/-! ### promises -/
def ResF (G : Kt) (T : Tie) (H : Hp) (r : R W) (Q : VK) (E : XK) : Prop := match r with
  | .ok w h' => ∀ T' H' v, Hrel G T' h' H' → Ex T T' H H' → Rep G T' H' w v → Q v H'
  | .exc x h' => ∀ T' H' cls d, Hrel G T' h' H' → Ex T T' H H' → XcIs G T' H' x cls d → E cls d H'
  | .stuck => False
abbrev FM := List W → MH → R W
def spM (G : Kt) (mf : FM) : Sp := fun vs H Q E => ∃ T ws h, Hrel G T h H ∧ Reps G T H ws vs ∧ ResF G T H (mf ws h) Q E
def keepLt (k : Nat) : List (Nat × O) → List (Nat × O)
  | [] => []
  | (m, o) :: r => match Nat.ble k m with
    | true => keepLt k r
    | false => (m, o) :: keepLt k r
theorem lookN_keepLt {k n : Nat} {o : O} : ∀ {l : List (Nat × O)}, lookN n (keepLt k l) = some o → lookN n l = some o
  | (m, u) :: r, e => by
    unfold keepLt at e
    cases q : Nat.ble k m with
    | true =>
      rw [q] at e
      have ih := lookN_keepLt e
      unfold lookN
      cases z : Nat.beq n m with
      | false => exact ih
      | true =>
        exfalso
        have nm : n = m := Nat.eq_of_beq_eq_true z
        have hk : ∀ l : List (Nat × O), lookN n (keepLt k l) = none := by
          intro l
          induction l with
          | nil => rfl
          | cons p r ih =>
            obtain ⟨a, b⟩ := p
            unfold keepLt
            cases y : Nat.ble k a with
            | true => exact ih
            | false =>
              unfold lookN
              cases y2 : Nat.beq n a with
              | false => exact ih
              | true =>
                have : n = a := Nat.eq_of_beq_eq_true y2
                rw [← nm, this, y] at q
                cases q
        rw [hk] at e
        cases e
    | false =>
      rw [q] at e
      unfold lookN at e ⊢
      cases z : Nat.beq n m with
      | true => rw [z] at e; exact e
      | false => rw [z] at e; exact lookN_keepLt e
def MH.back (h' : MH) (k : Nat) : MH := ⟨h'.nx, keepLt k h'.l⟩
theorem Hrel.back {T : Tie} {h : MH} {H : Hp} (hr : Hrel G T h H) (k : Nat) : Hrel G T (h.back k) H := ⟨hr.ok, hr.nx, fun n o e => hr.obj n o (lookN_keepLt e)⟩
def padM (nl : Nat) : List W → Me
  | [] => List.replicate nl none
  | w :: r => some w :: padM nl r
theorem padM_eq (nl : Nat) : ∀ ws : List W, padM nl ws = ws.map some ++ List.replicate nl none
  | [] => rfl
  | w :: r => by unfold padM; rw [padM_eq]; rfl
/-- a def: np parameters, nl other names; dr: what it made is dropped -/
def mDef (np nl : Nat) (dr : Bool) (body : SM) : FM := fun ws h => match Nat.beq ws.length np with
  | false => .stuck
  | true => match body (padM nl ws) h with
    | .nx _ h' => .ok .non (match dr with | true => h'.back h.nx | false => h')
    | .rt w h' => .ok w (match dr with | true => h'.back h.nx | false => h')
    | .exc x _ h' => .exc x h'
    | _ => .stuck
theorem nth_none : ∀ (n i : Nat), nth (List.replicate n none) i = none
  | 0, _ => rfl
  | n + 1, 0 => rfl
  | n + 1, i + 1 => nth_none n i
theorem Erel.start {T : Tie} {H : Hp} (m nl : Nat) : ∀ {ws : List W} {vs : List V}, Reps G T H ws vs → Erel G T (padM nl ws) (vs.map some ++ List.replicate nl none) H
  | [], vs, r => by
    unfold Reps at r
    subst r
    refine ⟨by simp [padM], fun i w e => ?_⟩
    unfold padM at e
    rw [nth_none] at e
    cases e
  | w :: ws, vs, r => by
    unfold Reps at r
    obtain ⟨v, s, rfl, h1, h2⟩ := r
    have ih := Erel.start m nl h2
    refine ⟨by simp only [padM, List.map_cons, List.cons_append, List.length_cons]; rw [ih.1], fun i u e => ?_⟩
    cases i with
    | zero =>
      unfold padM nth at e
      cases e
      exact ⟨v, rfl, h1⟩
    | succ i =>
      unfold padM nth at e
      obtain ⟨x, e1, r1⟩ := ih.2 i u e
      exact ⟨x, by simpa using e1, r1⟩
section
variable {P : Program} {w : World} {K : PySem.W.Frag} {mg : Str → Option Value} {base : Heap}
theorem fn_m {x qual : Str} {params : Arguments} {body : List Stmt} {scope : Scope} {dvs : List V} {kws : List (Str × V)} {f : Addr} {fd : FuncData} {N ps : List Str} {k np nl : Nat} {dr : Bool} {m : SM}
    (F : FunD K x qual params body scope dvs kws f fd) (S : FnScope N ps scope) (h1 : ps.length = np) (h2 : N.length = np + nl)
    (hb : ∀ (cdv : Value) (A : Around) (outer : List Env) (s : Shared) (H : Hp) (E : XK), Room k (A.deeper (envOfC qual scope s.heap.objs.size f cdv)) →
      MSs (cxOf (L2.CX P w) P w K mg base N qual scope f cdv A outer s H E) adr (fun cls d _ H => E cls d H) body m) :
    FnOk P w K mg base (L2.CX P w) (k + 1) f fd ps (spM ⟨P, w, K, adr⟩ (mDef np nl dr m)) := by
  have hl : ∀ vs H Q E, spM ⟨P, w, K, adr⟩ (mDef np nl dr m) vs H Q E → vs.length = np := fun vs H Q E ⟨T, ws, h, hr, rp, q⟩ => by
    unfold mDef at q
    cases e : Nat.beq ws.length np with
    | false => rw [e] at q; exact q.elim
    | true => rw [← rp.length]; exact Nat.eq_of_beq_eq_true e
  refine F.ok S (fun vs H Q E h => by rw [h1]; exact hl vs H Q E h) fun cdv A outer s H vs Q E hr h => ⟨_, hb cdv A outer s H E hr, ?_⟩
  have lv := hl vs H Q E h
  obtain ⟨T, ws, mh, hr, rp, q⟩ := h
  refine ⟨T, padM nl ws, mh, hr, ?_, ?_⟩
  · have := Erel.start (G := ⟨P, w, K, adr⟩) 0 nl rp
    unfold L2.start
    rw [show N.length - vs.length = nl by omega]
    exact this
  · unfold mDef at q
    cases e : Nat.beq ws.length np with
    | false => rw [e] at q; exact q.elim
    | true =>
      rw [e] at q
      dsimp only at q
      cases eb : m (padM nl ws) mh with
      | nx me h' =>
        rw [eb] at q
        intro T' H' σ' hr' x' e'
        refine q T' H' .non ?_ x' (by unfold Rep; rfl)
        cases dr with
        | true => exact hr'.back _
        | false => exact hr'
      | rt w h' =>
        rw [eb] at q
        intro T' H' v hr' x' rp
        refine q T' H' v ?_ x' rp
        cases dr with
        | true => exact hr'.back _
        | false => exact hr'
      | bk me h' => rw [eb] at q; exact q.elim
      | ct me h' => rw [eb] at q; exact q.elim
      | exc x me h' => rw [eb] at q; exact fun T' H' σ' cls d hr' x' e' xi => q T' H' cls d hr' x' xi
      | stuck => rw [eb] at q; exact q.elim
end

/-! ### calls -/
section
variable {k : Nat} {f C : Addr} {fd : FuncData} {ps : List Str} {mf : FM} {dws : List W} {ds : List Value} {x m : Str} {p pos apos : Pos} {e o : Expr} {es : List Expr} {as : AM} {mo : EM}
/-- what the defaults are -/
def Dfl (K : PySem.W.Frag) (dws : List W) (ds : List Value) : Prop := ∀ (G : Kt) T H, G.K = K → ∃ dvs, Vals dvs ds ∧ Reps G T H dws dvs
theorem Dfl.nil {K : PySem.W.Frag} : Dfl K [] [] := fun G T H _ => ⟨[], .nil, Reps.nil⟩
theorem res_f {T : Tie} {H : Hp} {σ : Sl} {r : R W} {Q : VK} (q : ResV G Y T H σ r Q) : ResF G T H r Q (fun cls d H' => Y cls d σ H') := by
  cases r with
  | ok w h => exact q
  | exc x h => exact q
  | stuck => exact q
theorem run_m {pins : List (Addr × Obj)} {σ : Sl} {H : Hp} {s : Shared} {Q : VK} {us : List Value} {vs : List V} {T : Tie} {h : MH} {ws : List W} (F : FnOk X.prog X.w X.K X.mg X.base (L2.CX X.prog X.w) k f fd ps (spM (kt X adr) mf)) (hr : Room k X.A) (hb : Binds X.K fd ps ds) (hd : Dfl X.K dws ds) (tk : Takes X Y)
    (I : Inv X pins σ H s) (r : Vals vs us) (hR : Hrel (kt X adr) T h H) (rp : Reps (kt X adr) T H ws vs) (q : ResV (kt X adr) Y T H σ (mf (ws ++ dws) h) Q) : wpAny (model X.prog X.w) X.A (call (.ref f) us) (EP X pins σ Q) X.xe s := by
  obtain ⟨dvs, rd, rpd⟩ := hd (kt X adr) T H rfl
  have r2 : Vals (vs ++ dvs) (us ++ ds) := r.append rd
  have hsp : spM (kt X adr) mf (vs ++ dvs) H Q (fun cls d H' => Y cls d σ H') := ⟨T, ws ++ dws, h, hR, rp.append rpd, res_f q⟩
  have hl : (us ++ ds).length = ps.length := by rw [← r2.length]; exact F.len _ _ _ _ hsp
  refine wpAny_call (codeAny_mono (F.run X.A X.stack s H ⟨us, []⟩ (us ++ ds) (vs ++ dvs) Q _ hr I.env0 (hb s us I.kIn hl) r2 hsp) fun r s' hq => ?_)
  cases r with
  | error er => exact tk er s' (XE.of_call I (fun _ _ _ z => z) hq)
  | ok fl =>
    cases fl with
    | ret u => exact I.after hq
    | next => exact False.elim hq
    | brk => exact False.elim hq
    | cont => exact False.elim hq
def mCall (mf : FM) (dws : List W) (as : AM) : EM := fun me h => (as me h).bind fun ws h => mf (ws ++ dws) h
def mCall0 (mf : FM) (dws : List W) : EM := fun _ h => mf dws h
theorem me_call (F : FnOk X.prog X.w X.K X.mg X.base (L2.CX X.prog X.w) k f fd ps (spM (kt X adr) mf)) (hr : Room k X.A) (hg : Gl X x) (hm : X.mg x = some (.ref f)) (hk : PySem.W.keepIn X.K (.ref f) = true) (hb : Binds X.K fd ps ds) (hd : Dfl X.K dws ds) (tk : Takes X Y)
    (ha : MA X adr Y (e :: es) as) (hdb : (x == ("__debug__" : Str)) = false) (he : starEach (e :: es) X.env = (false, eval e X.env) :: starEach es X.env) (hpl : (backTo pos (starEach es X.env)).any (·.1) = false) :
    ME X adr Y (.Call (.Name x p) (e :: es) [] pos) (mCall mf dws as) := by
  refine ⟨fun pins s σ H Q I ⟨T, me, h, hR, hE, q⟩ => ?_⟩
  refine wpAny_Call_Name_kw (ld_glob I hg hm ?_ hdb)
  refine PySem.W.callWith_K (h₀ := X.base) I.ok.mod.kin hk (thn (ha.run pos pins s σ H (fun vs H1 => ∃ T1 h1 ws, Hrel (kt X adr) T1 h1 H1 ∧ Reps (kt X adr) T1 H1 ws vs ∧ ResV (kt X adr) Y T1 H1 σ (mf (ws ++ dws) h1) Q) I
    ⟨T, me, h, hR, hE, Res.bind q fun ws h1 _ T1 H1 vs hr1 x1 rp q1 => ⟨T1, h1, ws, hr1, rp, q1⟩⟩) fun us s1 ⟨vs, H1, I1, r, T1, h1, ws, hr1, rp, q1⟩ => ⟨I1.kIn, ?_⟩) he hpl
  exact run_m F hr hb hd tk I1 r hr1 rp q1
theorem me_call0 (F : FnOk X.prog X.w X.K X.mg X.base (L2.CX X.prog X.w) k f fd ps (spM (kt X adr) mf)) (hr : Room k X.A) (hg : Gl X x) (hm : X.mg x = some (.ref f)) (hk : PySem.W.keepIn X.K (.ref f) = true) (hb : Binds X.K fd ps ds) (hd : Dfl X.K dws ds) (tk : Takes X Y)
    (hdb : (x == ("__debug__" : Str)) = false) : ME X adr Y (.Call (.Name x p) [] [] pos) (mCall0 mf dws) := by
  refine ⟨fun pins s σ H Q I ⟨T, me, h, hR, hE, q⟩ => ?_⟩
  refine wpAny_Call_Name_kw (ld_glob I hg hm ?_ hdb)
  exact PySem.W.callWith_K0 I.kIn hk (run_m (us := []) (ws := []) F hr hb hd tk I .nil hR Reps.nil q)

/-! ### attributes -/
def strEq (a b : Str) : Bool := go a.cps.toList b.cps.toList
where
  go : List Nat → List Nat → Bool
  | [], [] => true
  | x :: r, y :: s => match Nat.beq x y with
    | true => go r s
    | false => false
  | _, _ => false
theorem strEq_go : ∀ a b : List Nat, strEq.go a b = decide (a = b)
  | [], [] => by simp [strEq.go]
  | [], _ :: _ => by simp [strEq.go]
  | _ :: _, [] => by simp [strEq.go]
  | x :: r, y :: s => by
    unfold strEq.go
    cases h : Nat.beq x y with
    | true =>
      have e : x = y := Nat.eq_of_beq_eq_true h
      subst e
      simp [strEq_go r s]
    | false =>
      have e : x ≠ y := fun z => by subst z; rw [Nat.beq_refl] at h; cases h
      simp [e]
theorem strEq_iff {a b : Str} : strEq a b = true ↔ a = b := by
  unfold strEq
  rw [strEq_go, decide_eq_true_iff]
  constructor
  · intro h
    obtain ⟨⟨x⟩⟩ := a
    obtain ⟨⟨y⟩⟩ := b
    simp only at h
    rw [h]
  · intro h; rw [h]
theorem strEq_eq {a b : Str} : strEq a b = decide (a = b) := by
  cases h : strEq a b with
  | true => rw [strEq_iff.mp h]; simp
  | false =>
    have : a ≠ b := fun e => by rw [strEq_iff.mpr e] at h; cases h
    simp [this]
def getF (f : Str) : List Str → List W → Option W
  | g :: fn, w :: fv => match strEq f g with
    | true => some w
    | false => getF f fn fv
  | _, _ => none
def putFn (f : Str) : List Str → List Str
  | [] => [f]
  | g :: fn => match strEq g f with
    | true => g :: fn
    | false => g :: putFn f fn
def putFv (f : Str) (w : W) : List Str → List W → List W
  | g :: fn, x :: fv => match strEq g f with
    | true => w :: fv
    | false => x :: putFv f w fn fv
  | _, _ => [w]
def insOf (w : W) (h : MH) : Option (Nat × List Str × List W) := match w with
  | .ins c fn fv => some (c, fn, fv)
  | .ref n => match h.get n with
    | some (.ins c fn fv) => some (c, fn, fv)
    | _ => none
  | _ => none
theorem getF_zip {T : Tie} {H : Hp} {f : Str} {w : W} : ∀ {fn : List Str} {fv : List W} {vv : List V}, Reps G T H fv vv → getF f fn fv = some w → ∃ v, (fn.zip vv).lookup f = some v ∧ Rep G T H w v
  | [], _, _, _, e => by unfold getF at e; cases e
  | _ :: _, [], _, _, e => by unfold getF at e; cases e
  | g :: fn, y :: fv, vv, r, e => by
    unfold Reps at r
    obtain ⟨v, s, rfl, h1, h2⟩ := r
    unfold getF at e
    cases q : strEq f g with
    | true =>
      rw [q] at e
      cases e
      have : f = g := strEq_iff.mp q
      subst this
      exact ⟨v, by simp [List.lookup], h1⟩
    | false =>
      rw [q] at e
      have ne : (f == g) = false := beq_eq_false_iff_ne.mpr fun z => by rw [strEq_iff.mpr z] at q; cases q
      obtain ⟨u, e1, r1⟩ := getF_zip h2 e
      exact ⟨u, by simp only [List.zip_cons_cons, List.lookup, ne]; exact e1, r1⟩
theorem insOf_at {T : Tie} {h : MH} {H : Hp} {w : W} {v : V} {c : Nat} {fn : List Str} {fv : List W} (hr : Hrel G T h H) (rp : Rep G T H w v) (e : insOf w h = some (c, fn, fv)) :
    ∃ a dx vv, v = .ref a ∧ H a = some (.ins (G.adr c) dx (fn.zip vv)) ∧ fn.length = vv.length ∧ Reps G T H fv vv := by
  cases w with
  | ins c' fn' fv' =>
    cases e
    unfold Rep at rp
    obtain ⟨a, dx, vv, e1, _, _, e2, _, l, r⟩ := rp
    exact ⟨a, dx, vv, e1, e2, l, r⟩
  | ref n =>
    unfold insOf at e
    cases q : h.get n with
    | none => simp only [q] at e; cases e
    | some o =>
      simp only [q] at e
      cases o with
      | ins c' fn' fv' =>
        cases e
        obtain ⟨a, e1, dx, vv, _, e2, _, l, r⟩ := hr.obj n _ q
        unfold Rep at rp
        exact ⟨a, dx, vv, rp.2 a e1, e2, l, r⟩
      | _ => cases e
  | _ => cases e
def memN (c : Nat) : List Nat → Bool
  | [] => false
  | x :: r => match Nat.beq c x with
    | true => true
    | false => memN c r
theorem memN_mem {c : Nat} : ∀ {l : List Nat}, memN c l = true → c ∈ l
  | x :: r, h => by
    unfold memN at h
    cases q : Nat.beq c x with
    | true => rw [Nat.eq_of_beq_eq_true q]; exact List.mem_cons_self
    | false => rw [q] at h; exact List.mem_cons_of_mem _ (memN_mem h)
def mFld (cs : List Nat) (f : Str) (m : EM) : EM := fun me h => (m me h).bind fun w h => match insOf w h with
  | some (c, fn, fv) => match memN c cs with
    | true => ofO (getF f fn fv) h
    | false => .stuck
  | none => .stuck
theorem me_fld {fl : Str} {cs : List Nat} (he : ME X adr Y e mo) (hc : ∀ c ∈ cs, Cls X.K (adr c) ∧ NoAttr X.K (adr c) fl) (hb : attributeBase e fl X.env (eval e X.env) = eval e X.env) : ME X adr Y (.Attribute e fl pos) (mFld cs fl mo) :=
  pe_imp (pe_fld he hb) fun σ H Q ⟨T, me, h, hr, hE, q⟩ => ⟨T, me, h, hr, hE, Res.bind q fun w h1 _ T1 H1 v hr1 x1 rp q1 => by
    cases ei : insOf w h1 with
    | none => simp only [ei] at q1; exact q1.elim
    | some t =>
      obtain ⟨c, fn, fv⟩ := t
      simp only [ei] at q1
      cases em : memN c cs with
      | false => simp only [em] at q1; exact q1.elim
      | true =>
        simp only [em] at q1
        obtain ⟨a, dx, vv, rfl, e2, l, r⟩ := insOf_at hr1 rp ei
        obtain ⟨c1, c2⟩ := hc c (memN_mem em)
        cases eg : getF fl fn fv with
        | none => rw [eg] at q1; exact q1.elim
        | some u =>
          rw [eg] at q1
          obtain ⟨v2, e3, r2⟩ := getF_zip r eg
          exact ⟨a, _, dx, _, v2, rfl, e2, c1, c2, e3, q1 T1 H1 v2 hr1 (Ex.rfl' hr1.ok) r2⟩⟩
/-- a property of the class c: its getter -/
def mProp (c : Nat) (mf : FM) (m : EM) : EM := fun me h => (m me h).bind fun w h => match insOf w h with
  | some (c', _, _) => match Nat.beq c' c with
    | true => (mf [w] h).nox
    | false => .stuck
  | none => .stuck
theorem resF_nox {T : Tie} {H : Hp} {σ : Sl} {r : R W} {Q : VK} {E : XK} (q : ResV G Y T H σ r.nox Q) : ResF G T H r Q E := by
  cases r with
  | ok w h => exact q
  | exc x h => exact q.elim
  | stuck => exact q.elim
theorem me_prop {fl : Str} {c : Nat} {pa : Addr} (he : ME X adr Y e mo) (hc : Cls X.K (adr c)) (hp : PropOf X.K (adr c) fl pa f) (F : FnOk X.prog X.w X.K X.mg X.base (L2.CX X.prog X.w) k f fd ps (spM (kt X adr) mf)) (hr : Room (k + 1) X.A) (hb : Binds X.K fd ps [])
    (hab : attributeBase e fl X.env (eval e X.env) = eval e X.env) : ME X adr Y (.Attribute e fl pos) (mProp c mf mo) :=
  pe_imp (pe_prop (dvs := []) (E := E0) he hc hp F hr hb .nil passL hab) fun σ H Q ⟨T, me, h, hR, hE, q⟩ => ⟨T, me, h, hR, hE, Res.bind q fun w h1 _ T1 H1 v hr1 x1 rp q1 => by
    cases ei : insOf w h1 with
    | none => simp only [ei] at q1; exact q1.elim
    | some t =>
      obtain ⟨c', fn, fv⟩ := t
      simp only [ei] at q1
      cases em : Nat.beq c' c with
      | false => simp only [em] at q1; exact q1.elim
      | true =>
        simp only [em] at q1
        have ec : c' = c := Nat.eq_of_beq_eq_true em
        subst ec
        obtain ⟨a, dx, vv, rfl, e2, l, r⟩ := insOf_at hr1 rp ei
        exact ⟨a, dx, _, rfl, e2, T1, [w], h1, hr1, Reps.cons rp Reps.nil, resF_nox q1⟩⟩
/-- e.f = value, of a thing of the little heap -/
def sFldM (cs : List Nat) (f : Str) (mo mv : EM) : SM := fun me h => .ofE me (mv me h) fun w h => .ofE me (mo me h) fun u h => match u with
  | .ref n => match h.get n with
    | some (.ins c fn fv) => match memN c cs, Nat.blt fn.length 900 with
      | true, true => .nx me (h.set n (.ins c (putFn f fn) (putFv f w fn fv)))
      | _, _ => .stuck
    | _ => .stuck
  | _ => .stuck
theorem putFn_zip {T : Tie} {H : Hp} {f : Str} {w : W} {v : V} (rw : Rep G T H w v) : ∀ {fn : List Str} {fv : List W} {vv : List V}, fn.length = vv.length → Reps G T H fv vv → ∃ vv', (putFn f fn).zip vv' = putF f v (fn.zip vv) ∧ (putFn f fn).length = vv'.length ∧ Reps G T H (putFv f w fn fv) vv'
  | [], fv, vv, l, r => by
    cases vv with
    | nil =>
      cases fv with
      | nil => exact ⟨[v], rfl, rfl, by unfold putFv; exact Reps.cons rw Reps.nil⟩
      | cons _ _ => have := r.length; simp at this
    | cons _ _ => simp at l
  | g :: fn, fv, vv, l, r => by
    cases fv with
    | nil => have := r.length; rw [← this] at l; simp at l
    | cons y fv =>
      unfold Reps at r
      obtain ⟨u, s, rfl, h1, h2⟩ := r
      unfold putFn putFv
      cases q : strEq g f with
      | true =>
        have e : g = f := strEq_iff.mp q
        refine ⟨v :: s, ?_, by simpa using l, Reps.cons rw h2⟩
        show (g, v) :: fn.zip s = putF f v ((g, u) :: fn.zip s)
        unfold putF
        rw [if_pos e]
      | false =>
        have e : ¬ g = f := fun z => by rw [strEq_iff.mpr z] at q; cases q
        obtain ⟨vv', z1, z2, z3⟩ := putFn_zip rw (f := f) (by simpa using l) h2
        refine ⟨u :: vv', ?_, by simp [z2], Reps.cons h1 z3⟩
        show (g, u) :: (putFn f fn).zip vv' = putF f v ((g, u) :: fn.zip s)
        unfold putF
        rw [if_neg e, z1]
end
end Mi

end
section
namespace Mi
open PySem PySem.Spec PyProof.Rows L2
variable {G : Kt} {X : Cx} {adr : Nat → Addr} {Y : WX}

theorem get_set_same {h : MH} {n : Nat} {o u : O} (e : h.get n = some u) : (h.set n o).get n = some o := lookN_set_same e
theorem get_set_other {h : MH} {n k : Nat} {o : O} (ne : k ≠ n) : (h.set n o).get k = h.get k := lookN_set_other ne
theorem get_del_same {h : MH} {n : Nat} : (h.del n).get n = none := lookN_del_same
theorem get_del_other {h : MH} {n k : Nat} (ne : k ≠ n) : (h.del n).get k = h.get k := lookN_del_other ne
theorem get_new_same {h : MH} {o : O} : (h.new o).get h.nx = some o := by
  unfold MH.get MH.new lookN
  rw [Nat.beq_refl]
theorem get_new_other {h : MH} {o : O} {k : Nat} (ne : k ≠ h.nx) : (h.new o).get k = h.get k := by
  show lookN k ((h.nx, o) :: h.l) = lookN k h.l
  conv => lhs; unfold lookN
  cases q : Nat.beq k h.nx with
  | true => exact absurd (Nat.eq_of_beq_eq_true q) ne
  | false => rfl

section
variable {T : Tie} {h : MH} {H : Hp} {n : Nat} {a : Addr} {o : O} {ho : HO}
theorem reps_upd (ok : T.Ok H) (ea : T.ρ n = some a) {ws : List W} {vs : List V} (r : Reps G T H ws vs) : Reps G T (upd H a ho) ws vs :=
  reps_as (Nat.le_refl _) (fun b u e f => ⟨f, by rw [upd_ne (fun z => f.own n (by rw [z]; exact ea))]; exact e⟩) (fun _ _ _ e => e) _ _ r
/-- a thing of the little heap changes -/
theorem box_set {o0 : O} (hr : Hrel G T h H) (e0 : h.get n = some o0) (ea : T.ρ n = some a) (new : RepO G T (upd H a ho) o a) : Hrel G T (h.set n o) (upd H a ho) ∧ Ex T T H (upd H a ho) := by
  have ok := hr.ok
  have hf : ∀ b u, H b = some u → Fz T b → Fz T b ∧ upd H a ho b = some u := fun b u e f => ⟨f, by rw [upd_ne (fun z => f.own n (by rw [z]; exact ea))]; exact e⟩
  have th : ∀ b, H b ≠ none → upd H a ho b ≠ none := fun b e => by
    by_cases z : b = a
    · subst z; rw [upd_same]; simp
    · rw [upd_ne z]; exact e
  refine ⟨⟨⟨ok.lt, ok.inj, fun m b e => th b (ok.there m b e), ok.hid, fun b e => th b (ok.hidT b e)⟩, hr.nx, fun m u e => ?_⟩,
    ⟨Nat.le_refl _, fun _ _ => .inl rfl, fun m b hm e => absurd (ok.lt m b e) (Nat.not_lt.mpr hm), fun b u e f => (hf b u e f).2, th, fun _ e => e, fun _ e => .inl e, fun b e => upd_ne fun z => ok.hid n a ea (by rw [← z]; exact e)⟩⟩
  by_cases hm : m = n
  · subst hm
    rw [get_set_same e0] at e
    cases e
    exact ⟨a, ea, new⟩
  · rw [get_set_other hm] at e
    obtain ⟨b, e1, r⟩ := hr.obj m u e
    have ne : b ≠ a := fun z => hm (ok.inj m n a (by rw [← z]; exact e1) ea)
    exact ⟨b, e1, r.as (Nat.le_refl _) hf (fun _ _ _ e => e) fun u e => by rw [upd_ne ne]; exact e⟩
abbrev Tie.add (T : Tie) (p : Addr) : Tie := { T with ρ := fun m => if m = T.nx then some p else T.ρ m, nx := T.nx + 1 }
/-- a new thing of the little heap -/
theorem box_new {p : Addr} (hr : Hrel G T h H) (hp : H p = none) (new : (∀ ws vs, Reps G T H ws vs → Reps G (T.add p) (upd H p ho) ws vs) → RepO G (T.add p) (upd H p ho) o p) : Hrel G (T.add p) (h.new o) (upd H p ho) ∧ Ex T (T.add p) H (upd H p ho) ∧ Rep G (T.add p) (upd H p ho) (.ref h.nx) (.ref p) := by
  have ok := hr.ok
  have nx := hr.nx
  have ne' : ∀ {b}, H b ≠ none → b ≠ p := fun {b} e z => by rw [z] at e; exact e hp
  have ne : ∀ {b u}, H b = some u → b ≠ p := fun {b u} e => ne' (by rw [e]; simp)
  have hf : ∀ b u, H b = some u → Fz T b → Fz (T.add p) b ∧ upd H p ho b = some u := fun b u e f => by
    refine ⟨⟨fun m z => ?_, f.hid⟩, by rw [upd_ne (ne e)]; exact e⟩
    by_cases hm : m = T.nx
    · simp only [hm, if_true] at z
      exact ne e (Option.some.inj z).symm
    · simp only [hm, if_false] at z
      exact f.own m z
  have hρ : ∀ m b, m < T.nx → (T.add p).ρ m = some b → T.ρ m = some b := fun m b hm z => by
    have : m ≠ T.nx := by omega
    simp only [this, if_false] at z
    exact z
  have th : ∀ b, H b ≠ none → upd H p ho b ≠ none := fun b e => by rw [upd_ne (ne' e)]; exact e
  refine ⟨⟨⟨fun m b e => ?_, fun m m' b e e' => ?_, fun m b e => ?_, fun m b e => ?_, fun b e => th b (ok.hidT b e)⟩, by show T.nx + 1 = h.nx + 1; rw [nx], fun m u e => ?_⟩, ⟨Nat.le_succ _, fun m hm => .inl ?_, fun m b hm e => ?_, fun b u e f => (hf b u e f).2, th, fun _ e => e, fun _ e => .inl e, fun b e => upd_ne (ne' (ok.hidT b e))⟩, ?_⟩
  · show m < T.nx + 1
    by_cases hm : m = T.nx
    · omega
    · simp only [hm, if_false] at e
      have := ok.lt m b e
      omega
  · by_cases hm : m = T.nx <;> by_cases hm' : m' = T.nx
    · rw [hm, hm']
    · simp only [hm, if_true] at e
      simp only [hm', if_false] at e'
      cases e
      exact absurd hp (ok.there m' _ e')
    · simp only [hm, if_false] at e
      simp only [hm', if_true] at e'
      cases e'
      exact absurd hp (ok.there m _ e)
    · simp only [hm, if_false] at e
      simp only [hm', if_false] at e'
      exact ok.inj m m' b e e'
  · by_cases hm : m = T.nx
    · simp only [hm, if_true] at e
      cases e
      rw [upd_same]; simp
    · simp only [hm, if_false] at e
      exact th b (ok.there m b e)
  · by_cases hm : m = T.nx
    · simp only [hm, if_true] at e
      cases e
      exact fun z => ok.hidT _ z hp
    · simp only [hm, if_false] at e
      exact ok.hid m b e
  · by_cases hm : m = h.nx
    · subst hm
      rw [get_new_same] at e
      cases e
      refine ⟨p, by simp [nx], new fun ws vs r => reps_as (show T.nx ≤ (T.add p).nx from Nat.le_succ _) hf hρ _ _ r⟩
    · rw [get_new_other hm] at e
      obtain ⟨b, e1, r⟩ := hr.obj m u e
      refine ⟨b, ?_, r.as (show T.nx ≤ (T.add p).nx from Nat.le_succ _) hf hρ fun u e => by rw [upd_ne (ne e)]; exact e⟩
      have : m ≠ T.nx := by rw [nx]; exact hm
      simp only [this, if_false]
      exact e1
  · have : m ≠ T.nx := by omega
    simp only [this, if_false]
  · by_cases h2 : m = T.nx
    · simp only [h2, if_true] at e
      cases e
      exact hp
    · simp only [h2, if_false] at e
      have := ok.lt m b e
      omega
  · unfold Rep
    refine ⟨by show h.nx < T.nx + 1; omega, fun b e => ?_⟩
    simp only [nx.symm, if_true] at e
    rw [Option.some.inj e]
/-- the tree of a thing -/
def O.toW : O → W
  | .lst ws => .lst ws
  | .dct ks vs => .dct ks vs
  | .ins c fn fv => .ins c fn fv
abbrev Tie.drop (T : Tie) (n : Nat) : Tie := { T with ρ := fun m => if m = n then none else T.ρ m }
/-- a thing of the little heap freezes -/
theorem freeze {v : V} (hr : Hrel G T h H) (e0 : h.get n = some o) (rv : Rep G T H (.ref n) v) : Hrel G (T.drop n) (h.del n) H ∧ Ex T (T.drop n) H H ∧ Rep G (T.drop n) H o.toW v := by
  have ok := hr.ok
  obtain ⟨a, ea, ro⟩ := hr.obj n o e0
  unfold Rep at rv
  have ev := rv.2 a ea
  have hf : ∀ b u, H b = some u → Fz T b → Fz (T.drop n) b ∧ H b = some u := fun b u e f => ⟨⟨fun m z => by
    by_cases hm : m = n
    · simp only [hm, if_true] at z; cases z
    · simp only [hm, if_false] at z; exact f.own m z, f.hid⟩, e⟩
  have sub : ∀ m b, (T.drop n).ρ m = some b → T.ρ m = some b ∧ m ≠ n := fun m b z => by
    by_cases hm : m = n
    · simp only [hm, if_true] at z; cases z
    · simp only [hm, if_false] at z; exact ⟨z, hm⟩
  have fa : Fz (T.drop n) a := ⟨fun m z => by
    obtain ⟨z1, z2⟩ := sub m a z
    exact z2 (ok.inj m n a z1 ea), ok.hid n a ea⟩
  refine ⟨⟨⟨fun m b e => ok.lt m b (sub m b e).1, fun m m' b e e' => ok.inj m m' b (sub m b e).1 (sub m' b e').1, fun m b e => ok.there m b (sub m b e).1, fun m b e => ok.hid m b (sub m b e).1, ok.hidT⟩, hr.nx, fun m u e => ?_⟩,
    ⟨Nat.le_refl _, fun m hm => ?_, fun m b hm e => absurd (ok.lt m b (sub m b e).1) (Nat.not_lt.mpr hm), fun _ _ e _ => e, fun _ e => e, fun _ e => e, fun _ e => .inl e, fun _ _ => rfl⟩, ?_⟩
  · by_cases hm : m = n
    · subst hm; rw [get_del_same] at e; cases e
    · rw [get_del_other hm] at e
      obtain ⟨b, e1, r⟩ := hr.obj m u e
      exact ⟨b, by simp only [hm, if_false]; exact e1, r.as (show T.nx ≤ (T.drop n).nx from Nat.le_refl _) hf (fun m b _ e => (sub m b e).1) fun _ e => e⟩
  · by_cases h2 : m = n
    · exact .inr (by simp [h2])
    · exact .inl (by simp [h2])
  · subst ev
    have rr : ∀ {ws : List W} {vs : List V}, Reps G T H ws vs → Reps G (T.drop n) H ws vs := fun r => reps_as (show T.nx ≤ (T.drop n).nx from Nat.le_refl _) hf (fun m b _ e => (sub m b e).1) _ _ r
    cases o with
    | lst ws =>
      obtain ⟨vs, e1, r⟩ := ro
      unfold O.toW Rep
      exact ⟨a, vs, rfl, fa, e1, rr r⟩
    | dct ks vs =>
      obtain ⟨o, kv, vv, sm, ko, e1, d, r1, r2⟩ := ro
      unfold O.toW Rep
      exact ⟨a, o, kv, vv, rfl, fa, sm, ko, e1, d, rr r1, rr r2⟩
    | ins c fn fv =>
      obtain ⟨dx, vv, f, e1, e2, l, r⟩ := ro
      unfold O.toW Rep
      exact ⟨a, dx, vv, rfl, fa, (hf dx _ e2 f).1, e1, e2, l, rr r⟩
end

/-! ### attributes stored -/
section
variable {o value : Expr} {mo mv : EM} {fl : Str} {cs : List Nat} {pos pos' : Pos}
theorem ms_fld (ha : ME X adr Y o mo) (hv : ME X adr Y value mv) (hc : ∀ c ∈ cs, Cls X.K (adr c) ∧ NoAttr X.K (adr c) fl) (hs : swapsWith value (some (.Attribute o fl pos')) pos.line X.env = pure false) : MS X adr Y (.Assign [.Attribute o fl pos'] value pos) (sFldM cs fl mo mv) :=
  ps_imp (ps_fld ha hv hs) fun D σ H ⟨T, me, h, hr, hE, q⟩ => ⟨T, me, h, hr, hE, ResS.bindE hE q fun w h1 _ T1 H1 v hr1 x1 rp e1 q1 =>
    ⟨T1, me, h1, hr1, e1, ResS.bindE e1 q1 fun u h2 _ T2 H2 v2 hr2 x2 rp2 e2 q2 => by
      cases u with
      | ref n =>
        dsimp only at q2
        cases eg : h2.get n with
        | none => simp only [eg] at q2; exact q2.elim
        | some ob =>
          simp only [eg] at q2
          cases ob with
          | ins c fn fv =>
            dsimp only at q2
            cases em : memN c cs with
            | false => simp only [em] at q2; exact q2.elim
            | true =>
              cases el : Nat.blt fn.length 900 with
              | false => simp only [em, el] at q2; exact q2.elim
              | true =>
                simp only [em, el] at q2
                obtain ⟨a, ea, dx, vv, f, e3, e4, l, r⟩ := hr2.obj n _ eg
                unfold Rep at rp2
                have ev := rp2.2 a ea
                obtain ⟨c1, c2⟩ := hc c (memN_mem em)
                have ll : fn.length < 900 := Nat.le_of_ble_eq_true el
                refine ⟨a, _, dx, _, ev, e3, c1, c2, ?_, ?_⟩
                · rw [List.length_zip]
                  omega
                · obtain ⟨vv', z1, z2, z3⟩ := putFn_zip (f := fl) (rep_ex x2 _ _ rp) l r
                  have adx : dx ≠ a := fun z => f.own n (by rw [z]; exact ea)
                  obtain ⟨hr3, x3⟩ := box_set (ho := .ins ((kt X adr).adr c) dx (putF fl v (fn.zip vv))) (o := .ins c (putFn fl fn) (putFv fl w fn fv)) hr2 eg ea
                    ⟨dx, vv', f, by rw [upd_same, z1], by rw [upd_ne adx]; exact e4, z2, reps_upd hr2.ok ea z3⟩
                  exact q2 T2 _ σ hr3 x3 (e2.ex x3)
          | _ => exact q2.elim
      | _ => exact q2.elim⟩⟩
end

/-! ### instances made -/
section
variable {k : Nat} {f : Addr} {fd : FuncData} {ps : List Str} {mf : FM} {dws : List W} {ds : List Value} {x : Str} {p pos : Pos} {e : Expr} {es : List Expr} {as : AM}
/-- C(..): fr: it freezes behind its __init__ -/
def mMake (c : Nat) (mf : FM) (dws : List W) (fr : Bool) (as : AM) : EM := fun me h => (as me h).bind fun ws h => (mf (.ref h.nx :: (ws ++ dws)) (h.new (.ins c [] []))).bind fun v h' => match v with
  | .non => match fr with
    | false => .ok (.ref h.nx) h'
    | true => match h'.get h.nx with
      | some o => .ok o.toW (h'.del h.nx)
      | none => .stuck
  | _ => .stuck
theorem run_mk {c : Nat} {fr : Bool} {pins : List (Addr × Obj)} {σ : Sl} {H : Hp} {s : Shared} {Q : VK} {us : List Value} {vs : List V} {T : Tie} {h : MH} {ws : List W} (M : Mk X.K (adr c) f) (F : FnOk X.prog X.w X.K X.mg X.base (L2.CX X.prog X.w) k f fd ps (spM (kt X adr) mf)) (hr : Room (k + 1) X.A)
    (hb : Binds X.K fd ps ds) (hd : Dfl X.K dws ds) (tk : Takes X Y) (I : Inv X pins σ H s) (r : Vals vs us) (hR : Hrel (kt X adr) T h H) (rp : Reps (kt X adr) T H ws vs)
    (q : ResV (kt X adr) Y T H σ ((mf (.ref h.nx :: (ws ++ dws)) (h.new (.ins c [] []))).bind fun v h' => match v with
      | .non => match fr with
        | false => .ok (.ref h.nx) h'
        | true => match h'.get h.nx with
          | some o => .ok o.toW (h'.del h.nx)
          | none => .stuck
      | _ => .stuck) Q) : wpAny (model X.prog X.w) X.A (call (.ref (adr c)) us) (EP X pins σ Q) X.xe s := by
  obtain ⟨dvs, rd, rpd⟩ := hd (kt X adr) T H rfl
  have hx : H (s.heap.objs.size + 1) = none := I.hok.fresh (Nat.le_succ _)
  have hdx : H s.heap.objs.size = none := I.hok.fresh (Nat.le_refl _)
  have nxd : s.heap.objs.size ≠ s.heap.objs.size + 1 := Nat.ne_of_lt (Nat.lt_succ_self _)
  -- the instance's dict
  have g1 : Grow H (upd H s.heap.objs.size (.own (s.heap.objs.size + 1))) := Grow.laid hdx
  have hR1 := hR.grow g1
  have x1 := Ex.grow hR.ok g1
  have hx1 : upd H s.heap.objs.size (.own (s.heap.objs.size + 1)) (s.heap.objs.size + 1) = none := by rw [upd_ne (Ne.symm nxd)]; exact hx
  have fdx : Fz (T.add (s.heap.objs.size + 1)) s.heap.objs.size := ⟨fun m z => by
    by_cases hm : m = T.nx
    · simp only [hm, if_true] at z
      exact nxd (Option.some.inj z).symm
    · simp only [hm, if_false] at z
      exact hR.ok.there m _ z hdx, fun z => hR.ok.hidT _ z hdx⟩
  obtain ⟨hR2, x2, r2⟩ := box_new (o := .ins c [] []) (ho := .ins (adr c) s.heap.objs.size []) hR1 hx1 fun _ => ⟨s.heap.objs.size, [], fdx, upd_same, by rw [upd_ne nxd, upd_same], rfl, Reps.nil⟩
  have x12 := x1.trans x2
  have I2 := Inv.made (C := adr c) I
  have hsp : spM (kt X adr) mf (.ref (s.heap.objs.size + 1) :: (vs ++ dvs)) (upd (upd H s.heap.objs.size (.own (s.heap.objs.size + 1))) (s.heap.objs.size + 1) (.ins (adr c) s.heap.objs.size []))
      (fun v H2 => v = .non ∧ Q (.ref (s.heap.objs.size + 1)) H2) (fun cls d H' => Y cls d σ H') := by
    refine ⟨T.add (s.heap.objs.size + 1), .ref h.nx :: (ws ++ dws), h.new (.ins c [] []), hR2, Reps.cons r2 (reps_ex x12 _ _ (rp.append rpd)), ?_⟩
    have q' := Res.ex q x12
    cases em : mf (.ref h.nx :: (ws ++ dws)) (h.new (.ins c [] [])) with
    | ok v h' =>
      rw [em] at q'
      intro T' H' v' hr' x' rp'
      cases v with
      | non =>
        unfold Rep at rp'
        refine ⟨rp', ?_⟩
        have r3 := rep_ex x' _ _ r2
        cases fr with
        | false => exact q' T' H' _ hr' x' r3
        | true =>
          have q' : ResV (kt X adr) Y _ _ σ (match h'.get h.nx with
            | some o => .ok o.toW (h'.del h.nx)
            | none => .stuck) Q := q'
          cases eg : h'.get h.nx with
          | none => rw [eg] at q'; exact q'.elim
          | some o =>
            rw [eg] at q'
            obtain ⟨hr4, x4, r4⟩ := freeze hr' eg r3
            exact q' _ _ _ hr4 (x'.trans x4) r4
      | _ => exact q'.elim
    | exc x h' => rw [em] at q'; exact q'
    | stuck => rw [em] at q'; exact q'.elim
  have rr : Vals (V.ref (s.heap.objs.size + 1) :: (vs ++ dvs)) (Value.ref (s.heap.objs.size + 1) :: (us ++ ds)) := .cons rfl (r.append rd)
  have hl : (Value.ref (s.heap.objs.size + 1) :: us ++ ds).length = ps.length := by
    have e := rr.length
    rw [F.len _ _ _ _ hsp] at e
    exact e.symm
  refine wpAny_call (make_map (f := f) I.kIn M.makes M.init (beq_iff_eq.mp M.fn) (codeAny_mono (F.run _ X.stack _ _ ⟨Value.ref (s.heap.objs.size + 1) :: us, []⟩ (Value.ref (s.heap.objs.size + 1) :: (us ++ ds)) _ _ _ (hr.make (adr c) us [])
    (I2.env0.make (adr c) us []) (hb _ (Value.ref (s.heap.objs.size + 1) :: us) I2.kIn hl) rr hsp) fun r s' hq' => ?_))
  cases r with
  | error e => exact tk e s' (XE.of_call I2 (fun _ _ _ z => z) hq')
  | ok fl =>
    cases fl with
    | ret u =>
      obtain ⟨v, H', I3, rv, ev, q3⟩ := I2.after hq'
      subst ev
      exact ⟨rv, ⟨V.ref (s.heap.objs.size + 1), H', I3, rfl, q3⟩⟩
    | next => exact False.elim hq'
    | brk => exact False.elim hq'
    | cont => exact False.elim hq'
theorem me_make {c : Nat} {fr : Bool} (M : Mk X.K (adr c) f) (F : FnOk X.prog X.w X.K X.mg X.base (L2.CX X.prog X.w) k f fd ps (spM (kt X adr) mf)) (hr : Room (k + 1) X.A) (hg : Gl X x) (hm : X.mg x = some (.ref (adr c))) (hb : Binds X.K fd ps ds) (hd : Dfl X.K dws ds) (tk : Takes X Y)
    (ha : MA X adr Y (e :: es) as) (hdb : (x == ("__debug__" : Str)) = false) (he : starEach (e :: es) X.env = (false, eval e X.env) :: starEach es X.env) (hpl : (backTo pos (starEach es X.env)).any (·.1) = false) :
    ME X adr Y (.Call (.Name x p) (e :: es) [] pos) (mMake c mf dws fr as) := by
  refine ⟨fun pins s σ H Q I ⟨T, me, h, hR, hE, q⟩ => ?_⟩
  refine wpAny_Call_Name_kw (ld_glob I hg hm ?_ hdb)
  refine PySem.W.callWith_K (h₀ := X.base) I.ok.mod.kin M.kp (thn (ha.run pos pins s σ H (fun vs H1 => ∃ T1 h1 ws, Hrel (kt X adr) T1 h1 H1 ∧ Reps (kt X adr) T1 H1 ws vs ∧ ResV (kt X adr) Y T1 H1 σ _ Q) I
    ⟨T, me, h, hR, hE, Res.bind q fun ws h1 _ T1 H1 vs hr1 x1 rp q1 => ⟨T1, h1, ws, hr1, rp, q1⟩⟩) fun us s1 ⟨vs, H1, I1, r, T1, h1, ws, hr1, rp, q1⟩ => ⟨I1.kIn, ?_⟩) he hpl
  exact run_mk M F hr hb hd tk I1 r hr1 rp q1
end
end Mi

end
section
namespace Mi
open PySem PySem.Spec PyProof.Rows L2
variable {G : Kt} {X : Cx} {adr : Nat → Addr} {Y : WX}

/-! ### what lies at an address, at every state -/
/-- the things at sources, as they may be read: whatever the state -/
def Kn (P : Program) (w : World) (K : PySem.W.Frag) (H : Hp) (φ : Heap → Prop) : Prop := ∀ (h : Heap), HOk P w H h → φ h

/-- an iterator of new pairs -/
def Jp (n : Nat) (Kn : Hp → Prop) (Pr : Nat → Hp → V → V → Prop) : It :=
  ⟨fun i H => i < n ∧ Kn H, fun i H x H' => ∃ T a b, x = .ref T ∧ H T = none ∧ H' = upd H T (.tup [a, b]) ∧ Pr i H a b, fun i H => i = n ∧ Kn H⟩
theorem turn_pairs {P : Program} {w : World} {K : PySem.W.Frag} {tg : Expr} {n : Nat} {kn : Hp → Prop} {Pr : Nat → Hp → V → V → Prop} {fp : List Addr} {it : Addr} {tn : Nat → Heap → Prop} (hm : it ∈ fp)
    (obj : ∀ i h, tn i h → ∀ b ∈ fp, ∃ o, h.get? b = some o ∧ ∀ v, o.data ≠ .cell v) (keep : ∀ i h h', tn i h → (∀ b ∈ fp, ∀ o, h.get? b = some o → h'.get? b = some o) → tn i h')
    (step : ∀ (A : Around) (H : Hp) (h : Heap) i, A.handled = none → HOk P w H h → K.In h → kn H → tn i h → i ≤ n → ∃ (St : Nat → Heap → Prop) (Pw : Nat → Value → Value → Prop) (fpS wr : List Addr),
      GoesN P w A tg it fpS wr n (fun i h₀ v h => ∃ T x y, v = .ref T ∧ h₀.objs.size ≤ T ∧ Pw i x y ∧ h.IsTuple T #[x, y]) St ∧ St i h ∧ (∀ b ∈ wr, b ∈ fp) ∧ (∀ j h', St j h' → tn j h') ∧ ∀ i x y, Pw i x y → ∃ a b, RelV a x ∧ RelV b y ∧ Pr i H a b)
    (self : ∀ (A : Around) (i : Nat) (s : Shared) (Q : Value → Shared → Prop) (E : Value → Shared → Prop), tn i s.heap → Q (.ref it) s → wpAny (model P w) A (pyIter (.ref it)) Q E s) : Turn P w K tg (Jp n kn Pr) fp it tn where
  mem := hm
  obj := obj
  keep := keep
  item := by
    intro X hP hw hK hc i pins s σ H E I hf st hg
    subst hP hw hK
    obtain ⟨hi, hk⟩ := hg
    obtain ⟨St, Pw, fpS, wr, W, hst, hwr, htn, hPr⟩ := step X.A H s.heap i (I.ok.hd hc) I.hok I.kIn hk st (Nat.le_of_lt hi)
    refine W.goes i s _ _ hi hst fun v h' tk hY st' hkp htk => ?_
    obtain ⟨T, x, y, rfl, hT, hPw, hTup⟩ := hY
    obtain ⟨a, b, ra, rb, hp⟩ := hPr i x y hPw
    have new : ObjOk X.prog X.w (upd H T (.tup [a, b])) h' T (.tup [a, b]) := ⟨by show 2 ≤ sizeLine; decide, [x, y], .cons ra (.cons rb .nil), hTup⟩
    have I1 : Inv X pins σ (upd H T (.tup [a, b])) { s with heap := h', toks := tk } := I.turnedNew (ch := fp) (fun c o hb q => hkp c o (fun z => hb (hwr c z)) q) hf hT new
    refine ⟨.ref T, _, I1, rfl, ⟨T, a, b, rfl, I.hok.fresh hT, rfl, hp⟩, htn _ _ st', fun c hcm => ?_⟩
    obtain ⟨o, e, _⟩ := obj i s.heap st c hcm
    rw [upd_ne (Nat.ne_of_lt (Nat.lt_of_lt_of_le (Heap.lt_size e) hT))]
    exact (hf c hcm).1
  done := by
    intro X hP hw hK hc i pins s σ H E I hf st hg
    subst hP hw hK
    obtain ⟨hi, hk⟩ := hg
    subst hi
    obtain ⟨St, Pw, fpS, wr, W, hst, hwr, htn, hPr⟩ := step X.A H s.heap i (I.ok.hd hc) I.hok I.kIn hk st (Nat.le_refl _)
    refine W.stops s _ _ hst fun h' tk hkp htk => ?_
    exact I.turnedL (ch := fp) (fun c o hb q => hkp c o (fun z => hb (hwr c z)) q) hf
  self := self

/-- an iterator of things that stand -/
def Js (n : Nat) (Kn : Hp → Prop) (Pr : Nat → Hp → V → Prop) : It := ⟨fun i H => i < n ∧ Kn H, fun i H x H' => H' = H ∧ Pr i H x, fun i H => i = n ∧ Kn H⟩
theorem turn_single {P : Program} {w : World} {K : PySem.W.Frag} {tg : Expr} {n : Nat} {kn : Hp → Prop} {Pr : Nat → Hp → V → Prop} {fp : List Addr} {it : Addr} {tn : Nat → Heap → Prop} (hm : it ∈ fp)
    (obj : ∀ i h, tn i h → ∀ b ∈ fp, ∃ o, h.get? b = some o ∧ ∀ v, o.data ≠ .cell v) (keep : ∀ i h h', tn i h → (∀ b ∈ fp, ∀ o, h.get? b = some o → h'.get? b = some o) → tn i h')
    (step : ∀ (A : Around) (H : Hp) (h : Heap) i, A.handled = none → HOk P w H h → K.In h → kn H → tn i h → i ≤ n → ∃ (St : Nat → Heap → Prop) (Pw : Nat → Value → Prop) (fpS wr : List Addr),
      GoesN P w A tg it fpS wr n (fun i h₀ v h => Pw i v) St ∧ St i h ∧ (∀ b ∈ wr, b ∈ fp) ∧ (∀ j h', St j h' → tn j h') ∧ ∀ i x, Pw i x → ∃ a, RelV a x ∧ Pr i H a)
    (self : ∀ (A : Around) (i : Nat) (s : Shared) (Q : Value → Shared → Prop) (E : Value → Shared → Prop), tn i s.heap → Q (.ref it) s → wpAny (model P w) A (pyIter (.ref it)) Q E s) : Turn P w K tg (Js n kn Pr) fp it tn where
  mem := hm
  obj := obj
  keep := keep
  item := by
    intro X hP hw hK hc i pins s σ H E I hf st hg
    subst hP hw hK
    obtain ⟨hi, hk⟩ := hg
    obtain ⟨St, Pw, fpS, wr, W, hst, hwr, htn, hPr⟩ := step X.A H s.heap i (I.ok.hd hc) I.hok I.kIn hk st (Nat.le_of_lt hi)
    refine W.goes i s _ _ hi hst fun v h' tk hY st' hkp htk => ?_
    obtain ⟨a, ra, hp⟩ := hPr i v hY
    have I1 : Inv X pins σ H { s with heap := h', toks := tk } := I.turnedL (ch := fp) (fun c o hb q => hkp c o (fun z => hb (hwr c z)) q) hf
    exact ⟨a, H, I1, ra, ⟨rfl, hp⟩, htn _ _ st', fun c hcm => (hf c hcm).1⟩
  done := by
    intro X hP hw hK hc i pins s σ H E I hf st hg
    subst hP hw hK
    obtain ⟨hi, hk⟩ := hg
    subst hi
    obtain ⟨St, Pw, fpS, wr, W, hst, hwr, htn, hPr⟩ := step X.A H s.heap i (I.ok.hd hc) I.hok I.kIn hk st (Nat.le_refl _)
    refine W.stops s _ _ hst fun h' tk hkp htk => ?_
    exact I.turnedL (ch := fp) (fun c o hb q => hkp c o (fun z => hb (hwr c z)) q) hf
  self := self

/-! ### base sources -/
/-- u is a thing whose iterator begins as o; It: where it stands; F: the cells that it reads; Sr Pv h: in h its items are told by Pv -/
structure Bsrc (P : Program) (w : World) (u : Value) (o : Obj) (It : Addr → Nat → Heap → Prop) (n : Nat) (F : List Addr) (Sr : (Nat → Value → Prop) → Heap → Prop) : Prop where
  begins : ∀ Pv, Begins u o (Sr Pv)
  start : ∀ h it, h.get? it = some o → It it 0 h
  at_ : ∀ it i h h', It it i h → (∀ o, h.get? it = some o → h'.get? it = some o) → It it i h'
  cell : ∀ it i h, It it i h → ∃ o, h.get? it = some o ∧ ∀ v, o.data ≠ .cell v
  go : ∀ it i h, It it i h → ∃ o nm vs, h.get? it = some o ∧ o.cls = .type nm ∧ o.data = .fields vs ∧ ["enumerate", "zip", "dict_itemiterator", "dict_reverseitemiterator", "odict_iterator", "itertools.zip_longest", "itertools.pairwise"].contains nm = false
  walks : ∀ A, A.handled = none → ∀ Pv it, it ∉ F → Walks P w A it (it :: F) [it] n Pv (fun i h => It it i h ∧ Sr Pv h)
  draws : ∀ A, A.handled = none → ∀ Pv it, it ∉ F → Draws P w A it (it :: F) n Pv (fun i h => It it i h ∧ Sr Pv h)
  self : ∀ A it i (s : Shared) (Q : Value → Shared → Prop) (E : Value → Shared → Prop), It it i s.heap → Q (.ref it) s → wpAny (model P w) A (pyIter (.ref it)) Q E s
theorem bsrc_list {P : Program} {w : World} (l : Addr) (n : Nat) : Bsrc P w (.ref l) { cls := .type "list_iterator", data := .fields #[.ref l, .int 0 0] } (fun it i h => h.IsListIter it l i) n [l]
    (fun Pv h => ∃ items : Array Value, items.size = n ∧ Pv = (fun i v => items[i]? = some v) ∧ h.IsList l items) where
  begins := fun Pv => ⟨fun prog w A E s Q ⟨items, _, _, hl⟩ h => wpAny_pyIter_list hl h, fun h h' ⟨items, e1, e2, x⟩ hk => ⟨items, e1, e2, x.at fun o e => hk l o e⟩, rfl⟩
  start := fun h it e => ⟨_, e, rfl, rfl⟩
  at_ := fun it i h h' st k => st.at k
  cell := fun it i h st => by
    obtain ⟨o, e, c, d⟩ := st
    exact ⟨o, e, fun v z => by rw [d] at z; cases z⟩
  self := fun _ _ _ _ _ _ st hQ => wpAny_pyIter_listiter st hQ
  go := fun it i h st => by
    obtain ⟨o, e, c, d⟩ := st
    exact ⟨o, _, _, e, c, d, by decide⟩
  walks := fun A hh Pv it hn => by
    have hne : l ≠ it := fun z => hn (by simp [z])
    refine ⟨fun b hb => by simp at hb ⊢; exact .inl hb, fun i h h' st hk => ⟨st.1.at fun o e => hk it (by simp) o e, let ⟨items, e1, e2, x⟩ := st.2; ⟨items, e1, e2, x.at fun o e => hk l (by simp) o e⟩⟩, fun i s Q E hi st hQ => ?_, fun s Q E st hE => ?_, fun i s Q E st hQ => ?_⟩
    · obtain ⟨h1, items, e1, e2, h2⟩ := st
      subst e2
      exact (Walks.list hh it l hne items).item i s Q E (by rw [e1]; exact hi) ⟨h1, h2⟩ fun x h' tk hp st' sb => hQ x h' tk hp ⟨st'.1, items, e1, rfl, st'.2⟩ sb
    · obtain ⟨h1, items, e1, e2, h2⟩ := st
      subst e1
      exact (Walks.list hh it l hne items).done s Q E ⟨h1, h2⟩ hE
    · obtain ⟨h1, items, e1, e2, h2⟩ := st
      exact (Walks.list hh it l hne items).self i s Q E ⟨h1, h2⟩ hQ
  draws := fun A hh Pv it hn => by
    have hne : l ≠ it := fun z => hn (by simp [z])
    refine ⟨fun i h st => ?_, fun i h h' st hk => ⟨st.1.at fun o e => hk it (by simp) o e, let ⟨items, e1, e2, x⟩ := st.2; ⟨items, e1, e2, x.at fun o e => hk l (by simp) o e⟩⟩, fun i s Q E hi st hQ => ?_, fun s Q E st hE => ?_⟩
    · obtain ⟨o, e, _⟩ := st.1
      exact ⟨o, e⟩
    · obtain ⟨h1, items, e1, e2, h2⟩ := st
      subst e2
      exact (Draws.list hh it l hne items).item i s Q E (by rw [e1]; exact hi) ⟨h1, h2⟩ fun x h' tk hp st' sb => hQ x h' tk hp ⟨st'.1, items, e1, rfl, st'.2⟩ sb
    · obtain ⟨h1, items, e1, e2, h2⟩ := st
      subst e1
      exact (Draws.list hh it l hne items).done s Q E ⟨h1, h2⟩ hE
theorem bsrc_tup {P : Program} {w : World} (l : Addr) (n : Nat) : Bsrc P w (.ref l) { cls := .type "tuple_iterator", data := .fields #[.ref l, .int 0 0] } (fun it i h => h.IsTupleIter it l i) n [l]
    (fun Pv h => ∃ items : Array Value, items.size = n ∧ Pv = (fun i v => items[i]? = some v) ∧ h.IsTuple l items) where
  begins := fun Pv => ⟨fun prog w A E s Q ⟨items, _, _, hl⟩ h => wpAny_pyIter_tuple hl h, fun h h' ⟨items, e1, e2, x⟩ hk => ⟨items, e1, e2, x.at fun o e => hk l o e⟩, rfl⟩
  start := fun h it e => ⟨_, e, rfl, rfl⟩
  at_ := fun it i h h' st k => st.at k
  cell := fun it i h st => by
    obtain ⟨o, e, c, d⟩ := st
    exact ⟨o, e, fun v z => by rw [d] at z; cases z⟩
  self := fun _ _ _ _ _ _ st hQ => wpAny_pyIter_tupleiter st hQ
  go := fun it i h st => by
    obtain ⟨o, e, c, d⟩ := st
    exact ⟨o, _, _, e, c, d, by decide⟩
  walks := fun A hh Pv it hn => by
    have hne : l ≠ it := fun z => hn (by simp [z])
    refine ⟨fun b hb => by simp at hb ⊢; exact .inl hb, fun i h h' st hk => ⟨st.1.at fun o e => hk it (by simp) o e, let ⟨items, e1, e2, x⟩ := st.2; ⟨items, e1, e2, x.at fun o e => hk l (by simp) o e⟩⟩, fun i s Q E hi st hQ => ?_, fun s Q E st hE => ?_, fun i s Q E st hQ => ?_⟩
    · obtain ⟨h1, items, e1, e2, h2⟩ := st
      subst e2
      exact (Walks.tuple hh it l hne items).item i s Q E (by rw [e1]; exact hi) ⟨h1, h2⟩ fun x h' tk hp st' sb => hQ x h' tk hp ⟨st'.1, items, e1, rfl, st'.2⟩ sb
    · obtain ⟨h1, items, e1, e2, h2⟩ := st
      subst e1
      exact (Walks.tuple hh it l hne items).done s Q E ⟨h1, h2⟩ hE
    · obtain ⟨h1, items, e1, e2, h2⟩ := st
      exact (Walks.tuple hh it l hne items).self i s Q E ⟨h1, h2⟩ hQ
  draws := fun A hh Pv it hn => by
    have hne : l ≠ it := fun z => hn (by simp [z])
    refine ⟨fun i h st => ?_, fun i h h' st hk => ⟨st.1.at fun o e => hk it (by simp) o e, let ⟨items, e1, e2, x⟩ := st.2; ⟨items, e1, e2, x.at fun o e => hk l (by simp) o e⟩⟩, fun i s Q E hi st hQ => ?_, fun s Q E st hE => ?_⟩
    · obtain ⟨o, e, _⟩ := st.1
      exact ⟨o, e⟩
    · obtain ⟨h1, items, e1, e2, h2⟩ := st
      subst e2
      exact (Draws.tuple hh it l hne items).item i s Q E (by rw [e1]; exact hi) ⟨h1, h2⟩ fun x h' tk hp st' sb => hQ x h' tk hp ⟨st'.1, items, e1, rfl, st'.2⟩ sb
    · obtain ⟨h1, items, e1, e2, h2⟩ := st
      subst e1
      exact (Draws.tuple hh it l hne items).done s Q E ⟨h1, h2⟩ hE
end Mi

end
section
namespace Mi
open PySem PySem.Spec PyProof.Rows L2
variable {G : Kt} {X : Cx} {adr : Nat → Addr} {Y : WX}

/-! ### exact objects, entries -/
theorem exact_at {P : Program} {w : World} {H : Hp} {h : Heap} (ok : HOk P w H h) {a : Addr} {o : Obj} (e : H a = some (exact o a)) : h.get? a = some o := (ok a _ e).1
theorem exact_inj {P : Program} {w : World} {H : Hp} {h : Heap} (ok : HOk P w H h) {a : Addr} {o u : Obj} (e : H a = some (exact o a)) (e2 : H a = some (exact u a)) : o = u :=
  Option.some.inj ((exact_at ok e).symm.trans (exact_at ok e2))
theorem Ents.len {es : List DictEntry} {kv vv : List V} {hs : List Int} (r : Ents es kv vv hs) : es.length = kv.length ∧ es.length = vv.length := by
  induction r with
  | nil => exact ⟨rfl, rfl⟩
  | cons _ _ _ _ ih => exact ⟨by simp [ih.1], by simp [ih.2]⟩
theorem Ents.get {es : List DictEntry} {kv vv : List V} {hs : List Int} (r : Ents es kv vv hs) : ∀ {i : Nat} {e : DictEntry}, es[i]? = some e → ∃ k v, kv[i]? = some k ∧ vv[i]? = some v ∧ RelV k e.key ∧ RelV v e.val := by
  induction r with
  | nil => intro i e h; simp at h
  | cons hk hv hh _ ih =>
    intro i e h
    cases i with
    | zero => simp at h; subst h; exact ⟨_, _, rfl, rfl, hk, hv⟩
    | succ i => exact ih (by simpa using h)
theorem DictO.raw {o : Obj} {kv vv : List V} {hs : List Int} (d : DictO o kv vv hs) {h : Heap} {a : Addr} (e : h.get? a = some o) : ∃ es ep, o.data = .dict es ep ∧ Ents es.toList kv vv hs ∧ h.DictRaw a es ep :=
  let ⟨x, es, ep, ed, r⟩ := d
  ⟨es, ep, ed, r, o, e, x, ed⟩
/-- what is walked over a value -/
def chars : List Nat → List W
  | [] => []
  | c :: r => .str ⟨#[c]⟩ :: chars r
theorem chars_get : ∀ (l : List Nat) (i : Nat), (chars l)[i]? = l[i]?.map fun c => W.str ⟨#[c]⟩
  | [], i => by simp [chars]
  | c :: r, 0 => by simp [chars]
  | c :: r, i + 1 => by simpa [chars] using chars_get r i
theorem chars_len : ∀ l : List Nat, (chars l).length = l.length
  | [] => rfl
  | c :: r => by simp [chars, chars_len r]
def intsW : List Int → List W
  | [] => []
  | i :: r => .int i :: intsW r
theorem intsW_rep {T : Tie} {H : Hp} : ∀ ns : List Int, Reps G T H (intsW ns) (ns.map V.int)
  | [] => Reps.nil
  | i :: r => Reps.cons (by unfold Rep; rfl) (intsW_rep r)
/-- the script, as the library reads it -/
theorem scr_at {T : Tie} {H : Hp} {ns : List Int} {v : V} (rp : Rep G T H (.scr ns) v) : ∃ a, v = .ref a ∧ SqL G.K H a (ns.map V.int) := by
  unfold Rep at rp
  obtain ⟨a, e, q⟩ := rp
  rcases q with ⟨_, q⟩ | q
  · exact ⟨a, e, .inl q⟩
  · exact ⟨a, e, .inr q⟩
def itemsOf : W → Option (List W)
  | .tup ws => some ws
  | .lst ws => some ws
  | .dct ks _ => some ks
  | .dvs _ vs => some vs
  | .str s => some (chars s.cps.toList)
  | .scr ns => some (intsW ns)
  | .kt0 => some []
  | _ => none
def mSeq (m : EM) : AM := fun me h => (m me h).bind fun w h => ofO (itemsOf w) h

/-! ### dict keys, values, drawn -/
section
variable {prog : Program} {w : World} {A : Around} {E : Value → Shared → Prop} {s : Shared}
theorem nextOf_keys_item {it d : Addr} {i ep : Nat} {es : Array DictEntry} {Q : Value → Shared → Prop} (hit : s.heap.IsKeyIter it d i es.size ep)
    (hm : s.heap.DictRaw d es ep) (hlt' : i < es.size)
    (hQ : ∀ h', h'.IsKeyIter it d (i + 1) es.size ep → Heap.SameBut it s.heap h' → Q es[i].key { s with heap := h' }) :
    wpAny (model prog w) A (Builtin.SmallTypes.nextOf (.ref it)) Q E s := by
  obtain ⟨o, ho, hc, hd⟩ := id hit
  obtain ⟨od, hod, hcd, hdd⟩ := id hm
  unfold Builtin.SmallTypes.nextOf
  refine wpAny_bind (wpAny_callSpecial?_slot (name := Str.ofString "__next__") hit.typeIs F.slot_dict_keyiterator_next
    (wpAny_call_entry F.slot_dict_keyiterator_next hit.typeIs F.entry_dict_keyiterator_next ?_ (F.args_dict_keyiterator_next_1 _)))
  refine wpAny_bind (wpAny_pure ?_)
  refine wpAny_bind ?_
  refine wpAny_bind ?_
  first | refine wpAny_bind (wpAny_typeNameOfWhole_keyiter hit.typeIs (wpAny_pure ?_)) | refine wpAny_bind (wpAny_typeNameOf_keyiter hit.typeIs (wpAny_pure ?_))
  refine wpAny_bind (wpAny_fieldsOf ho hd ?_)
  have hown : Builtin.Dict_items.ownsTuple "dict_keyiterator" = false := by decide
  simp only [hown, Bool.false_eq_true, if_false]
  show wpAny _ _ (if (Value.ref d == Value.none) = true then _ else _) _ _ s
  rw [if_neg (show ¬ ((Value.ref d == Value.none) = true) from Bool.false_ne_true)]
  refine wpAny_bind (wpAny_pure ?_)
  refine wpAny_bind (wpAny_dictEntries hod hdd ?_)
  rw [if_neg (by simp)]
  refine wpAny_bind (wpAny_pure ?_)
  refine wpAny_bind (wpAny_dictEpoch hod hdd ?_)
  rw [if_neg (by simp)]
  refine wpAny_pure ?_
  simp only [show ¬ ((i : Int) < 0) from by omega, if_false, Int.toNat_natCast, Array.getElem?_eq_getElem hlt']
  refine wpAny_bind ?_
  first | refine wpAny_bind (wpAny_typeNameOfWhole_keyiter hit.typeIs (wpAny_pure ?_)) | refine wpAny_bind (wpAny_typeNameOf_keyiter hit.typeIs (wpAny_pure ?_))
  refine wpAny_bind (wpAny_isOneOf_keyiter hit.typeIs ?_)
  show wpAny _ _ (setField (.ref it) 1 (rawInt ((i : Int) + 1)) >>= _) _ _ s
  refine wpAny_bind (wpAny_setField ho hd (by simp) ?_)
  have hit' : (s.heap.update it (Obj.mapFields (·.setIfInBounds 1 (rawInt ((i : Int) + 1))))).IsKeyIter it d (i + 1) es.size ep :=
    ⟨_, Heap.get?_update_self _ ho (Obj.isFreed_of_fields (Obj.data_mapFields hd _)), (Obj.cls_mapFields ..).trans hc, by rw [Obj.data_mapFields hd]; simp [rawInt]⟩
  refine wpAny_bind (wpAny_holding ?_)
  refine wpAny_bind (wpAny_isOneOf_keyiter (s := { s with heap := s.heap.update it (Obj.mapFields (·.setIfInBounds 1 (rawInt ((i : Int) + 1)))) }) hit'.typeIs ?_)
  show wpAny _ _ (pure es[i].key) _ _ _
  exact wpAny_pure (wpAny_pure ⟨_, rfl, wpAny_pure (hQ _ hit' (Heap.SameBut.update ..))⟩)
theorem nextOf_values_item {it d : Addr} {i ep : Nat} {es : Array DictEntry} {Q : Value → Shared → Prop} (hit : s.heap.IsValIter it d i es.size ep)
    (hm : s.heap.DictRaw d es ep) (hlt' : i < es.size)
    (hQ : ∀ h', h'.IsValIter it d (i + 1) es.size ep → Heap.SameBut it s.heap h' → Q es[i].val { s with heap := h' }) :
    wpAny (model prog w) A (Builtin.SmallTypes.nextOf (.ref it)) Q E s := by
  obtain ⟨o, ho, hc, hd⟩ := id hit
  obtain ⟨od, hod, hcd, hdd⟩ := id hm
  unfold Builtin.SmallTypes.nextOf
  refine wpAny_bind (wpAny_callSpecial?_slot (name := Str.ofString "__next__") hit.typeIs F.slot_dict_valueiterator_next
    (wpAny_call_entry F.slot_dict_valueiterator_next hit.typeIs F.entry_dict_valueiterator_next ?_ (F.args_dict_valueiterator_next_1 _)))
  refine wpAny_bind (wpAny_pure ?_)
  refine wpAny_bind ?_
  refine wpAny_bind ?_
  first | refine wpAny_bind (wpAny_typeNameOfWhole_valiter hit.typeIs (wpAny_pure ?_)) | refine wpAny_bind (wpAny_typeNameOf_valiter hit.typeIs (wpAny_pure ?_))
  refine wpAny_bind (wpAny_fieldsOf ho hd ?_)
  have hown : Builtin.Dict_items.ownsTuple "dict_valueiterator" = false := by decide
  simp only [hown, Bool.false_eq_true, if_false]
  show wpAny _ _ (if (Value.ref d == Value.none) = true then _ else _) _ _ s
  rw [if_neg (show ¬ ((Value.ref d == Value.none) = true) from Bool.false_ne_true)]
  refine wpAny_bind (wpAny_pure ?_)
  refine wpAny_bind (wpAny_dictEntries hod hdd ?_)
  rw [if_neg (by simp)]
  refine wpAny_bind (wpAny_pure ?_)
  refine wpAny_bind (wpAny_dictEpoch hod hdd ?_)
  rw [if_neg (by simp)]
  refine wpAny_pure ?_
  simp only [show ¬ ((i : Int) < 0) from by omega, if_false, Int.toNat_natCast, Array.getElem?_eq_getElem hlt']
  refine wpAny_bind ?_
  first | refine wpAny_bind (wpAny_typeNameOfWhole_valiter hit.typeIs (wpAny_pure ?_)) | refine wpAny_bind (wpAny_typeNameOf_valiter hit.typeIs (wpAny_pure ?_))
  refine wpAny_bind (wpAny_isOneOf_valiter hit.typeIs ?_)
  show wpAny _ _ (setField (.ref it) 1 (rawInt ((i : Int) + 1)) >>= _) _ _ s
  refine wpAny_bind (wpAny_setField ho hd (by simp) ?_)
  have hit' : (s.heap.update it (Obj.mapFields (·.setIfInBounds 1 (rawInt ((i : Int) + 1))))).IsValIter it d (i + 1) es.size ep :=
    ⟨_, Heap.get?_update_self _ ho (Obj.isFreed_of_fields (Obj.data_mapFields hd _)), (Obj.cls_mapFields ..).trans hc, by rw [Obj.data_mapFields hd]; simp [rawInt]⟩
  refine wpAny_bind (wpAny_holding ?_)
  refine wpAny_bind (wpAny_isOneOf_valiter (s := { s with heap := s.heap.update it (Obj.mapFields (·.setIfInBounds 1 (rawInt ((i : Int) + 1)))) }) hit'.typeIs ?_)
  refine wpAny_bind (wpAny_isOneOf_valiter (s := { s with heap := s.heap.update it (Obj.mapFields (·.setIfInBounds 1 (rawInt ((i : Int) + 1)))) }) hit'.typeIs ?_)
  show wpAny _ _ (pure es[i].val) _ _ _
  exact wpAny_pure (wpAny_pure ⟨_, rfl, wpAny_pure (hQ _ hit' (Heap.SameBut.update ..))⟩)
theorem nextOf_keys_end {it d : Addr} {i ep : Nat} {es : Array DictEntry} {Q : Value → Shared → Prop} (hh : A.handled = none) (hit : s.heap.IsKeyIter it d i es.size ep)
    (hm : s.heap.DictRaw d es ep) (hge : es.size ≤ i)
    (hE : ∀ h' e, Heap.ExtBut it s.heap h' → (∃ o, h'.get? e = some o ∧ o.cls = .type "StopIteration") → E (.ref e) { s with heap := h' }) : wpAny (model prog w) A (Builtin.SmallTypes.nextOf (.ref it)) Q E s := by
  obtain ⟨o, ho, hc, hd⟩ := id hit
  obtain ⟨od, hod, hcd, hdd⟩ := id hm
  unfold Builtin.SmallTypes.nextOf
  refine wpAny_bind (wpAny_callSpecial?_slot (name := Str.ofString "__next__") hit.typeIs F.slot_dict_keyiterator_next
    (wpAny_call_entry F.slot_dict_keyiterator_next hit.typeIs F.entry_dict_keyiterator_next ?_ (F.args_dict_keyiterator_next_1 _)))
  refine wpAny_bind (wpAny_pure ?_)
  refine wpAny_bind ?_
  refine wpAny_bind ?_
  first | refine wpAny_bind (wpAny_typeNameOfWhole_keyiter hit.typeIs (wpAny_pure ?_)) | refine wpAny_bind (wpAny_typeNameOf_keyiter hit.typeIs (wpAny_pure ?_))
  refine wpAny_bind (wpAny_fieldsOf ho hd ?_)
  have hown : Builtin.Dict_items.ownsTuple "dict_keyiterator" = false := by decide
  simp only [hown, Bool.false_eq_true, if_false]
  show wpAny _ _ (if (Value.ref d == Value.none) = true then _ else _) _ _ s
  rw [if_neg (show ¬ ((Value.ref d == Value.none) = true) from Bool.false_ne_true)]
  refine wpAny_bind (wpAny_pure ?_)
  refine wpAny_bind (wpAny_dictEntries hod hdd ?_)
  rw [if_neg (by simp)]
  refine wpAny_bind (wpAny_pure ?_)
  refine wpAny_bind (wpAny_dictEpoch hod hdd ?_)
  rw [if_neg (by simp)]
  refine wpAny_pure ?_
  simp only [show ¬ ((i : Int) < 0) from by omega, if_false, Int.toNat_natCast, Array.getElem?_eq_none hge]
  refine wpAny_bind ?_
  first | refine wpAny_bind (wpAny_typeNameOfWhole_keyiter hit.typeIs (wpAny_pure ?_)) | refine wpAny_bind (wpAny_typeNameOf_keyiter hit.typeIs (wpAny_pure ?_))
  show wpAny _ _ (setField (.ref it) 0 .none >>= _) _ _ s
  refine wpAny_bind (wpAny_setField ho hd (by simp) ?_)
  show wpAny _ _ (newExc (.type "StopIteration") [] >>= _) _ _ _
  refine wpAny_bind ?_
  simp only [newExc, newTuple]
  refine wpAny_bind (wpAny_newObj_type ?_ (by size_fits))
  refine wpAny_bind (m := firstArgMember _ _) (wpAny_of_eq (a := Value.none) (by first | rfl | (simp only [firstArgMember]; rfl)) ?_)
  refine wpAny_newObj_type ?_ (by size_fits)
  simp only [raiseNew]
  refine wpAny_bind (wpAny_handled ?_)
  rw [show A.in1.handled = none from hh]
  refine wpAny_bind (wpAny_pure (wpAny_throw ?_))
  exact hE _ _ (((Heap.SameBut.update ..).extBut.push _).push _) ⟨_, Heap.get?_push_size _ rfl, rfl⟩
theorem nextOf_values_end {it d : Addr} {i ep : Nat} {es : Array DictEntry} {Q : Value → Shared → Prop} (hh : A.handled = none) (hit : s.heap.IsValIter it d i es.size ep)
    (hm : s.heap.DictRaw d es ep) (hge : es.size ≤ i)
    (hE : ∀ h' e, Heap.ExtBut it s.heap h' → (∃ o, h'.get? e = some o ∧ o.cls = .type "StopIteration") → E (.ref e) { s with heap := h' }) : wpAny (model prog w) A (Builtin.SmallTypes.nextOf (.ref it)) Q E s := by
  obtain ⟨o, ho, hc, hd⟩ := id hit
  obtain ⟨od, hod, hcd, hdd⟩ := id hm
  unfold Builtin.SmallTypes.nextOf
  refine wpAny_bind (wpAny_callSpecial?_slot (name := Str.ofString "__next__") hit.typeIs F.slot_dict_valueiterator_next
    (wpAny_call_entry F.slot_dict_valueiterator_next hit.typeIs F.entry_dict_valueiterator_next ?_ (F.args_dict_valueiterator_next_1 _)))
  refine wpAny_bind (wpAny_pure ?_)
  refine wpAny_bind ?_
  refine wpAny_bind ?_
  first | refine wpAny_bind (wpAny_typeNameOfWhole_valiter hit.typeIs (wpAny_pure ?_)) | refine wpAny_bind (wpAny_typeNameOf_valiter hit.typeIs (wpAny_pure ?_))
  refine wpAny_bind (wpAny_fieldsOf ho hd ?_)
  have hown : Builtin.Dict_items.ownsTuple "dict_valueiterator" = false := by decide
  simp only [hown, Bool.false_eq_true, if_false]
  show wpAny _ _ (if (Value.ref d == Value.none) = true then _ else _) _ _ s
  rw [if_neg (show ¬ ((Value.ref d == Value.none) = true) from Bool.false_ne_true)]
  refine wpAny_bind (wpAny_pure ?_)
  refine wpAny_bind (wpAny_dictEntries hod hdd ?_)
  rw [if_neg (by simp)]
  refine wpAny_bind (wpAny_pure ?_)
  refine wpAny_bind (wpAny_dictEpoch hod hdd ?_)
  rw [if_neg (by simp)]
  refine wpAny_pure ?_
  simp only [show ¬ ((i : Int) < 0) from by omega, if_false, Int.toNat_natCast, Array.getElem?_eq_none hge]
  refine wpAny_bind ?_
  first | refine wpAny_bind (wpAny_typeNameOfWhole_valiter hit.typeIs (wpAny_pure ?_)) | refine wpAny_bind (wpAny_typeNameOf_valiter hit.typeIs (wpAny_pure ?_))
  show wpAny _ _ (setField (.ref it) 0 .none >>= _) _ _ s
  refine wpAny_bind (wpAny_setField ho hd (by simp) ?_)
  show wpAny _ _ (newExc (.type "StopIteration") [] >>= _) _ _ _
  refine wpAny_bind ?_
  simp only [newExc, newTuple]
  refine wpAny_bind (wpAny_newObj_type ?_ (by size_fits))
  refine wpAny_bind (m := firstArgMember _ _) (wpAny_of_eq (a := Value.none) (by first | rfl | (simp only [firstArgMember]; rfl)) ?_)
  refine wpAny_newObj_type ?_ (by size_fits)
  simp only [raiseNew]
  refine wpAny_bind (wpAny_handled ?_)
  rw [show A.in1.handled = none from hh]
  refine wpAny_bind (wpAny_pure (wpAny_throw ?_))
  exact hE _ _ (((Heap.SameBut.update ..).extBut.push _).push _) ⟨_, Heap.get?_push_size _ rfl, rfl⟩
end
end Mi

end
section
namespace Mi
open PySem PySem.Spec PyProof.Rows L2
variable {G : Kt} {X : Cx} {adr : Nat → Addr} {Y : WX}

theorem draws_keys {P : Program} {w : World} {A : Around} (hh : A.handled = none) (it d : Addr) (hne : d ≠ it) (es : Array DictEntry) (ep : Nat) :
    Draws P w A it [it, d] es.size (fun i v => ∃ hi : i < es.size, v = es[i].key) (fun i h => h.IsKeyIter it d i es.size ep ∧ h.DictRaw d es ep) where
  live := fun i h st => let ⟨o, e, _⟩ := st.1; ⟨o, e⟩
  frame := fun i h h' st hk => ⟨let ⟨o, e, r⟩ := st.1; ⟨o, hk it (by simp) o e, r⟩, st.2.at fun o e => hk d (by simp) o e⟩
  item := fun i s Q E hi st hQ => nextOf_keys_item st.1 st.2 hi fun h' hit' hs' => hQ _ h' s.toks ⟨hi, rfl⟩ ⟨hit', st.2.at fun o e => hs'.extBut d o hne e⟩ hs'
  done := fun s Q E st hE => nextOf_keys_end hh st.1 st.2 (Nat.le_refl _) fun h' e a b => hE h' e a b
theorem draws_values {P : Program} {w : World} {A : Around} (hh : A.handled = none) (it d : Addr) (hne : d ≠ it) (es : Array DictEntry) (ep : Nat) :
    Draws P w A it [it, d] es.size (fun i v => ∃ hi : i < es.size, v = es[i].val) (fun i h => h.IsValIter it d i es.size ep ∧ h.DictRaw d es ep) where
  live := fun i h st => let ⟨o, e, _⟩ := st.1; ⟨o, e⟩
  frame := fun i h h' st hk => ⟨let ⟨o, e, r⟩ := st.1; ⟨o, hk it (by simp) o e, r⟩, st.2.at fun o e => hk d (by simp) o e⟩
  item := fun i s Q E hi st hQ => nextOf_values_item st.1 st.2 hi fun h' hit' hs' => hQ _ h' s.toks ⟨hi, rfl⟩ ⟨hit', st.2.at fun o e => hs'.extBut d o hne e⟩ hs'
  done := fun s Q E st hE => nextOf_values_end hh st.1 st.2 (Nat.le_refl _) fun h' e a b => hE h' e a b

theorem bsrc_key {P : Program} {w : World} (d : Addr) (es : Array DictEntry) (ep : Nat) (hd : (d == sysModules) = false) :
    Bsrc P w (.ref d) { cls := .type "dict_keyiterator", data := .fields #[.ref d, .int 0 0, .int es.size 0, .int ep 0] } (fun it i h => h.IsKeyIter it d i es.size ep) es.size [d]
    (fun Pv h => Pv = (fun i v => ∃ hi : i < es.size, v = es[i].key) ∧ h.DictRaw d es ep) where
  begins := fun Pv => ⟨fun prog w A E s Q ⟨_, x⟩ h => wpAny_pyIter_dict_raw hd x h, fun h h' ⟨e, x⟩ hk => ⟨e, x.at fun o e => hk d o e⟩, rfl⟩
  start := fun h it e => ⟨_, e, rfl, rfl⟩
  at_ := fun it i h h' st k => let ⟨o, e, r⟩ := st; ⟨o, k o e, r⟩
  cell := fun it i h st => by
    obtain ⟨o, e, c, d⟩ := st
    exact ⟨o, e, fun v z => by rw [d] at z; cases z⟩
  self := fun _ _ _ _ _ _ st hQ => wpAny_pyIter_keyiter st hQ
  go := fun it i h st => by
    obtain ⟨o, e, c, d⟩ := st
    exact ⟨o, _, _, e, c, d, by decide⟩
  walks := fun A hh Pv it hn => by
    have hne : d ≠ it := fun z => hn (by simp [z])
    have D := Walks.rawKeys (prog := P) (w := w) hh it d hne es ep
    refine ⟨fun b hb => by simp at hb ⊢; exact .inl hb, fun i h h' st hk => let x := D.frame i h h' ⟨st.1, st.2.2⟩ hk; ⟨x.1, st.2.1, x.2⟩, fun i s Q E hi st hQ => ?_, fun s Q E st hE => D.done s Q E ⟨st.1, st.2.2⟩ hE, fun i s Q E st hQ => D.self i s Q E ⟨st.1, st.2.2⟩ hQ⟩
    obtain ⟨h1, e2, h2⟩ := st
    subst e2
    exact D.item i s Q E hi ⟨h1, h2⟩ fun x h' tk hp st' sb => hQ x h' tk hp ⟨st'.1, rfl, st'.2⟩ sb
  draws := fun A hh Pv it hn => by
    have hne : d ≠ it := fun z => hn (by simp [z])
    have D := draws_keys (P := P) (w := w) hh it d hne es ep
    refine ⟨fun i h st => D.live i h ⟨st.1, st.2.2⟩, fun i h h' st hk => let x := D.frame i h h' ⟨st.1, st.2.2⟩ hk; ⟨x.1, st.2.1, x.2⟩, fun i s Q E hi st hQ => ?_, fun s Q E st hE => D.done s Q E ⟨st.1, st.2.2⟩ hE⟩
    obtain ⟨h1, e2, h2⟩ := st
    subst e2
    exact D.item i s Q E hi ⟨h1, h2⟩ fun x h' tk hp st' sb => hQ x h' tk hp ⟨st'.1, rfl, st'.2⟩ sb
theorem bsrc_val {P : Program} {w : World} (b d : Addr) (es : Array DictEntry) (ep : Nat) :
    Bsrc P w (.ref b) { cls := .type "dict_valueiterator", data := .fields #[.ref d, .int 0 0, .int es.size 0, .int ep 0] } (fun it i h => h.IsValIter it d i es.size ep) es.size [d, b]
    (fun Pv h => Pv = (fun i v => ∃ hi : i < es.size, v = es[i].val) ∧ h.DictRaw d es ep ∧ h.get? b = some (valsO d)) where
  begins := fun Pv => ⟨fun prog w A E s Q ⟨_, x, y⟩ h => wpAny_pyIter_values_raw ⟨_, y, rfl, rfl⟩ x h, fun h h' ⟨e, x, y⟩ hk => ⟨e, x.at fun o e => hk d o e, hk b _ y⟩, rfl⟩
  start := fun h it e => ⟨_, e, rfl, rfl⟩
  at_ := fun it i h h' st k => let ⟨o, e, r⟩ := st; ⟨o, k o e, r⟩
  cell := fun it i h st => by
    obtain ⟨o, e, c, d⟩ := st
    exact ⟨o, e, fun v z => by rw [d] at z; cases z⟩
  self := fun _ _ _ _ _ _ st hQ => wpAny_pyIter_valiter st hQ
  go := fun it i h st => by
    obtain ⟨o, e, c, d⟩ := st
    exact ⟨o, _, _, e, c, d, by decide⟩
  walks := fun A hh Pv it hn => by
    have hne : d ≠ it := fun z => hn (by simp [z])
    have hnb : b ≠ it := fun z => hn (by simp [z])
    have D := Walks.rawValues (prog := P) (w := w) hh it d hne es ep
    refine ⟨fun b hb => by simp at hb ⊢; exact .inl hb, fun i h h' st hk => let x := D.frame i h h' ⟨st.1, st.2.2.1⟩ fun c hc => hk c (by simp at hc ⊢; rcases hc with z | z <;> simp [z]); ⟨x.1, st.2.1, x.2, hk b (by simp) _ st.2.2.2⟩, fun i s Q E hi st hQ => ?_, fun s Q E st hE => D.done s Q E ⟨st.1, st.2.2.1⟩ hE, fun i s Q E st hQ => D.self i s Q E ⟨st.1, st.2.2.1⟩ hQ⟩
    obtain ⟨h1, e2, h2, h3⟩ := st
    subst e2
    exact D.item i s Q E hi ⟨h1, h2⟩ fun x h' tk hp st' sb => hQ x h' tk hp ⟨st'.1, rfl, st'.2, sb b _ (by simp [hnb]) h3⟩ sb
  draws := fun A hh Pv it hn => by
    have hne : d ≠ it := fun z => hn (by simp [z])
    have hnb : b ≠ it := fun z => hn (by simp [z])
    have D := draws_values (P := P) (w := w) hh it d hne es ep
    refine ⟨fun i h st => D.live i h ⟨st.1, st.2.2.1⟩, fun i h h' st hk => let x := D.frame i h h' ⟨st.1, st.2.2.1⟩ fun c hc => hk c (by simp at hc ⊢; rcases hc with z | z <;> simp [z]); ⟨x.1, st.2.1, x.2, hk b (by simp) _ st.2.2.2⟩, fun i s Q E hi st hQ => ?_, fun s Q E st hE => D.done s Q E ⟨st.1, st.2.2.1⟩ hE⟩
    obtain ⟨h1, e2, h2, h3⟩ := st
    subst e2
    exact D.item i s Q E hi ⟨h1, h2⟩ fun x h' tk hp st' sb => hQ x h' tk hp ⟨st'.1, rfl, st'.2, (sb.2 b hnb).trans h3⟩ sb
theorem bsrc_str {P : Program} {w : World} (x : Str) (t : Tok) :
    Bsrc P w (.str x t) { cls := .type (strIterType x), data := .fields #[.str x t, .int 0 0] } (fun it i h => h.IsStrIter it (strIterType x) x t i) x.cps.size []
    (fun Pv h => Pv = (fun i v => ∃ c u, x.cps[i]? = some c ∧ v = .str ⟨#[c]⟩ u)) where
  begins := fun Pv => ⟨fun prog w A E s Q _ h => wpAny_pyIter_strU h, fun h h' e hk => e, rfl⟩
  start := fun h it e => ⟨_, e, rfl, rfl⟩
  at_ := fun it i h h' st k => let ⟨o, e, r⟩ := st; ⟨o, k o e, r⟩
  cell := fun it i h st => by
    obtain ⟨o, e, c, d⟩ := st
    exact ⟨o, e, fun v z => by rw [d] at z; cases z⟩
  self := fun _ _ _ _ _ _ st hQ => (by
    unfold strIterType at st
    split at st
    · exact wpAny_pyIter_striter_ascii st hQ
    · exact wpAny_pyIter_striter_wide st hQ)
  go := fun it i h st => by
    obtain ⟨o, e, c, d⟩ := st
    refine ⟨o, _, _, e, c, d, ?_⟩
    unfold strIterType
    split <;> decide
  walks := fun A hh Pv it hn => by
    have D : Walks P w A it [it] [it] x.cps.size (fun i v => ∃ c u, x.cps[i]? = some c ∧ v = .str ⟨#[c]⟩ u) (fun i h => h.IsStrIter it (strIterType x) x t i) := by
      cases ha : x.cps.all (· < 128)
      · simp only [strIterType, ha, Bool.false_eq_true, if_false]
        exact Walks.strWide hh it x t
      · simp only [strIterType, ha, if_true]
        exact Walks.strAscii hh it x t
    refine ⟨fun b hb => by simp at hb ⊢; exact hb, fun i h h' st hk => ⟨D.frame i h h' st.1 hk, st.2⟩, fun i s Q E hi st hQ => ?_, fun s Q E st hE => D.done s Q E st.1 hE, fun i s Q E st hQ => D.self i s Q E st.1 hQ⟩
    obtain ⟨h1, e2⟩ := st
    subst e2
    exact D.item i s Q E hi h1 fun x h' tk hp st' sb => hQ x h' tk hp ⟨st', rfl⟩ sb
  draws := fun A hh Pv it hn => by
    have D := Draws.text (prog := P) (w := w) hh it x t
    refine ⟨fun i h st => D.live i h st.1, fun i h h' st hk => ⟨D.frame i h h' st.1 hk, st.2⟩, fun i s Q E hi st hQ => ?_, fun s Q E st hE => D.done s Q E st.1 hE⟩
    obtain ⟨h1, e2⟩ := st
    subst e2
    exact D.item i s Q E hi h1 fun x h' tk hp st' sb => hQ x h' tk hp ⟨st', rfl⟩ sb

theorem valsR : ∀ {xs : List V} {us : List Value} {i : Nat} {u : Value}, Vals xs us → us[i]? = some u → ∃ x, xs[i]? = some x ∧ RelV x u
  | _, _, _, _, .nil, e => by simp at e
  | _, _, 0, _, .cons r _, e => by simp at e; subst e; exact ⟨_, rfl, r⟩
  | _, _, i + 1, _, .cons _ t, e => by
    obtain ⟨x, ex, r⟩ := valsR (i := i) t (by simpa using e)
    exact ⟨x, by simpa using ex, r⟩
theorem Reps.getL {T : Tie} {H : Hp} : ∀ {ws : List W} {vs : List V} {i : Nat} {v : V}, Reps G T H ws vs → vs[i]? = some v → ∃ w, ws[i]? = some w ∧ Rep G T H w v
  | [], vs, i, v, h, e => by unfold Reps at h; subst h; simp at e
  | y :: r, vs, 0, v, h, e => by
    unfold Reps at h
    obtain ⟨u, s, rfl, h1, _⟩ := h
    simp at e; subst e
    exact ⟨y, rfl, h1⟩
  | y :: r, vs, i + 1, v, h, e => by
    unfold Reps at h
    obtain ⟨u, s, rfl, _, h2⟩ := h
    obtain ⟨w, e2, q⟩ := Reps.getL (i := i) h2 (by simpa using e)
    exact ⟨w, by simpa using e2, q⟩
/-! ### a value as a source -/
/-- what is known of the source x, v, u where kn stands -/
structure Srcd (G : Kt) (T : Tie) (H : Hp) (x : W) (v : V) (ws : List W) (u : Value) (kn : Hp → Prop) (o : Obj) (It : Addr → Nat → Heap → Prop) (F : List Addr) (Sr : (Nat → Value → Prop) → Heap → Prop) : Prop where
  B : Bsrc G.P G.w u o It ws.length F Sr
  read : ∀ H h, HOk G.P G.w H h → G.K.In h → kn H → ∃ Pv, Sr Pv h ∧ (∀ b ∈ F, b < h.objs.size) ∧ ∀ i y, Pv i y → ∃ a, RelV a y ∧ ∀ T, Rep G T H x v → ∃ z, ws[i]? = some z ∧ Rep G T H z a
  keeps : ∀ T' H', Ex T T' H H' → kn H'
theorem sqL_list {P : Program} {w : World} {K : PySem.W.Frag} {H : Hp} {h : Heap} (ok : HOk P w H h) (kin : K.In h) {a : Addr} {xs : List V} (q : SqL K H a xs) : ∃ its : List Value, Vals xs its ∧ h.IsList a its.toArray := by
  rcases q with q | ⟨o, its, n, e, c, _, d, _, r⟩
  · obtain ⟨_, its, n, r, g⟩ := q.ok ok
    exact ⟨its, r, _, g, rfl, _, rfl⟩
  · exact ⟨its.toList, r, o, kin _ _ e, c, n, by rw [d, Array.toArray_toList]⟩
theorem src_of {x : W} {v : V} {u : Value} {ws : List W} (ru : RelV v u) {T : Tie} {H : Hp} {h : Heap} (ok : HOk G.P G.w H h) (rp : Rep G T H x v) (e : itemsOf x = some ws) :
    ∃ kn o It F Sr, Srcd G T H x v ws u kn o It F Sr := by
  cases x with
  | tup w =>
    injection e with e
    subst e
    unfold Rep at rp
    obtain ⟨a, vs, rfl, f, q, r⟩ := rp
    obtain rfl : u = .ref a := ru
    refine ⟨fun H => H a = some (.tup vs), _, _, _, _, ⟨by rw [r.length]; exact bsrc_tup a vs.length, fun H h ok kin kn => ?_, fun T' H' x => ?_⟩⟩
    · obtain ⟨_, its, rv, p⟩ := ok _ _ kn
      refine ⟨_, ⟨its.toArray, by simpa using rv.length.symm, rfl, p⟩, fun b hb => ?_, fun i y hy => ?_⟩
      · simp at hb; subst hb; exact p.lt
      · have hy : its[i]? = some y := by simpa using hy
        obtain ⟨a', ea, ra⟩ := valsR rv hy
        refine ⟨a', ra, fun T rp => ?_⟩
        unfold Rep at rp
        obtain ⟨a2, vs2, e2, f2, q2, r2⟩ := rp
        cases e2
        rw [kn] at q2; cases q2
        exact r2.getL ea
    · exact x.fz _ _ q f
  | lst w =>
    injection e with e
    subst e
    unfold Rep at rp
    obtain ⟨a, vs, rfl, f, q, r⟩ := rp
    obtain rfl : u = .ref a := ru
    refine ⟨fun H => H a = some (.lst vs), _, _, _, _, ⟨by rw [r.length]; exact bsrc_list a vs.length, fun H h ok kin kn => ?_, fun T' H' x => ?_⟩⟩
    · obtain ⟨_, its, n, rv, p⟩ := ok _ _ kn
      refine ⟨_, ⟨its.toArray, by simpa using rv.length.symm, rfl, ⟨_, p, rfl, _, rfl⟩⟩, fun b hb => ?_, fun i y hy => ?_⟩
      · simp at hb; subst hb; exact Heap.lt_size p
      · have hy : its[i]? = some y := by simpa using hy
        obtain ⟨a', ea, ra⟩ := valsR rv hy
        refine ⟨a', ra, fun T rp => ?_⟩
        unfold Rep at rp
        obtain ⟨a2, vs2, e2, f2, q2, r2⟩ := rp
        cases e2
        rw [kn] at q2; cases q2
        exact r2.getL ea
    · exact x.fz _ _ q f
  | str z =>
    injection e with e
    subst e
    unfold Rep at rp
    subst rp
    obtain ⟨t, rfl⟩ := ru
    refine ⟨fun _ => True, _, _, _, _, ⟨by rw [chars_len]; exact bsrc_str z t, fun H h ok kin kn => ?_, fun _ _ _ => trivial⟩⟩
    refine ⟨_, rfl, fun b hb => (nomatch hb), fun i y ⟨c, tt, hc, ey⟩ => ?_⟩
    subst ey
    refine ⟨.str ⟨#[c]⟩, ⟨tt, rfl⟩, fun T _ => ⟨.str ⟨#[c]⟩, ?_, by unfold Rep; rfl⟩⟩
    rw [chars_get]
    have : z.cps.toList[i]? = some c := by simpa using hc
    rw [this]; rfl
  | scr ns =>
    injection e with e
    subst e
    have rp0 := rp
    obtain ⟨a, rfl, q⟩ := scr_at rp
    obtain rfl : u = .ref a := ru
    have keeps : ∀ T' H', Ex T T' H H' → SqL G.K H' a (ns.map V.int) := fun T' H' x => by
      obtain ⟨a2, e2, q2⟩ := scr_at (rep_ex x _ _ rp0)
      cases e2
      exact q2
    have l1 : (ns.map V.int).length = (intsW ns).length := (intsW_rep (G := G) (T := T) (H := H) ns).length.symm
    refine ⟨fun H => SqL G.K H a (ns.map V.int), _, _, _, _, ⟨bsrc_list a (intsW ns).length, fun H h ok kin kn => ?_, keeps⟩⟩
    obtain ⟨its, rv, p⟩ := sqL_list ok kin kn
    refine ⟨_, ⟨its.toArray, by rw [← l1]; simpa using rv.length.symm, rfl, p⟩, fun b hb => ?_, fun i y hy => ?_⟩
    · simp at hb; subst hb; obtain ⟨o, e, _⟩ := p; exact Heap.lt_size e
    · have hy : its[i]? = some y := by simpa using hy
      obtain ⟨a', ea, ra⟩ := valsR rv hy
      exact ⟨a', ra, fun T _ => (intsW_rep ns).getL ea⟩
  | kt0 =>
    injection e with e
    subst e
    unfold Rep at rp
    obtain ⟨a, rfl, o, n, k1, k2, k3⟩ := rp
    obtain rfl : u = .ref a := ru
    refine ⟨fun _ => True, _, _, _, _, ⟨bsrc_tup a 0, fun H h ok kin kn => ?_, fun _ _ _ => trivial⟩⟩
    refine ⟨_, ⟨#[], rfl, rfl, o, kin _ _ k1, k2, n, k3⟩, fun b hb => ?_, fun i y hy => by simp at hy⟩
    simp at hb; subst hb; exact Heap.lt_size (kin _ _ k1)
  | dct ks vs =>
    injection e with e
    subst e
    unfold Rep at rp
    obtain ⟨a, o, kv, vv, rfl, f, sm, ko, q, d, r1, r2⟩ := rp
    obtain rfl : u = .ref a := ru
    obtain ⟨es, ep, ed, en, _⟩ := d.raw (exact_at ok q)
    have xd := d.1
    have ln : ks.length = es.size := by
      have h1 := r1.length
      have h2 := en.len.1
      simp at h2; omega
    refine ⟨fun H => H a = some (exact o a), _, _, _, _, ⟨by rw [ln]; exact bsrc_key a es ep sm, fun H h ok kin kn => ?_, fun T' H' x => ?_⟩⟩
    · have ea := exact_at ok kn
      refine ⟨_, ⟨rfl, o, ea, xd, ed⟩, fun b hb => ?_, fun i y ⟨hi, ey⟩ => ?_⟩
      · simp at hb; subst hb; exact Heap.lt_size ea
      · subst ey
        obtain ⟨k, w, ek, ew, rk, rw'⟩ := en.get (i := i) (e := es[i]) (by simp [hi])
        refine ⟨k, rk, fun T rp => ?_⟩
        unfold Rep at rp
        obtain ⟨a2, o2, kv2, vv2, e2, f2, sm2, ko2, q2, d2, r3, r4⟩ := rp
        cases e2
        obtain rfl := exact_inj ok kn q2
        obtain ⟨es2, ep2, ed2, en2, _⟩ := d2.raw ea
        rw [ed] at ed2
        cases ed2
        obtain ⟨k2, w2, ek2, ew2, rk2, rw2⟩ := en2.get (i := i) (e := es[i]) (by simp [hi])
        obtain rfl := rk.inj rk2
        exact r3.getL ek2
    · exact x.fz _ _ q f
  | dvs ks vs =>
    injection e with e
    subst e
    unfold Rep at rp
    obtain ⟨b, a, o, kv, vv, rfl, fb, qb, f, sm, ko, q, d, r1, r2⟩ := rp
    obtain rfl : u = .ref b := ru
    obtain ⟨es, ep, ed, en, _⟩ := d.raw (exact_at ok q)
    have xd := d.1
    have ln : vs.length = es.size := by
      have h1 := r2.length
      have h2 := en.len.2
      simp at h2; omega
    refine ⟨fun H => H b = some (exact (valsO a) b) ∧ H a = some (exact o a), _, _, _, _, ⟨by rw [ln]; exact bsrc_val b a es ep, fun H h ok kin kn => ?_, fun T' H' x => ?_⟩⟩
    · have eb := exact_at ok kn.1
      have ea := exact_at ok kn.2
      refine ⟨_, ⟨rfl, ⟨o, ea, xd, ed⟩, eb⟩, fun c hb => ?_, fun i y ⟨hi, ey⟩ => ?_⟩
      · simp at hb
        rcases hb with z | z
        · subst z; exact Heap.lt_size ea
        · subst z; exact Heap.lt_size eb
      · subst ey
        obtain ⟨k, w, ek, ew, rk, rw'⟩ := en.get (i := i) (e := es[i]) (by simp [hi])
        refine ⟨w, rw', fun T rp => ?_⟩
        unfold Rep at rp
        obtain ⟨b2, a2, o2, kv2, vv2, e2, fb2, qb2, f2, sm2, ko2, q2, d2, r3, r4⟩ := rp
        cases e2
        obtain rfl : a2 = a := by
          have := exact_inj ok qb2 kn.1
          simpa [valsO] using this
        obtain rfl := exact_inj ok kn.2 q2
        obtain ⟨es2, ep2, ed2, en2, _⟩ := d2.raw ea
        rw [ed] at ed2
        cases ed2
        obtain ⟨k2, w2, ek2, ew2, rk2, rw2⟩ := en2.get (i := i) (e := es[i]) (by simp [hi])
        obtain rfl := rw'.inj rw2
        exact r4.getL ew2
    · exact ⟨x.fz _ _ qb fb, x.fz _ _ q f⟩
  | _ => cases e
end Mi

end
section
namespace Mi
open PySem PySem.Spec PyProof.Rows L2
variable {G : Kt} {X : Cx} {adr : Nat → Addr} {Y : WX}

/-- the items of one source, as they stand -/
def Pr1 (G : Kt) (x : W) (v : V) (ws : List W) (i : Nat) (H : Hp) (a : V) : Prop := ∀ T, Rep G T H x v → ∃ z, ws[i]? = some z ∧ Rep G T H z a
theorem go_nothing {M : Model} {A : Around} {E : Value → Shared → Prop} {s : Shared} {tg : Expr} {it : Addr} {u : Value} {Q : Unit → Shared → Prop}
    (g : ∃ o nm vs, s.heap.get? it = some o ∧ o.cls = .type nm ∧ o.data = .fields vs ∧ ["enumerate", "zip", "dict_itemiterator", "dict_reverseitemiterator", "odict_iterator", "itertools.zip_longest", "itertools.pairwise"].contains nm = false) (hQ : Q () s) :
    wpAny M A (letOwnedTupleGo tg (.ref it) u) Q E s := let ⟨o, nm, vs, e, c, d, n⟩ := g; go_of e c d n hQ
theorem turn_src {tg : Expr} {T : Tie} {H : Hp} {x : W} {v : V} {u : Value} {ws : List W} {kn : Hp → Prop} {o : Obj} {It : Addr → Nat → Heap → Prop} {F : List Addr} {Sr : (Nat → Value → Prop) → Heap → Prop} (S : Srcd G T H x v ws u kn o It F Sr) {it : Addr} (hn : it ∉ F) :
    Turn G.P G.w G.K tg (Js ws.length kn (Pr1 G x v ws)) [it] it (fun i h => It it i h) := by
  refine turn_single (by simp) (fun i h st b hb => ?_) (fun i h h' st hk => S.B.at_ it i h h' st fun o e => hk it (by simp) o e) (fun A H h i hh ok kin kn st hi => ?_) fun A i s Q E st hQ => S.B.self A it i s Q E st hQ
  · have e : b = it := by simpa using hb
    subst e
    exact S.B.cell b i h st
  · obtain ⟨Pv, sr, _, pv⟩ := S.read H h ok kin kn
    have Wk := S.B.walks A hh Pv it hn
    refine ⟨_, Pv, it :: F, [it], (Goes.ofWalks Wk fun i v s Q E st hQ => go_nothing (S.B.go it i s.heap st.1) hQ).toN, ⟨st, sr⟩, fun b hb => hb, fun j h' st => st.1, fun i y hy => ?_⟩
    obtain ⟨a, ra, f⟩ := pv i y hy
    exact ⟨a, ra, f⟩
theorem wk_src {T : Tie} {H : Hp} {h : MH} {x : W} {v : V} {u : Value} {ws : List W} {kn : Hp → Prop} {o : Obj} {It : Addr → Nat → Heap → Prop} {F : List Addr} {Sr : (Nat → Value → Prop) → Heap → Prop} (S : Srcd G T H x v ws u kn o It F Sr) (rp : Rep G T H x v) :
    Wk G T H ws (Js ws.length kn (Pr1 G x v ws)) where
  go := fun T' H' i ok x' hi => ⟨hi, S.keeps T' H' x'⟩
  stop := fun T' H' ok x' => ⟨rfl, S.keeps T' H' x'⟩
  yld := fun T' H' i y H'' h w hr x' ew yl => by
    obtain ⟨rfl, f⟩ := yl
    obtain ⟨z, ez, rz⟩ := f T' (rep_ex x' _ _ rp)
    rw [ew] at ez
    cases ez
    exact ⟨hr, Ex.rfl' hr.ok, rz⟩
/-- for x in a list, a tuple, a text, a dict, its values -/
theorem mi_any {tg e : Expr} {m : EM} (he : ME X adr Y e m) : MI X adr Y tg e (mSeq m) := by
  refine ⟨fun pins s σ H R I ⟨T, me, h, hr, hE, q⟩ => ?_⟩
  refine thn (he.run pins s σ H (fun v H1 => ∃ T1 h1 w ws, Hrel (kt X adr) T1 h1 H1 ∧ Rep (kt X adr) T1 H1 w v ∧ itemsOf w = some ws ∧ ∀ J, Wk (kt X adr) T1 H1 ws J → R J H1) I ⟨T, me, h, hr, hE, Res.bind q fun w h1 _ T1 H1 v hr1 x1 rp1 q1 => ?_⟩)
    fun u s1 ⟨v, H1, I1, r1, T1, h1, w, ws, hr1, rp, ei, q⟩ => ?_
  · cases e1 : itemsOf w with
    | none => rw [e1] at q1; exact q1.elim
    | some ws =>
      rw [e1] at q1
      exact ⟨T1, h1, w, ws, hr1, rp1, e1, fun J wk => q1 T1 H1 J hr1 (Ex.rfl' hr1.ok) wk⟩
  · obtain ⟨kn, o, It, F, Sr, S⟩ := src_of (G := kt X adr) r1 I1.hok rp ei
    have k1 := S.keeps T1 H1 (Ex.rfl' hr1.ok)
    obtain ⟨Pv, sr, lt, _⟩ := S.read H1 s1.heap I1.hok I1.kIn k1
    refine (S.B.begins Pv).iter _ _ _ _ s1 _ sr ?_
    exact pi_one (tk := s1.toks) I1 _ (turn_src S fun hm => Nat.lt_irrefl _ (lt _ hm)) (S.B.start _ _ (Heap.get?_push_size _ (S.B.begins Pv).free)) (q _ (wk_src (h := h1) S rp))
/-- a pair just laid -/
theorem pair_laid {T : Tie} {h : MH} {H : Hp} (hr : Hrel G T h H) {p : Addr} (hp : H p = none) {ws : List W} {vs : List V} (r : Reps G T H ws vs) :
    Hrel G T h (upd H p (.tup vs)) ∧ Ex T T H (upd H p (.tup vs)) ∧ Rep G T (upd H p (.tup vs)) (.tup ws) (.ref p) := by
  have g : Grow H (upd H p (.tup vs)) := Grow.laid hp
  have x := Ex.grow hr.ok g
  refine ⟨hr.grow g, x, ?_⟩
  unfold Rep
  exact ⟨p, vs, rfl, hr.ok.fresh hp, upd_same, reps_ex x _ _ r⟩
theorem list_laid {T : Tie} {h : MH} {H : Hp} (hr : Hrel G T h H) {p : Addr} (hp : H p = none) {ws : List W} {vs : List V} (r : Reps G T H ws vs) :
    Hrel G T h (upd H p (.lst vs)) ∧ Ex T T H (upd H p (.lst vs)) ∧ Rep G T (upd H p (.lst vs)) (.lst ws) (.ref p) := by
  have g : Grow H (upd H p (.lst vs)) := Grow.laid hp
  have x := Ex.grow hr.ok g
  refine ⟨hr.grow g, x, ?_⟩
  unfold Rep
  exact ⟨p, vs, rfl, hr.ok.fresh hp, upd_same, reps_ex x _ _ r⟩

/-! ### zip -/
def zipW : List W → List W → List W
  | x :: r, y :: q => .tup [x, y] :: zipW r q
  | _, _ => []
theorem zipW_len : ∀ l r : List W, (zipW l r).length = min l.length r.length
  | [], _ => by simp [zipW]
  | _ :: _, [] => by simp [zipW]
  | x :: l, y :: r => by simp [zipW, zipW_len l r]
theorem zipW_get : ∀ (l r : List W) (i : Nat) (w : W), (zipW l r)[i]? = some w → ∃ x y, l[i]? = some x ∧ r[i]? = some y ∧ w = .tup [x, y]
  | [], _, i, w, h => by simp [zipW] at h
  | _ :: _, [], i, w, h => by simp [zipW] at h
  | x :: l, y :: r, 0, w, h => by simp [zipW] at h; exact ⟨x, y, rfl, rfl, h.symm⟩
  | x :: l, y :: r, i + 1, w, h => by
    simp only [zipW, List.getElem?_cons_succ] at h ⊢
    exact zipW_get l r i w h
def mZip (as : AM) : AM := fun me h => (as me h).bind fun xs h => match xs with
  | [a, b] => match itemsOf a, itemsOf b with
    | some u, some v => .ok (zipW u v) h
    | _, _ => .stuck
  | _ => .stuck
section
variable {T : Tie} {H : Hp} {x x2 : W} {v v2 : V} {u u2 : Value} {ws ws2 : List W} {kn kn2 : Hp → Prop} {o o2 : Obj} {It It2 : Addr → Nat → Heap → Prop} {F F2 : List Addr} {Sr Sr2 : (Nat → Value → Prop) → Heap → Prop}
theorem turn_zipS {elts : List Expr} {kk : Nat} {tpos : Pos} (S : Srcd G T H x v ws u kn o It F Sr) (S2 : Srcd G T H x2 v2 ws2 u2 kn2 o2 It2 F2 Sr2) {N : Nat} (h1 : ∀ b ∈ F, b < N) (h2 : ∀ b ∈ F2, b < N) :
    Turn G.P G.w G.K (.Tuple elts kk tpos) (Jp (min ws.length ws2.length) (fun H => kn H ∧ kn2 H) (fun i H a b => Pr1 G x v ws i H a ∧ Pr1 G x2 v2 ws2 i H b)) [N + 4, N + 2, N + 3, N, N + 1] (N + 4)
      (fun i h => IsZip h (N + 4) (N + 2) (N + 3) .none ∧ IsTupOf2 h (N + 2) (.ref N) (.ref (N + 1)) ∧ (∃ a1 a2, IsTupOf2 h (N + 3) a1 a2) ∧ It N i h ∧ It2 (N + 1) i h) := by
  have n1 : N ∉ F := fun m => Nat.lt_irrefl _ (h1 _ m)
  have n2 : N + 1 ∉ F2 := fun m => Nat.not_lt.mpr (Nat.le_succ N) (h2 _ m)
  refine turn_pairs (by simp) (fun i h st b hb => ?_) (fun i h h' st hk => ?_) (fun A H h i hh ok kin kn st hi => ?_) fun A i s Q E st hQ => wpAny_pyIter_zip st.1 hQ
  · obtain ⟨hz, hTI, ⟨a1, a2, hTO⟩, st1, st2⟩ := st
    have e' : b = N + 4 ∨ b = N + 2 ∨ b = N + 3 ∨ b = N ∨ b = N + 1 := by simpa using hb
    rcases e' with q | q | q | q | q
    · rw [q]; exact ⟨_, hz, fun v q => nomatch q⟩
    · rw [q]; exact ⟨_, hTI, fun v q => nomatch q⟩
    · rw [q]; exact ⟨_, hTO, fun v q => nomatch q⟩
    · rw [q]; exact S.B.cell _ i h st1
    · rw [q]; exact S2.B.cell _ i h st2
  · obtain ⟨hz, hTI, ⟨a1, a2, hTO⟩, st1, st2⟩ := st
    exact ⟨hk _ (by simp) _ hz, hk _ (by simp) _ hTI, ⟨a1, a2, hk _ (by simp) _ hTO⟩, S.B.at_ _ i h h' st1 fun o e => hk N (by simp) o e, S2.B.at_ _ i h h' st2 fun o e => hk (N + 1) (by simp) o e⟩
  · obtain ⟨Pv, sr, _, pv⟩ := S.read H h ok kin kn.1
    obtain ⟨Pv2, sr2, _, pv2⟩ := S2.read H h ok kin kn.2
    have D1 := S.B.draws A.in1 hh Pv N n1
    have D2 := S2.B.draws A.in1 hh Pv2 (N + 1) n2
    obtain ⟨hz, hTI, hTO, st1, st2⟩ := st
    refine ⟨_, fun i x y => Pv i x ∧ Pv2 i y, _, _, (GoesN.zip2 (zip_sep2 h1 h2) D1 D2).mono fun i h₀ v h _ ⟨T, x, y, ev, hn, hx, hy, hT⟩ => ⟨T, x, y, ev, hn, ⟨hx, hy⟩, hT⟩, ⟨hz, hTI, hTO, ⟨st1, sr⟩, ⟨st2, sr2⟩⟩, fun b hb => ?_, fun j h' ⟨a, b, c, d, e⟩ => ⟨a, b, c, d.1, e.1⟩, fun i y y2 hy => ?_⟩
    · simp at hb ⊢
      rcases hb with z | z | z | z <;> simp [z]
    · obtain ⟨a, ra, f⟩ := pv i y hy.1
      obtain ⟨a2, ra2, f2⟩ := pv2 i y2 hy.2
      exact ⟨a, a2, ra, ra2, f, f2⟩
theorem wk_zip {h : MH} (S : Srcd G T H x v ws u kn o It F Sr) (S2 : Srcd G T H x2 v2 ws2 u2 kn2 o2 It2 F2 Sr2) (rp : Rep G T H x v) (rp2 : Rep G T H x2 v2) :
    Wk G T H (zipW ws ws2) (Jp (min ws.length ws2.length) (fun H => kn H ∧ kn2 H) (fun i H a b => Pr1 G x v ws i H a ∧ Pr1 G x2 v2 ws2 i H b)) where
  go := fun T' H' i ok x' hi => ⟨by rw [zipW_len] at hi; exact hi, S.keeps T' H' x', S2.keeps T' H' x'⟩
  stop := fun T' H' ok x' => ⟨zipW_len _ _, S.keeps T' H' x', S2.keeps T' H' x'⟩
  yld := fun T' H' i y H'' h w hr x' ew yl => by
    obtain ⟨p, a, b, rfl, hp, rfl, f, f2⟩ := yl
    obtain ⟨z, z2, ez, ez2, rfl⟩ := zipW_get _ _ _ _ ew
    obtain ⟨y, ey, ry⟩ := f T' (rep_ex x' _ _ rp)
    obtain ⟨y2, ey2, ry2⟩ := f2 T' (rep_ex x' _ _ rp2)
    rw [ez] at ey
    rw [ez2] at ey2
    cases ey
    cases ey2
    exact pair_laid hr hp (.cons ry (.cons ry2 .nil))
end
theorem mi_zip {e e2 : Expr} {as : AM} {p pos tpos : Pos} {elts : List Expr} {kk : Nat} (hg : Gl X "zip") (hm : X.mg "zip" = none) (ha : MA X adr Y [e, e2] as)
    (hs : starEach [e, e2] X.env = (false, eval e X.env) :: starEach [e2] X.env := by rfl) (hpl : (backTo pos (starEach [e2] X.env)).any (·.1) = false := by rfl) :
    MI X adr Y (.Tuple elts kk tpos) (.Call (.Name "zip" p) [e, e2] [] pos) (mZip as) := by
  refine ⟨fun pins s σ H R I ⟨T, me, h, hr, hE, q⟩ => ?_⟩
  refine Call_ (ld_blt I hg hm PyProof.Rows.boot_zip (PyProof.Rows.callWith_type1 (thn (ha.run pos pins s σ H (fun vs H1 => ∃ T1 h1 xs, Hrel (kt X adr) T1 h1 H1 ∧ Reps (kt X adr) T1 H1 xs vs ∧ ∃ a b u v, xs = [a, b] ∧ itemsOf a = some u ∧ itemsOf b = some v ∧ ∀ J, Wk (kt X adr) T1 H1 (zipW u v) J → R J H1) I
    ⟨T, me, h, hr, hE, Res.bind q fun ws h1 _ T1 H1 vs hr1 x1 rp1 q1 => ?_⟩) fun us s1 ⟨vs, H1, I1, r1, T1, h1, xs, hr1, rp, a, b, iu, iv, ex, ea, eb, q⟩ => ?_) hs hpl))
  · refine ⟨T1, h1, ws, hr1, rp1, ?_⟩
    split at q1
    · split at q1
      · exact ⟨_, _, _, _, rfl, by assumption, by assumption, fun J wk => q1 T1 H1 J hr1 (Ex.rfl' hr1.ok) wk⟩
      · exact q1.elim
    · exact q1.elim
  · subst ex
    unfold Reps at rp
    obtain ⟨va, s', rfl, ra, rp⟩ := rp
    unfold Reps at rp
    obtain ⟨vb, s'', rfl, rb, rp⟩ := rp
    unfold Reps at rp
    subst rp
    obtain ⟨ua, ub, rfl, r2, r3⟩ := Vals.two r1
    obtain ⟨kn, o, It, F, Sr, S⟩ := src_of (G := kt X adr) r2 I1.hok ra ea
    obtain ⟨kn2, o2, It2, F2, Sr2, S2⟩ := src_of (G := kt X adr) r3 I1.hok rb eb
    obtain ⟨Pv, sr, lt, _⟩ := S.read H1 s1.heap I1.hok I1.kIn (S.keeps T1 H1 (Ex.rfl' hr1.ok))
    obtain ⟨Pv2, sr2, lt2, _⟩ := S2.read H1 s1.heap I1.hok I1.kIn (S2.keeps T1 H1 (Ex.rfl' hr1.ok))
    have B := S.B.begins Pv
    have B2 := S2.B.begins Pv2
    refine zip_begins2 B B2 sr sr2 fun h' hz hTI hTO h1' h2' hsz hk => wpAny_pyIter_zip hz ?_
    have I2 : Inv X pins σ H1 { s1 with heap := h' } := I1.kept (t' := s1.toks) hk
    refine ⟨s1.heap.objs.size + 4, [s1.heap.objs.size + 4, s1.heap.objs.size + 2, s1.heap.objs.size + 3, s1.heap.objs.size, s1.heap.objs.size + 1], _, _, H1, rfl, I2, turn_zipS S S2 lt lt2, ⟨hz, hTI, ⟨_, _, hTO⟩, S.B.start _ _ h1', S2.B.start _ _ h2'⟩, fun c hcm => ?_, q _ (wk_zip (h := h1) S S2 ra rb)⟩
    have e' : c = s1.heap.objs.size + 4 ∨ c = s1.heap.objs.size + 2 ∨ c = s1.heap.objs.size + 3 ∨ c = s1.heap.objs.size ∨ c = s1.heap.objs.size + 1 := by simpa using hcm
    have hle : s1.heap.objs.size ≤ c := by
      rcases e' with z | z | z | z | z
      · rw [z]; exact Nat.le_add_right _ _
      · rw [z]; exact Nat.le_add_right _ _
      · rw [z]; exact Nat.le_add_right _ _
      · rw [z]; exact Nat.le_refl _
      · rw [z]; exact Nat.le_add_right _ _
    exact I1.fpOk hle (I1.hok.fresh hle)
end Mi

end
section
namespace Mi
open PySem PySem.Spec PyProof.Rows L2
variable {G : Kt} {X : Cx} {adr : Nat → Addr} {Y : WX}

/-! ### d.items() -/
def mItems (m : EM) : AM := fun me h => (m me h).bind fun w h => match w with
  | .dct ks vs => .ok (zipW ks vs) h
  | _ => .stuck
section
variable {T : Tie} {H : Hp} {K : PySem.W.Frag}
def PrI (G : Kt) (x : W) (v : V) (ks vs : List W) (i : Nat) (H : Hp) (a b : V) : Prop := ∀ T, Rep G T H x v → ∃ k z, ks[i]? = some k ∧ vs[i]? = some z ∧ Rep G T H k a ∧ Rep G T H z b
theorem turn_itemsS {elts : List Expr} {kk : Nat} {tpos : Pos} {ks vs : List W} {d : Addr} {o : Obj} {es : Array DictEntry} {ep : Nat} (xd : o.ExactDict) (ed : o.data = .dict es ep) {it : Addr} (hne : d ≠ it) :
    Turn G.P G.w K (.Tuple elts kk tpos) (Jp es.size (fun H => H d = some (exact o d) ∧ ∃ T, Rep G T H (.dct ks vs) (.ref d)) (PrI G (.dct ks vs) (.ref d) ks vs)) [it] it (fun i h => ∃ ok ov, IsItemIter h it d i es.size ep ok ov) := by
  refine turn_pairs (by simp) (fun i h st b hb => ?_) (fun i h h' st hk => ?_) (fun A H h i hh ok kin kn st hi => ?_) fun A i s Q E st hQ => let ⟨_, _, e⟩ := st; PySem.W.kcp_self e hQ
  · have e : b = it := by simpa using hb
    subst e
    obtain ⟨_, _, e⟩ := st
    exact ⟨_, e, fun v q => nomatch q⟩
  · obtain ⟨a, b, e⟩ := st
    exact ⟨a, b, hk it (by simp) _ e⟩
  · obtain ⟨kn, T, rp⟩ := kn
    have ea := exact_at ok kn
    refine ⟨_, fun i x y => ∃ hi : i < es.size, x = es[i].key ∧ y = es[i].val, [it, d], [it], (GoesN.rawItems hh it d hne es ep).mono fun i h₀ v h _ ⟨T, hi, ev, hn, hT⟩ => ⟨T, _, _, ev, hn, ⟨hi, rfl, rfl⟩, hT⟩, ⟨st, o, ea, xd, ed⟩, fun b hb => hb, fun j h' z => z.1, fun i x y ⟨hi, ex, ey⟩ => ?_⟩
    subst ex ey
    unfold Rep at rp
    obtain ⟨a2, o2, kv2, vv2, e2, f2, sm2, ko2, q2, d2, r3, r4⟩ := rp
    cases e2
    obtain rfl := exact_inj ok kn q2
    obtain ⟨es2, ep2, ed2, en2, _⟩ := d2.raw ea
    rw [ed] at ed2
    cases ed2
    obtain ⟨k2, w2, ek2, ew2, rk2, rw2⟩ := en2.get (i := i) (e := es[i]) (by simp [hi])
    refine ⟨k2, w2, rk2, rw2, fun T rp => ?_⟩
    unfold Rep at rp
    obtain ⟨a2, o2, kv2', vv2', e2, f2, sm2, ko2, q2, d2, r3, r4⟩ := rp
    cases e2
    obtain rfl := exact_inj ok kn q2
    obtain ⟨es2, ep2, ed2, en2', _⟩ := d2.raw ea
    rw [ed] at ed2
    cases ed2
    obtain ⟨k3, w3, ek3, ew3, rk3, rw3⟩ := en2'.get (i := i) (e := es[i]) (by simp [hi])
    obtain rfl := rk2.inj rk3
    obtain rfl := rw2.inj rw3
    obtain ⟨k, ek, r1⟩ := r3.getL ek3
    obtain ⟨w, ew, r2⟩ := r4.getL ew3
    exact ⟨k, w, ek, ew, r1, r2⟩
theorem wk_items {ks vs : List W} {d : Addr} {o : Obj} {n : Nat} (e1 : ks.length = n) (e2 : vs.length = n) (q : H d = some (exact o d)) (f : Fz T d) (rp : Rep G T H (.dct ks vs) (.ref d)) :
    Wk G T H (zipW ks vs) (Jp n (fun H => H d = some (exact o d) ∧ ∃ T, Rep G T H (.dct ks vs) (.ref d)) (PrI G (.dct ks vs) (.ref d) ks vs)) where
  go := fun T' H' i ok x' hi => ⟨by rw [zipW_len, e1, e2, Nat.min_self] at hi; exact hi, x'.fz _ _ q f, T', rep_ex x' _ _ rp⟩
  stop := fun T' H' ok x' => ⟨by rw [zipW_len, e1, e2, Nat.min_self], x'.fz _ _ q f, T', rep_ex x' _ _ rp⟩
  yld := fun T' H' i y H'' h w hr x' ew yl => by
    obtain ⟨p, a, b, rfl, hp, rfl, f⟩ := yl
    obtain ⟨z, z2, ez, ez2, rfl⟩ := zipW_get _ _ _ _ ew
    obtain ⟨k, y, ek, ey, rk, ry⟩ := f T' (rep_ex x' _ _ rp)
    rw [ez] at ek
    rw [ez2] at ey
    cases ek
    cases ey
    exact pair_laid hr hp (.cons rk (.cons ry .nil))
theorem dict_noDict {h : Heap} {a : Addr} {o : Obj} (e : h.get? a = some o) (x : o.ExactDict) : ∃ o', h.get? a = some o' ∧ o'.dict = none := ⟨o, e, x.2.1⟩
end
theorem mi_items {e : Expr} {m : EM} {apos cpos tpos : Pos} {elts : List Expr} {kk : Nat} (he : ME X adr Y e m) (hbase : attributeBase e "items" X.env (eval e X.env) = eval e X.env := by rfl) (hline : (apos.endLine == cpos.line) = true := by rfl) :
    MI X adr Y (.Tuple elts kk tpos) (.Call (.Attribute e "items" apos) [] [] cpos) (mItems m) := by
  refine ⟨fun pins s σ H R I ⟨T, me, h, hr, hE, q⟩ => ?_⟩
  refine wpAny_Call_method (T := "dict") (id := "dict.items") hbase rfl hline F.plainAttrs_dict F.slot_dict_items F.type_dict_items (thn (he.run pins s σ H (fun v H1 => ∃ T1 h1 ks vs, Hrel (kt X adr) T1 h1 H1 ∧ Rep (kt X adr) T1 H1 (.dct ks vs) v ∧ ∀ J, Wk (kt X adr) T1 H1 (zipW ks vs) J → R J H1) I ⟨T, me, h, hr, hE, Res.bind q fun w h1 _ T1 H1 v hr1 x1 rp1 q1 => ?_⟩)
    fun u s1 ⟨v, H1, I1, r1, T1, h1, ks, vs, hr1, rp, q⟩ => ?_)
  · cases w with
    | dct ks vs => exact ⟨T1, h1, ks, vs, hr1, rp1, fun J wk => q1 T1 H1 J hr1 (Ex.rfl' hr1.ok) wk⟩
    | _ => exact q1.elim
  · have rp' := rp
    unfold Rep at rp
    obtain ⟨a, o, kv, vv, rfl, f, sm, ko, qa, d, r2, r3⟩ := rp
    obtain rfl : u = .ref a := r1
    have ea := exact_at I1.hok qa
    obtain ⟨es, ep, ed, en, dr⟩ := d.raw ea
    have l1 : ks.length = es.size := by
      have h1 := r2.length
      have h2 := en.len.1
      simp at h2; omega
    have l2 : vs.length = es.size := by
      have h1 := r3.length
      have h2 := en.len.2
      simp at h2; omega
    refine ⟨dr.typeIs, fun a_1 e => by cases e; exact ⟨o, ea, d.1.2.1⟩, ?_⟩
    have I2 : Inv X pins σ H1 { s1 with heap := s1.heap.push { cls := .type "dict_items", data := .fields #[.ref a] } } := I1.kept (t' := s1.toks) fun b ob q => Heap.get?_push_of_some _ q
    have dr2 : (s1.heap.push { cls := .type "dict_items", data := .fields #[.ref a] }).DictRaw a es ep := dr.at fun o e => Heap.get?_push_of_some _ e
    have hne : a ≠ (s1.heap.push { cls := .type "dict_items", data := .fields #[.ref a] }).objs.size := Nat.ne_of_lt (by rw [Heap.size_push]; exact Nat.lt_succ_of_lt (Heap.lt_size ea))
    have fin : wpAny (model X.prog X.w) X.A (pyIter (.ref s1.heap.objs.size)) (PIE X pins σ (.Tuple elts kk tpos) R) X.xe { s1 with heap := s1.heap.push { cls := .type "dict_items", data := .fields #[.ref a] } } := by
      refine wpAny_pyIter_items_raw (d := a) ⟨_, Heap.get?_push_size _ rfl, rfl, rfl⟩ dr2 (pi_one (tk := s1.toks) I2 _ (turn_itemsS (G := kt X adr) (ks := ks) (vs := vs) d.1 ed hne) ⟨.none, .none, ?_⟩ (q _ (wk_items l1 l2 qa f rp')))
      exact Heap.get?_push_size _ rfl
    show wpAny _ _ (callWith cpos (.builtin "dict.items") [.ref a] [] []) _ X.xe s1
    exact method_meetsIn F.slot_dict_items F.entry_dict_items rfl (PySem.evalArgs_none ⟨rfl, dr.typeIs, F.args_dict_items_1 _, _, meets_dict_items_raw a sm, ⟨es, ep, dr⟩, fin⟩)

/-! ### range -/
def rangeW (lo : Int) : Nat → List W
  | 0 => []
  | n + 1 => .int lo :: rangeW (lo + 1) n
theorem rangeW_len : ∀ (lo : Int) (n : Nat), (rangeW lo n).length = n
  | _, 0 => rfl
  | lo, n + 1 => by simp [rangeW, rangeW_len (lo + 1) n]
theorem rangeW_get : ∀ (lo : Int) (n i : Nat) (w : W), (rangeW lo n)[i]? = some w → w = .int (lo + i)
  | _, 0, i, w, h => by simp [rangeW] at h
  | lo, n + 1, 0, w, h => by simp [rangeW] at h; subst h; simp
  | lo, n + 1, i + 1, w, h => by
    simp only [rangeW, List.getElem?_cons_succ] at h
    rw [rangeW_get (lo + 1) n i w h]
    congr 1
    omega
theorem wk_range {T : Tie} {H : Hp} (lo : Int) (n : Nat) : Wk G T H (rangeW lo n) (Itr lo n) where
  go := fun T' H' i ok x' hi => by rw [rangeW_len] at hi; exact hi
  stop := fun T' H' ok x' => by rw [rangeW_len]; exact Nat.le_refl _
  yld := fun T' H' i y H'' h w hr x' ew yl => by
    obtain ⟨rfl, rfl⟩ := yl
    obtain rfl := rangeW_get _ _ _ _ ew
    exact ⟨hr, Ex.rfl' hr.ok, by unfold Rep; rfl⟩
/-- within -2^62 .. 2^62 -/
def fit62 (i : Int) : Bool := decide (-(2 ^ 62) ≤ i) && decide (i < 2 ^ 62)
theorem fit62_iff {i : Int} (h : fit62 i = true) : -(2 ^ 62) ≤ i ∧ i < 2 ^ 62 := by
  unfold fit62 at h
  rw [Bool.and_eq_true] at h
  exact ⟨of_decide_eq_true h.1, of_decide_eq_true h.2⟩
def mRng1 (as : AM) : AM := fun me h => (as me h).bind fun xs h => match xs with
  | [.int j] => match fit62 j with
    | true => .ok (rangeW 0 j.toNat) h
    | false => .stuck
  | _ => .stuck
def mRng2 (as : AM) : AM := fun me h => (as me h).bind fun xs h => match xs with
  | [.int i, .int j] => match fit62 i && fit62 j with
    | true => .ok (rangeW i (j - i).toNat) h
    | false => .stuck
  | _ => .stuck
theorem reps_int1 {T : Tie} {H : Hp} {i : Int} {vs : List V} (r : Reps G T H [.int i] vs) : vs = [.int i] := by
  unfold Reps at r
  obtain ⟨v, s, rfl, h, r⟩ := r
  unfold Reps at r
  unfold Rep at h
  rw [h, r]
theorem reps_int2 {T : Tie} {H : Hp} {i j : Int} {vs : List V} (r : Reps G T H [.int i, .int j] vs) : vs = [.int i, .int j] := by
  unfold Reps at r
  obtain ⟨v, s, rfl, h, r⟩ := r
  unfold Rep at h
  rw [reps_int1 r, h]
theorem mi_range1 {tg a : Expr} {as : AM} {p pos : Pos} (hg : Gl X "range") (hm : X.mg "range" = none) (ha : MA X adr Y [a] as) (hs : starEach [a] X.env = [(false, eval a X.env)] := by rfl) : MI X adr Y tg (.Call (.Name "range" p) [a] [] pos) (mRng1 as) :=
  pi_imp (pi_range1 hg hm ha hs) fun σ H R ⟨T, me, h, hr, hE, q⟩ => ⟨T, me, h, hr, hE, Res.bind q fun ws h1 _ T1 H1 vs hr1 x1 rp1 q1 => by
    split at q1
    · split at q1
      · rename_i j _ _ e
        obtain rfl := reps_int1 rp1
        exact ⟨j, rfl, (fit62_iff e).1, (fit62_iff e).2, q1 T1 H1 _ hr1 (Ex.rfl' hr1.ok) (wk_range 0 j.toNat)⟩
      · exact q1.elim
    · exact q1.elim⟩
theorem mi_range2 {tg a b : Expr} {as : AM} {p pos : Pos} (hg : Gl X "range") (hm : X.mg "range" = none) (ha : MA X adr Y [a, b] as) (hs : starEach [a, b] X.env = [(false, eval a X.env), (false, eval b X.env)] := by rfl) (hs2 : starEach [b] X.env = [(false, eval b X.env)] := by rfl) :
    MI X adr Y tg (.Call (.Name "range" p) [a, b] [] pos) (mRng2 as) :=
  pi_imp (pi_range2 hg hm ha hs hs2) fun σ H R ⟨T, me, h, hr, hE, q⟩ => ⟨T, me, h, hr, hE, Res.bind q fun ws h1 _ T1 H1 vs hr1 x1 rp1 q1 => by
    split at q1
    · split at q1
      · rename_i i j _ _ e
        rw [Bool.and_eq_true] at e
        obtain rfl := reps_int2 rp1
        exact ⟨i, j, rfl, ⟨(fit62_iff e.1).1, (fit62_iff e.1).2, (fit62_iff e.2).1, (fit62_iff e.2).2⟩, q1 T1 H1 _ hr1 (Ex.rfl' hr1.ok) (wk_range i (j - i).toNat)⟩
      · exact q1.elim
    · exact q1.elim⟩
end Mi

end
section
namespace Mi
open PySem PySem.Spec PyProof.Rows L2
variable {G : Kt} {X : Cx} {adr : Nat → Addr} {Y : WX}

/-! ### equality -/
def weqL (f : W → W → Option Bool) : List W → List W → Option Bool
  | [], [] => some true
  | x :: xs, y :: ys => match f x y with
    | some a => match weqL f xs ys with
      | some b => some (a && b)
      | none => none
    | none => none
  | _, _ => some false
def kindW : W → Nat
  | .non => 0
  | .bl _ => 1
  | .int _ => 2
  | .str _ => 3
  | .tup _ => 4
  | .lst _ => 5
  | _ => 6
/-- of unlike kinds, neither of them out of sight -/
def unlike (a b : W) : Option Bool := match Nat.ble (kindW a) 5 && Nat.ble (kindW b) 5 with
  | true => some false
  | false => none
def weq : Nat → W → W → Option Bool
  | 0, _, _ => none
  | n + 1, a, b => match a with
    | .int i => match b with
      | .int j => some (decide (i = j))
      | .bl k => some (decide (i = if k then 1 else 0))
      | b => unlike a b
    | .str x => match b with
      | .str y => some (strEq x y)
      | b => unlike a b
    | .tup xs => match b with
      | .tup ys => weqL (weq n) xs ys
      | b => unlike a b
    | .lst xs => match b with
      | .lst ys => weqL (weq n) xs ys
      | b => unlike a b
    | .bl k => match b with
      | .bl l => some (k == l)
      | .int j => some (decide ((if k then 1 else 0) = j))
      | b => unlike a b
    | .non => match b with
      | .non => some true
      | b => unlike a b
    | a => unlike a b

inductive Kd (h : Heap) : Nat → Value → Prop
  | non : Kd h 0 .none
  | bl (b : Bool) : Kd h 1 (.bool b)
  | int (i : Int) (t : Tok) : Kd h 2 (.int i t)
  | str (x : Str) (t : Tok) : Kd h 3 (.str x t)
  | tup {a : Addr} {its : Array Value} (q : h.IsTuple a its) : Kd h 4 (.ref a)
  | lst {a : Addr} {its : Array Value} (q : h.IsList a its) : Kd h 5 (.ref a)
theorem Kd.inj {h : Heap} {i j : Nat} {u : Value} (h1 : Kd h i u) (h2 : Kd h j u) : i = j := by
  cases h1 <;> cases h2 <;> try rfl
  · rename_i q1 _ q2
    obtain ⟨o, e, c, _⟩ := q1
    obtain ⟨o2, e2, c2, _⟩ := q2
    rw [e] at e2; cases e2; rw [c] at c2; exact absurd c2 (by decide)
  · rename_i q1 _ q2
    obtain ⟨o, e, c, _⟩ := q1
    obtain ⟨o2, e2, c2, _⟩ := q2
    rw [e] at e2; cases e2; rw [c] at c2; exact absurd c2 (by decide)
open SeqAt in
theorem cross {A : Around} {s : Shared} (hu : A.units < cLine) : ∀ {i j : Nat} {u v : Value}, Kd s.heap i u → Kd s.heap j v → i ≠ j → ¬ (i = 1 ∧ j = 2) → ¬ (i = 2 ∧ j = 1) → RcAt A s u v false ∧ RcNeAt A s u v true ∧ EqAt A s u v false
  | _, _, _, _, .non , .bl b2, _, _, _ => ⟨RcAt.none_bool b2, RcNeAt.none_bool b2, EqAt.none_bool b2⟩
  | _, _, _, _, .non , .int i2 t2, _, _, _ => ⟨RcAt.none_int i2 t2, RcNeAt.none_int i2 t2, EqAt.none_int i2 t2⟩
  | _, _, _, _, .non , .str x2 t2, _, _, _ => ⟨RcAt.none_str x2 t2, RcNeAt.none_str x2 t2, EqAt.none_str x2 t2⟩
  | _, _, _, _, .non , .tup  h2, _, _, _ => ⟨RcAt.none_tuple h2 hu, RcNeAt.none_tuple h2 hu, EqAt.none_tuple h2 hu⟩
  | _, _, _, _, .non , .lst  h2, _, _, _ => ⟨RcAt.none_list h2 hu, RcNeAt.none_list h2 hu, EqAt.none_list h2 hu⟩
  | _, _, _, _, .bl b1, .non , _, _, _ => ⟨RcAt.bool_none b1, RcNeAt.bool_none b1, EqAt.bool_none b1⟩
  | _, _, _, _, .bl b1, .str x2 t2, _, _, _ => ⟨RcAt.bool_str b1 x2 t2, RcNeAt.bool_str b1 x2 t2, EqAt.bool_str b1 x2 t2⟩
  | _, _, _, _, .bl b1, .tup  h2, _, _, _ => ⟨RcAt.bool_tuple b1 h2 hu, RcNeAt.bool_tuple b1 h2 hu, EqAt.bool_tuple b1 h2 hu⟩
  | _, _, _, _, .bl b1, .lst  h2, _, _, _ => ⟨RcAt.bool_list b1 h2 hu, RcNeAt.bool_list b1 h2 hu, EqAt.bool_list b1 h2 hu⟩
  | _, _, _, _, .int i1 t1, .non , _, _, _ => ⟨RcAt.int_none i1 t1, RcNeAt.int_none i1 t1, EqAt.int_none i1 t1⟩
  | _, _, _, _, .int i1 t1, .str x2 t2, _, _, _ => ⟨RcAt.int_str i1 t1 x2 t2, RcNeAt.int_str i1 t1 x2 t2, EqAt.int_str i1 t1 x2 t2⟩
  | _, _, _, _, .int i1 t1, .tup  h2, _, _, _ => ⟨RcAt.int_tuple i1 t1 h2 hu, RcNeAt.int_tuple i1 t1 h2 hu, EqAt.int_tuple i1 t1 h2 hu⟩
  | _, _, _, _, .int i1 t1, .lst  h2, _, _, _ => ⟨RcAt.int_list i1 t1 h2 hu, RcNeAt.int_list i1 t1 h2 hu, EqAt.int_list i1 t1 h2 hu⟩
  | _, _, _, _, .str x1 t1, .non , _, _, _ => ⟨RcAt.str_none x1 t1, RcNeAt.str_none x1 t1, EqAt.str_none x1 t1⟩
  | _, _, _, _, .str x1 t1, .bl b2, _, _, _ => ⟨RcAt.str_bool x1 t1 b2, RcNeAt.str_bool x1 t1 b2, EqAt.str_bool x1 t1 b2⟩
  | _, _, _, _, .str x1 t1, .int i2 t2, _, _, _ => ⟨RcAt.str_int x1 t1 i2 t2, RcNeAt.str_int x1 t1 i2 t2, EqAt.str_int x1 t1 i2 t2⟩
  | _, _, _, _, .str x1 t1, .tup  h2, _, _, _ => ⟨RcAt.str_tuple x1 t1 h2 hu, RcNeAt.str_tuple x1 t1 h2 hu, EqAt.str_tuple x1 t1 h2 hu⟩
  | _, _, _, _, .str x1 t1, .lst  h2, _, _, _ => ⟨RcAt.str_list x1 t1 h2 hu, RcNeAt.str_list x1 t1 h2 hu, EqAt.str_list x1 t1 h2 hu⟩
  | _, _, _, _, .tup  h1, .non , _, _, _ => ⟨RcAt.tuple_none h1 hu, RcNeAt.tuple_none h1 hu, EqAt.tuple_none h1 hu⟩
  | _, _, _, _, .tup  h1, .bl b2, _, _, _ => ⟨RcAt.tuple_bool b2 h1 hu, RcNeAt.tuple_bool b2 h1 hu, EqAt.tuple_bool b2 h1 hu⟩
  | _, _, _, _, .tup  h1, .int i2 t2, _, _, _ => ⟨RcAt.tuple_int i2 t2 h1 hu, RcNeAt.tuple_int i2 t2 h1 hu, EqAt.tuple_int i2 t2 h1 hu⟩
  | _, _, _, _, .tup  h1, .str x2 t2, _, _, _ => ⟨RcAt.tuple_str x2 t2 h1 hu, RcNeAt.tuple_str x2 t2 h1 hu, EqAt.tuple_str x2 t2 h1 hu⟩
  | _, _, _, _, .tup  h1, .lst  h2, _, _, _ => ⟨RcAt.tuple_list h1 h2 hu, RcNeAt.tuple_list h1 h2 hu, EqAt.tuple_list h1 h2 hu⟩
  | _, _, _, _, .lst  h1, .non , _, _, _ => ⟨RcAt.list_none h1 hu, RcNeAt.list_none h1 hu, EqAt.list_none h1 hu⟩
  | _, _, _, _, .lst  h1, .bl b2, _, _, _ => ⟨RcAt.list_bool b2 h1 hu, RcNeAt.list_bool b2 h1 hu, EqAt.list_bool b2 h1 hu⟩
  | _, _, _, _, .lst  h1, .int i2 t2, _, _, _ => ⟨RcAt.list_int i2 t2 h1 hu, RcNeAt.list_int i2 t2 h1 hu, EqAt.list_int i2 t2 h1 hu⟩
  | _, _, _, _, .lst  h1, .str x2 t2, _, _, _ => ⟨RcAt.list_str x2 t2 h1 hu, RcNeAt.list_str x2 t2 h1 hu, EqAt.list_str x2 t2 h1 hu⟩
  | _, _, _, _, .lst  h1, .tup  h2, _, _, _ => ⟨RcAt.list_tuple h1 h2 hu, RcNeAt.list_tuple h1 h2 hu, EqAt.list_tuple h1 h2 hu⟩
  | _, _, _, _, .non , .non , ne, _, _ => absurd rfl ne
  | _, _, _, _, .bl _, .bl _, ne, _, _ => absurd rfl ne
  | _, _, _, _, .int _ _, .int _ _, ne, _, _ => absurd rfl ne
  | _, _, _, _, .str _ _, .str _ _, ne, _, _ => absurd rfl ne
  | _, _, _, _, .tup  _, .tup  _, ne, _, _ => absurd rfl ne
  | _, _, _, _, .lst  _, .lst  _, ne, _, _ => absurd rfl ne
  | _, _, _, _, .bl _, .int _ _, _, nb, _ => absurd ⟨rfl, rfl⟩ nb
  | _, _, _, _, .int _ _, .bl _, _, _, nb => absurd ⟨rfl, rfl⟩ nb
theorem kd_of {P : Program} {wo : World} {T : Tie} {H : Hp} {h : Heap} (ok : HOk P wo H h) {w : W} {v : V} {u : Value} (rp : Rep G T H w v) (r : RelV v u) (k : Nat.ble (kindW w) 5 = true) : Kd h (kindW w) u := by
  cases w with
  | non => unfold Rep at rp; subst rp; cases r; exact .non
  | bl b => unfold Rep at rp; subst rp; cases r; exact .bl b
  | int i => unfold Rep at rp; subst rp; obtain ⟨t, rfl⟩ := r; exact .int i t
  | str x => unfold Rep at rp; subst rp; obtain ⟨t, rfl⟩ := r; exact .str x t
  | tup ws =>
    unfold Rep at rp
    obtain ⟨a, vs, rfl, f, q, _⟩ := rp
    obtain rfl : u = .ref a := r
    obtain ⟨_, its, rv, p⟩ := ok _ _ q
    exact .tup (its := its.toArray) p
  | lst ws =>
    unfold Rep at rp
    obtain ⟨a, vs, rfl, f, q, _⟩ := rp
    obtain rfl : u = .ref a := r
    obtain ⟨_, its, n, rv, p⟩ := ok _ _ q
    exact .lst (its := its.toArray) ⟨_, p, rfl, _, rfl⟩
  | _ => exact nomatch k
theorem unlike_kd {a b : W} {k : Bool} (h : unlike a b = some k) : k = false ∧ Nat.ble (kindW a) 5 = true ∧ Nat.ble (kindW b) 5 = true := by
  unfold unlike at h
  split at h
  · rename_i e
    rw [Bool.and_eq_true] at e
    cases h
    exact ⟨rfl, e⟩
  · cases h
theorem weqL_len {f : W → W → Option Bool} : ∀ {xs ys : List W} {b : Bool}, weqL f xs ys = some b → xs.length ≠ ys.length → b = false
  | [], [], b, h, ne => absurd rfl ne
  | [], y :: ys, b, h, ne => by cases h; rfl
  | x :: xs, [], b, h, ne => by cases h; rfl
  | x :: xs, y :: ys, b, h, ne => by
    unfold weqL at h
    split at h
    · split at h
      · rename_i a _ c e
        have := weqL_len e (fun z => ne (by simp [z]))
        subst this
        cases h
        simp
      · cases h
    · cases h
theorem weqL_at {f : W → W → Option Bool} : ∀ {xs ys : List W} {b : Bool}, weqL f xs ys = some b → ∃ e : Nat → Bool, (∀ j x y, xs[j]? = some x → ys[j]? = some y → f x y = some (e j)) ∧ ((List.range (min xs.length ys.length)).all e && (xs.length == ys.length)) = b
  | [], [], b, h => by cases h; exact ⟨fun _ => true, fun j x y h => by simp at h, rfl⟩
  | [], y :: ys, b, h => by cases h; exact ⟨fun _ => true, fun j x y h => by simp at h, by simp⟩
  | x :: xs, [], b, h => by cases h; exact ⟨fun _ => true, fun j x y _ h => by simp at h, by simp⟩
  | x :: xs, y :: ys, b, h => by
    unfold weqL at h
    split at h
    · rename_i a ea
      split at h
      · rename_i c e
        obtain ⟨g, g1, g2⟩ := weqL_at e
        cases h
        refine ⟨fun j => match j with | 0 => a | j + 1 => g j, fun j x' y' h1 h2 => ?_, ?_⟩
        · cases j with
          | zero => simp at h1 h2; subst h1 h2; exact ea
          | succ j => exact g1 j x' y' (by simpa using h1) (by simpa using h2)
        · have e1 : min (x :: xs).length (y :: ys).length = min xs.length ys.length + 1 := by simp only [List.length_cons]; omega
          rw [e1, List.range_succ_eq_map, List.all_cons, List.all_map, ← g2]
          simp [Function.comp_def, Bool.and_assoc]
      · cases h
    · cases h
theorem kind_same {P : Program} {w : World} {H : Hp} {h : Heap} (ok : HOk P w H h) {T : Tie} {w1 w2 : W} {v : V} {u : Value} (ru : RelV v u) (r1 : Rep G T H w1 v) (r2 : Rep G T H w2 v) (k1 : Nat.ble (kindW w1) 5 = true) (k2 : Nat.ble (kindW w2) 5 = true) : kindW w1 = kindW w2 :=
  (kd_of ok r1 ru k1).inj (kd_of ok r2 ru k2)
theorem relV_ex : ∀ {xs : List V} {us : List Value} {i : Nat} {x : V}, Vals xs us → xs[i]? = some x → ∃ u, RelV x u := fun r e => let ⟨u, _, h⟩ := Vals.get r e; ⟨u, h⟩
theorem weqL_same {f : W → W → Option Bool} {T : Tie} {H : Hp} (ih : ∀ w1 w2 b v, (∃ u, RelV v u) → f w1 w2 = some b → Rep G T H w1 v → Rep G T H w2 v → b = true) : ∀ {xs ys : List W} {vs : List V} {us : List Value} {b : Bool}, Vals vs us → weqL f xs ys = some b → Reps G T H xs vs → Reps G T H ys vs → b = true
  | [], [], vs, us, b, _, h, _, _ => by cases h; rfl
  | [], y :: ys, vs, us, b, _, h, r1, r2 => by have := r1.length.trans r2.length.symm; simp at this
  | x :: xs, [], vs, us, b, _, h, r1, r2 => by have := r1.length.trans r2.length.symm; simp at this
  | x :: xs, y :: ys, vs, us, b, rv, h, r1, r2 => by
    unfold Reps at r1 r2
    obtain ⟨v, s, rfl, p1, q1⟩ := r1
    obtain ⟨v2, s2, e, p2, q2⟩ := r2
    cases e
    cases rv with
    | cons rv rvs =>
    unfold weqL at h
    split at h
    · rename_i a ea
      split at h
      · rename_i c e
        cases h
        rw [ih _ _ _ _ ⟨_, rv⟩ ea p1 p2, weqL_same ih rvs e q1 q2]
        rfl
      · cases h
    · cases h
theorem weq_same {P : Program} {w : World} {H : Hp} {h : Heap} (ok : HOk P w H h) : ∀ (n : Nat) {T : Tie} (w1 w2 : W) (b : Bool) (v : V), (∃ u, RelV v u) → weq n w1 w2 = some b → Rep G T H w1 v → Rep G T H w2 v → b = true
  | 0, _, _, _, _, _, _, h, _, _ => by cases h
  | n + 1, T, w1, w2, b, v, ⟨u, ru⟩, h, r1, r2 => by
    have un : unlike w1 w2 = some b → kindW w1 = kindW w2 := fun e => by
      obtain ⟨_, k1, k2⟩ := unlike_kd e
      exact kind_same ok ru r1 r2 k1 k2
    unfold weq at h
    cases w1 with
    | int i =>
      cases w2 with
      | int j => unfold Rep at r1 r2; subst r1; cases r2; cases h; simp
      | bl j => unfold Rep at r1 r2; subst r1; cases r2
      | _ => exact absurd (un h) (by unfold kindW; simp)
    | bl i =>
      cases w2 with
      | int j => unfold Rep at r1 r2; subst r1; cases r2
      | bl j => unfold Rep at r1 r2; subst r1; cases r2; cases h; simp
      | _ => exact absurd (un h) (by unfold kindW; simp)
    | non =>
      cases w2 with
      | non => cases h; rfl
      | _ => exact absurd (un h) (by unfold kindW; simp)
    | str i =>
      cases w2 with
      | str j => unfold Rep at r1 r2; subst r1; cases r2; cases h; simp [strEq_eq]
      | _ => exact absurd (un h) (by unfold kindW; simp)
    | tup xs =>
      cases w2 with
      | tup ys =>
        unfold Rep at r1 r2
        obtain ⟨a, vs, rfl, _, q, p1⟩ := r1
        obtain ⟨a2, vs2, e2, _, q2, p2⟩ := r2
        cases e2
        rw [q] at q2
        cases q2
        obtain ⟨_, its, rv, _⟩ := ok _ _ q
        exact weqL_same (fun w1 w2 b v => weq_same ok n w1 w2 b v) rv h p1 p2
      | _ => exact absurd (un h) (by unfold kindW; simp)
    | lst xs =>
      cases w2 with
      | lst ys =>
        unfold Rep at r1 r2
        obtain ⟨a, vs, rfl, _, q, p1⟩ := r1
        obtain ⟨a2, vs2, e2, _, q2, p2⟩ := r2
        cases e2
        rw [q] at q2
        cases q2
        obtain ⟨_, its, _, rv, _⟩ := ok _ _ q
        exact weqL_same (fun w1 w2 b v => weq_same ok n w1 w2 b v) rv h p1 p2
      | _ => exact absurd (un h) (by unfold kindW; simp)
    | _ => exact absurd (unlike_kd h).2.1 (by simp [kindW])
open SeqAt in
theorem weqL_items {A : Around} {s : Shared} {f : W → W → Option Bool} {T : Tie} {H : Hp} (ih : ∀ w1 w2 b v1 v2 u1 u2, f w1 w2 = some b → Rep G T H w1 v1 → Rep G T H w2 v2 → RelV v1 u1 → RelV v2 u2 → EqAt A s u1 u2 b) {xs ys : List W} {vs vs2 : List V} {us us2 : List Value} (rv : Vals vs us) (rv2 : Vals vs2 us2)
    (r1 : Reps G T H xs vs) (r2 : Reps G T H ys vs2) {e : Nat → Bool} (he : ∀ j x y, xs[j]? = some x → ys[j]? = some y → f x y = some (e j)) : ∀ j (h1 : j < us.toArray.size) (h2 : j < us2.toArray.size), EqAt A s us.toArray[j] us2.toArray[j] (e j) := fun j h1 h2 => by
  have l1 := r1.length.trans rv.length
  have l2 := r2.length.trans rv2.length
  have h1' : j < us.length := by simpa using h1
  have h2' : j < us2.length := by simpa using h2
  have ex : xs[j]? = some xs[j] := List.getElem?_eq_getElem (by omega)
  have ey : ys[j]? = some ys[j] := List.getElem?_eq_getElem (by omega)
  obtain ⟨v1, e1, p1⟩ := r1.get ex
  obtain ⟨v2, e2, p2⟩ := r2.get ey
  obtain ⟨u1, f1, q1⟩ := rv.get e1
  obtain ⟨u2, f2, q2⟩ := rv2.get e2
  have g1 : us.toArray[j] = u1 := by
    have := List.getElem?_eq_getElem h1'
    rw [f1] at this
    simpa using this.symm
  have g2 : us2.toArray[j] = u2 := by
    have := List.getElem?_eq_getElem h2'
    rw [f2] at this
    simpa using this.symm
  rw [g1, g2]
  exact ih _ _ _ _ _ _ _ (he j _ _ ex ey) p1 p2 q1 q2
open SeqAt in
theorem weq_at {P : Program} {wo : World} : ∀ (n : Nat) {A : Around} {s : Shared} {T : Tie} {H : Hp} {w1 w2 : W} {b : Bool} {v1 v2 : V} {u1 u2 : Value}, HOk P wo H s.heap → A.units + n < cLine → weq n w1 w2 = some b → Rep G T H w1 v1 → Rep G T H w2 v2 → RelV v1 u1 → RelV v2 u2 → RcAt A s u1 u2 b ∧ RcNeAt A s u1 u2 (!b) ∧ EqAt A s u1 u2 b
  | 0, _, _, _, _, _, _, _, _, _, _, _, _, _, h, _, _, _, _ => by cases h
  | n + 1, A, s, T, H, w1, w2, b, v1, v2, u1, u2, ok, hu, h, r1, r2, ru1, ru2 => by
    have un : ∀ (_ : unlike w1 w2 = some b) (_ : kindW w1 ≠ kindW w2) (_ : ¬ (kindW w1 = 1 ∧ kindW w2 = 2)) (_ : ¬ (kindW w1 = 2 ∧ kindW w2 = 1)), RcAt A s u1 u2 b ∧ RcNeAt A s u1 u2 (!b) ∧ EqAt A s u1 u2 b := fun e n1 n2 n3 => by
      obtain ⟨rfl, k1, k2⟩ := unlike_kd e
      exact cross (by omega) (kd_of ok r1 ru1 k1) (kd_of ok r2 ru2 k2) n1 n2 n3
    have sm := fun (e : v1 = v2) => weq_same ok (n + 1) w1 w2 b v1 ⟨u1, ru1⟩ h r1 (by rw [e]; exact r2)
    have hu1 : A.units < cLine := by omega
    have hu2 : A.in1.units + n < cLine := by show A.units + 1 + n < cLine; omega
    unfold weq at h
    cases w1 with
    | int i =>
      cases w2 with
      | int j =>
        unfold Rep at r1 r2; subst r1; subst r2; obtain ⟨t, rfl⟩ := ru1; obtain ⟨t2, rfl⟩ := ru2; cases h
        rw [← Bool.beq_eq_decide_eq]
        exact ⟨RcAt.int_int _ _ _ _, RcNeAt.int_int _ _ _ _, EqAt.int_int _ _ _ _⟩
      | bl j =>
        unfold Rep at r1 r2; subst r1; subst r2; obtain ⟨t, rfl⟩ := ru1; cases ru2; cases h
        rw [← Bool.beq_eq_decide_eq]
        exact ⟨RcAt.int_bool _ _ _, RcNeAt.int_bool _ _ _, EqAt.int_bool _ _ _⟩
      | _ => exact un h (by unfold kindW; simp) (by unfold kindW; simp) (by unfold kindW; simp)
    | bl i =>
      cases w2 with
      | int j =>
        unfold Rep at r1 r2; subst r1; subst r2; obtain ⟨t, rfl⟩ := ru2; cases ru1; cases h
        rw [← Bool.beq_eq_decide_eq]
        exact ⟨RcAt.bool_int _ _ _, RcNeAt.bool_int _ _ _, EqAt.bool_int _ _ _⟩
      | bl j =>
        unfold Rep at r1 r2; subst r1; subst r2; cases ru1; cases ru2; cases h
        exact ⟨RcAt.bool_bool _ _, RcNeAt.bool_bool _ _, EqAt.bool_bool _ _⟩
      | _ => exact un h (by unfold kindW; simp) (by unfold kindW; simp) (by unfold kindW; simp)
    | non =>
      cases w2 with
      | non =>
        unfold Rep at r1 r2; subst r1; subst r2; cases ru1; cases ru2; cases h
        exact ⟨RcAt.none_none, RcNeAt.none_none, EqAt.same _⟩
      | _ => exact un h (by unfold kindW; simp) (by unfold kindW; simp) (by unfold kindW; simp)
    | str i =>
      cases w2 with
      | str j =>
        unfold Rep at r1 r2; subst r1; subst r2; obtain ⟨t, rfl⟩ := ru1; obtain ⟨t2, rfl⟩ := ru2; cases h
        rw [strEq_eq, ← Bool.beq_eq_decide_eq]
        exact ⟨RcAt.str_str _ _ _ _, RcNeAt.str_str _ _ _ _, EqAt.str_str _ _ _ _⟩
      | _ => exact un h (by unfold kindW; simp) (by unfold kindW; simp) (by unfold kindW; simp)
    | tup xs =>
      cases w2 with
      | tup ys =>
        unfold Rep at r1 r2
        obtain ⟨a, vs, rfl, _, q, p1⟩ := r1
        obtain ⟨a2, vs2, rfl, _, q2, p2⟩ := r2
        obtain rfl : u1 = .ref a := ru1
        obtain rfl : u2 = .ref a2 := ru2
        obtain ⟨_, its, rv, t1⟩ := ok _ _ q
        obtain ⟨_, its2, rv2, t2⟩ := ok _ _ q2
        obtain ⟨e, he, eb⟩ := weqL_at h
        have rc := RcAt.tuples (A := A) (s := s) (e := e) (show s.heap.IsTuple a its.toArray from t1) (show s.heap.IsTuple a2 its2.toArray from t2) hu1
          (weqL_items (fun w1 w2 b v1 v2 u1 u2 h r1 r2 q1 q2 => (weq_at n ok hu2 h r1 r2 q1 q2).2.2) rv rv2 p1 p2 he)
        have rn := RcNeAt.tuples (A := A) (s := s) (e := e) (show s.heap.IsTuple a its.toArray from t1) (show s.heap.IsTuple a2 its2.toArray from t2) hu1
          (weqL_items (fun w1 w2 b v1 v2 u1 u2 h r1 r2 q1 q2 => (weq_at n ok hu2 h r1 r2 q1 q2).2.2) rv rv2 p1 p2 he)
        have eb' : ((List.range (min its.toArray.size its2.toArray.size)).all e && its.toArray.size == its2.toArray.size) = b := by
          rw [List.size_toArray, List.size_toArray, ← rv.length, ← rv2.length, ← p1.length, ← p2.length]
          exact eb
        rw [eb'] at rc rn
        refine ⟨rc, rn, ?_⟩
        by_cases z : a = a2
        · subst z
          rw [sm rfl]
          exact EqAt.same _
        · exact EqAt.of_refs z rc
      | _ => exact un h (by unfold kindW; simp) (by unfold kindW; simp) (by unfold kindW; simp)
    | lst xs =>
      cases w2 with
      | lst ys =>
        unfold Rep at r1 r2
        obtain ⟨a, vs, rfl, _, q, p1⟩ := r1
        obtain ⟨a2, vs2, rfl, _, q2, p2⟩ := r2
        obtain rfl : u1 = .ref a := ru1
        obtain rfl : u2 = .ref a2 := ru2
        obtain ⟨_, its, _, rv, t1⟩ := ok _ _ q
        obtain ⟨_, its2, _, rv2, t2⟩ := ok _ _ q2
        obtain ⟨e, he, eb⟩ := weqL_at h
        have i1 : s.heap.IsList a its.toArray := ⟨_, t1, rfl, _, rfl⟩
        have i2 : s.heap.IsList a2 its2.toArray := ⟨_, t2, rfl, _, rfl⟩
        have l1 := p1.length.trans rv.length
        have l2 := p2.length.trans rv2.length
        have rcn : RcAt A s (.ref a) (.ref a2) b ∧ RcNeAt A s (.ref a) (.ref a2) (!b) := by
          by_cases z : its.length = its2.length
          · have rc := RcAt.lists (A := A) (s := s) (e := e) i1 i2 (by simpa using z) hu1
              (weqL_items (fun w1 w2 b v1 v2 u1 u2 h r1 r2 q1 q2 => (weq_at n ok hu2 h r1 r2 q1 q2).2.2) rv rv2 p1 p2 he)
            have rn := RcNeAt.lists (A := A) (s := s) (e := e) i1 i2 (by simpa using z) hu1
              (weqL_items (fun w1 w2 b v1 v2 u1 u2 h r1 r2 q1 q2 => (weq_at n ok hu2 h r1 r2 q1 q2).2.2) rv rv2 p1 p2 he)
            have eb' : (List.range its.toArray.size).all e = b := by
              rw [List.size_toArray]
              have e1 : min xs.length ys.length = its.length := by omega
              have e2 : (xs.length == ys.length) = true := by simp; omega
              rw [e1, e2, Bool.and_true] at eb
              exact eb
            rw [eb'] at rc rn
            exact ⟨rc, rn⟩
          · have rc := RcAt.lists_lengths (A := A) (s := s) i1 i2 (by simpa using z) hu1
            have rn := RcNeAt.lists_lengths (A := A) (s := s) i1 i2 (by simpa using z) hu1
            have e2 : (xs.length == ys.length) = false := by simp; omega
            rw [e2, Bool.and_false] at eb
            rw [← eb]
            exact ⟨rc, rn⟩
        obtain ⟨rc, rn⟩ := rcn
        refine ⟨rc, rn, ?_⟩
        by_cases z : a = a2
        · subst z
          rw [sm rfl]
          exact EqAt.same _
        · exact EqAt.of_refs z rc
      | _ => exact un h (by unfold kindW; simp) (by unfold kindW; simp) (by unfold kindW; simp)
    | _ => exact absurd (unlike_kd h).2.1 (by simp [kindW])
end Mi

end
section
namespace Mi
open PySem PySem.Spec PyProof.Rows L2
variable {G : Kt} {X : Cx} {adr : Nat → Addr} {Y : WX}

/-! ### one value's answer is one -/
theorem weqL_det {f : W → W → Option Bool} {T : Tie} {H : Hp} (ih : ∀ w1 w2 x b c v, (∃ u, RelV v u) → f w1 x = some b → f w2 x = some c → Rep G T H w1 v → Rep G T H w2 v → b = c) : ∀ {xs ys zs : List W} {vs : List V} {us : List Value} {b c : Bool}, Vals vs us → weqL f xs zs = some b → weqL f ys zs = some c → Reps G T H xs vs → Reps G T H ys vs → b = c
  | [], [], zs, vs, us, b, c, _, h, k, _, _ => by rw [h] at k; cases k; rfl
  | [], y :: ys, zs, vs, us, b, c, _, h, k, r1, r2 => by have := r1.length.trans r2.length.symm; simp at this
  | x :: xs, [], zs, vs, us, b, c, _, h, k, r1, r2 => by have := r1.length.trans r2.length.symm; simp at this
  | x :: xs, y :: ys, [], vs, us, b, c, rv, h, k, r1, r2 => by cases h; cases k; rfl
  | x :: xs, y :: ys, z :: zs, vs, us, b, c, rv, h, k, r1, r2 => by
    unfold Reps at r1 r2
    obtain ⟨v, s, rfl, p1, q1⟩ := r1
    obtain ⟨v2, s2, e, p2, q2⟩ := r2
    cases e
    cases rv with
    | cons rv rvs =>
    simp only [weqL] at h k
    cases e1 : f x z with
    | none => rw [e1] at h; cases h
    | some a1 =>
    cases e2 : f y z with
    | none => rw [e2] at k; cases k
    | some a2 =>
    rw [e1] at h
    rw [e2] at k
    cases e3 : weqL f xs zs with
    | none => rw [e3] at h; cases h
    | some a3 =>
    cases e4 : weqL f ys zs with
    | none => rw [e4] at k; cases k
    | some a4 =>
    rw [e3] at h
    rw [e4] at k
    cases h
    cases k
    rw [ih _ _ _ _ _ _ ⟨_, rv⟩ e1 e2 p1 p2, weqL_det ih rvs e3 e4 q1 q2]
theorem unlike_f {a b : W} {k : Bool} (h : unlike a b = some k) : k = false := (unlike_kd h).1
theorem weq_kind : ∀ {n : Nat} {w x : W} {b : Bool}, weq n w x = some b → Nat.ble (kindW w) 5 = true
  | 0, _, _, _, h => by cases h
  | n + 1, w, x, b, h => by
    unfold weq at h
    cases w with
    | non => rfl
    | bl _ => rfl
    | int _ => rfl
    | str _ => rfl
    | tup _ => rfl
    | lst _ => rfl
    | _ => exact (unlike_kd h).2.1
theorem weq_det {P : Program} {w : World} {H : Hp} {h : Heap} (ok : HOk P w H h) : ∀ (n : Nat) {T : Tie} (w1 w2 x : W) (b c : Bool) (v : V), (∃ u, RelV v u) → weq n w1 x = some b → weq n w2 x = some c → Rep G T H w1 v → Rep G T H w2 v → b = c
  | 0, _, _, _, _, _, _, _, _, h, _, _, _ => by cases h
  | n + 1, T, w1, w2, x, b, c, v, ⟨u, ru⟩, h, k, r1, r2 => by
    have ke := kind_same ok ru r1 r2 (weq_kind h) (weq_kind k)
    unfold weq at h k
    cases w1 with
    | int i =>
      cases w2 with
      | int j => unfold Rep at r1 r2; subst r1; cases r2; rw [h] at k; cases k; rfl
      | _ => exact absurd ke (by unfold kindW; simp)
    | bl i =>
      cases w2 with
      | bl j => unfold Rep at r1 r2; subst r1; cases r2; rw [h] at k; cases k; rfl
      | _ => exact absurd ke (by unfold kindW; simp)
    | non =>
      cases w2 with
      | non => rw [h] at k; cases k; rfl
      | _ => exact absurd ke (by unfold kindW; simp)
    | str i =>
      cases w2 with
      | str j => unfold Rep at r1 r2; subst r1; cases r2; rw [h] at k; cases k; rfl
      | _ => exact absurd ke (by unfold kindW; simp)
    | tup xs =>
      cases w2 with
      | tup ys =>
        unfold Rep at r1 r2
        obtain ⟨a, vs, rfl, _, q, p1⟩ := r1
        obtain ⟨a2, vs2, e2, _, q2, p2⟩ := r2
        cases e2
        rw [q] at q2
        cases q2
        obtain ⟨_, its, rv, _⟩ := ok _ _ q
        cases x with
        | tup zs => exact weqL_det (fun w1 w2 x b c v => weq_det ok n w1 w2 x b c v) rv h k p1 p2
        | _ => rw [unlike_f h, unlike_f k]
      | _ => exact absurd ke (by unfold kindW; simp)
    | lst xs =>
      cases w2 with
      | lst ys =>
        unfold Rep at r1 r2
        obtain ⟨a, vs, rfl, _, q, p1⟩ := r1
        obtain ⟨a2, vs2, e2, _, q2, p2⟩ := r2
        cases e2
        rw [q] at q2
        cases q2
        obtain ⟨_, its, _, rv, _⟩ := ok _ _ q
        cases x with
        | lst zs => exact weqL_det (fun w1 w2 x b c v => weq_det ok n w1 w2 x b c v) rv h k p1 p2
        | _ => rw [unlike_f h, unlike_f k]
      | _ => exact absurd ke (by unfold kindW; simp)
    | _ => exact absurd (unlike_kd h).2.1 (by simp [kindW])

/-! ### x among ws -/
def winL (f : W → W → Option Bool) (x : W) : List W → Option Bool
  | [] => some false
  | y :: r => match f y x with
    | some a => match winL f x r with
      | some b => some (a || b)
      | none => none
    | none => none
open SeqAt in
theorem in_items {P : Program} {wo : World} {n : Nat} {A : Around} {s : Shared} {T : Tie} {H : Hp} {x : W} {vx : V} {ux : Value} (ok : HOk P wo H s.heap) (hu : A.units + n < cLine) (rx : Rep G T H x vx) (ru : RelV vx ux) :
    ∀ {ws : List W} {vs : List V} {us : List Value} {b : Bool}, Vals vs us → Reps G T H ws vs → winL (weq n) x ws = some b →
      ∀ e : Value → Bool, (∀ w v u k, Rep G T H w v → RelV v u → weq n w x = some k → e u = k) → (∀ u ∈ us, EqAt A s u ux (e u)) ∧ us.any e = b
  | [], vs, us, b, rv, rs, h, e, he => by
    unfold Reps at rs
    subst rs
    cases rv
    cases h
    exact ⟨fun u hu => (nomatch hu), rfl⟩
  | w :: ws, vs, us, b, rv, rs, h, e, he => by
    unfold Reps at rs
    obtain ⟨v, s, rfl, p1, q1⟩ := rs
    cases rv with
    | cons r1 rr =>
    simp only [winL] at h
    cases e1 : weq n w x with
    | none => rw [e1] at h; cases h
    | some a =>
    rw [e1] at h
    cases e2 : winL (weq n) x ws with
    | none => rw [e2] at h; cases h
    | some c =>
    rw [e2] at h
    cases h
    obtain ⟨i1, i2⟩ := in_items ok hu rx ru rr q1 e2 e he
    have ea := he _ _ _ _ p1 r1 e1
    refine ⟨fun u hm => ?_, ?_⟩
    · rcases List.mem_cons.mp hm with z | z
      · subst z
        rw [ea]
        exact (weq_at n ok hu e1 p1 rx r1 ru).2.2
      · exact i1 u z
    · rw [List.any_cons, ea, i2]
open Classical in
/-- the items' answers, told by the values -/
noncomputable def ansW (G : Kt) (T : Tie) (H : Hp) (n : Nat) (x : W) (u : Value) : Bool := if h : ∃ k w v, Rep G T H w v ∧ RelV v u ∧ weq n w x = some k then h.choose else false
theorem ansW_is {P : Program} {wo : World} {T : Tie} {H : Hp} {h : Heap} (ok : HOk P wo H h) {n : Nat} {x : W} : ∀ w v u k, Rep G T H w v → RelV v u → weq n w x = some k → ansW G T H n x u = k := fun w v u k r ru e => by
  have ex : ∃ k w v, Rep G T H w v ∧ RelV v u ∧ weq n w x = some k := ⟨k, w, v, r, ru, e⟩
  unfold ansW
  rw [dif_pos ex]
  obtain ⟨w2, v2, r2, ru2, e2⟩ := ex.choose_spec
  obtain rfl := ru.inj ru2
  exact weq_det ok n _ _ _ _ _ v ⟨u, ru⟩ e2 e r2 r
end Mi

end
section
namespace Mi
open PySem PySem.Spec PyProof.Rows L2
variable {G : Kt} {X : Cx} {adr : Nat → Addr} {Y : WX}

/-! ### operations by values -/
def rW (G : Kt) (F : F2) : R2 := fun v1 v2 H Q => ∃ T h w1 w2 w, Hrel G T h H ∧ Rep G T H w1 v1 ∧ Rep G T H w2 v2 ∧ F w1 w2 h = some w ∧ ∀ T' H' v, Hrel G T' h H' → Ex T T' H H' → Rep G T' H' w v → Q v H'
theorem op2_rW {F : F2} : Op2 G (rW G F) F := fun T h H w1 w2 v1 v2 hr r1 r2 w e Q q => ⟨T, h, w1, w2, w, hr, r1, r2, e, q⟩
def MO (X : Cx) (adr : Nat → Addr) (f : Value → Value → Sem Value) (F : F2) : Prop := OpR X f (rW (kt X adr) F)
/-- the value w is handed on -/
abbrev Hands (G : Kt) (T : Tie) (h : MH) (H : Hp) (w : W) (Q : VK) : Prop := ∀ T' H' v, Hrel G T' h H' → Ex T T' H H' → Rep G T' H' w v → Q v H'
theorem MO.mk {f : Value → Value → Sem Value} {F : F2} (k : ∀ w1 w2 h w, F w1 w2 h = some w → ∃ r, OpR X f r ∧ ∀ T H v1 v2 Q, Hrel (kt X adr) T h H → Rep (kt X adr) T H w1 v1 → Rep (kt X adr) T H w2 v2 → Hands (kt X adr) T h H w Q → r v1 v2 H Q) : MO X adr f F := by
  intro pins s σ H x y v u Q I rx ry ⟨T, h, w1, w2, w, hr, r1, r2, e, q⟩
  obtain ⟨r, ho, k⟩ := k w1 w2 h w e
  exact ho pins s σ H x y v u Q I rx ry (k T H x y Q hr r1 r2 q)
section
variable {a b : Expr} {ma mb : EM} {pos : Pos} {F : F2}
theorem me_binW {op : Operator} (ho : MO X adr (binaryOp op) F) (ha : ME X adr Y a ma) (hb : ME X adr Y b mb) : ME X adr Y (.BinOp a op b pos) (mBin F ma mb) := me_bin ho op2_rW ha hb
theorem me_cmpW {op : CmpOp} (ho : MO X adr (compareOp op) F) (ha : ME X adr Y a ma) (hb : ME X adr Y b mb) (hm : behindInMarks op b = false) : ME X adr Y (.Compare a [op] [b] pos) (mBin F ma mb) := me_cmp ho op2_rW ha hb hm
theorem mt_cmpW {op : CmpOp} (ho : MO X adr (compareOp op) F) (ha : ME X adr Y a ma) (hb : ME X adr Y b mb) (hm : behindInMarks op b = false) : MT X adr Y (.Compare a [op] [b] pos) (mBin F ma mb) := mt_cmp ho op2_rW ha hb hm
end
theorem rep_int {T : Tie} {H : Hp} {i : Int} {v : V} (r : Rep G T H (.int i) v) : v = .int i := by unfold Rep at r; exact r
theorem rep_str {T : Tie} {H : Hp} {i : Str} {v : V} (r : Rep G T H (.str i) v) : v = .str i := by unfold Rep at r; exact r
theorem rep_bl {T : Tie} {H : Hp} {i : Bool} {v : V} (r : Rep G T H (.bl i) v) : v = .bl i := by unfold Rep at r; exact r
theorem rep_non {T : Tie} {H : Hp} {v : V} (r : Rep G T H .non v) : v = .non := by unfold Rep at r; exact r
theorem Hands.int {T : Tie} {h : MH} {H : Hp} {i : Int} {Q : VK} (hr : Hrel G T h H) (q : Hands G T h H (.int i) Q) : Q (.int i) H := q T H _ hr (Ex.rfl' hr.ok) (by unfold Rep; rfl)
theorem Hands.str {T : Tie} {h : MH} {H : Hp} {i : Str} {Q : VK} (hr : Hrel G T h H) (q : Hands G T h H (.str i) Q) : Q (.str i) H := q T H _ hr (Ex.rfl' hr.ok) (by unfold Rep; rfl)
theorem Hands.bl {T : Tie} {h : MH} {H : Hp} {i : Bool} {Q : VK} (hr : Hrel G T h H) (q : Hands G T h H (.bl i) Q) : Q (.bl i) H := q T H _ hr (Ex.rfl' hr.ok) (by unfold Rep; rfl)
theorem Hands.same {T : Tie} {h : MH} {H : Hp} {w : W} {v : V} {Q : VK} (hr : Hrel G T h H) (r : Rep G T H w v) (q : Hands G T h H w Q) : Q v H := q T H _ hr (Ex.rfl' hr.ok) r
theorem Hands.tup {T : Tie} {h : MH} {H : Hp} {ws : List W} {vs : List V} {Q : VK} (hr : Hrel G T h H) (r : Reps G T H ws vs) (q : Hands G T h H (.tup ws) Q) : ∀ p, H p = none → Q (.ref p) (upd H p (.tup vs)) := fun p hp =>
  let ⟨a, b, c⟩ := pair_laid hr hp r
  q T _ _ a b c
theorem Hands.lst {T : Tie} {h : MH} {H : Hp} {ws : List W} {vs : List V} {Q : VK} (hr : Hrel G T h H) (r : Reps G T H ws vs) (q : Hands G T h H (.lst ws) Q) : ∀ p, H p = none → Q (.ref p) (upd H p (.lst vs)) := fun p hp =>
  let ⟨a, b, c⟩ := list_laid hr hp r
  q T _ _ a b c

/-! ### arithmetic, concatenation -/
def ble (a b : Nat) : Bool := Nat.ble a b
def lenLe (n : Nat) : Bool := Nat.ble n 16777216
theorem lenLe_iff {n : Nat} (h : lenLe n = true) : n ≤ sizeLine := by rw [sizeLine_eq]; exact Nat.le_of_ble_eq_true h
def wIf (b : Bool) (w : W) : Option W := match b with
  | true => some w
  | false => none
theorem wIf_is {b : Bool} {w u : W} (h : wIf b w = some u) : b = true ∧ w = u := by
  cases b with
  | true => cases h; exact ⟨rfl, rfl⟩
  | false => cases h
def wAdd : F2 := fun a b _ => match a, b with
  | .int i, .int j => some (.int (i + j))
  | .str x, .str y => wIf (lenLe (x.length + y.length)) (.str (x ++ y))
  | .tup x, .tup y => wIf (lenLe (x.length + y.length)) (.tup (x ++ y))
  | .lst x, .lst y => wIf (lenLe (x.length + y.length)) (.lst (x ++ y))
  | _, _ => none
theorem mo_add : MO X adr (binaryOp .Add) wAdd := MO.mk fun w1 w2 h w e => by
  unfold wAdd at e
  split at e
  · cases e
    exact ⟨_, op_add, fun T H v1 v2 Q hr r1 r2 q => ⟨_, _, rep_int r1, rep_int r2, q.int hr⟩⟩
  · obtain ⟨l, rfl⟩ := wIf_is e
    exact ⟨_, op_add_str, fun T H v1 v2 Q hr r1 r2 q => ⟨_, _, rep_str r1, rep_str r2, lenLe_iff l, q.str hr⟩⟩
  · obtain ⟨l, rfl⟩ := wIf_is e
    refine ⟨_, op_catA, fun T H v1 v2 Q hr r1 r2 q => ?_⟩
    have s1 := r1
    have s2 := r2
    unfold Rep at r1 r2
    obtain ⟨a, vs, rfl, f, qa, p1⟩ := r1
    obtain ⟨a2, vs2, rfl, f2, qa2, p2⟩ := r2
    refine ⟨a, a2, vs, vs2, rfl, rfl, .inl (.inl qa), .inl (.inl qa2), by rw [← p1.length, ← p2.length]; exact lenLe_iff l, fun z => ?_, fun z z2 => ?_, fun _ _ => q.tup hr (p1.append p2)⟩
    · subst z
      have := p1.length
      simp at this
      subst this
      exact q.same hr s2
    · subst z2
      have := p2.length
      simp at this
      subst this
      rw [List.append_nil] at q
      exact q.same hr s1
  · obtain ⟨l, rfl⟩ := wIf_is e
    refine ⟨_, op_cat, fun T H v1 v2 Q hr r1 r2 q => ?_⟩
    unfold Rep at r1 r2
    obtain ⟨a, vs, rfl, f, qa, p1⟩ := r1
    obtain ⟨a2, vs2, rfl, f2, qa2, p2⟩ := r2
    exact ⟨a, a2, vs, vs2, rfl, rfl, qa, qa2, by rw [← p1.length, ← p2.length]; exact lenLe_iff l, q.lst hr (p1.append p2)⟩
  · cases e
def wSub : F2 := fun a b _ => match a, b with
  | .int i, .int j => some (.int (i - j))
  | _, _ => none
theorem mo_sub : MO X adr (binaryOp .Sub) wSub := MO.mk fun w1 w2 h w e => by
  unfold wSub at e
  split at e
  · cases e
    exact ⟨_, op_sub, fun T H v1 v2 Q hr r1 r2 q => ⟨_, _, rep_int r1, rep_int r2, q.int hr⟩⟩
  · cases e
/-- within -2^64 .. 2^64 -/
def fit64 (i : Int) : Bool := decide (-(2 ^ 64) < i) && decide (i < 2 ^ 64)
theorem fit64_iff {i : Int} (h : fit64 i = true) : -(2 ^ 64) < i ∧ i < 2 ^ 64 := by
  unfold fit64 at h
  rw [Bool.and_eq_true] at h
  exact ⟨of_decide_eq_true h.1, of_decide_eq_true h.2⟩
def repW (ws : List W) : Nat → List W
  | 0 => []
  | n + 1 => ws ++ repW ws n
theorem reps_rep {T : Tie} {H : Hp} {ws : List W} {vs : List V} (r : Reps G T H ws vs) : ∀ n, Reps G T H (repW ws n) (List.replicate n vs).flatten
  | 0 => by simpa [repW] using Reps.nil
  | n + 1 => by
    rw [List.replicate_succ, List.flatten_cons]
    exact r.append (reps_rep r n)
def wMul : F2 := fun a b _ => match a, b with
  | .int i, .int j => wIf (fit64 i || fit64 j) (.int (i * j))
  | .tup (x :: r), .int k => wIf (Nat.ble 2 k.toNat && (Nat.ble k.toNat 1000 && Nat.ble (x :: r).length 1000)) (.tup (repW (x :: r) k.toNat))
  | _, _ => none
theorem mo_mul : MO X adr (binaryOp .Mult) wMul := MO.mk fun w1 w2 h w e => by
  unfold wMul at e
  split at e
  · obtain ⟨l, rfl⟩ := wIf_is e
    refine ⟨_, op_mul, fun T H v1 v2 Q hr r1 r2 q => ⟨_, _, rep_int r1, rep_int r2, ?_, q.int hr⟩⟩
    rcases (Bool.or_eq_true _ _).mp l with z | z
    · exact .inl (fit64_iff z)
    · exact .inr (fit64_iff z)
  · rename_i x r k
    obtain ⟨l, rfl⟩ := wIf_is e
    rw [Bool.and_eq_true, Bool.and_eq_true] at l
    have l1 := Nat.le_of_ble_eq_true l.1
    have l2 := Nat.le_of_ble_eq_true l.2.1
    have l3 := Nat.le_of_ble_eq_true l.2.2
    refine ⟨_, op_repT, fun T H v1 v2 Q hr r1 r2 q => ?_⟩
    unfold Rep at r1
    obtain ⟨a, vs, rfl, f, qa, p1⟩ := r1
    refine ⟨a, k, vs, rfl, rep_int r2, .inl (.inl qa), fun z => ?_, by omega, by omega, by rw [← p1.length]; exact l3, q.tup hr (reps_rep p1 _)⟩
    subst z
    have := p1.length
    simp at this
  · cases e
def wMod : F2 := fun a b _ => match a, b with
  | .int i, .int j => wIf (decide (0 < j)) (.int (i % j))
  | _, _ => none
theorem mo_mod : MO X adr (binaryOp .Mod) wMod := MO.mk fun w1 w2 h w e => by
  unfold wMod at e
  split at e
  · obtain ⟨l, rfl⟩ := wIf_is e
    exact ⟨_, op_mod, fun T H v1 v2 Q hr r1 r2 q => ⟨_, _, rep_int r1, rep_int r2, of_decide_eq_true l, q.int hr⟩⟩
  · cases e
def wFdiv : F2 := fun a b _ => match a, b with
  | .int i, .int j => wIf (decide (0 < j) && decide (j < 1073741824)) (.int (i / j))
  | _, _ => none
theorem mo_fdiv : MO X adr (binaryOp .FloorDiv) wFdiv := MO.mk fun w1 w2 h w e => by
  unfold wFdiv at e
  split at e
  · obtain ⟨l, rfl⟩ := wIf_is e
    rw [Bool.and_eq_true] at l
    exact ⟨_, op_fdiv, fun T H v1 v2 Q hr r1 r2 q => ⟨_, _, rep_int r1, rep_int r2, ⟨of_decide_eq_true l.1, of_decide_eq_true l.2⟩, q.int hr⟩⟩
  · cases e
def wPow : F2 := fun a b _ => match a, b with
  | .int i, .int j => wIf (decide (0 ≤ j) && (decide (j ≤ 1000000) && Nat.blt i.natAbs 18446744073709551616)) (.int (i ^ j.toNat))
  | _, _ => none
theorem mo_pow : MO X adr (binaryOp .Pow) wPow := MO.mk fun w1 w2 h w e => by
  unfold wPow at e
  split at e
  · obtain ⟨l, rfl⟩ := wIf_is e
    rw [Bool.and_eq_true, Bool.and_eq_true] at l
    exact ⟨_, op_pow, fun T H v1 v2 Q hr r1 r2 q => ⟨_, _, rep_int r1, rep_int r2, ⟨of_decide_eq_true l.1, of_decide_eq_true l.2.1, Nat.le_of_ble_eq_true l.2.2⟩, q.int hr⟩⟩
  · cases e
/-! ### comparisons -/
def wCmp (f : Int → Int → Bool) : F2 := fun a b _ => match a, b with
  | .int i, .int j => some (.bl (f i j))
  | _, _ => none
theorem mo_cmpI {op : CmpOp} {f : Int → Int → Bool} (ho : OpR X (compareOp op) (rI0 fun i j => .bl (f i j))) : MO X adr (compareOp op) (wCmp f) := MO.mk fun w1 w2 h w e => by
  unfold wCmp at e
  split at e
  · cases e
    exact ⟨_, ho, fun T H v1 v2 Q hr r1 r2 q => ⟨_, _, rep_int r1, rep_int r2, q.bl hr⟩⟩
  · cases e
def wLt : F2 := wCmp fun i j => decide (i < j)
def wLe : F2 := wCmp fun i j => decide (i ≤ j)
def wGt : F2 := wCmp fun i j => decide (j < i)
def wGe : F2 := wCmp fun i j => decide (j ≤ i)
theorem mo_lt : MO X adr (compareOp .Lt) wLt := mo_cmpI op_lt
theorem mo_le : MO X adr (compareOp .LtE) wLe := mo_cmpI op_le
theorem mo_gt : MO X adr (compareOp .Gt) wGt := mo_cmpI op_gt
theorem mo_ge : MO X adr (compareOp .GtE) wGe := mo_cmpI op_ge
def optBl : Option Bool → Option W
  | some b => some (.bl b)
  | none => none
theorem optBl_is {o : Option Bool} {w : W} (h : optBl o = some w) : ∃ b, o = some b ∧ w = .bl b := by
  cases o with
  | some b => cases h; exact ⟨b, rfl, rfl⟩
  | none => cases h
def notO : Option Bool → Option Bool
  | some b => some (!b)
  | none => none
/-- == and != of plain data, nested below 30 -/
def wEq : F2 := fun a b _ => optBl (weq 30 a b)
def wNe : F2 := fun a b _ => optBl (notO (weq 30 a b))
theorem mo_eq (hu : X.A.units + 64 < cLine) : MO X adr (compareOp .Eq) wEq := by
  intro pins s σ H x y v u Q I rx ry ⟨T, h, w1, w2, w, hr, r1, r2, e, q⟩
  obtain ⟨b, e', rfl⟩ := optBl_is e
  exact (weq_at (G := kt X adr) 30 I.hok (by omega) e' r1 r2 rx ry).1 _ _ _ _ ⟨.bl b, H, I, rfl, Hands.bl hr q⟩
theorem mo_ne (hu : X.A.units + 64 < cLine) : MO X adr (compareOp .NotEq) wNe := by
  intro pins s σ H x y v u Q I rx ry ⟨T, h, w1, w2, w, hr, r1, r2, e, q⟩
  obtain ⟨b, e', rfl⟩ := optBl_is e
  cases e2 : weq 30 w1 w2 with
  | none => rw [e2] at e'; cases e'
  | some c =>
    rw [e2] at e'
    cases e'
    exact (weq_at (G := kt X adr) 30 I.hok (by omega) e2 r1 r2 rx ry).2.1 _ _ _ _ ⟨.bl _, H, I, rfl, Hands.bl hr q⟩
/-! ### in a text, a list, a tuple -/
def wInS (neg : Bool) : F2 := fun a b _ => match b with
  | .str y => match a with
    | .str x => some (.bl (xor neg (!(Builtin.Str.occurrences y x 0 y.length 1).isEmpty)))
    | _ => none
  | .tup ys => match winL (weq 30) a ys with
    | some k => some (.bl (xor neg k))
    | none => none
  | .lst ys => match winL (weq 30) a ys with
    | some k => some (.bl (xor neg k))
    | none => none
  | .kt0 => some (.bl neg)
  | _ => none
theorem mo_inS (hu : X.A.units + 64 < cLine) : MO X adr (compareOp .In) (wInS false) := by
  intro pins s σ H x y v u Q I rx ry ⟨T, h, w1, w2, w, hr, r1, r2, e, q⟩
  have hu2 : X.A.in1.units + 30 < cLine := by show X.A.units + 1 + 30 < cLine; omega
  unfold wInS at e
  split at e
  · split at e
    · cases e
      refine op_in_str pins s σ H x y v u Q I rx ry ⟨_, _, rep_str r1, rep_str r2, ?_⟩
      simpa using Hands.bl hr q
    · cases e
  · split at e
    · rename_i k ek
      cases e
      unfold Rep at r2
      obtain ⟨a, vs, rfl, f, qa, p1⟩ := r2
      obtain rfl : u = .ref a := ry
      obtain ⟨_, its, rv, p⟩ := I.hok _ _ qa
      obtain ⟨i1, i2⟩ := in_items (G := kt X adr) I.hok hu2 r1 rx rv p1 ek (ansW (kt X adr) T H 30 w1) (ansW_is I.hok)
      refine SeqAt.in_tupleAt (ansW (kt X adr) T H 30 w1) (show s.heap.IsTuple a its.toArray from p) (fun y hy => i1 y (by simpa using hy)) ⟨.bl _, H, I, rfl, ?_⟩
      rw [show its.toArray.any (ansW (kt X adr) T H 30 w1) = its.any (ansW (kt X adr) T H 30 w1) by simp, i2]
      simpa using Hands.bl hr q
    · cases e
  · split at e
    · rename_i k ek
      cases e
      unfold Rep at r2
      obtain ⟨a, vs, rfl, f, qa, p1⟩ := r2
      obtain rfl : u = .ref a := ry
      obtain ⟨_, its, n, rv, p⟩ := I.hok _ _ qa
      obtain ⟨i1, i2⟩ := in_items (G := kt X adr) I.hok hu2 r1 rx rv p1 ek (ansW (kt X adr) T H 30 w1) (ansW_is I.hok)
      refine SeqAt.in_listAt (ansW (kt X adr) T H 30 w1) (show s.heap.IsList a its.toArray from ⟨_, p, rfl, _, rfl⟩) (fun y hy => i1 y (by simpa using hy)) ⟨.bl _, H, I, rfl, ?_⟩
      rw [show its.toArray.any (ansW (kt X adr) T H 30 w1) = its.any (ansW (kt X adr) T H 30 w1) by simp, i2]
      simpa using Hands.bl hr q
    · cases e
  · cases e
    unfold Rep at r2
    obtain ⟨a, rfl, o, n, k1, k2, k3⟩ := r2
    obtain rfl : u = .ref a := ry
    exact SeqAt.in_tupleAt (fun _ => false) (show s.heap.IsTuple a #[] from ⟨o, I.kIn _ _ k1, k2, n, k3⟩) (fun y hy => by simp at hy) ⟨.bl _, H, I, rfl, Hands.bl hr (by simpa using q)⟩
  · cases e
theorem mo_notInS (hu : X.A.units + 64 < cLine) : MO X adr (compareOp .NotIn) (wInS true) := by
  intro pins s σ H x y v u Q I rx ry ⟨T, h, w1, w2, w, hr, r1, r2, e, q⟩
  have hu2 : X.A.in1.units + 30 < cLine := by show X.A.units + 1 + 30 < cLine; omega
  unfold wInS at e
  split at e
  · split at e
    · cases e
      refine op_notin_str pins s σ H x y v u Q I rx ry ⟨_, _, rep_str r1, rep_str r2, ?_⟩
      simpa using Hands.bl hr q
    · cases e
  · split at e
    · rename_i k ek
      cases e
      unfold Rep at r2
      obtain ⟨a, vs, rfl, f, qa, p1⟩ := r2
      obtain rfl : u = .ref a := ry
      obtain ⟨_, its, rv, p⟩ := I.hok _ _ qa
      obtain ⟨i1, i2⟩ := in_items (G := kt X adr) I.hok hu2 r1 rx rv p1 ek (ansW (kt X adr) T H 30 w1) (ansW_is I.hok)
      refine SeqAt.notIn_tupleAt (ansW (kt X adr) T H 30 w1) (show s.heap.IsTuple a its.toArray from p) (fun y hy => i1 y (by simpa using hy)) ⟨.bl _, H, I, rfl, ?_⟩
      rw [show its.toArray.any (ansW (kt X adr) T H 30 w1) = its.any (ansW (kt X adr) T H 30 w1) by simp, i2]
      simpa using Hands.bl hr q
    · cases e
  · split at e
    · rename_i k ek
      cases e
      unfold Rep at r2
      obtain ⟨a, vs, rfl, f, qa, p1⟩ := r2
      obtain rfl : u = .ref a := ry
      obtain ⟨_, its, n, rv, p⟩ := I.hok _ _ qa
      obtain ⟨i1, i2⟩ := in_items (G := kt X adr) I.hok hu2 r1 rx rv p1 ek (ansW (kt X adr) T H 30 w1) (ansW_is I.hok)
      refine SeqAt.notIn_listAt (ansW (kt X adr) T H 30 w1) (show s.heap.IsList a its.toArray from ⟨_, p, rfl, _, rfl⟩) (fun y hy => i1 y (by simpa using hy)) ⟨.bl _, H, I, rfl, ?_⟩
      rw [show its.toArray.any (ansW (kt X adr) T H 30 w1) = its.any (ansW (kt X adr) T H 30 w1) by simp, i2]
      simpa using Hands.bl hr q
    · cases e
  · cases e
    unfold Rep at r2
    obtain ⟨a, rfl, o, n, k1, k2, k3⟩ := r2
    obtain rfl : u = .ref a := ry
    exact SeqAt.notIn_tupleAt (fun _ => false) (show s.heap.IsTuple a #[] from ⟨o, I.kIn _ _ k1, k2, n, k3⟩) (fun y hy => by simp at hy) ⟨.bl _, H, I, rfl, Hands.bl hr (by simpa using q)⟩
  · cases e
/-! ### is None -/
def isNone : W → Option Bool
  | .non => some true
  | .ref _ => none
  | _ => some false
def wIs (neg : Bool) : F2 := fun a b _ => match b with
  | .non => match isNone a with
    | some k => some (.bl (xor neg k))
    | none => none
  | .bl l => match a with
    | .bl k => some (.bl (xor neg (k == l)))
    | _ => none
  | _ => none
theorem isNone_is {T : Tie} {H : Hp} {w : W} {v : V} {b : Bool} (r : Rep G T H w v) (h : isNone w = some b) : decide (v = .non) = b := by
  cases w with
  | ref n => cases h
  | non => cases h; rw [rep_non r]; rfl
  | tup ws => cases h; unfold Rep at r; obtain ⟨a, vs, rfl, _⟩ := r; rfl
  | lst ws => cases h; unfold Rep at r; obtain ⟨a, vs, rfl, _⟩ := r; rfl
  | dct k ws => cases h; unfold Rep at r; obtain ⟨a, _, _, vs, rfl, _⟩ := r; rfl
  | ins c k ws => cases h; unfold Rep at r; obtain ⟨a, vs, _, rfl, _⟩ := r; rfl
  | dvs k ws => cases h; unfold Rep at r; obtain ⟨a, _, _, _, vs, rfl, _⟩ := r; rfl
  | scr ns => cases h; unfold Rep at r; obtain ⟨a, rfl, _⟩ := r; rfl
  | kt0 => cases h; unfold Rep at r; obtain ⟨a, rfl, _⟩ := r; rfl
  | _ => cases h; unfold Rep at r; subst r; rfl
theorem mo_is : MO X adr (compareOp .Is) (wIs false) := MO.mk fun w1 w2 h w e => by
  unfold wIs at e
  split at e
  · split at e
    · rename_i k e2
      cases e
      refine ⟨_, op_isN, fun T H v1 v2 Q hr r1 r2 q => ⟨rep_non r2, ?_⟩⟩
      rw [isNone_is r1 e2]
      simpa using q.bl hr
    · cases e
  · split at e
    · cases e
      refine ⟨_, op_is_bl, fun T H v1 v2 Q hr r1 r2 q => ⟨_, _, rep_bl r1, rep_bl r2, ?_⟩⟩
      simpa [Bool.beq_eq_decide_eq] using q.bl hr
    · cases e
  · cases e
theorem mo_isNot : MO X adr (compareOp .IsNot) (wIs true) := MO.mk fun w1 w2 h w e => by
  unfold wIs at e
  split at e
  · split at e
    · rename_i k e2
      cases e
      refine ⟨_, op_notN, fun T H v1 v2 Q hr r1 r2 q => ⟨rep_non r2, ?_⟩⟩
      rw [isNone_is r1 e2]
      simpa using q.bl hr
    · cases e
  · split at e
    · cases e
      refine ⟨_, op_isnot_bl, fun T H v1 v2 Q hr r1 r2 q => ⟨_, _, rep_bl r1, rep_bl r2, ?_⟩⟩
      simpa [Bool.beq_eq_decide_eq] using q.bl hr
    · cases e
  · cases e
end Mi

end
section
namespace Mi
open PySem PySem.Spec PyProof.Rows L2
variable {G : Kt} {X : Cx} {adr : Nat → Addr} {Y : WX}

/-! ### keys -/
mutual
/-- equal as keys -/
def kEq : W → W → Bool
  | .int i, b => match b with
    | .int j => decide (i = j)
    | .bl k => decide (i = if k then 1 else 0)
    | _ => false
  | .str x, b => match b with
    | .str y => strEq x y
    | _ => false
  | .tup xs, b => match b with
    | .tup ys => kEqs xs ys
    | _ => false
  | .bl k, b => match b with
    | .int j => decide ((if k then 1 else 0) = j)
    | .bl l => k == l
    | _ => false
  | .non, b => match b with
    | .non => true
    | _ => false
  | _, _ => false
def kEqs : List W → List W → Bool
  | [], ys => match ys with
    | [] => true
    | _ => false
  | x :: xs, ys => match ys with
    | y :: ys => match kEq x y with
      | true => kEqs xs ys
      | false => false
    | [] => false
end
theorem nkWs_cons {x : W} {xs : List W} {u : List NestedKey} (h : nkWs (x :: xs) = some u) : ∃ a r, nkW x = some a ∧ nkWs xs = some r ∧ u = a :: r := by
  unfold nkWs at h
  cases e1 : nkW x with
  | none => rw [e1] at h; cases h
  | some a =>
    cases e2 : nkWs xs with
    | none => rw [e1, e2] at h; cases h
    | some r => rw [e1, e2] at h; cases h; exact ⟨a, r, rfl, rfl, rfl⟩
theorem nkW_tup {xs : List W} {u : NestedKey} (h : nkW (.tup xs) = some u) : ∃ k, nkWs xs = some k ∧ u = .tup k := by
  unfold nkW at h
  cases e : nkWs xs with
  | none => rw [e] at h; cases h
  | some k => rw [e] at h; cases h; exact ⟨k, rfl, rfl⟩
theorem beq_num (i j : Int) : NestedKey.beq (.num i) (.num j) = decide (i = j) := by
  rw [← NestedKey.decide_eq]; simp
theorem beq_text (i j : Str) : NestedKey.beq (.text i) (.text j) = decide (i = j) := by
  rw [← NestedKey.decide_eq]; simp
mutual
theorem kEq_is : ∀ (a b : W) (u v : NestedKey), nkW a = some u → nkW b = some v → kEq a b = NestedKey.beq u v
  | .int i, b, u, v, h, k => by
    cases h
    cases b with
    | int j => cases k; rw [beq_num]; rfl
    | bl l => cases k; rw [beq_num]; rfl
    | non => cases k; rfl
    | str y => cases k; rfl
    | tup ys => obtain ⟨l, _, rfl⟩ := nkW_tup k; rfl
    | _ => cases k
  | .bl i, b, u, v, h, k => by
    cases h
    cases b with
    | int j => cases k; rw [beq_num]; rfl
    | bl l => cases k; rw [beq_num]; cases i <;> cases l <;> rfl
    | non => cases k; rfl
    | str y => cases k; rfl
    | tup ys => obtain ⟨l, _, rfl⟩ := nkW_tup k; rfl
    | _ => cases k
  | .str i, b, u, v, h, k => by
    cases h
    cases b with
    | int j => cases k; rfl
    | bl l => cases k; rfl
    | non => cases k; rfl
    | str y => cases k; rw [beq_text, ← strEq_eq]; rfl
    | tup ys => obtain ⟨l, _, rfl⟩ := nkW_tup k; rfl
    | _ => cases k
  | .non, b, u, v, h, k => by
    cases h
    cases b with
    | int j => cases k; rfl
    | bl l => cases k; rfl
    | non => cases k; rfl
    | str y => cases k; rfl
    | tup ys => obtain ⟨l, _, rfl⟩ := nkW_tup k; rfl
    | _ => cases k
  | .tup xs, b, u, v, h, k => by
    obtain ⟨l, e, rfl⟩ := nkW_tup h
    cases b with
    | int j => cases k; rfl
    | bl l => cases k; rfl
    | non => cases k; rfl
    | str y => cases k; rfl
    | tup ys =>
      obtain ⟨l2, e2, rfl⟩ := nkW_tup k
      exact kEqs_is xs ys l l2 e e2
    | _ => cases k
  | .lst _, _, _, _, h, _ => by cases h
  | .dct _ _, _, _, _, h, _ => by cases h
  | .ins _ _ _, _, _, _, h, _ => by cases h
  | .ref _, _, _, _, h, _ => by cases h
  | .dvs _ _, _, _, _, h, _ => by cases h
  | .ty _, _, _, _, h, _ => by cases h
  | .cl _, _, _, _, h, _ => by cases h
theorem kEqs_is : ∀ (xs ys : List W) (u v : List NestedKey), nkWs xs = some u → nkWs ys = some v → kEqs xs ys = NestedKey.beqAll u v
  | [], ys, u, v, h, k => by
    cases h
    cases ys with
    | nil => cases k; rfl
    | cons y ys => obtain ⟨a, r, _, _, rfl⟩ := nkWs_cons k; rfl
  | x :: xs, ys, u, v, h, k => by
    obtain ⟨a, r, e1, e2, rfl⟩ := nkWs_cons h
    cases ys with
    | nil => cases k; rfl
    | cons y ys =>
      obtain ⟨a2, r2, f1, f2, rfl⟩ := nkWs_cons k
      show (match kEq x y with | true => kEqs xs ys | false => false) = (NestedKey.beq a a2 && NestedKey.beqAll r r2)
      rw [kEq_is x y a a2 e1 f1, kEqs_is xs ys r r2 e2 f2]
      cases NestedKey.beq a a2 <;> rfl
end
theorem kT_nk {k : W} {u : NestedKey} (h : kT k = some u) : nkW k = some u ∧ u.depth ≤ 8 ∧ ∃ ws, k = .tup ws := by
  unfold kT at h
  split at h
  · rename_i ws
    split at h
    · rename_i ks e
      split at h
      · rename_i e2
        cases h
        exact ⟨by unfold nkW; rw [e]; rfl, Nat.le_of_ble_eq_true e2, ws, rfl⟩
      · cases h
    · cases h
  · cases h
theorem kEq_T {a b : W} {u v : NestedKey} (h : kT a = some u) (k : kT b = some v) : kEq a b = decide (u = v) := by
  rw [kEq_is _ _ _ _ (kT_nk h).1 (kT_nk k).1, NestedKey.decide_eq]
theorem kEq_S {a b : W} {u v : Key} (h : kS a = some u) (k : kS b = some v) : kEq a b = decide (u = v) := by
  cases a with
  | int i =>
    cases h
    cases b with
    | int j => cases k; show decide (i = j) = _; simp
    | str j => cases k; show false = _; simp
    | _ => cases k
  | str i =>
    cases h
    cases b with
    | int j => cases k; show false = _; simp
    | str j => cases k; show strEq i j = _; rw [strEq_eq]; simp
    | _ => cases k
  | _ => cases h
/-- an int or a text -/
def scal : W → Bool
  | .int _ => true
  | .str _ => true
  | _ => false
theorem scal_kS {k : W} (h : scal k = true) : ∃ u, kS k = some u := by
  cases k with
  | int i => exact ⟨_, rfl⟩
  | str i => exact ⟨_, rfl⟩
  | _ => cases h
theorem kS_scal {k : W} {u : Key} (h : kS k = some u) : scal k = true := by
  cases k with
  | int i => rfl
  | str i => rfl
  | _ => cases h
theorem kT_scal {k : W} {u : NestedKey} (h : kT k = some u) : scal k = false := by
  obtain ⟨_, _, ws, rfl⟩ := kT_nk h
  rfl
/-- k may be looked up among ks -/
def keyFit (k : W) (ks : List W) : Bool := match scal k with
  | true => match ks with
    | [] => true
    | x :: _ => scal x
  | false => match kT k with
    | some _ => match ks with
      | [] => true
      | x :: _ => !(scal x)
    | none => false
def dfind (k : W) : List W → List W → Option W
  | x :: ks, vs => match vs with
    | v :: vs => match kEq x k with
      | true => some v
      | false => dfind k ks vs
    | [] => none
  | [], _ => none
def dhas (k : W) : List W → Bool
  | x :: ks => match kEq x k with
    | true => true
    | false => dhas k ks
  | [] => false

/-! ### a dict as the library tells it -/
mutual
theorem nested_is {P : Program} {wo : World} {T : Tie} {H : Hp} {h : Heap} (ok : HOk P wo H h) : ∀ (w : W) (k : NestedKey) (v : V) (u : Value), nkW w = some k → Rep G T H w v → RelV v u → NestedIs h k u
  | .non, k, v, u, e, r, ru => by cases e; rw [rep_non r] at ru; cases ru; exact .none
  | .bl b, k, v, u, e, r, ru => by cases e; rw [rep_bl r] at ru; cases ru; exact .bool rfl
  | .int i, k, v, u, e, r, ru => by cases e; rw [rep_int r] at ru; obtain ⟨t, rfl⟩ := ru; exact .int _ _
  | .str i, k, v, u, e, r, ru => by cases e; rw [rep_str r] at ru; obtain ⟨t, rfl⟩ := ru; exact .text _ _
  | .tup ws, k, v, u, e, r, ru => by
    obtain ⟨l, e2, rfl⟩ := nkW_tup e
    unfold Rep at r
    obtain ⟨a, vs, rfl, _, q, p1⟩ := r
    obtain rfl : u = .ref a := ru
    obtain ⟨_, its, rv, o, ho, hc, n, hd⟩ := ok _ _ q
    exact .tup ho hc hd (nested_all ok ws l vs its.toArray.toList e2 p1 (by simpa using rv))
  | .lst _, _, _, _, h, _, _ => by cases h
  | .dct _ _, _, _, _, h, _, _ => by cases h
  | .ins _ _ _, _, _, _, h, _, _ => by cases h
  | .ref _, _, _, _, h, _, _ => by cases h
  | .dvs _ _, _, _, _, h, _, _ => by cases h
  | .ty _, _, _, _, h, _, _ => by cases h
  | .cl _, _, _, _, h, _, _ => by cases h
theorem nested_all {P : Program} {wo : World} {T : Tie} {H : Hp} {h : Heap} (ok : HOk P wo H h) : ∀ (ws : List W) (k : List NestedKey) (vs : List V) (us : List Value), nkWs ws = some k → Reps G T H ws vs → Vals vs us → NestedAll h k us
  | [], k, vs, us, e, r, ru => by
    cases e
    unfold Reps at r
    subst r
    cases ru
    exact .nil
  | w :: ws, k, vs, us, e, r, ru => by
    obtain ⟨a, q, e1, e2, rfl⟩ := nkWs_cons e
    unfold Reps at r
    obtain ⟨v, s, rfl, p1, p2⟩ := r
    cases ru with
    | cons r1 r2 => exact .cons (nested_is ok w a v _ e1 p1 r1) (nested_all ok ws q s _ e2 p2 r2)
end
theorem keyIs_rel {k : W} {u : Key} {v : V} {x : Value} {T : Tie} {H : Hp} (h : kS k = some u) (r : Rep G T H k v) (rx : RelV v x) : keyIs u x = true := by
  cases k with
  | int i => cases h; rw [rep_int r] at rx; obtain ⟨t, rfl⟩ := rx; exact keyIs_int i t
  | str i => cases h; rw [rep_str r] at rx; obtain ⟨t, rfl⟩ := rx; exact keyIs_str i t
  | _ => cases h
theorem hash_S {k : W} {u : Key} {wo : World} (h : kS k = some u) : hashW wo k = keyH wo u := by
  cases k with
  | int i => cases h; rfl
  | str i => cases h; rfl
  | _ => cases h
theorem hash_T {k : W} {u : NestedKey} {wo : World} (h : kT k = some u) : hashW wo k = u.hash wo := by
  obtain ⟨e, _, ws, rfl⟩ := kT_nk h
  show (match nkW (W.tup ws) with
    | some k => NestedKey.hash wo k
    | none => 0) = NestedKey.hash wo u
  rw [e]
theorem map_cons_some {α β : Type} {f : α → Option β} {x : α} {xs : List α} {kl : List β} (h : (x :: xs).map f = kl.map some) : ∃ a r, kl = a :: r ∧ f x = some a ∧ xs.map f = r.map some := by
  cases kl with
  | nil => cases h
  | cons a r =>
    simp only [List.map_cons, List.cons.injEq] at h
    exact ⟨a, r, rfl, h.1, h.2⟩
theorem map_nil_some {α β : Type} {f : α → Option β} {kl : List β} (h : ([] : List α).map f = kl.map some) : kl = [] := by
  cases kl with
  | nil => rfl
  | cons a r => cases h
theorem ents_S {P : Program} {wo : World} {T : Tie} {H : Hp} : ∀ {es : List DictEntry} {kv vv : List V} {ks : List W} {kl : List Key}, Ents es kv vv (ks.map (hashW wo)) → Reps G T H ks kv → ks.map kS = kl.map some →
    ∃ us, Vals vv us ∧ kl.length = us.length ∧ (∀ e ∈ es, ∃ k, keyIs k e.key = true ∧ e.hash = keyH wo k) ∧ Pairs (mixKind P wo) es (kl.zip us)
  | es, kv, vv, [], kl, en, rs, hk => by
    obtain rfl := map_nil_some hk
    cases en
    exact ⟨[], .nil, rfl, fun e he => (nomatch he), .nil⟩
  | es, kv, vv, k :: ks, kl, en, rs, hk => by
    obtain ⟨a, r, rfl, e1, e2⟩ := map_cons_some hk
    unfold Reps at rs
    obtain ⟨v, s, rfl, p1, p2⟩ := rs
    cases en with
    | cons q1 q2 q3 q4 =>
      obtain ⟨us, rv, ln, f, pr⟩ := ents_S (P := P) q4 p2 e2
      have ki := keyIs_rel e1 p1 q1
      refine ⟨_ :: us, .cons q2 rv, by simp [ln], fun e he => ?_, .cons ki rfl pr⟩
      rcases List.mem_cons.mp he with z | z
      · subst z
        exact ⟨a, ki, by rw [q3, hash_S e1]⟩
      · exact f e z
theorem ents_T {P : Program} {wo : World} {T : Tie} {H : Hp} {h : Heap} (ok : HOk P wo H h) : ∀ {es : List DictEntry} {kv vv : List V} {ks : List W} {kl : List NestedKey}, Ents es kv vv (ks.map (hashW wo)) → Reps G T H ks kv → ks.map kT = kl.map some →
    ∃ (us : List Value) (bs : List Addr), Vals vv us ∧ kl.length = us.length ∧ bs.length = us.length ∧ kv = bs.map V.ref ∧ es = (kl.zip (bs.zip us)).map (entryOfKey (nestedKind P wo)) ∧ ∀ x ∈ kl.zip (bs.zip us), (nestedKind P wo).is h x.1 x.2.1
  | es, kv, vv, [], kl, en, rs, hk => by
    obtain rfl := map_nil_some hk
    cases en
    unfold Reps at rs
    exact ⟨[], [], .nil, rfl, rfl, rs, rfl, fun e he => (nomatch he)⟩
  | es, kv, vv, k :: ks, kl, en, rs, hk => by
    obtain ⟨a, r, rfl, e1, e2⟩ := map_cons_some hk
    unfold Reps at rs
    obtain ⟨v, s, rfl, p1, p2⟩ := rs
    cases en with
    | @cons e _ _ _ _ _ _ _ q1 q2 q3 q4 =>
      obtain ⟨us, bs, rv, ln, ln2, ekv, ees, f⟩ := ents_T ok q4 p2 e2
      obtain ⟨n1, n2, ws, rfl⟩ := kT_nk e1
      have ni := nested_is ok _ _ _ _ n1 p1 q1
      unfold Rep at p1
      obtain ⟨b, vs, rfl, _, _, _⟩ := p1
      have ek : e.key = .ref b := q1
      refine ⟨_ :: us, b :: bs, .cons q2 rv, by simp [ln], by simp [ln2], by rw [ekv]; rfl, ?_, fun x hx => ?_⟩
      · rw [List.zip_cons_cons, List.zip_cons_cons, List.map_cons, ← ees]
        congr 1
        obtain ⟨eh, ekk, ev⟩ := e
        show DictEntry.mk eh ekk ev = ⟨NestedKey.hash wo a, .ref b, ev⟩
        have h1 : eh = NestedKey.hash wo a := by rw [← hash_T e1]; exact q3
        have h2 : ekk = .ref b := ek
        rw [h1, h2]
      · rw [List.zip_cons_cons, List.zip_cons_cons] at hx
        rcases List.mem_cons.mp hx with z | z
        · subst z
          rw [ek] at ni
          exact ⟨ni, n2⟩
        · exact f x z
end Mi

end
section
namespace Mi
open PySem PySem.Spec PyProof.Rows L2
variable {G : Kt} {X : Cx} {adr : Nat → Addr} {Y : WX}

/-! ### looking up -/
theorem valueAt_cons {K : Type} [DecidableEq K] (a : K) (x : Value) (r : List (K × Value)) (k : K) : valueAt ((a, x) :: r) k = if a = k then some x else valueAt r k := by
  unfold valueAt
  rw [List.find?_cons]
  by_cases e : a = k <;> simp [e]
theorem atKey_cons {K : Type} [DecidableEq K] (a : K) (b : Addr) (x : Value) (r : List (K × Addr × Value)) (k : K) : atKey ((a, b, x) :: r) k = if a = k then some (b, x) else atKey r k := by
  unfold atKey
  rw [List.find?_cons]
  by_cases e : a = k <;> simp [e]
/-- what is found: the same in the trees and in the values -/
def Found (G : Kt) (T : Tie) (H : Hp) (o : Option W) (u : Option Value) : Prop := match o with
  | some w => ∃ v x, u = some x ∧ RelV v x ∧ Rep G T H w v
  | none => u = none
theorem look_S {T : Tie} {H : Hp} {k : W} {κ : Key} (hk : kS k = some κ) : ∀ {ks vs : List W} {kl : List Key} {us : List Value} {vv : List V}, ks.map kS = kl.map some → Reps G T H vs vv → Vals vv us → ks.length = vs.length → Found G T H (dfind k ks vs) (valueAt (kl.zip us) κ)
  | [], vs, kl, us, vv, e, rs, rv, ln => by
    obtain rfl := map_nil_some e
    rfl
  | x :: ks, [], kl, us, vv, e, rs, rv, ln => by cases ln
  | x :: ks, w :: vs, kl, us, vv, e, rs, rv, ln => by
    obtain ⟨a, r, rfl, e1, e2⟩ := map_cons_some e
    unfold Reps at rs
    obtain ⟨v, s, rfl, p1, p2⟩ := rs
    cases rv with
    | @cons _ u _ us q1 q2 =>
      rw [List.zip_cons_cons, valueAt_cons]
      unfold dfind
      rw [kEq_S e1 hk]
      by_cases z : a = κ
      · rw [if_pos z, decide_eq_true z]
        exact ⟨v, u, rfl, q1, p1⟩
      · rw [if_neg z, decide_eq_false z]
        exact look_S hk e2 p2 q2 (by simpa using ln)
theorem look_T {T : Tie} {H : Hp} {k : W} {κ : NestedKey} (hk : kT k = some κ) : ∀ {ks vs : List W} {kl : List NestedKey} {bs : List Addr} {us : List Value} {vv : List V}, ks.map kT = kl.map some → Reps G T H vs vv → Vals vv us → ks.length = vs.length → bs.length = us.length → Found G T H (dfind k ks vs) ((atKey (kl.zip (bs.zip us)) κ).map (·.2))
  | [], vs, kl, bs, us, vv, e, rs, rv, ln, lb => by
    obtain rfl := map_nil_some e
    rfl
  | x :: ks, [], kl, bs, us, vv, e, rs, rv, ln, lb => by cases ln
  | x :: ks, w :: vs, kl, bs, us, vv, e, rs, rv, ln, lb => by
    obtain ⟨a, r, rfl, e1, e2⟩ := map_cons_some e
    unfold Reps at rs
    obtain ⟨v, s, rfl, p1, p2⟩ := rs
    cases rv with
    | @cons _ u _ us q1 q2 =>
      cases bs with
      | nil => cases lb
      | cons b bs =>
      rw [List.zip_cons_cons, List.zip_cons_cons, atKey_cons]
      unfold dfind
      rw [kEq_T e1 hk]
      by_cases z : a = κ
      · rw [if_pos z, decide_eq_true z]
        exact ⟨v, u, rfl, q1, p1⟩
      · rw [if_neg z, decide_eq_false z]
        exact look_T hk e2 p2 q2 (by simpa using ln) (by simpa using lb)
theorem dhas_is : ∀ (k : W) (ks vs : List W), ks.length = vs.length → dhas k ks = (dfind k ks vs).isSome
  | k, [], vs, h => by simp [dhas, dfind]
  | k, x :: ks, [], h => by cases h
  | k, x :: ks, v :: vs, h => by
    unfold dhas dfind
    cases kEq x k with
    | true => rfl
    | false => exact dhas_is k ks vs (by simpa using h)
/-- the dict that w is: its keys, its values -/
def dctOf (w : W) (h : MH) : Option (List W × List W) := match w with
  | .dct ks vs => some (ks, vs)
  | .ref n => match h.get n with
    | some (.dct ks vs) => some (ks, vs)
    | _ => none
  | _ => none
structure DAt (G : Kt) (T : Tie) (H : Hp) (ks vs : List W) (a : Addr) (o : Obj) (kv vv : List V) : Prop where
  sm : (a == sysModules) = false
  ok : KeysOk ks
  at_ : H a = some (exact o a)
  d : DictO o kv vv (ks.map (hashW G.w))
  rk : Reps G T H ks kv
  rv : Reps G T H vs vv
theorem dct_at {T : Tie} {h : MH} {H : Hp} {w : W} {v : V} {ks vs : List W} (hr : Hrel G T h H) (rp : Rep G T H w v) (e : dctOf w h = some (ks, vs)) : ∃ a o kv vv, v = .ref a ∧ DAt G T H ks vs a o kv vv := by
  unfold dctOf at e
  split at e
  · cases e
    unfold Rep at rp
    obtain ⟨a, o, kv, vv, e, f, sm, ko, q, d, r1, r2⟩ := rp
    exact ⟨a, o, kv, vv, e, sm, ko, q, d, r1, r2⟩
  · split at e
    · rename_i e2
      cases e
      obtain ⟨a, ea, ro⟩ := hr.obj _ _ e2
      unfold Rep at rp
      obtain ⟨o, kv, vv, sm, ko, q, d, r1, r2⟩ := ro
      exact ⟨a, o, kv, vv, rp.2 a ea, sm, ko, q, d, r1, r2⟩
    · cases e
  · cases e
theorem DAt.len {T : Tie} {H : Hp} {ks vs : List W} {a : Addr} {o : Obj} {kv vv : List V} (D : DAt G T H ks vs a o kv vv) : ks.length = vs.length := by
  obtain ⟨_, es, ep, _, en⟩ := D.d
  have h1 := D.rk.length
  have h2 := D.rv.length
  have h3 := en.len
  omega
/-- the two ways in which a dict is told, by the kind of the key that is asked for -/
theorem DAt.split {P : Program} {wo : World} (eP : G.P = P) (ew : G.w = wo) {T : Tie} {H : Hp} {hp : Heap} (ok : HOk P wo H hp) {ks vs : List W} {a : Addr} {o : Obj} {kv vv : List V} (D : DAt G T H ks vs a o kv vv) {k : W} {vk : V} {uk : Value} (fit : keyFit k ks = true) (rk : Rep G T H k vk) (ru : RelV vk uk) :
    (∃ (κ : Key) (kl : List Key) (us : List Value), kS k = some κ ∧ ks.map kS = kl.map some ∧ kl.Nodup ∧ Vals vv us ∧ kl.length = us.length ∧ keyIs κ uk = true ∧ hp.DictOf (mixKind P wo) a (kl.zip us)) ∨
    (∃ (κ : NestedKey) (kl : List NestedKey) (us : List Value) (b : Addr) (bs : List Addr), kT k = some κ ∧ ks.map kT = kl.map some ∧ kl.Nodup ∧ Vals vv us ∧ kl.length = us.length ∧ bs.length = us.length ∧ kv = bs.map V.ref ∧ vk = .ref b ∧ uk = .ref b ∧ (nestedKind P wo).is hp κ b ∧ hp.DictOfH (nestedKind P wo) a (kl.zip (bs.zip us))) := by
  subst eP ew
  have ea := exact_at ok D.at_
  obtain ⟨xd, es, ep, ed, en⟩ := D.d
  have kinds : ks = [] ∨ (∃ x r, ks = x :: r) := by cases ks with | nil => exact .inl rfl | cons x r => exact .inr ⟨x, r, rfl⟩
  unfold keyFit at fit
  split at fit
  · rename_i sc
    obtain ⟨κ, hκ⟩ := scal_kS sc
    have hkl : ∃ kl : List Key, ks.map kS = kl.map some ∧ kl.Nodup := by
      rcases D.ok.2 with z | ⟨kl, hkl, nd⟩
      · exact z
      · cases ks with
        | nil => exact ⟨[], rfl, List.nodup_nil⟩
        | cons x r =>
          obtain ⟨c, _, _, e1, _⟩ := map_cons_some hkl
          have fit : scal x = true := fit
          rw [kT_scal e1] at fit
          cases fit
    obtain ⟨kl, hkl, nd⟩ := hkl
    obtain ⟨us, rv, ln, f, pr⟩ := ents_S (P := G.P) en D.rk hkl
    refine .inl ⟨κ, kl, us, hκ, hkl, nd, rv, ln, keyIs_rel hκ rk ru, o, es, ep, ea, xd, ed, fun e he => f e (by simpa using he), pr, ?_⟩
    rw [List.map_fst_zip (by omega)]
    exact nd
  · split at fit
    · rename_i κ hκ
      have hkl : ∃ kl : List NestedKey, ks.map kT = kl.map some ∧ kl.Nodup := by
        rcases D.ok.2 with ⟨kl, hkl, nd⟩ | z
        · cases ks with
          | nil => exact ⟨[], rfl, List.nodup_nil⟩
          | cons x r =>
            obtain ⟨c, _, _, e1, _⟩ := map_cons_some hkl
            have fit : (!(scal x)) = true := fit
            rw [kS_scal e1] at fit
            cases fit
        · exact z
      obtain ⟨kl, hkl, nd⟩ := hkl
      obtain ⟨us, bs, rv, ln, ln2, ekv, ees, f⟩ := ents_T ok en D.rk hkl
      obtain ⟨n1, n2, ws, rfl⟩ := kT_nk hκ
      have ni := nested_is ok _ _ _ _ n1 rk ru
      unfold Rep at rk
      obtain ⟨b, ys, rfl, _⟩ := rk
      obtain rfl : uk = .ref b := ru
      refine .inr ⟨κ, kl, us, b, bs, hκ, hkl, nd, rv, ln, ln2, ekv, rfl, rfl, ⟨ni, n2⟩, o, es, ep, ea, xd, ed, ees, f, ?_⟩
      rw [List.map_fst_zip (by rw [List.length_zip]; omega)]
      exact nd
    · cases fit
section
variable {prog : Program} {w : World} {A : Around} {E : Value → Shared → Prop} {s : Shared}
end
theorem room8 {A : Around} (hu : A.units + 64 < cLine) : A.in1.units + 8 < cLine := by show A.units + 1 + 8 < cLine; omega
/-- k in d, k not in d -/
def wInD (neg : Bool) : F2 := fun a b h => match dctOf b h with
  | some (ks, _) => match keyFit a ks with
    | true => some (.bl (xor neg (dhas a ks)))
    | false => none
  | none => none
theorem Found.some_eq {T : Tie} {H : Hp} {o : Option W} {u : Option Value} (f : Found G T H o u) : u.isSome = o.isSome := by
  cases o with
  | none => have e : u = none := f; rw [e]; rfl
  | some w => obtain ⟨v, x, e, _⟩ := f; rw [e]; rfl
theorem mo_inD (hu : X.A.units + 64 < cLine) : MO X adr (compareOp .In) (wInD false) := by
  intro pins s σ H x y v u Q I rx ry ⟨T, h, w1, w2, w, hr, r1, r2, e, q⟩
  unfold wInD at e
  split at e
  · rename_i ks vs ed
    split at e
    · rename_i fit
      cases e
      obtain ⟨a, o, kv, vv, rfl, D⟩ := dct_at hr r2 ed
      obtain rfl : u = .ref a := ry
      rcases D.split (G := kt X adr) rfl rfl I.hok fit r1 rx with ⟨κ, kl, us, hκ, hkl, nd, rv, ln, ki, dd⟩ | ⟨κ, kl, us, b, bs, hκ, hkl, nd, rv, ln, ln2, ekv, rfl, rfl, ki, dd⟩
      · have f := look_S hκ hkl D.rv rv D.len
        refine wpAny_in_of ki D.sm dd.mapOf ⟨.bl _, H, I.tok _, rfl, ?_⟩
        rw [f.some_eq, ← dhas_is _ _ _ D.len]
        simpa using Hands.bl hr q
      · have f := look_T hκ hkl D.rv rv D.len ln2
        refine wpAny_in_heap (room8 hu) ki D.sm dd ⟨.bl _, H, I.tok _, rfl, ?_⟩
        have z := f.some_eq
        rw [Option.isSome_map] at z
        rw [z, ← dhas_is _ _ _ D.len]
        simpa using Hands.bl hr q
    · cases e
  · cases e
theorem mo_notInD (hu : X.A.units + 64 < cLine) : MO X adr (compareOp .NotIn) (wInD true) := by
  intro pins s σ H x y v u Q I rx ry ⟨T, h, w1, w2, w, hr, r1, r2, e, q⟩
  unfold wInD at e
  split at e
  · rename_i ks vs ed
    split at e
    · rename_i fit
      cases e
      obtain ⟨a, o, kv, vv, rfl, D⟩ := dct_at hr r2 ed
      obtain rfl : u = .ref a := ry
      rcases D.split (G := kt X adr) rfl rfl I.hok fit r1 rx with ⟨κ, kl, us, hκ, hkl, nd, rv, ln, ki, dd⟩ | ⟨κ, kl, us, b, bs, hκ, hkl, nd, rv, ln, ln2, ekv, rfl, rfl, ki, dd⟩
      · have f := look_S hκ hkl D.rv rv D.len
        refine wpAny_notIn_of ki D.sm dd.mapOf ⟨.bl _, H, I.tok _, rfl, ?_⟩
        rw [f.some_eq, ← dhas_is _ _ _ D.len]
        simpa using Hands.bl hr q
      · have f := look_T hκ hkl D.rv rv D.len ln2
        refine wpAny_notIn_heap (room8 hu) ki D.sm dd ⟨.bl _, H, I.tok _, rfl, ?_⟩
        have z := f.some_eq
        rw [Option.isSome_map] at z
        rw [z, ← dhas_is _ _ _ D.len]
        simpa using Hands.bl hr q
    · cases e
  · cases e
/-- in, in anything -/
def wIn (neg : Bool) : F2 := fun a b h => match b with
  | .str y => wInS neg a (.str y) h
  | .tup y => wInS neg a (.tup y) h
  | .lst y => wInS neg a (.lst y) h
  | .kt0 => wInS neg a .kt0 h
  | b => wInD neg a b h
theorem MO.case {f : Value → Value → Sem Value} {F : F2} (ho : MO X adr f F) {w1 w2 w : W} {h : MH} (e : F w1 w2 h = some w) :
    ∃ r, OpR X f r ∧ ∀ T H v1 v2 Q, Hrel (kt X adr) T h H → Rep (kt X adr) T H w1 v1 → Rep (kt X adr) T H w2 v2 → Hands (kt X adr) T h H w Q → r v1 v2 H Q :=
  ⟨_, ho, fun T H v1 v2 Q hr r1 r2 q => ⟨T, h, w1, w2, w, hr, r1, r2, e, q⟩⟩
theorem mo_in (hu : X.A.units + 64 < cLine) : MO X adr (compareOp .In) (wIn false) := MO.mk fun w1 w2 h w e => by
  unfold wIn at e
  split at e
  · exact (mo_inS hu).case e
  · exact (mo_inS hu).case e
  · exact (mo_inS hu).case e
  · exact (mo_inS hu).case e
  · exact (mo_inD hu).case e
theorem mo_notIn (hu : X.A.units + 64 < cLine) : MO X adr (compareOp .NotIn) (wIn true) := MO.mk fun w1 w2 h w e => by
  unfold wIn at e
  split at e
  · exact (mo_notInS hu).case e
  · exact (mo_notInS hu).case e
  · exact (mo_notInS hu).case e
  · exact (mo_notInS hu).case e
  · exact (mo_notInD hu).case e
end Mi

end
section
namespace Mi
open PySem PySem.Spec PyProof.Rows L2
variable {G : Kt} {X : Cx} {adr : Nat → Addr} {Y : WX}

/-! ### lists, frozen or not -/
def lstOf (w : W) (h : MH) : Option (List W) := match w with
  | .lst ws => some ws
  | .ref n => match h.get n with
    | some (.lst ws) => some ws
    | _ => none
  | _ => none
theorem lst_at {T : Tie} {h : MH} {H : Hp} {w : W} {v : V} {ws : List W} (hr : Hrel G T h H) (rp : Rep G T H w v) (e : lstOf w h = some ws) : ∃ a vs, v = .ref a ∧ H a = some (.lst vs) ∧ Reps G T H ws vs := by
  unfold lstOf at e
  split at e
  · cases e
    unfold Rep at rp
    obtain ⟨a, vs, e, f, q, r⟩ := rp
    exact ⟨a, vs, e, q, r⟩
  · split at e
    · rename_i e2
      cases e
      obtain ⟨a, ea, vs, q, r⟩ := hr.obj _ _ e2
      unfold Rep at rp
      exact ⟨a, vs, rp.2 a ea, q, r⟩
    · cases e
  · cases e
theorem tup_at {T : Tie} {H : Hp} {v : V} {ws : List W} (rp : Rep G T H (.tup ws) v) : ∃ a vs, v = .ref a ∧ H a = some (.tup vs) ∧ Reps G T H ws vs := by
  unfold Rep at rp
  obtain ⟨a, vs, e, f, q, r⟩ := rp
  exact ⟨a, vs, e, q, r⟩
/-! ### a[i] -/
theorem atI_reps {T : Tie} {H : Hp} {ws : List W} {vs : List V} (r : Reps G T H ws vs) {i : Int} {w : W} (e : atI ws i = some w) : ∃ v, atI vs i = some v ∧ Rep G T H w v := by
  unfold atI at e ⊢
  rw [← r.length]
  cases q : ixN ws.length i with
  | none => rw [q] at e; cases e
  | some j =>
    rw [q] at e
    exact r.get e
def wIx : F2 := fun a b h => match a with
  | .tup ws => match b with
    | .int i => atI ws i
    | _ => none
  | .str z => match b with
    | .int i => match lenLe z.length with
      | true => match atI z.cps.toList i with
        | some c => some (.str ⟨#[c]⟩)
        | none => none
      | false => none
    | _ => none
  | a => match lstOf a h with
    | some ws => match b with
      | .int i => atI ws i
      | _ => none
    | none => match dctOf a h with
      | some (ks, vs) => match keyFit b ks with
        | true => dfind b ks vs
        | false => none
      | none => none
theorem ixr_dict (hu : X.A.units + 64 < cLine) : IxR X (rW (kt X adr) fun a b h => match dctOf a h with
      | some (ks, vs) => match keyFit b ks with
        | true => dfind b ks vs
        | false => none
      | none => none) := by
  intro value slice pins s σ H x y v u Q I rx ry ⟨T, h, w1, w2, w, hr, r1, r2, e, q⟩ hs
  dsimp only at e
  split at e
  · rename_i ks vs ed
    split at e
    · rename_i fit
      obtain ⟨a, o, kv, vv, rfl, D⟩ := dct_at hr r1 ed
      obtain rfl : v = .ref a := rx
      have ty : s.TypeIs (.ref a) "dict" := ⟨o, exact_at I.hok D.at_, D.d.1.1⟩
      refine tail_any ty PySem.F.slot_dict_getitem.lookup ?_ hs
      rcases D.split (G := kt X adr) rfl rfl I.hok fit r2 ry with ⟨κ, kl, us, hκ, hkl, nd, rv, ln, ki, dd⟩ | ⟨κ, kl, us, b, bs, hκ, hkl, nd, rv, ln, ln2, ekv, rfl, rfl, ki, dd⟩
      · have f := look_S hκ hkl D.rv rv D.len
        rw [e] at f
        obtain ⟨v', x', e', rx', rp'⟩ := f
        exact wpAny_getItem_of ki dd.mapOf e' ⟨v', H, I.tok _, rx', Hands.same hr rp' q⟩
      · have f := look_T hκ hkl D.rv rv D.len ln2
        rw [e] at f
        obtain ⟨v', x', e', rx', rp'⟩ := f
        obtain ⟨p, hp, hp2⟩ := Option.map_eq_some_iff.mp e'
        refine wpAny_getItem_heap (room8 hu) ki dd hp ?_
        rw [hp2]
        exact ⟨v', H, I.tok _, rx', Hands.same hr rp' q⟩
    · cases e
  · cases e
theorem ixr (hu : X.A.units + 64 < cLine) : IxR X (rW (kt X adr) wIx) := by
  intro value slice pins s σ H x y v u Q I rx ry ⟨T, h, w1, w2, w, hr, r1, r2, e, q⟩ hs
  unfold wIx at e
  split at e
  · split at e
    · obtain ⟨a, vs, rfl, qa, rs⟩ := tup_at r1
      obtain ⟨z, ez, rz⟩ := atI_reps rs e
      exact ix_tup value slice pins s σ H _ _ v u Q I rx ry ⟨a, vs, _, z, rfl, rep_int r2, .inl (.inl qa), ez, Hands.same hr rz q⟩ hs
    · cases e
  · split at e
    · split at e
      · split at e
        · rename_i c ec
          cases e
          exact ix_str value slice pins s σ H _ _ v u Q I rx ry ⟨_, _, c, rep_str r1, rep_int r2, lenLe_iff (by assumption), ec, Hands.str hr q⟩ hs
        · cases e
      · cases e
    · cases e
  · split at e
    · rename_i ws el
      split at e
      · obtain ⟨a, vs, rfl, qa, rs⟩ := lst_at hr r1 el
        obtain ⟨z, ez, rz⟩ := atI_reps rs e
        exact ix_list value slice pins s σ H _ _ v u Q I rx ry ⟨a, vs, _, z, rfl, rep_int r2, .inl (.inl qa), ez, Hands.same hr rz q⟩ hs
      · cases e
    · exact ixr_dict hu value slice pins s σ H x y v u Q I rx ry ⟨T, h, w1, w2, w, hr, r1, r2, e, q⟩ hs
theorem me_ix {a b : Expr} {ma mb : EM} {pos : Pos} (hu : X.A.units + 64 < cLine) (ha : ME X adr Y a ma) (hb : ME X adr Y b mb) (hs : PlainIx b) : ME X adr Y (.Subscript a b pos) (mBin wIx ma mb) :=
  pe_imp (pe_ix (ixr hu) ha hb hs) (rd_op op2_rW)

/-! ### a[i:j] -/
def cutW (xs : List W) (lo hi : Option Int) : List W := (xs.drop (HT.sIx xs.length 0 lo)).take (HT.sIx xs.length xs.length hi - HT.sIx xs.length 0 lo)
theorem reps_cut {T : Tie} {H : Hp} {ws : List W} {vs : List V} (r : Reps G T H ws vs) (lo hi : Option Int) : Reps G T H (cutW ws lo hi) (cutV vs lo hi) := by
  unfold cutW cutV
  rw [← r.length]
  exact (r.drop _).take _
def wSl (a : W) (lo hi : Option Int) (h : MH) : Option W := match a with
  | .tup ws => some (.tup (cutW ws lo hi))
  | .scr ns => some (.lst (cutW (intsW ns) lo hi))
  | a => match lstOf a h with
    | some ws => some (.lst (cutW ws lo hi))
    | none => none
def rS (G : Kt) : V → Option Int → Option Int → Hp → VK → Prop := fun x lo hi H Q => ∃ T h w1 w, Hrel G T h H ∧ Rep G T H w1 x ∧ wSl w1 lo hi h = some w ∧ Hands G T h H w Q
theorem slr : SlR X (rS (kt X adr)) := by
  intro pins s σ H x v vl vu lo hi sl Q I rx hs pl pu ⟨T, h, w1, w, hr, r1, e, q⟩
  unfold wSl at e
  split at e
  · cases e
    have r0 := r1
    obtain ⟨a, vs, rfl, qa, rs⟩ := tup_at r1
    refine sl_tupA pins s σ H _ v vl vu lo hi sl Q I rx hs pl pu ⟨a, vs, rfl, .inl (.inl qa), fun z => ?_, fun _ => Hands.tup hr (reps_cut rs lo hi) q⟩
    rename_i ws
    have e : cutW ws lo hi = ws := by
      unfold cutW
      rw [rs.length, z.1, z.2, Nat.sub_zero, ← rs.length]
      simp
    rw [e] at q
    exact Hands.same hr r0 q
  · cases e
    obtain ⟨a, rfl, qa⟩ := scr_at r1
    exact sl_list pins s σ H _ v vl vu lo hi sl Q I rx hs pl pu ⟨a, _, rfl, qa, Hands.lst hr (reps_cut (intsW_rep _) lo hi) q⟩
  · split at e
    · rename_i ws el
      cases e
      obtain ⟨a, vs, rfl, qa, rs⟩ := lst_at hr r1 el
      exact sl_list pins s σ H _ v vl vu lo hi sl Q I rx hs pl pu ⟨a, vs, rfl, .inl (.inl qa), Hands.lst hr (reps_cut rs lo hi) q⟩
    · cases e
/-- a bound of a slice -/
abbrev OM := Me → MH → R (Option Int)
def rdO (G : Kt) (Y : WX) (m : OM) : TO := fun σ H Q => ∃ T me h, Hrel G T h H ∧ Erel G T me σ H ∧ Res G (fun (_ : Tie) (_ : Hp) (a b : Option Int) => a = b) Y T H σ (m me h) Q
def MO_ (X : Cx) (adr : Nat → Addr) (Y : WX) (e : Option Expr) (m : OM) : Prop := PO X e (rdO (kt X adr) Y m)
def oNone : OM := fun _ h => .ok none h
def oSome (m : EM) : OM := fun me h => (m me h).bind fun w h => match w with
  | .int i => .ok (some i) h
  | _ => .stuck
theorem po_imp {e : Option Expr} {t u : TO} (h : PO X e t) (i : ∀ σ H Q, u σ H Q → t σ H Q) : PO X e u := ⟨fun pins s σ H Q I q => h.run pins s σ H Q I (i σ H Q q)⟩
theorem mo_none : MO_ X adr Y none oNone := po_imp po_none fun σ H Q ⟨T, me, h, hr, he, q⟩ => q T H none hr (Ex.rfl' hr.ok) rfl
theorem mo_some {e : Expr} {m : EM} (he : ME X adr Y e m) : MO_ X adr Y (some e) (oSome m) := po_imp (po_some he) fun σ H Q ⟨T, me, h, hr, hE, q⟩ => ⟨T, me, h, hr, hE, Res.bind q fun w h1 _ T1 H1 v hr1 x1 rp1 q1 => by
  cases w with
  | int i => exact ⟨i, rep_int rp1, q1 T1 H1 _ hr1 (Ex.rfl' hr1.ok) rfl⟩
  | _ => exact q1.elim⟩
def mSl (m : EM) (lo hi : OM) : EM := fun me h => (m me h).bind fun w h => (lo me h).bind fun l h => (hi me h).bind fun u h => ofO (wSl w l u h) h
theorem me_slice {e : Expr} {lo hi : Option Expr} {m : EM} {ml mh : OM} {pos p2 : Pos} (he : ME X adr Y e m) (hl : MO_ X adr Y lo ml) (hh : MO_ X adr Y hi mh) : ME X adr Y (.Subscript e (.Slice lo hi none p2) pos) (mSl m ml mh) :=
  pe_imp (pe_slice slr he hl hh) fun σ H Q ⟨T, me, h, hr, hE, q⟩ => ⟨T, me, h, hr, hE, Res.bind q fun w h1 _ T1 H1 v1 hr1 x1 rp1 q1 => ⟨T1, me, h1, hr1, hE.ex x1, Res.bind q1 fun l h2 _ T2 H2 l' hr2 x2 el q2 =>
    ⟨T2, me, h2, hr2, (hE.ex x1).ex x2, Res.bind q2 fun u h3 _ T3 H3 u' hr3 x3 eu q3 => by
      cases el
      cases eu
      cases e : wSl w l u h3 with
      | none => rw [e] at q3; exact q3.elim
      | some z =>
        rw [e] at q3
        exact ⟨T3, h3, w, z, hr3, rep_ex x3 _ _ (rep_ex x2 _ _ rp1), e, q3⟩⟩⟩⟩

/-! ### displays -/
def mTup (as : AM) : EM := fun me h => (as me h).bind fun xs h => ofO (wIf (lenLe xs.length) (.tup xs)) h
def mLst (as : AM) : EM := fun me h => (as me h).bind fun xs h => ofO (wIf (lenLe xs.length) (.lst xs)) h
/-- a list that will change -/
def mBox (as : AM) : EM := fun me h => (as me h).bind fun xs h => match lenLe xs.length with
  | true => .ok (.ref h.nx) (h.new (.lst xs))
  | false => .stuck
section
variable {es : List Expr} {as : AM} {pos : Pos}
theorem ofO_is {o : Option W} {h : MH} {T : Tie} {H : Hp} {σ : Sl} {Q : VK} (q : ResV G Y T H σ (ofO o h) Q) : ∃ w, o = some w ∧ Hands G T h H w Q := by
  cases o with
  | none => exact q.elim
  | some w => exact ⟨w, rfl, q⟩
theorem me_tup {x1} (ha : MA X adr Y es as) : ME X adr Y (.Tuple es x1 pos) (mTup as) := pe_imp (pe_tup ha) fun σ H Q ⟨T, me, h, hr, hE, q⟩ => ⟨T, me, h, hr, hE, Res.bind q fun xs h1 _ T1 H1 vs hr1 x1 rp1 q1 => by
  obtain ⟨w, e, q1⟩ := ofO_is q1
  obtain ⟨l, rfl⟩ := wIf_is e
  exact ⟨by rw [← rp1.length]; exact lenLe_iff l, Hands.tup hr1 rp1 q1⟩⟩
theorem me_lst (ha : MA X adr Y es as) : ME X adr Y (.List es pos) (mLst as) := pe_imp (pe_lst ha) fun σ H Q ⟨T, me, h, hr, hE, q⟩ => ⟨T, me, h, hr, hE, Res.bind q fun xs h1 _ T1 H1 vs hr1 x1 rp1 q1 => by
  obtain ⟨w, e, q1⟩ := ofO_is q1
  obtain ⟨l, rfl⟩ := wIf_is e
  exact ⟨by rw [← rp1.length]; exact lenLe_iff l, Hands.lst hr1 rp1 q1⟩⟩
theorem box_laid {T : Tie} {h : MH} {H : Hp} (hr : Hrel G T h H) {p : Addr} (hp : H p = none) {ws : List W} {vs : List V} (r : Reps G T H ws vs) :
    Hrel G (T.add p) (h.new (.lst ws)) (upd H p (.lst vs)) ∧ Ex T (T.add p) H (upd H p (.lst vs)) ∧ Rep G (T.add p) (upd H p (.lst vs)) (.ref h.nx) (.ref p) :=
  box_new hr hp fun f => ⟨vs, upd_same, f _ _ r⟩
theorem me_box (ha : MA X adr Y es as) : ME X adr Y (.List es pos) (mBox as) := pe_imp (pe_lst ha) fun σ H Q ⟨T, me, h, hr, hE, q⟩ => ⟨T, me, h, hr, hE, Res.bind q fun xs h1 _ T1 H1 vs hr1 x1 rp1 q1 => by
  cases l : lenLe xs.length with
  | false => rw [l] at q1; exact q1.elim
  | true =>
    rw [l] at q1
    refine ⟨by rw [← rp1.length]; exact lenLe_iff l, fun p hp => ?_⟩
    obtain ⟨a, b, c⟩ := box_laid hr1 hp rp1
    exact q1 _ _ _ a b c⟩
def seqW (w : W) (h : MH) : Option (List W) := match w with
  | .tup ws => some ws
  | .scr ns => some (intsW ns)
  | .kt0 => some []
  | w => lstOf w h
theorem seq_at {T : Tie} {h : MH} {H : Hp} {w : W} {v : V} {ws : List W} (hr : Hrel G T h H) (rp : Rep G T H w v) (e : seqW w h = some ws) : ∃ a vs, v = .ref a ∧ (SqT G.K H a vs ∨ SqL G.K H a vs) ∧ Reps G T H ws vs := by
  unfold seqW at e
  split at e
  · cases e
    obtain ⟨a, vs, e, q, r⟩ := tup_at rp
    exact ⟨a, vs, e, .inl (.inl (.inl q)), r⟩
  · cases e
    obtain ⟨a, e, q⟩ := scr_at rp
    exact ⟨a, _, e, .inr q, intsW_rep _⟩
  · cases e
    unfold Rep at rp
    obtain ⟨a, e, o, n, k1, k2, k3⟩ := rp
    exact ⟨a, [], e, .inl (.inr ⟨o, #[], n, k1, k2, k3, Nat.zero_le _, .nil⟩), Reps.nil⟩
  · obtain ⟨a, vs, e, q, r⟩ := lst_at hr rp e
    exact ⟨a, vs, e, .inr (.inl (.inl q)), r⟩
/-- a starred item among arguments -/
def mStar (a : EM) (r : AM) : AM := fun me h => (a me h).bind fun x h1 => match seqW x h1 with
  | some ys => (r me h1).bind fun xs h2 => .ok (ys ++ xs) h2
  | none => .stuck
theorem ma_star {e : Expr} {m : EM} {p : Pos} (he : ME X adr Y e m) (hr : MA X adr Y es as) (hs : starEach (.Starred e p :: es) X.env = (true, eval e X.env) :: starEach es X.env := by rfl) : MA X adr Y (.Starred e p :: es) (mStar m as) :=
  pa_imp (StX.pa_star he hr hs) fun σ H Q ⟨T, me, h, hr, hE, q⟩ => ⟨T, me, h, hr, hE, Res.bind q fun w h1 _ T1 H1 v hr1 x1 rp1 q1 => by
    cases e : seqW w h1 with
    | none => rw [e] at q1; exact q1.elim
    | some ys =>
      rw [e] at q1
      obtain ⟨a, vs, rfl, z, rs⟩ := seq_at hr1 rp1 e
      refine ⟨a, vs, rfl, z, T1, me, h1, hr1, hE.ex x1, Res.bind q1 fun xs h2 _ T2 H2 vs2 hr2 x2 rp2 q2 => ?_⟩
      exact q2 T2 H2 _ hr2 (Ex.rfl' hr2.ok) ((reps_ex x2 _ _ rs).append rp2)⟩
end
end Mi

end
section
namespace Mi
open PySem PySem.Spec PyProof.Rows L2
variable {G : Kt} {X : Cx} {adr : Nat → Addr} {Y : WX}

/-! ### calls of built-ins by values -/
def rA (G : Kt) (F : FA) : List V → Hp → VK → Prop := fun vs H Q => ∃ T h ws w, Hrel G T h H ∧ Reps G T H ws vs ∧ F ws h = some w ∧ Hands G T h H w Q
theorem callM_rA {F : FA} : CallM G (rA G F) F := fun T h H ws vs hr rs w e Q q => ⟨T, h, ws, w, hr, rs, e, q⟩
def MC (X : Cx) (adr : Nat → Addr) (f : Value) (F : FA) : Prop := CallR X f (rA (kt X adr) F)
theorem MC.mk {f : Value} {F : FA} (k : ∀ ws h w, F ws h = some w → ∃ r, CallR X f r ∧ ∀ T H vs Q, Hrel (kt X adr) T h H → Reps (kt X adr) T H ws vs → Hands (kt X adr) T h H w Q → r vs H Q) : MC X adr f F := by
  intro pins s σ H vs us Q I rv ⟨T, h, ws, w, hr, rs, e, q⟩
  obtain ⟨r, ho, k⟩ := k ws h w e
  exact ho pins s σ H vs us Q I rv (k T H vs Q hr rs q)
section
variable {x : Str} {id : String} {F : FA} {e : Expr} {es : List Expr} {as : AM} {p pos : Pos}
theorem me_bi (hc : MC X adr (.builtin id) F) (hg : Gl X x) (hm : X.mg x = none) (hv : bootBuiltins x = some (.builtin id)) (ha : MA X adr Y (e :: es) as)
    (hn : x ≠ "__name__" := by decide) (hdb : (x == ("__debug__" : Str)) = false := by decide) (he : starEach (e :: es) X.env = (false, eval e X.env) :: starEach es X.env := by rfl) (hpl : (backTo pos (starEach es X.env)).any (·.1) = false := by rfl) :
    ME X adr Y (.Call (.Name x p) (e :: es) [] pos) (mCallB F as) := me_callB hc callM_rA hg hm hv ha hn hdb he hpl
theorem me_bt (hc : MC X adr (.type id) F) (hg : Gl X x) (hm : X.mg x = none) (hv : bootBuiltins x = some (.type id)) (ha : MA X adr Y (e :: es) as)
    (hn : x ≠ "__name__" := by decide) (hdb : (x == ("__debug__" : Str)) = false := by decide) (he : starEach (e :: es) X.env = (false, eval e X.env) :: starEach es X.env := by rfl) (hpl : (backTo pos (starEach es X.env)).any (·.1) = false := by rfl) :
    ME X adr Y (.Call (.Name x p) (e :: es) [] pos) (mCallB F as) := me_callTy hc callM_rA hg hm hv ha hn hdb he hpl
/-- a built-in type, a class as a value -/
theorem me_ty {n : Nat} (hg : Gl X x) (hm : X.mg x = none) (hv : bootBuiltins x = some (.type (tyName n))) (hn : x ≠ "__name__" := by decide) (hd : (x == ("__debug__" : Str)) = false := by decide) : ME X adr Y (.Name x pos) (mC (.ty n)) :=
  me_const (v := .ty (tyName n)) (pe_bltn hg hm hv rfl hn hd) fun T H => by unfold Rep; rfl
theorem me_cls {c : Nat} (hg : Gl X x) (hm : X.mg x = some (.ref (adr c))) (hd : (x == ("__debug__" : Str)) = false := by decide) : ME X adr Y (.Name x pos) (mC (.cl c)) :=
  me_const (v := .ref (adr c)) (pe_glob hg hm rfl hd) fun T H => by unfold Rep; rfl
end
theorem reps1 {T : Tie} {H : Hp} {w : W} {vs : List V} (r : Reps G T H [w] vs) : ∃ v, vs = [v] ∧ Rep G T H w v := by
  unfold Reps at r
  obtain ⟨v, s, rfl, h, r⟩ := r
  unfold Reps at r
  exact ⟨v, by rw [r], h⟩
theorem reps2 {T : Tie} {H : Hp} {w w2 : W} {vs : List V} (r : Reps G T H [w, w2] vs) : ∃ v v2, vs = [v, v2] ∧ Rep G T H w v ∧ Rep G T H w2 v2 := by
  unfold Reps at r
  obtain ⟨v, s, rfl, h, r⟩ := r
  obtain ⟨v2, rfl, h2⟩ := reps1 r
  exact ⟨v, v2, rfl, h, h2⟩
/-! ### len -/
def wLen : FA := fun ws h => match ws with
  | [x] => match x with
    | .str z => wIf (lenLe z.length) (.int z.length)
    | x => match seqW x h with
      | some ys => some (.int ys.length)
      | none => match dctOf x h with
        | some (ks, _) => some (.int ks.length)
        | none => none
  | _ => none
theorem mc_lenD : MC X adr (.builtin "len") (fun ws h => match ws with
  | [x] => match dctOf x h with
    | some (ks, _) => some (.int ks.length)
    | none => none
  | _ => none) := by
  intro pins s σ H vs us Q I rv ⟨T, h, ws, w, hr, rs, e, q⟩
  dsimp only at e
  split at e
  · split at e
    · rename_i ks ws ed
      cases e
      obtain ⟨v, rfl, rp⟩ := reps1 rs
      obtain ⟨u, rfl, ru⟩ := rv.one
      obtain ⟨a, o, kv, vv, rfl, D⟩ := dct_at hr rp ed
      obtain rfl : u = .ref a := ru
      have hfit : (ks.length : Int) < 2 ^ 63 := by have := D.ok.1; rw [sizeLine_eq] at this; omega
      rcases D.ok.2 with ⟨kl, hkl, nd⟩ | ⟨kl, hkl, nd⟩
      · obtain ⟨xd, es, ep, ed', en⟩ := D.d
        obtain ⟨us, rv', ln, f, pr⟩ := ents_S (P := X.prog) en D.rk hkl
        have l2 : kl.length = ks.length := by have := congrArg List.length hkl; simpa using this.symm
        have dd : s.heap.DictOf (mixKind X.prog X.w) a (kl.zip us) := ⟨o, es, ep, exact_at I.hok D.at_, xd, ed', fun e he => f e (by simpa using he), pr, by rw [List.map_fst_zip (by omega)]; exact nd⟩
        have l3 : (kl.zip us).length = ks.length := by rw [List.length_zip]; omega
        refine call_len_dict D.sm dd (by rw [l3]; exact hfit) ?_
        rw [l3]
        exact ⟨.int ks.length, H, I.tok _, ⟨_, rfl⟩, Hands.int hr q⟩
      · obtain ⟨xd, es, ep, ed', en⟩ := D.d
        obtain ⟨us, bs, rv', ln, ln2, ekv, ees, f⟩ := ents_T I.hok en D.rk hkl
        have l2 : kl.length = ks.length := by have := congrArg List.length hkl; simpa using this.symm
        have l3 : (kl.zip (bs.zip us)).length = ks.length := by rw [List.length_zip, List.length_zip]; omega
        have dd : s.heap.DictOfH (nestedKind X.prog X.w) a (kl.zip (bs.zip us)) := ⟨o, es, ep, exact_at I.hok D.at_, xd, ed', ees, f, by rw [List.map_fst_zip (by rw [List.length_zip]; omega)]; exact nd⟩
        refine call_len_dictH D.sm dd (by rw [l3]; exact hfit) ?_
        rw [l3]
        exact ⟨.int ks.length, H, I.tok _, ⟨_, rfl⟩, Hands.int hr q⟩
    · cases e
  · cases e
theorem MC.case {f : Value} {F : FA} (ho : MC X adr f F) {ws : List W} {w : W} {h : MH} (e : F ws h = some w) :
    ∃ r, CallR X f r ∧ ∀ T H vs Q, Hrel (kt X adr) T h H → Reps (kt X adr) T H ws vs → Hands (kt X adr) T h H w Q → r vs H Q :=
  ⟨_, ho, fun T H vs Q hr rs q => ⟨T, h, ws, w, hr, rs, e, q⟩⟩
theorem mc_len : MC X adr (.builtin "len") wLen := MC.mk fun ws h w e => by
  unfold wLen at e
  split at e
  · split at e
    · obtain ⟨l, rfl⟩ := wIf_is e
      refine ⟨_, call_len_str, fun T H vs Q hr rs q => ?_⟩
      obtain ⟨v, rfl, rp⟩ := reps1 rs
      rw [rep_str rp]
      exact ⟨_, rfl, lenLe_iff l, Hands.int hr q⟩
    · skip
      split at e
      · rename_i ys ey
        cases e
        refine ⟨_, call_len_seq, fun T H vs Q hr rs q => ?_⟩
        obtain ⟨v, rfl, rp⟩ := reps1 rs
        obtain ⟨a, vs, rfl, z, r⟩ := seq_at hr rp ey
        refine ⟨a, vs, rfl, z.elim .inr .inl, ?_⟩
        rw [← r.length]
        exact Hands.int hr q
      · exact (mc_lenD (X := X) (adr := adr)).case (ws := [_]) (w := w) (h := h) e
  · cases e
/-! ### list(..), tuple(..) -/
def wList : FA := fun ws h => match ws with
  | [x] => match seqW x h with
    | some ys => some (.lst ys)
    | none => match dctOf x h with
      | some (ks, _) => some (.lst ks)
      | none => none
  | _ => none
theorem mc_listD (hc : X.calm = true) : MC X adr (.type "list") (fun ws h => match ws with
  | [x] => match dctOf x h with
    | some (ks, _) => some (.lst ks)
    | none => none
  | _ => none) := by
  intro pins s σ H vs us Q I rv ⟨T, h, ws, w, hr, rs, e, q⟩
  dsimp only at e
  split at e
  · split at e
    · rename_i ks ws ed
      cases e
      obtain ⟨v, rfl, rp⟩ := reps1 rs
      obtain ⟨u, rfl, ru⟩ := rv.one
      obtain ⟨a, o, kv, vv, rfl, D⟩ := dct_at hr rp ed
      obtain rfl : u = .ref a := ru
      obtain ⟨es, ep, ed', en, dr⟩ := D.d.raw (exact_at I.hok D.at_)
      have l1 : ks.length = es.size := by
        have h1 := D.rk.length
        have h2 := en.len.1
        simp at h2; omega
      have hl := D.ok.1
      refine PySem.W.kdl_call (kdl_raw D.sm D.d.1 ed') (I.ok.hd hc) (exact_at I.hok D.at_) (by omega) fun h' tk acc' c' hkeep hS hacc => ?_
      have el : acc'.toList.length = acc'.size := by simp
      have rvv : Vals kv acc'.toList := by
        refine vals_of_at (by rw [el, hacc.1, ← D.rk.length]; exact l1) fun j x w h1 h2 => ?_
        obtain ⟨en', hen, hw⟩ := hacc.2 j w (by rw [← Array.getElem?_toList]; exact h2)
        obtain ⟨k, y, ek, ey, rk, ry⟩ := en.get (i := j) (e := en') (by simpa using hen)
        rw [h1] at ek
        cases ek
        rw [hw]
        exact rk
      refine ⟨.ref s.heap.objs.size, upd H s.heap.objs.size (.lst kv), I.laid hkeep (Nat.le_refl _) (show ObjOk X.prog X.w _ _ _ (.lst kv) from ⟨by rw [← D.rk.length]; exact hl, acc'.toList, c', rvv, by rw [Array.toArray_toList]; exact hS⟩), rfl, Hands.lst hr D.rk q _ (I.hok.fresh (Nat.le_refl _))⟩
    · cases e
  · cases e
theorem mc_list (hc : X.calm = true) : MC X adr (.type "list") wList := MC.mk fun ws h w e => by
  unfold wList at e
  split at e
  · rename_i x
    split at e
    · rename_i ys ey
      cases e
      refine ⟨_, call_list_of, fun T H vs Q hr rs q => ?_⟩
      obtain ⟨v, rfl, rp⟩ := reps1 rs
      obtain ⟨a, vs, rfl, z, r⟩ := seq_at hr rp ey
      exact ⟨a, vs, rfl, z.elim .inr .inl, Hands.lst hr r q⟩
    · exact (mc_listD (X := X) (adr := adr) hc).case (ws := [x]) e
  · cases e
def wTuple : FA := fun ws h => match ws with
  | [x] => match x with
    | .tup ys => some (.tup ys)
    | x => match lstOf x h with
      | some ys => some (.tup ys)
      | none => none
  | _ => none
theorem mc_tuple : MC X adr (.type "tuple") wTuple := MC.mk fun ws h w e => by
  unfold wTuple at e
  split at e
  · split at e
    · cases e
      refine ⟨_, call_tuple_of, fun T H vs Q hr rs q => ?_⟩
      obtain ⟨v, rfl, rp⟩ := reps1 rs
      have rp0 := rp
      obtain ⟨a, vs, rfl, z, r⟩ := tup_at rp
      exact ⟨a, vs, rfl, .inr ⟨.inl (.inl z), Hands.same hr rp0 q⟩⟩
    · split at e
      · rename_i ys ey
        cases e
        refine ⟨_, call_tuple_of, fun T H vs Q hr rs q => ?_⟩
        obtain ⟨v, rfl, rp⟩ := reps1 rs
        obtain ⟨a, vs, rfl, z, r⟩ := lst_at hr rp ey
        exact ⟨a, vs, rfl, .inl ⟨.inl (.inl z), Hands.tup hr r q⟩⟩
      · cases e
  · cases e
/-! ### any, all, sum, abs, min, max -/
def blsOf : List W → Option (List Bool)
  | [] => some []
  | x :: r => match x with
    | .bl b => match blsOf r with
      | some bs => some (b :: bs)
      | none => none
    | _ => none
theorem bls_at {T : Tie} {H : Hp} : ∀ {ws : List W} {bs : List Bool} {vs : List V}, blsOf ws = some bs → Reps G T H ws vs → vs = bs.map V.bl
  | [], bs, vs, e, r => by cases e; unfold Reps at r; rw [r]; rfl
  | x :: ws, bs, vs, e, r => by
    unfold blsOf at e
    split at e
    · split at e
      · rename_i b _ cs ec
        cases e
        unfold Reps at r
        obtain ⟨v, s, rfl, h, r⟩ := r
        rw [rep_bl h, bls_at ec r]
        rfl
      · cases e
    · cases e
def intsOf : List W → Option (List Int)
  | [] => some []
  | x :: r => match x with
    | .int b => match intsOf r with
      | some bs => some (b :: bs)
      | none => none
    | _ => none
theorem ints_at {T : Tie} {H : Hp} : ∀ {ws : List W} {bs : List Int} {vs : List V}, intsOf ws = some bs → Reps G T H ws vs → vs = bs.map V.int
  | [], bs, vs, e, r => by cases e; unfold Reps at r; rw [r]; rfl
  | x :: ws, bs, vs, e, r => by
    unfold intsOf at e
    split at e
    · split at e
      · rename_i b _ cs ec
        cases e
        unfold Reps at r
        obtain ⟨v, s, rfl, h, r⟩ := r
        rw [rep_int h, ints_at ec r]
        rfl
      · cases e
    · cases e
def anyB : List Bool → Bool
  | [] => false
  | b :: r => match b with
    | true => true
    | false => anyB r
def allB : List Bool → Bool
  | [] => true
  | b :: r => match b with
    | true => allB r
    | false => false
theorem anyB_is : ∀ bs, anyB bs = bs.any id
  | [] => rfl
  | true :: r => rfl
  | false :: r => by rw [anyB, List.any_cons, anyB_is r]; rfl
theorem allB_is : ∀ bs, allB bs = bs.all id
  | [] => rfl
  | false :: r => rfl
  | true :: r => by rw [allB, List.all_cons, allB_is r]; rfl
def wAny : FA := fun ws h => match ws with
  | [x] => match lstOf x h with
    | some ys => match blsOf ys with
      | some bs => some (.bl (anyB bs))
      | none => none
    | none => none
  | _ => none
def wAll : FA := fun ws h => match ws with
  | [x] => match lstOf x h with
    | some ys => match blsOf ys with
      | some bs => some (.bl (allB bs))
      | none => none
    | none => none
  | _ => none
theorem mc_any (hc : X.calm = true) : MC X adr (.builtin "any") wAny := MC.mk fun ws h w e => by
  unfold wAny at e
  split at e
  · split at e
    · rename_i ys ey
      split at e
      · rename_i bs eb
        cases e
        refine ⟨_, cr_any hc, fun T H vs Q hr rs q => ?_⟩
        obtain ⟨v, rfl, rp⟩ := reps1 rs
        obtain ⟨a, vs, rfl, z, r⟩ := lst_at hr rp ey
        obtain rfl := bls_at eb r
        refine ⟨a, bs, rfl, .inl (.inl z), ?_⟩
        rw [← anyB_is]
        exact Hands.bl hr q
      · cases e
    · cases e
  · cases e
theorem mc_all (hc : X.calm = true) : MC X adr (.builtin "all") wAll := MC.mk fun ws h w e => by
  unfold wAll at e
  split at e
  · split at e
    · rename_i ys ey
      split at e
      · rename_i bs eb
        cases e
        refine ⟨_, cr_all hc, fun T H vs Q hr rs q => ?_⟩
        obtain ⟨v, rfl, rp⟩ := reps1 rs
        obtain ⟨a, vs, rfl, z, r⟩ := lst_at hr rp ey
        obtain rfl := bls_at eb r
        refine ⟨a, bs, rfl, .inl (.inl z), ?_⟩
        rw [← allB_is]
        exact Hands.bl hr q
      · cases e
    · cases e
  · cases e
def sumI : List Int → Int
  | [] => 0
  | x :: r => x + sumI r
theorem sumI_is : ∀ l, sumI l = l.sum
  | [] => rfl
  | x :: r => by rw [sumI, List.sum_cons, sumI_is r]
def wSum : FA := fun ws h => match ws with
  | [x] => match lstOf x h with
    | some ys => match intsOf ys with
      | some bs => some (.int (sumI bs))
      | none => none
    | none => none
  | _ => none
theorem mc_sum (hc : X.calm = true) : MC X adr (.builtin "sum") wSum := MC.mk fun ws h w e => by
  unfold wSum at e
  split at e
  · split at e
    · rename_i ys ey
      split at e
      · rename_i bs eb
        cases e
        refine ⟨_, cr_sum hc, fun T H vs Q hr rs q => ?_⟩
        obtain ⟨v, rfl, rp⟩ := reps1 rs
        obtain ⟨a, vs, rfl, z, r⟩ := lst_at hr rp ey
        obtain rfl := ints_at eb r
        refine ⟨a, bs, rfl, .inl (.inl z), ?_⟩
        rw [← sumI_is]
        exact Hands.int hr q
      · cases e
    · cases e
  · cases e
def wAbs : FA := fun ws _ => match ws with
  | [.int i] => some (.int (if i < 0 then -i else i))
  | _ => none
theorem mc_abs : MC X adr (.builtin "abs") wAbs := MC.mk fun ws h w e => by
  unfold wAbs at e
  split at e
  · cases e
    refine ⟨_, call_abs, fun T H vs Q hr rs q => ?_⟩
    rw [reps_int1 rs]
    exact ⟨_, rfl, Hands.int hr q⟩
  · cases e
end Mi

end
section
namespace Mi
open PySem PySem.Spec PyProof.Rows L2
variable {G : Kt} {X : Cx} {adr : Nat → Addr} {Y : WX}

/-! ### isinstance -/
/-- a value's type: a built-in one, an own one -/
inductive Ty where
  | b (k : Nat)
  | o (c : Nat)
def tyVal (adr : Nat → Addr) : Ty → Value
  | .b k => .type (tyName k)
  | .o c => .ref (adr c)
def tyKey (w : W) (h : MH) : Option Ty := match w with
  | .int _ => some (.b 0)
  | .str _ => some (.b 1)
  | .bl _ => some (.b 2)
  | .tup _ => some (.b 3)
  | .lst _ => some (.b 4)
  | .dct _ _ => some (.b 5)
  | .non => some (.b 6)
  | .scr _ => some (.b 4)
  | .kt0 => some (.b 3)
  | .ins c _ _ => some (.o c)
  | .ref n => match h.get n with
    | some (.lst _) => some (.b 4)
    | some (.dct _ _) => some (.b 5)
    | some (.ins c _ _) => some (.o c)
    | none => none
  | _ => none
/-- what is known of the own classes below n -/
structure IsF (K : PySem.W.Frag) (adr : Nat → Addr) (n : Nat) (sub : Nat → Nat → Bool) : Prop where
  oo : ∀ c d, c < n → d < n → PySem.W.kitOne K (.ref (adr c)) (.ref (adr d)) = some (sub c d)
  ob : ∀ c k, c < n → k < 6 → PySem.W.kitOne K (.ref (adr c)) (.type (tyName k)) = some false
  bo : ∀ k d, k < 7 → d < n → PySem.W.kitOne K (.type (tyName k)) (.ref (adr d)) = some false
  cls : ∀ c, c < n → Cls K (adr c) ∧ PySem.W.findIn K (.ref (adr c)) "__class__" = some (some (.builtin "object.__class__")) ∧ PySem.W.mroIn K (adr c) (.type "object") = some true
  spc : PySem.W.specialIn K (.builtin "object.__class__") "__get__" = some (some (.builtin "getset_descriptor.__get__"))
  tks : PySem.W.takesIn K (.builtin "object.__class__") = some true
def isBB (a b : Nat) : Bool := Nat.beq a b || (Nat.beq a 2 && Nat.beq b 0)
theorem kit_bb {K : PySem.W.Frag} : ∀ a b, a < 7 → b < 6 → PySem.W.kitOne K (.type (tyName a)) (.type (tyName b)) = some (isBB a b) := by
  intro a b ha hb
  have e : ∀ a, a < 7 → ∀ b, b < 6 → kitB (tyName a) (tyName b) = some (isBB a b) := by decide +kernel
  exact kit_ty (e a ha b hb)
def isOne (n : Nat) (sub : Nat → Nat → Bool) (t : Ty) (c : W) : Option Bool := match c with
  | .ty k => match Nat.blt k 6 with
    | true => match t with
      | .b a => match Nat.blt a 7 with
        | true => some (isBB a k)
        | false => none
      | .o c => match Nat.blt c n with
        | true => some false
        | false => none
    | false => none
  | .cl d => match Nat.blt d n with
    | true => match t with
      | .b a => match Nat.blt a 7 with
        | true => some false
        | false => none
      | .o c => match Nat.blt c n with
        | true => some (sub c d)
        | false => none
    | false => none
  | _ => none
def isAny (n : Nat) (sub : Nat → Nat → Bool) (t : Ty) : List W → Option Bool
  | [] => some false
  | c :: r => match isOne n sub t c with
    | some true => some true
    | some false => isAny n sub t r
    | none => none
def wIsi (n : Nat) (sub : Nat → Nat → Bool) : FA := fun ws h => match ws with
  | [x, c] => match tyKey x h with
    | some t => match c with
      | .tup (c :: cs) => optBl (isAny n sub t (c :: cs))
      | .ty k => optBl (isOne n sub t (.ty k))
      | .cl d => optBl (isOne n sub t (.cl d))
      | _ => none
    | none => none
  | _ => none
section
variable {n : Nat} {sub : Nat → Nat → Bool}
theorem blt {a b : Nat} (h : Nat.blt a b = true) : a < b := Nat.le_of_ble_eq_true h
/-- a class as a value -/
def clsVal (adr : Nat → Addr) : W → Option Value
  | .ty k => some (.type (tyName k))
  | .cl d => some (.ref (adr d))
  | _ => none
theorem isOne_ok {K : PySem.W.Frag} (F : IsF K adr n sub) {t : Ty} {c : W} {b : Bool} (e : isOne n sub t c = some b) : ∃ u, clsVal adr c = some u ∧ PySem.W.kitOne K (tyVal adr t) u = some b := by
  unfold isOne at e
  split at e
  · split at e
    · rename_i hk
      split at e
      · split at e
        · rename_i ha
          cases e
          exact ⟨_, rfl, kit_bb _ _ (blt ha) (blt hk)⟩
        · cases e
      · split at e
        · rename_i ha
          cases e
          exact ⟨_, rfl, F.ob _ _ (blt ha) (blt hk)⟩
        · cases e
    · cases e
  · split at e
    · rename_i hk
      split at e
      · split at e
        · rename_i ha
          cases e
          exact ⟨_, rfl, F.bo _ _ (blt ha) (blt hk)⟩
        · cases e
      · split at e
        · rename_i ha
          cases e
          exact ⟨_, rfl, F.oo _ _ (blt ha) (blt hk)⟩
        · cases e
    · cases e
  · cases e
theorem isAny_ok {K : PySem.W.Frag} (F : IsF K adr n sub) {t : Ty} {T : Tie} {H : Hp} : ∀ {cs : List W} {vs : List V} {us : List Value} {b : Bool}, isAny n sub t cs = some b → Reps (kt X adr) T H cs vs → Vals vs us → PySem.W.kitAny K (tyVal adr t) us = some b
  | [], vs, us, b, e, r, rv => by
    cases e
    unfold Reps at r
    subst r
    cases rv
    rfl
  | c :: cs, vs, us, b, e, r, rv => by
    unfold Reps at r
    obtain ⟨v, s, rfl, h, r⟩ := r
    cases rv with
    | @cons _ u0 _ us q1 q2 =>
    unfold isAny at e
    have key : ∀ {k : Bool}, isOne n sub t c = some k → PySem.W.kitOne K (tyVal adr t) u0 = some k := fun {k} e1 => by
      obtain ⟨u, eu, ku⟩ := isOne_ok F e1
      have : u0 = u := by
        unfold clsVal at eu
        split at eu
        · cases eu; unfold Rep at h; subst h; exact q1
        · cases eu; unfold Rep at h; subst h; exact q1
        · cases eu
      rw [this]
      exact ku
    unfold PySem.W.kitAny
    split at e
    · rename_i e1
      cases e
      rw [key e1]
    · rename_i e1
      rw [key e1]
      exact isAny_ok F e r q2
    · cases e
theorem kit_W {K0 : PySem.W.Frag} {pins : List (Addr × Obj)} {σ : Sl} {H : Hp} {s : Shared} (eK : X.K = K0) (F : IsF K0 adr n sub) (I : Inv X pins σ H s) {T : Tie} {h : MH} {w : W} {v : V} {u : Value} (hr : Hrel (kt X adr) T h H) (rp : Rep (kt X adr) T H w v) (ru : RelV v u) {t : Ty} (e : tyKey w h = some t)
    (hc : ∀ c, t = .o c → c < n) : ∃ P : Heap → Prop, PySem.W.KitX X.K u (tyVal adr t) P ∧ P s.heap ∧ u ≠ .builtin "__main__.__loader__#opaque" := by
  subst eK
  have own : ∀ {a dx : Addr} {c : Nat} {fs : List (Str × V)}, H a = some (.ins (adr c) dx fs) → c < n → ∃ P : Heap → Prop, PySem.W.KitX X.K (.ref a) (.ref (adr c)) P ∧ P s.heap ∧ Value.ref a ≠ .builtin "__main__.__loader__#opaque" := fun {a dx c fs} ea lt => by
    obtain ⟨mA, O, _⟩ := ins_get I.hok ea
    obtain ⟨od, J, _⟩ := O.look
    obtain ⟨cl, ha, hm⟩ := F.cls c lt
    exact ⟨_, PySem.W.kitx_own (cl.get _) cl.hd ha F.spc F.tks hm, J, fun z => nomatch z⟩
  unfold tyKey at e
  split at e
  · cases e; rw [rep_int rp] at ru; obtain ⟨t, rfl⟩ := ru; exact ⟨_, PySem.W.kitx_int, True.intro, fun z => nomatch z⟩
  · cases e; rw [rep_str rp] at ru; obtain ⟨t, rfl⟩ := ru; exact ⟨_, PySem.W.kitx_str, True.intro, fun z => nomatch z⟩
  · cases e; rw [rep_bl rp] at ru; cases ru; exact ⟨_, PySem.W.kitx_bool, True.intro, fun z => nomatch z⟩
  · cases e
    obtain ⟨a, vs, rfl, q, r⟩ := tup_at rp
    obtain rfl : u = .ref a := ru
    obtain ⟨_, its, rv, o, h1, h2, _⟩ := I.hok _ _ q
    exact ⟨_, PySem.W.kitx_tuple, ⟨o, h1, h2⟩, fun z => nomatch z⟩
  · cases e
    obtain ⟨a, vs, rfl, q, r⟩ := lst_at hr rp rfl
    obtain rfl : u = .ref a := ru
    obtain ⟨_, its, n, rv, h1⟩ := I.hok _ _ q
    exact ⟨_, PySem.W.kitx_list, ⟨_, h1, rfl⟩, fun z => nomatch z⟩
  · cases e
    obtain ⟨a, o, kv, vv, rfl, D⟩ := dct_at hr rp rfl
    obtain rfl : u = .ref a := ru
    exact ⟨_, PySem.W.kitx_dict, ⟨o, exact_at I.hok D.at_, D.d.1.1⟩, fun z => nomatch z⟩
  · cases e; rw [rep_non rp] at ru; cases ru; exact ⟨_, PySem.W.kitx_none, True.intro, fun z => nomatch z⟩
  · cases e
    obtain ⟨a, rfl, q⟩ := scr_at rp
    obtain rfl : u = .ref a := ru
    obtain ⟨its, rv, o, h1, h2, _⟩ := sqL_list I.hok I.kIn q
    exact ⟨_, PySem.W.kitx_list, ⟨o, h1, h2⟩, fun z => nomatch z⟩
  · cases e
    unfold Rep at rp
    obtain ⟨a, rfl, o, n, k1, k2, k3⟩ := rp
    obtain rfl : u = .ref a := ru
    exact ⟨_, PySem.W.kitx_tuple, ⟨o, I.kIn _ _ k1, k2⟩, fun z => nomatch z⟩
  · cases e
    unfold Rep at rp
    obtain ⟨a, dx, vv, rfl, f, f2, q, _⟩ := rp
    obtain rfl : u = .ref a := ru
    exact own q (hc _ rfl)
  · split at e
    · rename_i n' _ e2
      cases e
      obtain ⟨a, vs, rfl, q, r⟩ := lst_at hr rp (by unfold lstOf; dsimp only; rw [e2])
      obtain rfl : u = .ref a := ru
      obtain ⟨_, its, n, rv, h1⟩ := I.hok _ _ q
      exact ⟨_, PySem.W.kitx_list, ⟨_, h1, rfl⟩, fun z => nomatch z⟩
    · rename_i n' _ _ e2
      cases e
      obtain ⟨a, o, kv, vv, rfl, D⟩ := dct_at hr rp (by unfold dctOf; dsimp only; rw [e2])
      obtain rfl : u = .ref a := ru
      exact ⟨_, PySem.W.kitx_dict, ⟨o, exact_at I.hok D.at_, D.d.1.1⟩, fun z => nomatch z⟩
    · rename_i n' c _ _ e2
      cases e
      obtain ⟨a, ea, dx, vv, f, q, _⟩ := hr.obj _ _ e2
      unfold Rep at rp
      obtain rfl := rp.2 a ea
      obtain rfl : u = .ref a := ru
      exact own q (hc _ rfl)
    · cases e
  · cases e
theorem isOne_lt {t : Ty} {c : W} {b : Bool} (e : isOne n sub t c = some b) : ∀ d, t = .o d → d < n := fun d z => by
  subst z
  unfold isOne at e
  split at e
  · split at e
    · split at e
      · rename_i z; cases z
      · rename_i z
        cases z
        split at e
        · rename_i ha; exact blt ha
        · cases e
    · cases e
  · split at e
    · split at e
      · rename_i z; cases z
      · rename_i z
        cases z
        split at e
        · rename_i ha; exact blt ha
        · cases e
    · cases e
  · cases e
theorem mc_isi (F : IsF X.K adr n sub) : MC X adr (.builtin "isinstance") (wIsi n sub) := by
  intro pins s σ H vs us Q I rv ⟨T, h, ws, w, hr, rs, e, q⟩
  unfold wIsi at e
  split at e
  · split at e
    · rename_i t et
      obtain ⟨v1, v2, rfl, r1, r2⟩ := reps2 rs
      obtain ⟨u1, u2, rfl, ru1, ru2⟩ := Vals.two rv
      have one : ∀ c b, (∀ T H v, Rep (kt X adr) T H c v → ∀ u, RelV v u → clsVal adr c = some u) → Rep (kt X adr) T H c v2 → isOne n sub t c = some b → w = .bl b → wpAny (model X.prog X.w) X.A (call (.builtin "isinstance") [u1, u2]) (EP X pins σ Q) X.xe s := fun c b cv rc e1 ew => by
        subst ew
        obtain ⟨P, Z, p, hx⟩ := kit_W rfl F I hr r1 ru1 et (isOne_lt e1)
        obtain ⟨u, eu, ku⟩ := isOne_ok F e1
        rw [cv T H v2 rc u2 ru2] at eu
        cases eu
        exact PySem.W.kia_one Z I.kIn p ku hx fun tk => ⟨.bl b, H, I.tok tk, rfl, Hands.bl hr q⟩
      split at e
      · rename_i c cs
        obtain ⟨b, e', rfl⟩ := optBl_is e
        obtain ⟨a, ys, rfl, qa, ry⟩ := tup_at r2
        obtain rfl : u2 = .ref a := ru2
        obtain ⟨_, its, rvt, o, h1, h2, nn, h3⟩ := I.hok _ _ qa
        have lt : ∀ d, t = .o d → d < n := by
          unfold isAny at e'
          split at e'
          · rename_i e1; exact isOne_lt e1
          · rename_i e1; exact isOne_lt e1
          · cases e'
        obtain ⟨P, Z, p, hx⟩ := kit_W rfl F I hr r1 ru1 et lt
        have ka := isAny_ok F e' ry rvt
        obtain ⟨oc, od, dt, sl⟩ := o
        simp only at h2 h3
        subst h2 h3
        exact PySem.W.kia_tup Z I.kIn p h1 ka hx fun tk => ⟨.bl b, H, I.tok tk, rfl, Hands.bl hr q⟩
      · obtain ⟨b, e', ew⟩ := optBl_is e
        exact one _ b (fun T H v r u ru => by unfold Rep at r; subst r; cases ru; rfl) r2 e' ew
      · obtain ⟨b, e', ew⟩ := optBl_is e
        exact one _ b (fun T H v r u ru => by unfold Rep at r; subst r; cases ru; rfl) r2 e' ew
      · cases e
    · cases e
  · cases e
end
end Mi

end
section
namespace Mi
open PySem PySem.Spec PyProof.Rows L2
variable {G : Kt} {X : Cx} {adr : Nat → Addr} {Y : WX}

/-! ### storing -/
def dputK (k : W) : List W → List W
  | [] => [k]
  | x :: r => match kEq x k with
    | true => x :: r
    | false => x :: dputK k r
def dputV (k w : W) : List W → List W → List W
  | [], _ => [w]
  | x :: r, vs => match vs with
    | v :: vs => match kEq x k with
      | true => w :: vs
      | false => v :: dputV k w r vs
    | [] => []
section
variable {K : Type} [DecidableEq K]
def putL (κ : K) : List K → List K
  | [] => [κ]
  | x :: r => if x = κ then x :: r else x :: putL κ r
def putU {α : Type} (κ : K) (u : α) : List K → List α → List α
  | [], _ => [u]
  | x :: r, vs => match vs with
    | v :: vs => if x = κ then u :: vs else v :: putU κ u r vs
    | [] => []
theorem mem_putL {κ y : K} : ∀ {l : List K}, y ∈ putL κ l → y = κ ∨ y ∈ l
  | [], h => by simp [putL] at h; exact .inl h
  | x :: r, h => by
    unfold putL at h
    split at h
    · exact .inr h
    · rcases List.mem_cons.mp h with z | z
      · exact .inr (by simp [z])
      · exact (mem_putL z).imp id fun z => List.mem_cons_of_mem _ z
theorem nodup_putL {κ : K} : ∀ {l : List K}, l.Nodup → (putL κ l).Nodup
  | [], _ => by simp [putL]
  | x :: r, h => by
    unfold putL
    split
    · exact h
    · rename_i ne
      rw [List.nodup_cons] at h ⊢
      exact ⟨fun z => (mem_putL z).elim (fun e => ne e) h.1, nodup_putL h.2⟩
theorem putU_len {α : Type} {κ : K} {u : α} : ∀ {l : List K} {us : List α}, l.length = us.length → (putL κ l).length = (putU κ u l us).length
  | [], us, _ => rfl
  | x :: r, [], h => by cases h
  | x :: r, v :: us, h => by
    unfold putL putU
    by_cases e : x = κ
    · simp only [if_pos e]; exact h
    · simp only [if_neg e, List.length_cons]
      rw [putU_len (by simpa using h)]
theorem map_same {κ : K} {u : Value} : ∀ {r : List (K × Value)}, κ ∉ r.map (·.1) → r.map (fun kv => if kv.1 = κ then (kv.1, u) else kv) = r
  | [], _ => rfl
  | p :: r, h => by
    simp only [List.map_cons, List.mem_cons, not_or] at h
    rw [List.map_cons, map_same h.2, if_neg fun e => h.1 e.symm]
theorem stored_cons {κ a : K} {u x : Value} {r : List (K × Value)} (nd : ((a, x) :: r).map (·.1) |>.Nodup) : stored ((a, x) :: r) κ u = if a = κ then (a, u) :: r else (a, x) :: stored r κ u := by
  rw [List.map_cons, List.nodup_cons] at nd
  unfold stored
  by_cases e : a = κ
  · have h : κ ∉ r.map (·.1) := fun m => nd.1 (e ▸ m)
    rw [if_pos e, if_pos (by simp [e]), List.map_cons, map_same h, if_pos e]
  · rw [if_neg e]
    have e2 : List.any ((a, x) :: r) (fun kv => decide (kv.1 = κ)) = List.any r fun kv => decide (kv.1 = κ) := by simp [e]
    rw [e2]
    by_cases c : (List.any r fun kv => decide (kv.1 = κ)) = true
    · rw [if_pos c, if_pos c, List.map_cons, if_neg e]
    · rw [if_neg c, if_neg c]; rfl
theorem stored_zip {κ : K} {u : Value} : ∀ {l : List K} {us : List Value}, l.Nodup → l.length = us.length → stored (l.zip us) κ u = (putL κ l).zip (putU κ u l us)
  | [], us, _, h => by
    obtain rfl : us = [] := List.length_eq_zero_iff.mp h.symm
    rfl
  | a :: l, [], _, h => by cases h
  | a :: l, x :: us, nd, h => by
    have h : l.length = us.length := by simpa using h
    rw [List.zip_cons_cons, stored_cons (by rw [← List.zip_cons_cons, List.map_fst_zip (by simp; omega)]; exact nd)]
    unfold putL putU
    by_cases e : a = κ
    · simp only [if_pos e]; rfl
    · simp only [if_neg e]
      rw [stored_zip (List.nodup_cons.mp nd).2 h, List.zip_cons_cons]
def putB (κ : K) (b : Addr) : List K → List Addr → List Addr := putUk
where putUk : List K → List Addr → List Addr
  | [], _ => [b]
  | x :: r, vs => match vs with
    | v :: vs => if x = κ then v :: vs else v :: putUk r vs
    | [] => []
theorem map_putAt_same {κ : K} {u : Value} : ∀ {r : List (K × Addr × Value)}, κ ∉ r.map (·.1) → r.map (putAt κ u) = r := fun h => map_putAt_of_not_mem _ _ _ h
theorem storedH_cons {κ a : K} {b c : Addr} {u x : Value} {r : List (K × Addr × Value)} (nd : ((a, c, x) :: r).map (·.1) |>.Nodup) : storedH ((a, c, x) :: r) κ b u = if a = κ then (a, c, u) :: r else (a, c, x) :: storedH r κ b u := by
  rw [List.map_cons, List.nodup_cons] at nd
  unfold storedH
  rw [atKey_cons]
  by_cases e : a = κ
  · have h : κ ∉ r.map (·.1) := fun m => nd.1 (e ▸ m)
    rw [if_pos e, if_pos e]
    simp only [Option.isSome_some, if_true, List.map_cons]
    rw [map_putAt_same h]
    simp [putAt, e]
  · rw [if_neg e, if_neg e]
    by_cases c : (atKey r κ).isSome = true
    · rw [if_pos c, if_pos c, List.map_cons]
      simp [putAt, e]
    · rw [if_neg c, if_neg c]; rfl
theorem putB_len {κ : K} {b : Addr} : ∀ {l : List K} {us : List Addr}, l.length = us.length → (putL κ l).length = (putB κ b l us).length
  | [], us, _ => rfl
  | x :: r, [], h => by cases h
  | x :: r, v :: us, h => by
    unfold putL putB putB.putUk
    by_cases e : x = κ
    · simp only [if_pos e]; exact h
    · simp only [if_neg e, List.length_cons]
      have := putB_len (κ := κ) (b := b) (l := r) (us := us) (by simpa using h)
      rw [this]; rfl
theorem storedH_zip {κ : K} {b : Addr} {u : Value} : ∀ {l : List K} {bs : List Addr} {us : List Value}, l.Nodup → l.length = us.length → bs.length = us.length → storedH (l.zip (bs.zip us)) κ b u = (putL κ l).zip ((putB κ b l bs).zip (putU κ u l us))
  | [], bs, us, _, h, _ => by
    obtain rfl : us = [] := List.length_eq_zero_iff.mp h.symm
    rfl
  | a :: l, bs, [], _, h, _ => by cases h
  | a :: l, [], x :: us, _, h, hb => by cases hb
  | a :: l, c :: bs, x :: us, nd, h, hb => by
    have h : l.length = us.length := by simpa using h
    have hb : bs.length = us.length := by simpa using hb
    rw [List.zip_cons_cons, List.zip_cons_cons, storedH_cons (by rw [← List.zip_cons_cons, ← List.zip_cons_cons, List.map_fst_zip (by simp; omega)]; exact nd)]
    have ih := storedH_zip (κ := κ) (b := b) (u := u) (List.nodup_cons.mp nd).2 h hb
    unfold putL putU putB putB.putUk
    by_cases e : a = κ
    · simp only [if_pos e]; rfl
    · simp only [if_neg e]
      rw [ih]; rfl
end
theorem putK_S {k : W} {κ : Key} (hk : kS k = some κ) : ∀ {ks : List W} {kl : List Key}, ks.map kS = kl.map some → (dputK k ks).map kS = (putL κ kl).map some
  | [], kl, e => by
    obtain rfl := map_nil_some e
    simp [dputK, putL, hk]
  | x :: ks, kl, e => by
    obtain ⟨a, r, rfl, e1, e2⟩ := map_cons_some e
    unfold dputK putL
    rw [kEq_S e1 hk]
    by_cases z : a = κ
    · rw [decide_eq_true z, if_pos z]; exact e
    · rw [decide_eq_false z, if_neg z]
      simp [e1, putK_S hk e2]
theorem putK_T {k : W} {κ : NestedKey} (hk : kT k = some κ) : ∀ {ks : List W} {kl : List NestedKey}, ks.map kT = kl.map some → (dputK k ks).map kT = (putL κ kl).map some
  | [], kl, e => by
    obtain rfl := map_nil_some e
    simp [dputK, putL, hk]
  | x :: ks, kl, e => by
    obtain ⟨a, r, rfl, e1, e2⟩ := map_cons_some e
    unfold dputK putL
    rw [kEq_T e1 hk]
    by_cases z : a = κ
    · rw [decide_eq_true z, if_pos z]; exact e
    · rw [decide_eq_false z, if_neg z]
      simp [e1, putK_T hk e2]
theorem dputK_len (k : W) : ∀ ks, (dputK k ks).length ≤ ks.length + 1
  | [] => by simp [dputK]
  | x :: r => by
    unfold dputK
    cases kEq x k with
    | true => simp
    | false => have := dputK_len k r; simp; omega
/-- the values -/
theorem putV_S {T : Tie} {H : Hp} {k w : W} {κ : Key} {vw : V} {u : Value} (hk : kS k = some κ) (rw' : Rep G T H w vw) (ru : RelV vw u) : ∀ {ks vs : List W} {kl : List Key} {us : List Value} {vv : List V}, ks.map kS = kl.map some → Reps G T H vs vv → Vals vv us → ks.length = vs.length →
    ∃ vv', Reps G T H (dputV k w ks vs) vv' ∧ Vals vv' (putU κ u kl us)
  | [], vs, kl, us, vv, e, rs, rv, ln => by
    obtain rfl := map_nil_some e
    exact ⟨[vw], .cons rw' .nil, .cons ru .nil⟩
  | x :: ks, [], kl, us, vv, e, rs, rv, ln => by cases ln
  | x :: ks, v :: vs, kl, us, vv, e, rs, rv, ln => by
    obtain ⟨a, r, rfl, e1, e2⟩ := map_cons_some e
    unfold Reps at rs
    obtain ⟨v0, s, rfl, p1, p2⟩ := rs
    cases rv with
    | cons q1 q2 =>
      unfold dputV putU
      dsimp only
      rw [kEq_S e1 hk]
      by_cases z : a = κ
      · rw [decide_eq_true z, if_pos z]
        exact ⟨vw :: s, .cons rw' p2, .cons ru q2⟩
      · rw [decide_eq_false z, if_neg z]
        obtain ⟨vv', a1, a2⟩ := putV_S hk rw' ru e2 p2 q2 (by simpa using ln)
        exact ⟨v0 :: vv', .cons p1 a1, .cons q1 a2⟩
theorem putV_T {T : Tie} {H : Hp} {k w : W} {κ : NestedKey} {vw : V} {u : Value} (hk : kT k = some κ) (rw' : Rep G T H w vw) (ru : RelV vw u) : ∀ {ks vs : List W} {kl : List NestedKey} {us : List Value} {vv : List V}, ks.map kT = kl.map some → Reps G T H vs vv → Vals vv us → ks.length = vs.length →
    ∃ vv', Reps G T H (dputV k w ks vs) vv' ∧ Vals vv' (putU κ u kl us)
  | [], vs, kl, us, vv, e, rs, rv, ln => by
    obtain rfl := map_nil_some e
    exact ⟨[vw], .cons rw' .nil, .cons ru .nil⟩
  | x :: ks, [], kl, us, vv, e, rs, rv, ln => by cases ln
  | x :: ks, v :: vs, kl, us, vv, e, rs, rv, ln => by
    obtain ⟨a, r, rfl, e1, e2⟩ := map_cons_some e
    unfold Reps at rs
    obtain ⟨v0, s, rfl, p1, p2⟩ := rs
    cases rv with
    | cons q1 q2 =>
      unfold dputV putU
      dsimp only
      rw [kEq_T e1 hk]
      by_cases z : a = κ
      · rw [decide_eq_true z, if_pos z]
        exact ⟨vw :: s, .cons rw' p2, .cons ru q2⟩
      · rw [decide_eq_false z, if_neg z]
        obtain ⟨vv', a1, a2⟩ := putV_T hk rw' ru e2 p2 q2 (by simpa using ln)
        exact ⟨v0 :: vv', .cons p1 a1, .cons q1 a2⟩
/-- the keys -/
theorem reps_kV {T : Tie} {H : Hp} : ∀ {ks : List W} {kl : List Key}, ks.map kS = kl.map some → Reps G T H ks (kl.map kV)
  | [], kl, e => by obtain rfl := map_nil_some e; exact .nil
  | x :: ks, kl, e => by
    obtain ⟨a, r, rfl, e1, e2⟩ := map_cons_some e
    refine .cons ?_ (reps_kV e2)
    cases x with
    | int i => cases e1; unfold Rep; rfl
    | str i => cases e1; unfold Rep; rfl
    | _ => cases e1
theorem reps_putB {T : Tie} {H : Hp} {k : W} {κ : NestedKey} {b : Addr} (hk : kT k = some κ) (rk : Rep G T H k (.ref b)) : ∀ {ks : List W} {kl : List NestedKey} {bs : List Addr}, ks.map kT = kl.map some → Reps G T H ks (bs.map V.ref) → Reps G T H (dputK k ks) ((putB κ b kl bs).map V.ref)
  | [], kl, bs, e, r => by
    obtain rfl := map_nil_some e
    exact .cons rk .nil
  | x :: ks, kl, bs, e, r => by
    obtain ⟨a, q, rfl, e1, e2⟩ := map_cons_some e
    cases bs with
    | nil => unfold Reps at r; obtain ⟨_, _, z, _⟩ := r; cases z
    | cons c bs =>
      have r0 := r
      unfold Reps at r
      obtain ⟨v, s, z, p1, p2⟩ := r
      rw [List.map_cons] at z
      cases z
      unfold dputK putB putB.putUk
      dsimp only
      rw [kEq_T e1 hk]
      by_cases z : a = κ
      · rw [decide_eq_true z, if_pos z]
        exact r0
      · rw [decide_eq_false z, if_neg z]
        exact .cons p1 (reps_putB hk rk e2 p2)
/-- a dict as the library tells it, told as here -/
theorem back_S {P : Program} {wo : World} {h : Heap} {d : Addr} {ks : List W} {kl : List Key} {us : List Value} {vv : List V} (dd : h.DictOf (mixKind P wo) d (kl.zip us)) (hk : ks.map kS = kl.map some) (rv : Vals vv us) (ln : kl.length = us.length) :
    ∃ o, h.get? d = some o ∧ DictO o (kl.map kV) vv (ks.map (hashW wo)) := by
  obtain ⟨o, es, ep, ho, hx, hd, hkey, hp, nd⟩ := dd
  refine ⟨o, ho, hx, es, ep, hd, ?_⟩
  have key : ∀ e ∈ es.toList, ∃ k, keyIs k e.key = true ∧ e.hash = keyH wo k := fun e he => hkey e (by simpa using he)
  clear hkey hd hx ho nd
  generalize es.toList = el at hp key
  induction kl generalizing el us vv ks with
  | nil =>
    cases us with
    | cons _ _ => cases ln
    | nil =>
      cases rv
      cases hp
      cases ks with
      | nil => exact .nil
      | cons x r => cases hk
  | cons a kl ih =>
    cases us with
    | nil => cases ln
    | cons u us =>
    cases ks with
    | nil => cases hk
    | cons x ks =>
    obtain ⟨a', r', e0, e1, e2⟩ := map_cons_some hk
    cases e0
    cases rv with
    | cons q1 q2 =>
    rw [List.zip_cons_cons] at hp
    cases hp with
    | @cons e _ es' _ i1 i2 i3 =>
    have i1' : keyIs a e.key = true := i1
    refine .cons (L2.keyIs_rel i1') (by rw [i2]; exact q1) ?_ (ih e2 q2 (by simpa using ln) es' i3 fun e he => key e (List.mem_cons_of_mem _ he))
    obtain ⟨k, k1, k2⟩ := key e List.mem_cons_self
    have : k = a := (mixKind P wo).inj e.key k a k1 i1'
    subst this
    rw [k2, hash_S e1]
theorem back_T {P : Program} {wo : World} {h : Heap} {d : Addr} {ks : List W} {kl : List NestedKey} {bs : List Addr} {us : List Value} {vv : List V} (dd : h.DictOfH (nestedKind P wo) d (kl.zip (bs.zip us))) (hk : ks.map kT = kl.map some) (rv : Vals vv us) (ln : kl.length = us.length) (lb : bs.length = us.length) :
    ∃ o, h.get? d = some o ∧ DictO o (bs.map V.ref) vv (ks.map (hashW wo)) := by
  obtain ⟨o, es, ep, ho, hx, hd, he, his, nd⟩ := dd
  refine ⟨o, ho, hx, es, ep, hd, ?_⟩
  rw [he]
  clear he his hd hx ho nd
  induction kl generalizing bs us vv ks with
  | nil =>
    cases us with
    | cons _ _ => cases ln
    | nil =>
      cases rv
      cases bs with
      | cons _ _ => cases lb
      | nil =>
      cases ks with
      | nil => exact .nil
      | cons x r => cases hk
  | cons a kl ih =>
    cases us with
    | nil => cases ln
    | cons u us =>
    cases bs with
    | nil => cases lb
    | cons b bs =>
    cases ks with
    | nil => cases hk
    | cons x ks =>
    obtain ⟨a', r', e0, e1, e2⟩ := map_cons_some hk
    cases e0
    cases rv with
    | cons q1 q2 =>
    exact .cons rfl q1 (hash_T e1).symm (ih e2 q2 (by simpa using ln) (by simpa using lb))
theorem exact_ok {P : Program} {wo : World} {H : Hp} {h : Heap} {a : Addr} {o : Obj} (e : h.get? a = some o) : ObjOk P wo H h a (exact o a) := ⟨e, ⟨o, e⟩, fun h1 h2 p k => k _ p⟩
/-- what storing leaves: the dict's new object -/
structure NewD (G : Kt) (T : Tie) (H : Hp) (ks vs : List W) (o : Obj) (kv vv : List V) : Prop where
  ok : KeysOk ks
  d : DictO o kv vv (ks.map (hashW G.w))
  rk : Reps G T H ks kv
  rv : Reps G T H vs vv
theorem put_W {A : Around} (hu : A.units + 8 < cLine) {pins : List (Addr × Obj)} {σ : Sl} {H : Hp} {s : Shared} {E : Value → Shared → Prop} {Q : Unit → Shared → Prop} {T : Tie} {ks vs : List W} {a : Addr} {o : Obj} {kv vv : List V} {k w : W} {vk vw : V} {uk uw : Value} (I : Inv X pins σ H s) (D : DAt (kt X adr) T H ks vs a o kv vv)
    (fit : keyFit k ks = true) (lim : Nat.blt ks.length 16777216 = true) (rk : Rep (kt X adr) T H k vk) (ruk : RelV vk uk) (rw' : Rep (kt X adr) T H w vw) (ruw : RelV vw uw) (act : Sem Unit)
    (act1 : ∀ (κ : Key) (kl : List Key) (us : List Value), keyIs κ uk = true → s.heap.DictOf (mixKind X.prog X.w) a (kl.zip us) → (kl.zip us).length ≤ sizeLine → (∀ h', h'.DictOf (mixKind X.prog X.w) a (stored (kl.zip us) κ uw) → Heap.SameBut a s.heap h' → Q () { s with heap := h', toks := s.toks + 1 }) → wpAny (model X.prog X.w) A act Q E s)
    (act2 : ∀ (κ : NestedKey) (xs : List (NestedKey × Addr × Value)) (b : Addr), uk = .ref b → (nestedKind X.prog X.w).is s.heap κ b → s.heap.DictOfH (nestedKind X.prog X.w) a xs → xs.length ≤ sizeLine → (∀ h', h'.DictOfH (nestedKind X.prog X.w) a (storedH xs κ b uw) → Heap.SameBut a s.heap h' → Q () { s with heap := h', toks := s.toks + (nestedKind X.prog X.w).draws κ }) → wpAny (model X.prog X.w) A act Q E s)
    (h : ∀ o' s' kv' vv', NewD (kt X adr) T H (dputK k ks) (dputV k w ks vs) o' kv' vv' → Inv X pins σ (upd H a (exact o' a)) s' → Q () s') : wpAny (model X.prog X.w) A act Q E s := by
  have l1 : ks.length < 16777216 := blt lim
  have l2 := dputK_len k ks
  have l3 : (dputK k ks).length ≤ sizeLine := by rw [sizeLine_eq]; omega
  have mu : Mut (H a) := by rw [D.at_]; exact True.intro
  rcases D.split (G := kt X adr) rfl rfl I.hok fit rk ruk with ⟨κ, kl, us, hκ, hkl, nd, rv, ln, ki, dd⟩ | ⟨κ, kl, us, b, bs, hκ, hkl, nd, rv, ln, ln2, ekv, rfl, rfl, ki, dd⟩
  · have lk : kl.length = ks.length := by have := congrArg List.length hkl; simpa using this.symm
    refine act1 κ kl us ki dd (by rw [List.length_zip, sizeLine_eq]; omega) fun h' dd' sb => ?_
    rw [stored_zip nd ln] at dd'
    obtain ⟨vv', rvs, rv'⟩ := putV_S hκ rw' ruw hkl D.rv rv D.len
    have hk' := putK_S hκ hkl
    obtain ⟨o', ho', d'⟩ := back_S dd' hk' rv' (putU_len ln)
    exact h o' _ _ _ ⟨⟨l3, .inl ⟨_, hk', nodup_putL nd⟩⟩, d', reps_kV hk', rvs⟩ (d_write (t' := s.toks + 1) I mu sb ⟨_, ho'⟩ (exact_ok ho'))
  · have lk : kl.length = ks.length := by have := congrArg List.length hkl; simpa using this.symm
    refine act2 κ _ b rfl ki dd (by rw [List.length_zip, List.length_zip, sizeLine_eq]; omega) fun h' dd' sb => ?_
    rw [storedH_zip nd ln ln2] at dd'
    obtain ⟨vv', rvs, rv'⟩ := putV_T hκ rw' ruw hkl D.rv rv D.len
    have hk' := putK_T hκ hkl
    have lb : (putB κ b kl bs).length = (putU κ uw kl us).length := by rw [← putB_len (by omega), ← putU_len ln]
    obtain ⟨o', ho', d'⟩ := back_T dd' hk' rv' (putU_len ln) lb
    refine h o' _ _ _ ⟨⟨l3, .inr ⟨_, hk', nodup_putL nd⟩⟩, d', ?_, rvs⟩ (d_write (t' := s.toks + (nestedKind X.prog X.w).draws κ) I mu sb ⟨_, ho'⟩ (exact_ok ho'))
    have r0 := D.rk
    rw [ekv] at r0
    exact reps_putB hκ rk hkl r0
end Mi

end
section
namespace Mi
open PySem PySem.Spec PyProof.Rows L2
variable {G : Kt} {X : Cx} {adr : Nat → Addr} {Y : WX}

/-! ### d[k] = v, d a thing that changes -/
def fitPut (k : W) (ks : List W) : Bool := match keyFit k ks with
  | true => Nat.blt ks.length 16777216
  | false => false
theorem fitPut_is {k : W} {ks : List W} (h : fitPut k ks = true) : keyFit k ks = true ∧ Nat.blt ks.length 16777216 = true := by
  unfold fitPut at h
  cases e : keyFit k ks with
  | true => rw [e] at h; exact ⟨rfl, h⟩
  | false => rw [e] at h; cases h
def sPutEnd (me : Me) (w d k : W) (h : MH) : RS := match d with
  | .ref n => match h.get n with
    | some (.dct ks vs) => match fitPut k ks with
      | true => .nx me (h.set n (.dct (dputK k ks) (dputV k w ks vs)))
      | false => .stuck
    | _ => .stuck
  | _ => .stuck
def sPut (mo mi mv : EM) : SM := fun me h => .ofE me (mv me h) fun w h => .ofE me (mo me h) fun d h => .ofE me (mi me h) fun k h => sPutEnd me w d k h
theorem dat_of {T : Tie} {h : MH} {H : Hp} {n : Nat} {ks vs : List W} {v : V} (hr : Hrel G T h H) (rp : Rep G T H (.ref n) v) (e : h.get n = some (.dct ks vs)) : ∃ a o kv vv, v = .ref a ∧ T.ρ n = some a ∧ DAt G T H ks vs a o kv vv := by
  obtain ⟨a, ea, o, kv, vv, sm, ko, q, d, r1, r2⟩ := hr.obj _ _ e
  unfold Rep at rp
  exact ⟨a, o, kv, vv, rp.2 a ea, ea, sm, ko, q, d, r1, r2⟩
theorem ms_put {o i value : Expr} {mo mi mv : EM} {pos pos' : Pos} (hu : X.A.units + 64 < cLine) (ho : ME X adr Y o mo) (hi : ME X adr Y i mi) (hv : ME X adr Y value mv) (hs : swapsWith value (some (.Subscript o i pos')) pos.line X.env = pure false) :
    MS X adr Y (.Assign [.Subscript o i pos'] value pos) (sPut mo mi mv) := by
  refine ⟨fun pins s σ H D I ⟨T, me, h, hr, hE, q⟩ => ?_⟩
  refine wpAny_Assign_Subscript (thn (hv.run pins s σ H (fun v1 H1 => ∃ T1 h1 w1, Hrel (kt X adr) T1 h1 H1 ∧ Erel (kt X adr) T1 me σ H1 ∧ Rep (kt X adr) T1 H1 w1 v1 ∧ ResS (kt X adr) Y T1 H1 (.ofE me (mo me h1) fun d h => .ofE me (mi me h) fun k h => sPutEnd me w1 d k h) D) I
    ⟨T, me, h, hr, hE, ResS.bindE hE q fun w1 h1 _ T1 H1 v1 hr1 x1 rp1 hE1 q1 => ⟨T1, h1, w1, hr1, hE1, rp1, q1⟩⟩) fun r s1 ⟨v1, H1, I1, rv1, T1, h1, w1, hr1, hE1, rp1, q1⟩ => ?_) hs
  refine thn (ho.run pins s1 σ H1 (fun v2 H2 => ∃ T2 h2 w2, Hrel (kt X adr) T2 h2 H2 ∧ Erel (kt X adr) T2 me σ H2 ∧ Ex T1 T2 H1 H2 ∧ Rep (kt X adr) T2 H2 w2 v2 ∧ ResS (kt X adr) Y T2 H2 (.ofE me (mi me h2) fun k h => sPutEnd me w1 w2 k h) D) I1
    ⟨T1, me, h1, hr1, hE1, ResS.bindE hE1 q1 fun w2 h2 _ T2 H2 v2 hr2 x2 rp2 hE2 q2 => ⟨T2, h2, w2, hr2, hE2, x2, rp2, q2⟩⟩) fun u s2 ⟨v2, H2, I2, rv2, T2, h2, w2, hr2, hE2, x2, rp2, q2⟩ => ?_
  refine thn (hi.run pins s2 σ H2 (fun v3 H3 => ∃ T3 h3 w3, Hrel (kt X adr) T3 h3 H3 ∧ Erel (kt X adr) T3 me σ H3 ∧ Ex T2 T3 H2 H3 ∧ Rep (kt X adr) T3 H3 w3 v3 ∧ ResS (kt X adr) Y T3 H3 (sPutEnd me w1 w2 w3 h3) D) I2
    ⟨T2, me, h2, hr2, hE2, ResS.bindE hE2 q2 fun w3 h3 _ T3 H3 v3 hr3 x3 rp3 hE3 q3 => ⟨T3, h3, w3, hr3, hE3, x3, rp3, q3⟩⟩) fun iv s3 ⟨v3, H3, I3, rv3, T3, h3, w3, hr3, hE3, x3, rp3, q3⟩ => ?_
  unfold sPutEnd at q3
  have rp1' := rep_ex x3 _ _ (rep_ex x2 _ _ rp1)
  have rp2' := rep_ex x3 _ _ rp2
  split at q3
  · rename_i n
    split at q3
    · rename_i ks vs eg
      split at q3
      · rename_i ef
        obtain ⟨a, o, kv, vv, rfl, ea, DA⟩ := dat_of hr3 rp2' eg
        obtain rfl : u = .ref a := rv2
        obtain ⟨f1, f2⟩ := fitPut_is ef
        refine put_W (A := X.A) (by omega) I3 DA f1 f2 rp3 rv3 rp1' rv1 (setItem (.ref a) iv r) (fun κ kl us ki dd hz k => wpAny_setItem_pairs (hsz := hz) ki dd k) (fun κ xs b eb ki dd hz k => ?_) fun o' s4 kv' vv' N I4 => ?_
        · subst eb
          exact wpAny_setItem_heap (hsz := hz) (room8 hu) ki dd k
        · obtain ⟨hr4, x4⟩ := box_set (o := .dct (dputK w3 ks) (dputV w3 w1 ks vs)) hr3 eg ea (show RepO (kt X adr) T3 (upd H3 a (exact o' a)) (.dct _ _) a from ⟨o', kv', vv', DA.sm, N.ok, upd_same, N.d, reps_upd hr3.ok ea N.rk, reps_upd hr3.ok ea N.rv⟩)
          exact ⟨σ, _, I4, q3 T3 _ σ hr4 x4 (hE3.ex x4)⟩
      · exact q3.elim
    · exact q3.elim
  · exact q3.elim
end Mi

end
section
namespace Mi
open PySem PySem.Spec PyProof.Rows L2
variable {G : Kt} {X : Cx} {adr : Nat → Addr} {Y : WX}

/-! ### {k: v, ..} -/
def flatP : List (Value × Value) → List Value
  | [] => []
  | (a, b) :: r => a :: b :: flatP r
structure MPs (X : Cx) (adr : Nat → Addr) (Y : WX) (pos : Pos) (keys : List (Option Expr)) (values : List Expr) (m : AM) : Prop where
  run : ∀ (pins : List (Addr × Obj)) (s : Shared) (σ : Sl) (H : Hp) (T : Tie) (me : Me) (h : MH) (Q : List V → Hp → Prop), Inv X pins σ H s → Hrel (kt X adr) T h H → Erel (kt X adr) T me σ H → ResL (kt X adr) Y T H σ (m me h) Q →
    wpAny (model X.prog X.w) X.A (evalPairs (pairTrees keys values X.env pos)) (fun vs s' => ∃ xs H', Inv X pins σ H' s' ∧ Vals xs (flatP vs) ∧ Q xs H') X.xe s
theorem mps_nil {pos : Pos} : MPs X adr Y pos [] [] mNil := ⟨fun pins s σ H T me h Q I hr hE q => pairTrees_nil_walk ⟨[], H, I, .nil, q T H [] hr (Ex.rfl' hr.ok) Reps.nil⟩⟩
theorem mps_cons {pos : Pos} {k v : Expr} {ks : List (Option Expr)} {vs : List Expr} {mk mv : EM} {m : AM} (hk : ME X adr Y k mk) (hv : ME X adr Y v mv) (hm : MPs X adr Y pos ks vs m) : MPs X adr Y pos (some k :: ks) (v :: vs) (mCons mk (mCons mv m)) :=
  ⟨fun pins s σ H T me h Q I hr hE q => pairTrees_cons_walk
    (thn (hk.run pins s σ H (fun v1 H1 => ∃ T1 h1 w1, Hrel (kt X adr) T1 h1 H1 ∧ Erel (kt X adr) T1 me σ H1 ∧ Rep (kt X adr) T1 H1 w1 v1 ∧ ResL (kt X adr) Y T1 H1 σ ((mCons mv m me h1).bind fun xs h2 => .ok (w1 :: xs) h2) Q) I ⟨T, me, h, hr, hE, Res.bind q fun w1 h1 _ T1 H1 v1 hr1 x1 rp1 q1 => ⟨T1, h1, w1, hr1, hE.ex x1, rp1, q1⟩⟩)
      fun u s1 ⟨v1, H1, I1, r1, T1, h1, w1, hr1, hE1, rp1, q1⟩ => by
        have q1' : ResL (kt X adr) Y T1 H1 σ ((mv me h1).bind fun w2 h2 => (m me h2).bind fun xs h3 => .ok (w1 :: w2 :: xs) h3) Q := by
          unfold mCons at q1
          rw [R.bind_bind] at q1
          simp only [R.bind_bind] at q1
          exact q1
        exact thn (hv.run pins s1 σ H1 (fun v2 H2 => ∃ T2 h2 w2, Hrel (kt X adr) T2 h2 H2 ∧ Erel (kt X adr) T2 me σ H2 ∧ Ex T1 T2 H1 H2 ∧ Rep (kt X adr) T2 H2 w2 v2 ∧ ResL (kt X adr) Y T2 H2 σ ((m me h2).bind fun xs h3 => .ok (w1 :: w2 :: xs) h3) Q) I1 ⟨T1, me, h1, hr1, hE1, Res.bind q1' fun w2 h2 _ T2 H2 v2 hr2 x2 rp2 q2 => ⟨T2, h2, w2, hr2, hE1.ex x2, x2, rp2, q2⟩⟩)
          fun u2 s2 ⟨v2, H2, I2, r2, T2, h2, w2, hr2, hE2, x2, rp2, q2⟩ =>
            thn (hm.run pins s2 σ H2 T2 me h2 (fun xs H3 => Q (v1 :: v2 :: xs) H3) I2 hr2 hE2 (Res.bind q2 fun xs h3 _ T3 H3 vs hr3 x3 rp3 q3 => q3 T3 H3 _ hr3 (Ex.rfl' hr3.ok) (.cons (rep_ex x3 _ _ (rep_ex x2 _ _ rp1)) (.cons (rep_ex x3 _ _ rp2) rp3))))
              fun ps s3 ⟨xs, H3, I3, r3, q3⟩ => ⟨v1 :: v2 :: xs, H3, I3, .cons r1 (.cons r2 r3), q3⟩)⟩
/-- the pairs, stored from the left -/
def putFlat : List W → List W → List W → Option (List W × List W)
  | k :: v :: r, ks, vs => match fitPut k ks with
    | true => putFlat r (dputK k ks) (dputV k v ks vs)
    | false => none
  | [], ks, vs => some (ks, vs)
  | _, _, _ => none
/-- the hidden dict D changes -/
theorem dat_hid {T : Tie} {h : MH} {H : Hp} {D : Addr} {ks vs : List W} {o : Obj} {kv vv : List V} (hr : Hrel G T h H) (hm : D ∈ T.hid) (sm : (D == sysModules) = false) (N : NewD G T H ks vs o kv vv) : DAt G T (upd H D (exact o D)) ks vs D o kv vv :=
  ⟨sm, N.ok, upd_same, N.d, reps_setD hm N.rk, reps_setD hm N.rv⟩
theorem put_all (hu : X.A.units + 64 < cLine) {pins : List (Addr × Obj)} {σ : Sl} {E : Value → Shared → Prop} {D : Addr} {T T1 : Tie} {H1 : Hp} {h : MH} {ks' vs' : List W} (hD : H1 D = none) (ok1 : T1.Ok H1) (hm : D ∈ T.hid) :
    ∀ (prs : List (Value × Value)) (ws : List W) (xs : List V) (ks vs : List W) (o : Obj) (kv vv : List V) (H : Hp) (s : Shared) (Q : PUnit → Shared → Prop), Inv X pins σ H s → Hrel (kt X adr) T h H → Ex T1 T H1 H → Vals xs (flatP prs) → Reps (kt X adr) T H ws xs → DAt (kt X adr) T H ks vs D o kv vv →
      putFlat ws ks vs = some (ks', vs') → (∀ H' s' o' kv' vv', Inv X pins σ H' s' → Hrel (kt X adr) T h H' → Ex T1 T H1 H' → DAt (kt X adr) T H' ks' vs' D o' kv' vv' → Q PUnit.unit s') →
      wpAny (model X.prog X.w) X.A (forIn prs PUnit.unit fun (x : Value × Value) (_ : PUnit) => (do dictSet D x.1 x.2; pure (ForInStep.yield PUnit.unit) : Sem (ForInStep PUnit))) Q E s
  | [], ws, xs, ks, vs, o, kv, vv, H, s, Q, I, hr, x, rv, rs, DA, e, hQ => by
    cases rv
    cases ws with
    | cons _ _ => unfold Reps at rs; obtain ⟨_, _, z, _⟩ := rs; cases z
    | nil =>
      cases e
      rw [List.forIn_nil]
      exact wpAny_pure (hQ H s o kv vv I hr x DA)
  | (a, b) :: prs, ws, xs, ks, vs, o, kv, vv, H, s, Q, I, hr, x, rv, rs, DA, e, hQ => by
    cases rv with
    | cons ra rv =>
    cases rv with
    | cons rb rv =>
    cases ws with
    | nil => unfold Reps at rs; cases rs
    | cons k ws =>
    cases ws with
    | nil => unfold Reps at rs; obtain ⟨_, _, z, _, rs⟩ := rs; unfold Reps at rs; rw [rs] at z; cases z
    | cons v ws =>
      unfold Reps at rs
      obtain ⟨v1, s1, z1, p1, rs⟩ := rs
      cases z1
      unfold Reps at rs
      obtain ⟨v2, s2, z2, p2, rs⟩ := rs
      cases z2
      unfold putFlat at e
      split at e
      · rename_i ef
        obtain ⟨f1, f2⟩ := fitPut_is ef
        rw [List.forIn_cons]
        refine wpAny_bind (wpAny_bind (put_W (A := X.A) (by omega) I DA f1 f2 p1 ra p2 rb (dictSet D a b) (fun κ kl us ki dd hz k => wpAny_dictSet_pairs (hsz := hz) ki dd k) (fun κ xs b' eb ki dd hz k => ?_) fun o' s4 kv' vv' N I4 => wpAny_pure ?_))
        · subst eb
          exact wpAny_dictSet_heap (hsz := hz) (show X.A.units + 8 < cLine by omega) ki dd k
        · obtain ⟨hr4, _⟩ := hid_set (o := exact o' D) hr hm
          exact put_all hu hD ok1 hm prs ws _ _ _ _ _ _ _ _ Q I4 hr4 (x.setD hD ok1) rv (reps_setD hm rs) (dat_hid hr hm DA.sm N) e hQ
      · cases e
abbrev emptyO : Obj := { cls := .type "dict", data := .dict #[] }
theorem empty_ok : DictO emptyO [] [] [] := ⟨⟨rfl, rfl, rfl⟩, #[], 0, rfl, .nil⟩
theorem keysOk_nil : KeysOk [] := ⟨Nat.zero_le _, .inl ⟨[], rfl, List.nodup_nil⟩⟩
theorem sysN {pins : List (Addr × Obj)} {σ : Sl} {H : Hp} {s : Shared} (I : Inv X pins σ H s) : (s.heap.objs.size == sysModules) = false := by
  rw [beq_eq_false_iff_ne]
  exact Nat.ne_of_gt I.big
/-- what a display of pairs comes to: the dict is hidden still -/
theorem disp_run (hu : X.A.units + 64 < cLine) {pos : Pos} {keys : List (Option Expr)} {values : List Expr} {as : AM} (ha : MPs X adr Y pos keys values as) (hall : keys.all (·.isSome) = true) (hl : keys.length = values.length) (h0 : keys ≠ []) (h15 : keys.length ≤ 15) {pins : List (Addr × Obj)} {s : Shared} {σ : Sl} {H : Hp} {T : Tie} {me : Me} {h : MH} {QV : Value → Shared → Prop}
    (I : Inv X pins σ H s) (hr : Hrel (kt X adr) T h H) (hE : Erel (kt X adr) T me σ H) {Q : VK} {k : List W → List W → MH → R W} (q : ResV (kt X adr) Y T H σ ((as me h).bind fun xs h => match putFlat xs [] [] with
      | some (ks, vs) => k ks vs h
      | none => .stuck) Q)
    (fin : ∀ D T2 h2 H2 s2 ks vs o kv vv, H D = none → D ∈ T2.hid → Inv X pins σ H2 s2 → Hrel (kt X adr) T2 h2 H2 → Ex T T2 H H2 → DAt (kt X adr) T2 H2 ks vs D o kv vv → ResV (kt X adr) Y T H σ (k ks vs h2) Q → QV (.ref D) s2) :
    wpAny (model X.prog X.w) X.A (eval (.Dict keys values pos) X.env) QV X.xe s := by
  have hn := pairTrees_length keys values X.env pos hall hl
  have hne : pairTrees keys values X.env pos ≠ [] := fun z => by
    rw [z] at hn
    exact h0 (List.length_eq_zero_iff.mp hn.symm)
  rw [arm_eval_Dict, zip_pairTrees keys values X.env pos hall hl, dictDisplay_pairs _ hne (by rw [hn]; omega)]
  refine wpAny_bind (wpAny_standAt (wpAny_bind ?_))
  unfold subDict
  refine wpAny_bind (wpAny_alloc ?_)
  refine wpAny_bind (wpAny_holding ?_)
  rw [if_pos (by rw [hn]; exact h15)]
  generalize hDe : s.heap.objs.size = D
  have hD : H D = none := by rw [← hDe]; exact I.hok.fresh (Nat.le_refl _)
  have sm : (D == sysModules) = false := by rw [← hDe]; exact sysN I
  have I1 : Inv X pins σ (upd H D (exact emptyO D)) { s with heap := s.heap.push emptyO } := by
    rw [← hDe]
    exact I.laid (t' := s.toks) (fun b u e => Heap.get?_push_of_some _ e) (Nat.le_refl _) (exact_ok (Heap.get?_push_size _ rfl))
  obtain ⟨hr1, x1⟩ := hide_new (o := exact emptyO D) hr hD
  have D1 : DAt (kt X adr) (T.hide D) (upd H D (exact emptyO D)) [] [] D emptyO [] [] := ⟨sm, keysOk_nil, upd_same, empty_ok, .nil, .nil⟩
  refine wpAny_bind (thn (ha.run pins _ σ _ (T.hide D) me h (fun xs H2 => ∃ T2 h2 ws ks vs, Hrel (kt X adr) T2 h2 H2 ∧ Ex (T.hide D) T2 (upd H D (exact emptyO D)) H2 ∧ Reps (kt X adr) T2 H2 ws xs ∧ putFlat ws [] [] = some (ks, vs) ∧ ResV (kt X adr) Y T H σ (k ks vs h2) Q) I1 hr1 (hE.ex x1) ?_) fun prs s2 ⟨xs, H2, I2, rv, T2, h2, ws, ks, vs, hr2, x2, rs, ep, q2⟩ => ?_)
  · generalize as me h = r at q ⊢
    cases r with
    | stuck => exact q.elim
    | exc e h' => exact fun T' H' c d hr' x' xc => q T' H' c d hr' (x1.trans x') xc
    | ok xs h' =>
      intro T' H' v' hr' x' rp'
      have q : ResV (kt X adr) Y T H σ (match putFlat xs [] [] with | some (ks, vs) => k ks vs h' | none => .stuck) Q := q
      cases ep : putFlat xs [] [] with
      | none => rw [ep] at q; exact q.elim
      | some p =>
        obtain ⟨ks, vs⟩ := p
        rw [ep] at q
        exact ⟨T', h', xs, ks, vs, hr', x', rp', ep, q⟩
  · have hm2 : D ∈ T2.hid := x2.hid D List.mem_cons_self
    have D2 : DAt (kt X adr) T2 H2 [] [] D emptyO [] [] := ⟨sm, keysOk_nil, by rw [x2.hidS D List.mem_cons_self]; exact upd_same, empty_ok, .nil, .nil⟩
    refine wpAny_holding ?_
    refine wpAny_bind (put_all hu hD hr.ok hm2 prs ws xs [] [] emptyO [] [] H2 s2 _ I2 hr2 (x1.trans x2) rv rs D2 ep fun H3 s3 o3 kv3 vv3 I3 hr3 x3 D3 => ?_)
    exact wpAny_pure (wpAny_pure (wpAny_pure (fin D T2 h2 H3 s3 ks vs o3 kv3 vv3 hD hm2 I3 hr3 x3 D3 q2)))
end Mi

end
section
namespace Mi
open PySem PySem.Spec PyProof.Rows L2
variable {G : Kt} {X : Cx} {adr : Nat → Addr} {Y : WX}

/-- the hidden thing D becomes a thing of the little heap -/
theorem reveal {T T1 : Tie} {h : MH} {H H1 : Hp} {D : Addr} {o : O} (hr : Hrel G T h H) (x : Ex T1 T H1 H) (ok1 : T1.Ok H1) (hD : H1 D = none) (hm : D ∈ T.hid) (new : (∀ ws vs, Reps G T H ws vs → Reps G ((T.show D).add D) H ws vs) → RepO G ((T.show D).add D) H o D) :
    Hrel G ((T.show D).add D) (h.new o) H ∧ Ex T1 ((T.show D).add D) H1 H ∧ Rep G ((T.show D).add D) H (.ref h.nx) (.ref D) := by
  have ok := hr.ok
  have nx := hr.nx
  have nd : ∀ {m b}, T.ρ m = some b → b ≠ D := fun {m b} e z => ok.hid m b e (by rw [z]; exact hm)
  have hne : H D ≠ none := ok.hidT D hm
  have hρ : ∀ m b, m < T.nx → ((T.show D).add D).ρ m = some b → T.ρ m = some b := fun m b h z => by
    have : m ≠ T.nx := by omega
    simp only [this, if_false] at z
    exact z
  have hf : ∀ b u, H b = some u → Fz T b → Fz ((T.show D).add D) b ∧ H b = some u := fun b u e f => by
    refine ⟨⟨fun m z => ?_, fun z => f.hid (List.mem_filter.mp z).1⟩, e⟩
    by_cases q : m = T.nx
    · simp only [q, if_true] at z
      cases z
      exact f.hid hm
    · simp only [q, if_false] at z
      exact f.own m z
  have sp : ∀ m b, ((T.show D).add D).ρ m = some b → (m = T.nx ∧ b = D) ∨ (m ≠ T.nx ∧ T.ρ m = some b) := fun m b z => by
    by_cases q : m = T.nx
    · simp only [q, if_true] at z
      cases z
      exact .inl ⟨q, rfl⟩
    · simp only [q, if_false] at z
      exact .inr ⟨q, z⟩
  have le : T.nx ≤ ((T.show D).add D).nx := Nat.le_succ _
  have tr : ∀ ws vs, Reps G T H ws vs → Reps G ((T.show D).add D) H ws vs := fun ws vs r => reps_as le hf hρ _ _ r
  refine ⟨⟨⟨fun m b e => ?_, fun m m' b e e' => ?_, fun m b e => ?_, fun m b e z => ?_, fun b e => ok.hidT b (List.mem_filter.mp e).1⟩, by show T.nx + 1 = h.nx + 1; rw [nx], fun m u e => ?_⟩,
    ⟨Nat.le_trans x.nx le, fun m hm' => ?_, fun m b hm' e => ?_, x.fz, x.there, fun a h => List.mem_filter.mpr ⟨x.hid a h, decide_eq_true fun z => ok1.hidT a h (by rw [z]; exact hD)⟩, fun a h => x.hidN a (List.mem_filter.mp h).1, x.hidS⟩, ?_⟩
  · rcases sp m b e with ⟨q, _⟩ | ⟨_, q⟩
    · show m < T.nx + 1; omega
    · have := ok.lt m b q
      show m < T.nx + 1; omega
  · rcases sp m b e with ⟨q, z⟩ | ⟨q, z⟩ <;> rcases sp m' b e' with ⟨q', z'⟩ | ⟨q', z'⟩
    · rw [q, q']
    · exact absurd z (nd z')
    · exact absurd z' (nd z)
    · exact ok.inj m m' b z z'
  · rcases sp m b e with ⟨q, z⟩ | ⟨q, z⟩
    · rw [z]; exact hne
    · exact ok.there m b z
  · rcases sp m b e with ⟨q, z'⟩ | ⟨q, z'⟩
    · rw [z'] at z
      exact of_decide_eq_true (List.mem_filter.mp z).2 rfl
    · exact ok.hid m b z' (List.mem_filter.mp z).1
  · by_cases q : m = h.nx
    · subst q
      rw [get_new_same] at e
      cases e
      exact ⟨D, by simp [nx], new tr⟩
    · rw [get_new_other q] at e
      obtain ⟨a, ea, r⟩ := hr.obj m u e
      refine ⟨a, ?_, r.as le hf hρ fun u e => e⟩
      have q' : m ≠ T.nx := by rw [nx]; exact q
      simp only [q', if_false]
      exact ea
  · have q : m ≠ T.nx := fun z => by have := x.nx; omega
    simp only [q, if_false]
    exact x.old m hm'
  · rcases sp m b e with ⟨q, z⟩ | ⟨q, z⟩
    · rw [z]; exact hD
    · exact x.new m b hm' z
  · unfold Rep
    refine ⟨by rw [← nx]; exact Nat.lt_succ_self _, fun b e => ?_⟩
    rcases sp _ b e with ⟨_, z⟩ | ⟨q, _⟩
    · rw [z]
    · exact absurd nx.symm q
def mDict (as : AM) : EM := fun me h => (as me h).bind fun xs h => match putFlat xs [] [] with
  | some (ks, vs) => .ok (.dct ks vs) h
  | none => .stuck
/-- a dict that will change -/
def mDictB (as : AM) : EM := fun me h => (as me h).bind fun xs h => match putFlat xs [] [] with
  | some (ks, vs) => .ok (.ref h.nx) (h.new (.dct ks vs))
  | none => .stuck
section
variable {pos : Pos} {keys : List (Option Expr)} {values : List Expr} {as : AM}
theorem me_dict (hu : X.A.units + 64 < cLine) (ha : MPs X adr Y pos keys values as) (hall : keys.all (·.isSome) = true) (hl : keys.length = values.length) (h0 : keys ≠ []) (h15 : keys.length ≤ 15) : ME X adr Y (.Dict keys values pos) (mDict as) :=
  ⟨fun pins s σ H Q I ⟨T, me, h, hr, hE, q⟩ => disp_run (k := fun ks vs h => .ok (.dct ks vs) h) hu ha hall hl h0 h15 I hr hE q fun D T2 h2 H2 s2 ks vs o kv vv hD hm I2 hr2 x2 DA q2 => by
    obtain ⟨hr3, x3, fD, hf⟩ := unhide hr2 x2 hr.ok hD hm
    refine ⟨.ref D, H2, I2, rfl, q2 (T2.show D) H2 (.ref D) hr3 x3 ?_⟩
    have le : T2.nx ≤ (T2.show D).nx := Nat.le_refl _
    unfold Rep
    exact ⟨D, o, kv, vv, rfl, fD, DA.sm, DA.ok, DA.at_, DA.d, reps_as le hf (fun _ _ _ e => e) _ _ DA.rk, reps_as le hf (fun _ _ _ e => e) _ _ DA.rv⟩⟩
theorem me_dictB (hu : X.A.units + 64 < cLine) (ha : MPs X adr Y pos keys values as) (hall : keys.all (·.isSome) = true) (hl : keys.length = values.length) (h0 : keys ≠ []) (h15 : keys.length ≤ 15) : ME X adr Y (.Dict keys values pos) (mDictB as) :=
  ⟨fun pins s σ H Q I ⟨T, me, h, hr, hE, q⟩ => disp_run (k := fun ks vs h => .ok (.ref h.nx) (h.new (.dct ks vs))) hu ha hall hl h0 h15 I hr hE q fun D T2 h2 H2 s2 ks vs o kv vv hD hm I2 hr2 x2 DA q2 => by
    obtain ⟨hr3, x3, rp3⟩ := reveal (o := .dct ks vs) hr2 x2 hr.ok hD hm fun f => ⟨o, kv, vv, DA.sm, DA.ok, DA.at_, DA.d, f _ _ DA.rk, f _ _ DA.rv⟩
    exact ⟨.ref D, H2, I2, rfl, q2 _ H2 (.ref D) hr3 x3 rp3⟩⟩
/-- {} -/
def mDict0 : EM := mC (.dct [] [])
def mDict0B : EM := fun _ h => .ok (.ref h.nx) (h.new (.dct [] []))
theorem me_dict0 : ME X adr Y (.Dict [] [] pos) mDict0 := ⟨fun pins s σ H Q I ⟨T, me, h, hr, hE, q⟩ => wpAny_Dict_empty (by
  have hp : H s.heap.objs.size = none := I.hok.fresh (Nat.le_refl _)
  have g : Grow H (upd H s.heap.objs.size (exact emptyO s.heap.objs.size)) := Grow.laid hp
  have x := Ex.grow hr.ok g
  refine ⟨.ref s.heap.objs.size, _, I.laid (t' := s.toks) (fun b u e => Heap.get?_push_of_some _ e) (Nat.le_refl _) (exact_ok (o := emptyO) (Heap.get?_push_size _ rfl)), rfl, q T _ _ (hr.grow g) x ?_⟩
  unfold Rep
  exact ⟨_, emptyO, [], [], rfl, hr.ok.fresh hp, sysN I, keysOk_nil, upd_same, empty_ok, .nil, .nil⟩)⟩
theorem me_dict0B : ME X adr Y (.Dict [] [] pos) mDict0B := ⟨fun pins s σ H Q I ⟨T, me, h, hr, hE, q⟩ => wpAny_Dict_empty (by
  have hp : H s.heap.objs.size = none := I.hok.fresh (Nat.le_refl _)
  obtain ⟨a, b, c⟩ := box_new (ho := exact emptyO s.heap.objs.size) (o := .dct [] []) hr hp fun _ => ⟨emptyO, [], [], sysN I, keysOk_nil, upd_same, empty_ok, .nil, .nil⟩
  exact ⟨.ref s.heap.objs.size, _, I.laid (t' := s.toks) (fun b u e => Heap.get?_push_of_some _ e) (Nat.le_refl _) (exact_ok (o := emptyO) (Heap.get?_push_size _ rfl)), rfl, q _ _ _ a b c⟩)⟩
end
end Mi

end
section
namespace Mi
open PySem PySem.Spec PyProof.Rows L2
variable {G : Kt} {X : Cx} {adr : Nat → Addr} {Y : WX}

/-! ### {k: v for ..}: any keys. The new dict D is told by what the reading says of it -/
/-- storing the pair (y, z) into D: what must hold, and what holds then -/
abbrev PutR := Addr → V → V → Hp → (Hp → Prop) → Prop
def PutOk (X : Cx) (put : PutR) : Prop := ∀ (X' : Cx), X'.prog = X.prog → X'.w = X.w → X'.K = X.K → X'.A = X.A → ∀ (pins : List (Addr × Obj)) (s : Shared) (σ : Sl) (H : Hp) (E : Value → Shared → Prop) (D : Addr) (y z : V) (u r : Value) (Nx : Hp → Prop) (Q : Unit → Shared → Prop),
  Inv X' pins σ H s → RelV y u → RelV z r → put D y z H Nx → (∀ s' H', Inv X' pins σ H' s' → Nx H' → Q () s') → wpAny (model X.prog X.w) X.A (dictSet D u r) Q E s
def tDcm (wi : TI) (g : TG) (tt : TT) (tk tv : TE) (vs : List Nat) (put : PutR) : TE := fun σ H Q => wi σ H fun J H1 => ∀ D, H1 D = none → (D == sysModules) = false → ∃ W : Nat → Nat → Hp → Prop, (∃ m, W 0 m (upd H1 D (exact emptyO D))) ∧ ∀ i m H, W i m H →
  (J.stop i H ∧ Q (.ref D) H) ∨ (J.go i H ∧ ∃ Nx : Hp → Prop, (∀ H', Nx H' → ∃ m', m' < m ∧ W (i + 1) m' H') ∧ ∀ x H', J.yld i H x H' → g x (wipe σ vs) H' fun σ2 H2 => wipe σ2 vs = wipe σ vs ∧ tt σ2 H2 fun b H3 =>
    if b = true then tk σ2 H3 fun y H4 => tv σ2 H4 fun z H5 => put D y z H5 Nx else Nx H3)
theorem dcm_core {kx vx tg iter : Expr} {ifs : List Expr} {scope : Scope} {own : List (Str × Nat)} {pos : Pos} {wi : TI} {g : TG} {tt : TT} {tk tv : TE} {put : PutR} {use : Option (Value → Sem Unit)} {Qf : Value → Shared → Prop} {pins : List (Addr × Obj)} {s : Shared} {σ : Sl} {H : Hp} {Q : VK} {pos' : Pos} (hput : PutOk X put) (hc : X.calm = true) (hN : X.N.Nodup) (hi : PI X tg iter wi) (ok : BlkOk X.N X.env.scope scope own)
    (hg : ∀ (s : Shared) (H : Hp) (C : Addr) (cl : List (Str × Addr)) (fp : List Addr), PG (X.blk s H scope (compEnvC scope cl C X.env) fp) tg g)
    (ht : ∀ (s : Shared) (H : Hp) (C : Addr) (cl : List (Str × Addr)) (fp : List Addr), PTs (X.blk s H scope (compEnvC scope cl C X.env) fp) ifs tt)
    (hk : ∀ (s : Shared) (H : Hp) (C : Addr) (cl : List (Str × Addr)) (fp : List Addr), PE (X.blk s H scope (compEnvC scope cl C X.env) fp) kx tk)
    (hv : ∀ (s : Shared) (H : Hp) (C : Addr) (cl : List (Str × Addr)) (fp : List Addr), PE (X.blk s H scope (compEnvC scope cl C X.env) fp) vx tv) (hs : ∀ x, foldedSetIterable iter X.env x = pure x)
    (I : Inv X pins σ H s) (h : tDcm wi g tt tk tv (own.map (·.2)) put σ H Q)
    (hRR : ∀ D C s' m H', Inv X pins σ H' s' → Q (.ref D) H' → s'.heap.Ns C m → FpOk X pins H' C → compPost (model X.prog X.w) X.A X.xe use Qf (.ref D) C (.ok .next) s') :
    wpAny (model X.prog X.w) X.A (comprehension (.DictComp kx vx [⟨tg, iter, ifs, 0⟩] scope pos) scope X.env pos' newDict false (eval iter X.env) use) Qf X.xe s := by
  have hfree : ∀ y ∈ scope.names, y.2 = .free → ∃ c, X.env.cells.lookup y.1 = some c := fun y hy e => (ok.free y hy e).elim (fun k => I.ok.has _ (.inl k)) fun k => I.ok.has _ (.inr k)
  refine wpAny_comprehension_free (use := use) rfl hs (closure_ok hfree) ok.kind (fun y hy e => by rw [ok.uniq y hy, e]) (thn (hi.run pins s σ H _ I h) fun xv s1 hx => thn hx fun itv s2 ⟨it, fp, tn, J, H2, e, I2, T, st2, f2, q⟩ => ?_)
  subst e
  refine wpAny_newObj_type (newEnv_comp ?_)
  generalize hD : s2.heap.objs.size = D
  have sm : (D == sysModules) = false := by rw [← hD]; exact sysN I2
  have hDn : H2 D = none := I2.hok.fresh (Nat.le_of_eq hD)
  obtain ⟨W, ⟨m0, w0⟩, turn⟩ := q D hDn sm
  -- the new dict
  generalize hs3 : ({ s2 with heap := s2.heap.push emptyO } : Shared) = s3
  have h3 : s3.heap = s2.heap.push emptyO := by rw [← hs3]
  have up : ∀ b o, s2.heap.get? b = some o → s3.heap.get? b = some o := fun b o e => by rw [h3]; exact Heap.get?_push_of_some _ e
  have I3 : Inv X pins σ (upd H2 D (exact emptyO D)) s3 := by
    rw [← hs3, ← hD]
    exact I2.laid (t' := s2.toks) (fun b o e => Heap.get?_push_of_some _ e) (Nat.le_refl _) (exact_ok (o := emptyO) (Heap.get?_push_size _ rfl))
  have f3 : ∀ b ∈ fp, FpOk X pins (upd H2 D (exact emptyO D)) b ∧ b < s3.heap.objs.size := fun b hb => by
    obtain ⟨o, e, _⟩ := T.obj _ _ st2 b hb
    have lt := Heap.lt_size e
    refine ⟨⟨?_, (f2 b hb).2⟩, Heap.lt_size (up b o e)⟩
    rw [upd_ne (by rw [← hD]; exact Nat.ne_of_lt lt)]
    exact (f2 b hb).1
  have st3 : tn 0 s3.heap := T.keep _ _ _ st2 fun b _ o e => up b o e
  have I4 := block_start I3 ok hN f3
  have pg := hg s3 (upd H2 D (exact emptyO D)) s3.heap.objs.size (cellsFrom (s3.heap.objs.size + 1) scope.names (cloFrom X.env.cells scope.names [])) fp
  have pt := ht s3 (upd H2 D (exact emptyO D)) s3.heap.objs.size (cellsFrom (s3.heap.objs.size + 1) scope.names (cloFrom X.env.cells scope.names [])) fp
  have pk := hk s3 (upd H2 D (exact emptyO D)) s3.heap.objs.size (cellsFrom (s3.heap.objs.size + 1) scope.names (cloFrom X.env.cells scope.names [])) fp
  have pe := hv s3 (upd H2 D (exact emptyO D)) s3.heap.objs.size (cellsFrom (s3.heap.objs.size + 1) scope.names (cloFrom X.env.cells scope.names [])) fp
  show codeAny _ _ (.compStart (.DictComp kx vx [⟨tg, iter, ifs, 0⟩] scope pos) 0 (.ref it) (.ref D) (compEnvC scope (cellsFrom (s3.heap.objs.size + 1) scope.names (cloFrom X.env.cells scope.names [])) s3.heap.objs.size X.env)) (compPost (model X.prog X.w) X.A X.xe use Qf (.ref D) s3.heap.objs.size) { s3 with heap := pushCells (s3.heap.push { cls := .type "dict", data := .dict #[] }) scope.names }
  have nfp : ∀ b ∈ fp, (upd H2 D (exact emptyO D)) b = none := fun b hb => (f3 b hb).1.1
  generalize hce : compEnvC scope (cellsFrom (s3.heap.objs.size + 1) scope.names (cloFrom X.env.cells scope.names [])) s3.heap.objs.size X.env = ce at I4 pg pt pk pe ⊢
  have cL : ce.locals = s3.heap.objs.size := by subst hce; rfl
  generalize hH3 : upd H2 D (exact emptyO D) = H3 at I3 I4 pg pt pk pe w0 nfp f3
  generalize hs4 : ({ s3 with heap := pushCells (s3.heap.push { cls := .type "dict", data := .dict #[] }) scope.names } : Shared) = s4 at I4 ⊢
  have st4 : tn 0 s4.heap := T.keep _ _ _ st3 fun b _ o e => by rw [← hs4]; exact pushCells_keeps _ _ _ _ (Heap.get?_push_of_some _ e)
  have stat : ∀ {σ' : Sl} {H' : Hp} {s' : Shared}, Inv (X.blk s3 H3 scope ce fp) [] σ' H' s' → (∀ b ∈ fp, H' b = none) → ∀ b ∈ fp, FpOk (X.blk s3 H3 scope ce fp) [] H' b := fun {σ' H' s'} I' hn b hb =>
    ⟨hn b hb, (I'.ok.exf b hb).1, I'.ok.exfs b hb, .inl hb, fun x c e => (I'.ok.exf b hb).2 x c e, fun p hp => absurd (show p ∈ ([] : List (Addr × Obj)) ++ [] from hp) (by simp)⟩
  refine codeAny_compStart_dict ?loop (T.self X.A 0 _ _ _ st4 ?loop)
  refine compLoop_anyD (fun n s' => ∃ i H', Inv (X.blk s3 H3 scope ce fp) [] (wipe σ (own.map (·.2))) H' s' ∧ tn i s'.heap ∧ (∀ b ∈ fp, H' b = none) ∧ W i n H') ?_ m0 ⟨0, H3, I4, st4, nfp, w0⟩
  rintro n s5 ⟨i, H5, I5, st5, n5, w5⟩
  rcases turn i n H5 w5 with ⟨stop, qq⟩ | ⟨go, Nx, hNx, step⟩
  · refine thnF (T.done (X.blk s3 H3 scope ce fp) rfl rfl rfl hc i [] s5 _ H5 (fun _ _ => False) I5 (stat I5 n5) st5 stop) fun r s6 ⟨hr, I6⟩ => ?_
    subst hr
    have I7 : Inv X pins σ H5 s6 := I3.call' (ch := fp) I6.os I6.base I6.hok I6.bare fun b hb => ⟨(f3 b hb).1.2.2.2.1, (f3 b hb).1.2.1, (f3 b hb).1.2.2.2.2.1, (f3 b hb).1.2.2.2.2.2⟩
    have nC : H5 s3.heap.objs.size = none := by
      have z : H5 ce.locals = none := I6.free
      rwa [cL] at z
    obtain ⟨m, hn, _⟩ := I6.loc
    have hn : s6.heap.Ns ce.locals m := hn
    rw [cL] at hn
    exact hRR D s3.heap.objs.size s6 m H5 I7 qq hn (I3.fpOk (Nat.le_refl _) nC)
  · refine thnF (T.item (X.blk s3 H3 scope ce fp) rfl rfl rfl hc i [] s5 _ H5 (fun _ _ => False) I5 (stat I5 n5) st5 go) fun r s6 ⟨u, hr, h6⟩ => ?_
    subst hr
    refine thnF h6 fun _ s7 ⟨x, H7, I7, r7, y7, st7, n7⟩ => ?_
    refine thnF (pg.run _ s7 _ H7 x u _ (I7.pinned (stat I7 n7) (T.obj _ _ st7)) r7 (step x H7 y7)) fun _ s8 ⟨σ8, H8, I8, hw8, q8⟩ => ?_
    refine thnF (pt.run _ s8 σ8 H8 _ I8 q8) fun b s9 ⟨H9, I9, q9⟩ => ?_
    have fin : ∀ (s' : Shared) (H' : Hp), Inv (X.blk s3 H3 scope ce fp) ([] ++ pinsAt fp s7.heap) σ8 H' s' → Nx H' → ∃ m, m < n ∧ ∃ i H', Inv (X.blk s3 H3 scope ce fp) [] (wipe σ (own.map (·.2))) H' s' ∧ tn i s'.heap ∧ (∀ b ∈ fp, H' b = none) ∧ W i m H' := fun s' H' I' nx => by
      obtain ⟨m', hm, w'⟩ := hNx H' nx
      have pin' : ∀ b ∈ fp, ∀ o, s7.heap.get? b = some o → s'.heap.get? b = some o ∧ H' b = none := fun b hb o e =>
        let z := I'.pin (b, o) (List.mem_append_right _ (List.mem_append_right _ (mem_pinsAt hb e)))
        ⟨z.1, z.2.1⟩
      refine ⟨m', hm, i + 1, H', (I'.unpinned (pins := [])).weak (by rw [← hw8, wipe_length]) (fun j v e => (wipe_some (by rw [← hw8] at e; exact e)).1), T.keep _ _ _ st7 fun b hb o e => (pin' b hb o e).1, fun b hb => ?_, w'⟩
      obtain ⟨o, e, _⟩ := T.obj _ _ st7 b hb
      exact (pin' b hb o e).2
    cases b with
    | false => exact fin s9 H9 I9 (by simpa using q9)
    | true =>
      simp only [if_true] at q9 ⊢
      refine thnF (pk.run _ s9 σ8 H9 _ I9 q9) fun z s10 ⟨yk, H10, I10, r10, q10⟩ => ?_
      refine thnF (pe.run _ s10 σ8 H10 _ I10 q10) fun z2 s11 ⟨yv, H11, I11, r11, nx⟩ => ?_
      exact hput (X.blk s3 H3 scope ce fp) rfl rfl rfl rfl _ s11 σ8 H11 _ D yk yv z z2 Nx _ I11 r10 r11 nx fin
theorem pe_dcm {kx vx tg iter : Expr} {ifs : List Expr} {scope : Scope} {own : List (Str × Nat)} {pos : Pos} {wi : TI} {g : TG} {tt : TT} {tk tv : TE} {put : PutR} (hput : PutOk X put) (hc : X.calm = true) (hN : X.N.Nodup) (hi : PI X tg iter wi) (ok : BlkOk X.N X.env.scope scope own)
    (hg : ∀ (s : Shared) (H : Hp) (C : Addr) (cl : List (Str × Addr)) (fp : List Addr), PG (X.blk s H scope (compEnvC scope cl C X.env) fp) tg g)
    (ht : ∀ (s : Shared) (H : Hp) (C : Addr) (cl : List (Str × Addr)) (fp : List Addr), PTs (X.blk s H scope (compEnvC scope cl C X.env) fp) ifs tt)
    (hk : ∀ (s : Shared) (H : Hp) (C : Addr) (cl : List (Str × Addr)) (fp : List Addr), PE (X.blk s H scope (compEnvC scope cl C X.env) fp) kx tk)
    (hv : ∀ (s : Shared) (H : Hp) (C : Addr) (cl : List (Str × Addr)) (fp : List Addr), PE (X.blk s H scope (compEnvC scope cl C X.env) fp) vx tv) (hs : ∀ x, foldedSetIterable iter X.env x = pure x) :
    PE X (.DictComp kx vx [⟨tg, iter, ifs, 0⟩] scope pos) (tDcm wi g tt tk tv (own.map (·.2)) put) := by
  refine ⟨fun pins s σ H Q I h => ?_⟩
  rw [arm_eval_DictComp]
  refine dcm_core hput hc hN hi ok hg ht hk hv hs I h fun D C s' m H' I' q hn f => ⟨m, hn, fun h'' sb => ?_⟩
  obtain ⟨f0, f1, f2, f3, f4, f5⟩ := f
  exact ⟨.ref D, H', I'.turned (t' := s'.toks) (fun b o hb e => (sb.2 b hb).trans e) f0 f1 f3 f4 f5, rfl, q⟩
/-- name = {k: v for ..}, on one line -/
theorem ps_setDcm {i : Nat} {y : Str} {py spos : Pos} (hy : X.N[i]? = some y) (hyl : X.env.scope.names.lookup y = some .local) {kx vx tg iter : Expr} {ifs : List Expr} {scope : Scope} {own : List (Str × Nat)} {pos : Pos} {wi : TI} {g : TG} {tt : TT} {tk tv : TE} {put : PutR} (hput : PutOk X put) (hc : X.calm = true) (hN : X.N.Nodup) (hi : PI X tg iter wi) (ok : BlkOk X.N X.env.scope scope own)
    (hg : ∀ (s : Shared) (H : Hp) (C : Addr) (cl : List (Str × Addr)) (fp : List Addr), PG (X.blk s H scope (compEnvC scope cl C X.env) fp) tg g)
    (ht : ∀ (s : Shared) (H : Hp) (C : Addr) (cl : List (Str × Addr)) (fp : List Addr), PTs (X.blk s H scope (compEnvC scope cl C X.env) fp) ifs tt)
    (hk : ∀ (s : Shared) (H : Hp) (C : Addr) (cl : List (Str × Addr)) (fp : List Addr), PE (X.blk s H scope (compEnvC scope cl C X.env) fp) kx tk)
    (hv : ∀ (s : Shared) (H : Hp) (C : Addr) (cl : List (Str × Addr)) (fp : List Addr), PE (X.blk s H scope (compEnvC scope cl C X.env) fp) vx tv) (hs : ∀ x, foldedSetIterable iter X.env x = pure x)
    (hsw : swapsWith (.DictComp kx vx [⟨tg, iter, ifs, 0⟩] scope pos) (some (.Name y py)) spos.line X.env = pure true) :
    PS X (.Assign [.Name y py] (.DictComp kx vx [⟨tg, iter, ifs, 0⟩] scope pos) spos) (tAsg (tDcm wi g tt tk tv (own.map (·.2)) put) (gName i)) := by
  refine ⟨fun pins s σ H D I h => ?_⟩
  rw [exec_Assign_Name_used _ _ _ _ hsw]
  refine wpAny_bind (wpAny_standAt (wpAny_bind ?_))
  show wpAny _ X.A (do let _ ← comprehension (.DictComp kx vx [⟨tg, iter, ifs, 0⟩] scope pos) scope X.env (firstIterPos [⟨tg, iter, ifs, 0⟩] pos) newDict false (eval iter X.env) (some (assign (.Name y py) X.env))) _ _ s
  have h : tDcm wi g tt tk tv (own.map (·.2)) put σ H (fun x H1 => gName i x σ H1 D.nx) := h
  refine wpAny_bind (thn (dcm_core (Qf := fun _ s' => SP X pins D .next s') hput hc hN hi ok hg ht hk hv hs I h fun L C s' m H' I' q hn f => ?_) fun _ s' hq => wpAny_pure (wpAny_pure hq))
  show wpAny _ _ (assign (.Name y py) X.env (.ref L)) _ _ _
  refine wpAny_assign_Name (store_ok2 (v := V.ref L) I' hN hy (.inl hyl) rfl (fun s2 I2 ⟨a, sb, ha⟩ => ?_) (.inr hyl))
  obtain ⟨f0, f1, f2, f3, f4, f5⟩ := f
  have haC : C ≠ a := by
    rcases ha with z | z
    · rw [z]; exact f1
    · exact fun e => f4 y a z e.symm
  refine ⟨m, hn.sameBut sb haC, fun h3 sb3 => ?_⟩
  exact ⟨_, H', I2.turned (t' := s2.toks) (fun b o hb e => (sb3.2 b hb).trans e) f0 f1 f3 f4 f5, q⟩
theorem swd_true {kx vx : Expr} {gs : List Comprehension} {scope : Scope} {pos py : Pos} {y : Str} {l : Nat} {env : Env} (hk : env.scope.kind = .function) (hy : env.scope.names.lookup y = some .local) (hl : (py.line == pos.line) = true)
    (ha : (scope.names.any fun (n, k) => n == y && (k == .local || k == .cell)) = false) : swapsWith (.DictComp kx vx gs scope pos) (some (.Name y py)) l env = pure true := by
  have ky : env.kindOf y = some .local := hy
  have hb : env.blockKind = .function := by unfold Env.blockKind; rw [hk]; rfl
  unfold swapsWith
  simp only [hb, ky, ha, Expr.pos, hl]
  rfl
/-- the pairs of a dict comprehension -/
def dcM (g : GM) (t ek ev : EM) (me0 : Me) : List W → List W → List W → MH → R (List W × List W)
  | [], ks, vs, h => .ok (ks, vs) h
  | w :: r, ks, vs, h => match g w me0 with
    | none => .stuck
    | some me => (t me h).nox.bind fun b h => match b with
      | .bl true => (ek me h).nox.bind fun k h => (ev me h).nox.bind fun v h => match fitPut k ks with
        | true => dcM g t ek ev me0 r (dputK k ks) (dputV k v ks vs) h
        | false => .stuck
      | .bl false => dcM g t ek ev me0 r ks vs h
      | _ => .stuck
def mDc (src : AM) (g : GM) (t ek ev : EM) (sl : List Nat) : EM := fun me h => (src me h).bind fun ws h => (dcM g t ek ev (wipeW me sl) ws [] [] h).bind fun p h => .ok (.dct p.1 p.2) h
def putM (G : Kt) : PutR := fun D y z H Nx => ∃ T h ks vs o kv vv k w, Hrel G T h H ∧ D ∈ T.hid ∧ DAt G T H ks vs D o kv vv ∧ fitPut k ks = true ∧ Rep G T H k y ∧ Rep G T H w z ∧ ∀ o' kv' vv', NewD G T H (dputK k ks) (dputV k w ks vs) o' kv' vv' → Nx (upd H D (exact o' D))
theorem putM_ok (hu : X.A.units + 64 < cLine) : PutOk X (putM (kt X adr)) := by
  intro X' e1 e2 e3 e4 pins s σ H E D y z u r Nx Q I ru rr ⟨T, h, ks, vs, o, kv, vv, k, w, hr, hm, DA, ef, rk, rw', nx⟩ hQ
  have ek : kt X adr = kt X' adr := by unfold kt; rw [e1, e2, e3]
  rw [ek] at DA rk rw' nx
  obtain ⟨f1, f2⟩ := fitPut_is ef
  have hu' : X.A.units + 8 < cLine := by omega
  rw [← e1, ← e2]
  exact put_W (A := X.A) hu' I DA f1 f2 rk ru rw' rr (dictSet D u r) (fun κ kl us ki dd hz k => wpAny_dictSet_pairs (hsz := hz) ki dd k) (fun κ xs b eb ki dd hz k => by
    subst eb
    exact wpAny_dictSet_heap (hsz := hz) (show X.A.units + 8 < cLine from hu') ki dd k) fun o' s4 kv' vv' N I4 => hQ s4 _ I4 (nx o' kv' vv' N)
theorem rd_dc {src : AM} {g : GM} {t ek ev : EM} {sl : List Nat} : ∀ σ H Q, rdE (kt X adr) Y (mDc src g t ek ev sl) σ H Q → tDcm (rdI (kt X adr) Y src) (rdG (kt X adr) g sl) (rdT (kt X adr) Y0 t) (rdE (kt X adr) Y0 ek) (rdE (kt X adr) Y0 ev) sl (putM (kt X adr)) σ H Q := by
  intro σ H Q ⟨T, me, h, hr, hE, q⟩
  refine ⟨T, me, h, hr, hE, Res.bind q fun ws h1 _ T1 H1 J hr1 x1 wk q1 D hD sm => ?_⟩
  have hE1 := (hE.ex x1).wipe sl
  obtain ⟨hr2, x2⟩ := hide_new (o := exact emptyO D) hr1 hD
  have D2 : DAt (kt X adr) (T1.hide D) (upd H1 D (exact emptyO D)) [] [] D emptyO [] [] := ⟨sm, keysOk_nil, upd_same, empty_ok, .nil, .nil⟩
  refine ⟨fun i m H => m = ws.length - i ∧ i ≤ ws.length ∧ ∃ T2 h2 ks vs o kv vv, Hrel (kt X adr) T2 h2 H ∧ Ex T1 T2 H1 H ∧ D ∈ T2.hid ∧ DAt (kt X adr) T2 H ks vs D o kv vv ∧
    ResV (kt X adr) Y T1 H1 σ ((dcM g t ek ev (wipeW me sl) (ws.drop i) ks vs h2).bind fun p h => .ok (.dct p.1 p.2) h) Q, ⟨ws.length, by simp, Nat.zero_le _, T1.hide D, h1, [], [], emptyO, [], [], hr2, x2, List.mem_cons_self, D2, by simpa using q1⟩, ?_⟩
  rintro i m H2 ⟨rfl, hi, T2, h2, ks, vs, o, kv, vv, hr2, x2, hm, DA, q2⟩
  cases ed : ws.drop i with
  | nil =>
    have el : i = ws.length := by
      have := congrArg List.length ed
      simp at this
      omega
    subst el
    rw [ed] at q2
    refine .inl ⟨wk.stop T2 H2 hr2.ok x2, ?_⟩
    obtain ⟨hr3, x3, fD, hf⟩ := unhide hr2 x2 hr1.ok hD hm
    refine q2 (T2.show D) H2 (.ref D) hr3 x3 ?_
    have le : T2.nx ≤ (T2.show D).nx := Nat.le_refl _
    unfold Rep
    exact ⟨D, o, kv, vv, rfl, fD, DA.sm, DA.ok, DA.at_, DA.d, reps_as le hf (fun _ _ _ e => e) _ _ DA.rk, reps_as le hf (fun _ _ _ e => e) _ _ DA.rv⟩
  | cons w r =>
    obtain ⟨ew, er, lt'⟩ := drop_cons ed
    rw [ed] at q2
    unfold dcM at q2
    refine .inr ⟨wk.go T2 H2 i hr2.ok x2 lt', fun H => ∃ T2 h2 ks vs o kv vv, Hrel (kt X adr) T2 h2 H ∧ Ex T1 T2 H1 H ∧ D ∈ T2.hid ∧ DAt (kt X adr) T2 H ks vs D o kv vv ∧
      ResV (kt X adr) Y T1 H1 σ ((dcM g t ek ev (wipeW me sl) (ws.drop (i + 1)) ks vs h2).bind fun p h => .ok (.dct p.1 p.2) h) Q, fun H' z => ⟨_, by omega, rfl, lt', z⟩, fun x H3 y => ?_⟩
    obtain ⟨hr3, x3, rpw⟩ := wk.yld T2 H2 i x H3 h2 w hr2 x2 ew y
    have DA3 : DAt (kt X adr) T2 H3 ks vs D o kv vv := ⟨DA.sm, DA.ok, by rw [x3.hidS D hm]; exact DA.at_, DA.d, reps_ex x3 _ _ DA.rk, reps_ex x3 _ _ DA.rv⟩
    cases eg : g w (wipeW me sl) with
    | none => rw [eg] at q2; exact q2.elim
    | some me3 =>
      rw [eg] at q2
      dsimp only at q2
      rw [R.bind_bind] at q2
      obtain ⟨b, h4, et, q3⟩ := nox_cases q2
      have x13 := x2.trans x3
      refine ⟨T2, wipeW me sl, h2, w, hr3, hE1.ex x13, rpw, me3, eg, fun σ4 e4 w4 => ⟨?_, T2, me3, h2, hr3, e4, ?_⟩⟩
      · rw [w4]
        apply List.ext_getElem?
        intro j
        rw [wipe_get, wipe_get, wipe_length]
        by_cases z : j ∈ sl ∧ j < σ.length
        · rw [if_pos z, if_pos z]
        · rw [if_neg z, if_neg z]
      · rw [et]
        cases b with
        | bl k =>
          intro T5 H5 k' hr5 x5 rk
          cases rk
          have hm5 : D ∈ T5.hid := x5.hid D hm
          have DA5 : DAt (kt X adr) T5 H5 ks vs D o kv vv := ⟨DA.sm, DA.ok, by rw [x5.hidS D hm]; exact DA3.at_, DA.d, reps_ex x5 _ _ DA3.rk, reps_ex x5 _ _ DA3.rv⟩
          cases k with
          | false =>
            rw [if_neg Bool.false_ne_true]
            exact ⟨T5, h4, ks, vs, o, kv, vv, hr5, x13.trans x5, hm5, DA5, by rw [er]; exact q3⟩
          | true =>
            rw [if_pos rfl]
            dsimp only at q3
            rw [R.bind_bind] at q3
            obtain ⟨kw, h6, ee, q4⟩ := nox_cases q3
            refine ⟨T5, me3, h4, hr5, e4.ex x5, ?_⟩
            rw [ee]
            intro T7 H7 v7 hr7 x7 rp7
            have hm7 : D ∈ T7.hid := x7.hid D hm5
            have DA7 : DAt (kt X adr) T7 H7 ks vs D o kv vv := ⟨DA.sm, DA.ok, by rw [x7.hidS D hm5]; exact DA5.at_, DA.d, reps_ex x7 _ _ DA5.rk, reps_ex x7 _ _ DA5.rv⟩
            rw [R.bind_bind] at q4
            obtain ⟨vw, h8, ef, q5⟩ := nox_cases q4
            refine ⟨T7, me3, h6, hr7, (e4.ex x5).ex x7, ?_⟩
            rw [ef]
            intro T9 H9 v9 hr9 x9 rp9
            have hm9 : D ∈ T9.hid := x9.hid D hm7
            have DA9 : DAt (kt X adr) T9 H9 ks vs D o kv vv := ⟨DA.sm, DA.ok, by rw [x9.hidS D hm7]; exact DA7.at_, DA.d, reps_ex x9 _ _ DA7.rk, reps_ex x9 _ _ DA7.rv⟩
            have x19 := ((x13.trans x5).trans x7).trans x9
            cases fp : fitPut kw ks with
            | false => rw [fp] at q5; exact q5.elim
            | true =>
              rw [fp] at q5
              refine ⟨T9, h8, ks, vs, o, kv, vv, kw, vw, hr9, hm9, DA9, fp, rep_ex x9 _ _ rp7, rp9, fun o' kv' vv' N => ?_⟩
              obtain ⟨hr10, _⟩ := hid_set (o := exact o' D) hr9 hm9
              exact ⟨T9, h8, _, _, o', kv', vv', hr10, x19.setD hD hr1.ok, hm9, dat_hid hr9 hm9 DA.sm N, by rw [er]; exact q5⟩
        | _ => exact q3.elim
theorem me_dc {kx vx tg iter : Expr} {ifs : List Expr} {scope : Scope} {own : List (Str × Nat)} {pos : Pos} {src : AM} {g : GM} {t ek ev : EM} {sl : List Nat} (hu : X.A.units + 64 < cLine) (hc : X.calm = true) (hN : X.N.Nodup) (hi : MI X adr Y tg iter src) (ok : BlkOk X.N X.env.scope scope own) (hsl : sl = own.map (·.2))
    (hg : ∀ (s : Shared) (H : Hp) (C : Addr) (cl : List (Str × Addr)) (fp : List Addr), MG (X.blk s H scope (compEnvC scope cl C X.env) fp) adr tg g sl) (ht : ∀ (s : Shared) (H : Hp) (C : Addr) (cl : List (Str × Addr)) (fp : List Addr), MTs (X.blk s H scope (compEnvC scope cl C X.env) fp) adr Y0 ifs t)
    (hk : ∀ (s : Shared) (H : Hp) (C : Addr) (cl : List (Str × Addr)) (fp : List Addr), ME (X.blk s H scope (compEnvC scope cl C X.env) fp) adr Y0 kx ek) (hv : ∀ (s : Shared) (H : Hp) (C : Addr) (cl : List (Str × Addr)) (fp : List Addr), ME (X.blk s H scope (compEnvC scope cl C X.env) fp) adr Y0 vx ev)
    (hs : ∀ x, foldedSetIterable iter X.env x = pure x) :
    ME X adr Y (.DictComp kx vx [⟨tg, iter, ifs, 0⟩] scope pos) (mDc src g t ek ev sl) := by
  subst hsl
  exact pe_imp (pe_dcm (g := rdG (kt X adr) g (own.map (fun x : Str × Nat => x.2))) (tt := rdT (kt X adr) Y0 t) (tk := rdE (kt X adr) Y0 ek) (tv := rdE (kt X adr) Y0 ev) (putM_ok (adr := adr) hu) hc hN hi ok hg ht hk hv hs) rd_dc
theorem ms_setDc {i : Nat} {y : Str} {py spos : Pos} (hy : X.N[i]? = some y) (hyl : X.env.scope.names.lookup y = some .local) {kx vx tg iter : Expr} {ifs : List Expr} {scope : Scope} {own : List (Str × Nat)} {pos : Pos} {src : AM} {g : GM} {t ek ev : EM} {sl : List Nat} (hu : X.A.units + 64 < cLine) (hc : X.calm = true) (hN : X.N.Nodup) (hi : MI X adr Y tg iter src) (ok : BlkOk X.N X.env.scope scope own) (hsl : sl = own.map (·.2))
    (hg : ∀ (s : Shared) (H : Hp) (C : Addr) (cl : List (Str × Addr)) (fp : List Addr), MG (X.blk s H scope (compEnvC scope cl C X.env) fp) adr tg g sl) (ht : ∀ (s : Shared) (H : Hp) (C : Addr) (cl : List (Str × Addr)) (fp : List Addr), MTs (X.blk s H scope (compEnvC scope cl C X.env) fp) adr Y0 ifs t)
    (hk : ∀ (s : Shared) (H : Hp) (C : Addr) (cl : List (Str × Addr)) (fp : List Addr), ME (X.blk s H scope (compEnvC scope cl C X.env) fp) adr Y0 kx ek) (hv : ∀ (s : Shared) (H : Hp) (C : Addr) (cl : List (Str × Addr)) (fp : List Addr), ME (X.blk s H scope (compEnvC scope cl C X.env) fp) adr Y0 vx ev)
    (hs : ∀ x, foldedSetIterable iter X.env x = pure x)
    (hsw : swapsWith (.DictComp kx vx [⟨tg, iter, ifs, 0⟩] scope pos) (some (.Name y py)) spos.line X.env = pure true) :
    MS X adr Y (.Assign [.Name y py] (.DictComp kx vx [⟨tg, iter, ifs, 0⟩] scope pos) spos) (sSet i (mDc src g t ek ev sl)) := by
  subst hsl
  exact ps_imp (ps_setDcm (g := rdG (kt X adr) g (own.map (fun x : Str × Nat => x.2))) (tt := rdT (kt X adr) Y0 t) (tk := rdE (kt X adr) Y0 ek) (tv := rdE (kt X adr) Y0 ev) hy hyl (putM_ok (adr := adr) hu) hc hN hi ok hg ht hk hv hs hsw) fun D σ H ⟨T, me, h, hr, hE, q⟩ => rd_dc (adr := adr) (Y := Y) σ H _ ⟨T, me, h, hr, hE, ResS.bindE hE q fun w h1 _ T1 H1 v hr1 x1 rp e1 q1 => q1 T1 H1 _ hr1 (Ex.rfl' hr1.ok) (e1.put rp)⟩
end Mi

end
section
namespace Mi
open PySem PySem.Spec PyProof.Rows L2
variable {G : Kt} {X : Cx} {adr : Nat → Addr} {Y : WX}

/-! ### o.m(..), o of a built-in type -/
abbrev FMe := W → List W → MH → R W
def rM (G : Kt) (F : FMe) : V → List V → Hp → VK → Prop := fun x xs H Q => ∃ T h w ws w' h', Hrel G T h H ∧ Rep G T H w x ∧ Reps G T H ws xs ∧ F w ws h = .ok w' h' ∧ ∀ T' H' v, Hrel G T' h' H' → Ex T T' H H' → Rep G T' H' w' v → Q v H'
def TyW (X : Cx) (adr : Nat → Addr) (T : String) (isT : W → MH → Bool) : Prop := ∀ (pins : List (Addr × Obj)) (σ : Sl) (H : Hp) (s : Shared) (T0 : Tie) (h : MH) (w : W) (x : V) (v : Value), Inv X pins σ H s → Hrel (kt X adr) T0 h H → Rep (kt X adr) T0 H w x → RelV x v → isT w h = true → s.TypeIs v T ∧ ∀ a, v = .ref a → ∃ ob, s.heap.get? a = some ob ∧ ob.dict = none
def mMeth (isT : W → MH → Bool) (F : FMe) (mo : EM) (as : AM) : EM := fun me h => (mo me h).bind fun w h => match isT w h with
  | true => (as me h).bind fun xs h => match F w xs h with
    | .ok z h => .ok z h
    | _ => .stuck
  | false => .stuck
section
variable {o e : Expr} {es : List Expr} {mo : EM} {as : AM} {name : Str} {apos cpos : Pos} {T id : String} {isT : W → MH → Bool} {F : FMe}
theorem me_bm (pa : PlainAttrs T) (slot : Slot T name id) (hty : typeOf (.builtin id) = pure (.type "method_descriptor")) (hm : MtR X id (rM (kt X adr) F)) (ty : TyW X adr T isT) (ho : ME X adr Y o mo) (ha : MA X adr Y (e :: es) as)
    (hbase : attributeBase o name X.env (eval o X.env) = eval o X.env := by rfl)
    (hfew : ((backTo cpos (starEach (e :: es) X.env)).all (fun x => !x.1) && (backToKw cpos (keywordEach [] X.env)).all (fun x => x.1.isSome)
      && decide ((e :: es).length + ([] : List Keyword).length + (if ([] : List Keyword).isEmpty then 0 else 1) < 30)) = true := by rfl)
    (hline : (apos.endLine == cpos.line) = true := by rfl) (hs : starEach (e :: es) X.env = (false, eval e X.env) :: starEach es X.env := by rfl) (hplain : (backTo cpos (starEach es X.env)).any (·.1) = false := by rfl) :
    ME X adr Y (.Call (.Attribute o name apos) (e :: es) [] cpos) (mMeth isT F mo as) := by
  refine ⟨fun pins s σ H Q I ⟨T0, me, h, hr, hE, q⟩ => ?_⟩
  refine wpAny_Call_method_late hbase hfew hline rfl (thn (ho.run pins s σ H (fun x H1 => ∃ T1 h1 w1, Hrel (kt X adr) T1 h1 H1 ∧ Erel (kt X adr) T1 me σ H1 ∧ Rep (kt X adr) T1 H1 w1 x ∧ isT w1 h1 = true ∧ ResV (kt X adr) Y T1 H1 σ ((as me h1).bind fun xs h => match F w1 xs h with
    | .ok z h => .ok z h
    | _ => .stuck) Q) I ⟨T0, me, h, hr, hE, Res.bind q fun w1 h1 _ T1 H1 v1 hr1 x1 rp1 q1 => ?_⟩) fun v s1 ⟨x, H1, I1, r1, T1, h1, w1, hr1, hE1, rp1, et, q1⟩ => ?_)
  · cases et : isT w1 h1 with
    | false => rw [et] at q1; exact q1.elim
    | true => rw [et] at q1; exact ⟨T1, h1, w1, hr1, hE.ex x1, rp1, et, q1⟩
  · obtain ⟨t1, t2⟩ := ty pins σ H1 s1 T1 h1 w1 x v I1 hr1 rp1 r1 et
    refine ⟨T, id, pa, slot, hty, t1, t2, ?_⟩
    have hA := ha.run cpos pins s1 σ H1 (fun xs H2 => rM (kt X adr) F x xs H2 Q) I1 ⟨T1, me, h1, hr1, hE1, Res.bind q1 fun xs h2 _ T2 H2 vs hr2 x2 rp2 q2 => by
      cases ef : F w1 xs h2 with
      | ok z h3 => rw [ef] at q2; exact ⟨T2, h2, w1, xs, z, h3, hr2, rep_ex x2 _ _ rp1, rp2, ef, q2⟩
      | exc _ _ => rw [ef] at q2; exact q2.elim
      | stuck => rw [ef] at q2; exact q2.elim⟩
    rw [hs] at hA ⊢
    refine Calls.callWith_builtin (by show (false || (backTo cpos (starEach es X.env)).any (·.1)) = false; rw [hplain] <;> rfl) (Calls.evalArgs_plain ?_)
    exact thn hA fun us s2 ⟨vs, H2, I2, r2, q2⟩ => hm pins s2 σ H2 x vs v us Q I2 r1 r2 q2
theorem me_bm0 (pa : PlainAttrs T) (slot : Slot T name id) (hty : typeOf (.builtin id) = pure (.type "method_descriptor")) (hm : MtR X id (rM (kt X adr) F)) (ty : TyW X adr T isT) (ho : ME X adr Y o mo)
    (hbase : attributeBase o name X.env (eval o X.env) = eval o X.env := by rfl) (hline : (apos.endLine == cpos.line) = true := by rfl) : ME X adr Y (.Call (.Attribute o name apos) [] [] cpos) (mMeth isT F mo mNil) := by
  refine ⟨fun pins s σ H Q I ⟨T0, me, h, hr, hE, q⟩ => ?_⟩
  refine wpAny_Call_method0_late hbase hline (thn (ho.run pins s σ H (fun x H1 => ∃ T1 h1 w1, Hrel (kt X adr) T1 h1 H1 ∧ Rep (kt X adr) T1 H1 w1 x ∧ isT w1 h1 = true ∧ rM (kt X adr) F x [] H1 Q) I ⟨T0, me, h, hr, hE, Res.bind q fun w1 h1 _ T1 H1 v1 hr1 x1 rp1 q1 => ?_⟩) fun v s1 ⟨x, H1, I1, r1, T1, h1, w1, hr1, rp1, et, q1⟩ => ?_)
  · cases et : isT w1 h1 with
    | false => rw [et] at q1; exact q1.elim
    | true =>
      rw [et] at q1
      refine ⟨T1, h1, w1, hr1, rp1, et, ?_⟩
      cases ef : F w1 [] h1 with
      | ok z h3 =>
        have q2 : ResV (kt X adr) Y T1 H1 σ (match F w1 [] h1 with | .ok z h => .ok z h | _ => .stuck) Q := q1
        rw [ef] at q2
        exact ⟨T1, h1, w1, [], z, h3, hr1, rp1, Reps.nil, ef, q2⟩
      | exc _ _ =>
        have q2 : ResV (kt X adr) Y T1 H1 σ (match F w1 [] h1 with | .ok z h => .ok z h | _ => .stuck) Q := q1
        rw [ef] at q2; exact q2.elim
      | stuck =>
        have q2 : ResV (kt X adr) Y T1 H1 σ (match F w1 [] h1 with | .ok z h => .ok z h | _ => .stuck) Q := q1
        rw [ef] at q2; exact q2.elim
  · obtain ⟨t1, t2⟩ := ty pins σ H1 s1 T1 h1 w1 x v I1 hr1 rp1 r1 et
    exact ⟨T, id, pa, slot, hty, t1, t2, Calls.callWith_builtin rfl (PySem.evalArgs_none (hm pins s1 σ H1 x [] v [] Q I1 r1 .nil q1))⟩
end
/-! ### the types -/
def isL (w : W) (h : MH) : Bool := match lstOf w h with
  | some _ => true
  | none => false
theorem ty_list : TyW X adr "list" isL := by
  intro pins σ H s T0 h w x v I hr rp ru e
  unfold isL at e
  split at e
  · rename_i ws el
    obtain ⟨a, vs, rfl, q, r⟩ := lst_at hr rp el
    obtain rfl : v = .ref a := ru
    obtain ⟨_, its, n, rv, p⟩ := I.hok _ _ q
    exact ⟨⟨_, p, rfl⟩, fun b eb => by cases eb; exact ⟨_, p, rfl⟩⟩
  · cases e
def isD (w : W) (h : MH) : Bool := match dctOf w h with
  | some _ => true
  | none => false
theorem ty_dict : TyW X adr "dict" isD := by
  intro pins σ H s T0 h w x v I hr rp ru e
  unfold isD at e
  split at e
  · rename_i p el
    obtain ⟨ks, vs⟩ := p
    obtain ⟨a, o, kv, vv, rfl, D⟩ := dct_at hr rp el
    obtain rfl : v = .ref a := ru
    have ea := exact_at I.hok D.at_
    exact ⟨⟨o, ea, D.d.1.1⟩, fun b eb => by cases eb; exact ⟨o, ea, D.d.1.2.1⟩⟩
  · cases e
def isS (w : W) (_ : MH) : Bool := match w with
  | .str _ => true
  | _ => false
theorem ty_str : TyW X adr "str" isS := by
  intro pins σ H s T0 h w x v I hr rp ru e
  unfold isS at e
  split at e
  · rw [rep_str rp] at ru
    obtain ⟨t, rfl⟩ := ru
    exact ⟨typeIs_str s _ t, fun b eb => nomatch eb⟩
  · cases e
/-! ### a list that changes -/
def boxL (w : W) (h : MH) : Option (Nat × List W) := match w with
  | .ref n => match h.get n with
    | some (.lst ws) => some (n, ws)
    | _ => none
  | _ => none
theorem box_at {T : Tie} {h : MH} {H : Hp} {w : W} {v : V} {n : Nat} {ws : List W} (hr : Hrel G T h H) (rp : Rep G T H w v) (e : boxL w h = some (n, ws)) : ∃ a vs, v = .ref a ∧ T.ρ n = some a ∧ h.get n = some (.lst ws) ∧ H a = some (.lst vs) ∧ Reps G T H ws vs := by
  unfold boxL at e
  split at e
  · split at e
    · rename_i e2
      cases e
      obtain ⟨a, ea, vs, q, r⟩ := hr.obj _ _ e2
      unfold Rep at rp
      exact ⟨a, vs, rp.2 a ea, ea, e2, q, r⟩
    · cases e
  · cases e
theorem box_lst {T : Tie} {h : MH} {H : Hp} {n : Nat} {a : Addr} {ws ws' : List W} {vs : List V} (hr : Hrel G T h H) (e : h.get n = some (.lst ws)) (ea : T.ρ n = some a) (r : Reps G T H ws' vs) : Hrel G T (h.set n (.lst ws')) (upd H a (.lst vs)) ∧ Ex T T H (upd H a (.lst vs)) :=
  box_set hr e ea ⟨vs, upd_same, reps_upd hr.ok ea r⟩
def fAppend : FMe := fun w xs h => match xs with
  | [y] => match boxL w h with
    | some (n, ws) => match Nat.blt ws.length 16777216 with
      | true => .ok .non (h.set n (.lst (ws ++ [y])))
      | false => .stuck
    | none => .stuck
  | _ => .stuck
theorem mt_appendW : MtR X "list.append" (rM (kt X adr) fAppend) := by
  intro pins s σ H x xs v us Q I rx rxs ⟨T, h, w, ws, w', h', hr, rp, rs, e, q⟩
  unfold fAppend at e
  split at e
  · split at e
    · rename_i n zs eb
      split at e
      · rename_i lt
        cases e
        obtain ⟨y', rfl, ry⟩ := reps1 rs
        obtain ⟨a, vs, rfl, ea, eg, qa, r⟩ := box_at hr rp eb
        have l := blt lt
        obtain ⟨b1, b2⟩ := box_lst hr eg ea (r.append (.cons ry .nil))
        exact mt_append pins s σ H _ _ v us Q I rx rxs ⟨a, vs, y', rfl, rfl, qa, by rw [← r.length, sizeLine_eq]; exact l, q T _ _ b1 b2 (by unfold Rep; rfl)⟩
      · cases e
    · cases e
  · cases e
/-- a list is extended by a tuple, however that stands -/
theorem ext_tup (l : Addr) (items : Array Value) (n : Nat) (b : Addr) (items2 : Array Value) (n2 : Nat) (dct : Option Addr) (sl : Array (Option Value)) (hs0 : ¬(!items.isEmpty && Builtin.List.listTooLong (items.size + items2.size)) = true) (hs1 : items.size ≤ sizeLine) (hs2 : items.size + items2.size ≤ sizeLine + 1) :
    Meets (Builtin.«list.extend» ⟨[.ref l, .ref b], []⟩) (fun _ R s => s.heap.get? l = some { cls := .type "list", dict := none, data := .seq items n, slots := #[] } ∧ s.heap.get? b = some { cls := .type "tuple", dict := dct, data := .seq items2 n2, slots := sl } ∧
      R (.ok (.ret Value.none)) { s with heap := s.heap.update l (Obj.mapSeq fun x => x ++ items2), toks := s.toks }) :=
  .of_wp fun prog w A R s h => by
    obtain ⟨hp, g, d, tk, os⟩ := s
    obtain ⟨hl, hb, h⟩ := h
    have f1 := AutoSeq1.idx_int
    have f2 := AutoSeq1.sub_tuple_tuple
    have f3 := AutoSeq1.sub_list_list
    have f4 := AutoSeq1.sub_tuple_list
    have f5 := AutoSeq1.sub_list_tuple
    have hz' : (items ++ items2).size ≤ sizeLine + 1 := by rw [Array.size_append]; exact hs2
    wp_walk using (wpAny_updateSeq hl rfl (hz := hs1) (_hz' := hz')), AutoSeq1.wpAny_loadPart' hl, AutoSeq1.wpAny_loadPart' hb
    exact ⟨_, rfl, h⟩
theorem mt_extT : MtR X "list.extend" (fun x xs H Q => ∃ l b us zs, x = .ref l ∧ xs = [.ref b] ∧ H l = some (.lst us) ∧ H b = some (.tup zs) ∧ us.length + zs.length ≤ sizeLine ∧ Q .non (upd H l (.lst (us ++ zs)))) := by
  intro pins s σ H x vs v us Q I rx rv h
  obtain ⟨l, b, xs, zs, rfl, rfl, hH, hB, hz, q⟩ := h
  cases rx
  obtain ⟨u, rfl, ru⟩ := rv.one
  cases ru
  obtain ⟨z, its, n, r, hl, e⟩ := I.lstM hH
  obtain ⟨_, its2, r2, o, e2, c2, n2, d2⟩ := I.hok b _ hB
  obtain ⟨c, dct, dat, sl⟩ := o
  replace c2 : c = .type "tuple" := c2
  replace d2 : dat = .seq its2.toArray n2 := d2
  subst c2 d2
  have l2 := r2.length
  have hsz : its.toArray.size + its2.toArray.size ≤ sizeLine := by rw [List.size_toArray, List.size_toArray]; omega
  have hlong : ¬ (!its.toArray.isEmpty && Builtin.List.listTooLong (its.toArray.size + its2.toArray.size)) = true := by
    rw [notLongL hsz, Bool.and_false]
    exact Bool.false_ne_true
  refine call_meets F.slot_list_extend ⟨_, e, rfl⟩ F.entry_list_extend (F.args_list_extend_2 _ _) (ext_tup l its.toArray n b its2.toArray n2 dct sl hlong (by rw [List.size_toArray]; omega) (by omega)) ⟨e, e2, ?_⟩
  refine ⟨.non, _, I.lset (its' := its ++ its2) hH e (by simp) (r.append r2) ?_, rfl, q⟩
  rw [List.length_append]
  omega
def fExtend : FMe := fun w xs h => match xs with
  | [y] => match boxL w h with
    | some (n, ws) => match y with
      | .tup zs => match lenLe (ws.length + zs.length) with
        | true => .ok .non (h.set n (.lst (ws ++ zs)))
        | false => .stuck
      | y => match lstOf y h with
        | some zs => match lenLe (ws.length + zs.length) with
          | true => .ok .non (h.set n (.lst (ws ++ zs)))
          | false => .stuck
        | none => .stuck
    | none => .stuck
  | _ => .stuck
theorem mt_extendW : MtR X "list.extend" (rM (kt X adr) fExtend) := by
  intro pins s σ H x xs v us Q I rx rxs ⟨T, h, w, ws, w', h', hr, rp, rs, e, q⟩
  unfold fExtend at e
  split at e
  · split at e
    · rename_i n zs eb
      split at e
      · split at e
        · rename_i lt
          cases e
          obtain ⟨y', rfl, ry⟩ := reps1 rs
          obtain ⟨a, vs, rfl, ea, eg, qa, r⟩ := box_at hr rp eb
          obtain ⟨b, vs2, rfl, qb, r2⟩ := tup_at ry
          obtain ⟨b1, b2⟩ := box_lst hr eg ea (r.append r2)
          exact mt_extT pins s σ H _ _ v us Q I rx rxs ⟨a, b, vs, vs2, rfl, rfl, qa, qb, by rw [← r.length, ← r2.length]; exact lenLe_iff lt, q T _ _ b1 b2 (by unfold Rep; rfl)⟩
        · cases e
      · split at e
        · rename_i ys ey
          split at e
          · rename_i lt
            cases e
            obtain ⟨y', rfl, ry⟩ := reps1 rs
            obtain ⟨a, vs, rfl, ea, eg, qa, r⟩ := box_at hr rp eb
            obtain ⟨b, vs2, rfl, qb, r2⟩ := lst_at hr ry ey
            obtain ⟨b1, b2⟩ := box_lst hr eg ea (r.append r2)
            exact mt_extend pins s σ H _ _ v us Q I rx rxs ⟨a, b, vs, vs2, rfl, rfl, qa, qb, by rw [← r.length, ← r2.length]; exact lenLe_iff lt, q T _ _ b1 b2 (by unfold Rep; rfl)⟩
          · cases e
        · cases e
    · cases e
  · cases e
def lastD : List W → List W → Option (W × List W)
  | [], _ => none
  | [x], acc => some (x, acc.reverse)
  | x :: r, acc => lastD r (x :: acc)
def fPop : FMe := fun w xs h => match xs with
  | [] => match boxL w h with
    | some (n, ws) => match ws[ws.length - 1]? with
      | some y => .ok y (h.set n (.lst ws.dropLast))
      | none => .stuck
    | none => .stuck
  | [.int i] => match boxL w h with
    | some (n, ws) => match fit62 i with
      | true => match ixN ws.length i with
        | some k => match ws[k]? with
          | some y => .ok y (h.set n (.lst (ws.eraseIdx k)))
          | none => .stuck
        | none => .stuck
      | false => .stuck
    | none => .stuck
  | _ => .stuck
theorem reps_erase {T : Tie} {H : Hp} : ∀ {ws : List W} {vs : List V} (k : Nat), Reps G T H ws vs → Reps G T H (ws.eraseIdx k) (vs.eraseIdx k)
  | [], vs, k, r => by unfold Reps at r; subst r; simpa using Reps.nil
  | x :: ws, vs, 0, r => by
    unfold Reps at r
    obtain ⟨v, s, rfl, h, r⟩ := r
    exact r
  | x :: ws, vs, k + 1, r => by
    unfold Reps at r
    obtain ⟨v, s, rfl, h, r⟩ := r
    exact .cons h (reps_erase k r)
theorem reps_dropLast {T : Tie} {H : Hp} : ∀ {ws : List W} {vs : List V}, Reps G T H ws vs → Reps G T H ws.dropLast vs.dropLast
  | [], vs, r => by unfold Reps at r; subst r; exact Reps.nil
  | [x], vs, r => by
    unfold Reps at r
    obtain ⟨v, s, rfl, h, r⟩ := r
    unfold Reps at r
    subst r
    exact Reps.nil
  | x :: y :: ws, vs, r => by
    unfold Reps at r
    obtain ⟨v, s, rfl, h, r⟩ := r
    have r0 := r
    unfold Reps at r
    obtain ⟨v2, s2, rfl, h2, r⟩ := r
    exact .cons h (reps_dropLast r0)
theorem mt_popW : MtR X "list.pop" (rM (kt X adr) fPop) := by
  intro pins s σ H x xs v us Q I rx rxs ⟨T, h, w, ws, w', h', hr, rp, rs, e, q⟩
  unfold fPop at e
  split at e
  · split at e
    · rename_i n zs eb
      split at e
      · rename_i y ey
        cases e
        obtain ⟨a, vs, rfl, ea, eg, qa, r⟩ := box_at hr rp eb
        unfold Reps at rs
        subst rs
        obtain ⟨z, ez, rz⟩ := r.get ey
        obtain ⟨b1, b2⟩ := box_lst hr eg ea (reps_dropLast r)
        exact mt_pop pins s σ H _ _ v us Q I rx rxs ⟨a, vs, z, rfl, rfl, qa, by rw [← r.length]; exact ez, q T _ _ b1 b2 (rep_ex b2 _ _ rz)⟩
      · cases e
    · cases e
  · rename_i i
    split at e
    · rename_i n zs eb
      split at e
      · rename_i ef
        split at e
        · rename_i k ek
          split at e
          · rename_i y ey
            cases e
            obtain ⟨a, vs, rfl, ea, eg, qa, r⟩ := box_at hr rp eb
            obtain rfl := reps_int1 rs
            obtain ⟨z, ez, rz⟩ := r.get ey
            obtain ⟨b1, b2⟩ := box_lst hr eg ea (reps_erase k r)
            have f := fit62_iff ef
            exact mt_popAt pins s σ H _ _ v us Q I rx rxs ⟨a, vs, i, k, z, rfl, rfl, qa, by omega, by omega, by rw [← r.length]; exact (ixN_seq ek).1, ez, q T _ _ b1 b2 (rep_ex b2 _ _ rz)⟩
          · cases e
        · cases e
      · cases e
    · cases e
  · cases e
/-! ### l.index(x) -/
def idxW (f : W → W → Option Bool) (x : W) : List W → Nat → Option Nat
  | [], _ => none
  | y :: r, i => match f y x with
    | some true => some i
    | some false => idxW f x r (i + 1)
    | none => none
def fIndex : FMe := fun w xs h => match xs with
  | [y] => match lstOf w h with
    | some ws => match winL (weq 30) y ws with
      | some _ => match lenLe ws.length with
        | true => match idxW (weq 30) y ws 0 with
          | some i => .ok (.int i) h
          | none => .stuck
        | false => .stuck
      | none => .stuck
    | none => .stuck
  | _ => .stuck
theorem idxW_is {f : W → W → Option Bool} {x : W} : ∀ {ws : List W} {i j : Nat}, idxW f x ws i = some j → ∃ k y, j = i + k ∧ ws[k]? = some y ∧ f y x = some true ∧ ∀ m z, m < k → ws[m]? = some z → f z x = some false
  | [], i, j, h => by cases h
  | y :: r, i, j, h => by
    unfold idxW at h
    split at h
    · rename_i e
      cases h
      exact ⟨0, y, rfl, rfl, e, fun m z hm => absurd hm (Nat.not_lt_zero m)⟩
    · rename_i e
      obtain ⟨k, z, e1, e2, e3, e4⟩ := idxW_is h
      refine ⟨k + 1, z, by omega, by simpa using e2, e3, fun m u hm hu => ?_⟩
      cases m with
      | zero => simp at hu; subst hu; exact e
      | succ m => exact e4 m u (by omega) (by simpa using hu)
    · cases h
theorem mt_indexW (hu : X.A.units + 64 < cLine) : MtR X "list.index" (rM (kt X adr) fIndex) := by
  intro pins s σ H x xs v us Q I rx rxs ⟨T, h, w, ws, w', h', hr, rp, rs, e, q⟩
  have hu2 : X.A.in1.units + 30 < cLine := by show X.A.units + 1 + 30 < cLine; omega
  unfold fIndex at e
  split at e
  · rename_i y
    split at e
    · rename_i zs el
      split at e
      · rename_i k ek
        split at e
        · rename_i ll
          split at e
          · rename_i i ei
            cases e
            obtain ⟨y', rfl, ry⟩ := reps1 rs
            obtain ⟨uy, rfl, ruy⟩ := rxs.one
            obtain ⟨a, vs, rfl, qa, r⟩ := lst_at hr rp el
            obtain rfl : v = .ref a := rx
            obtain ⟨_, its, n, rv, p⟩ := I.hok _ _ qa
            obtain ⟨j, z, ej, ez, et, ef⟩ := idxW_is ei
            have ei' : i = j := by omega
            subst ei'
            obtain ⟨i1, _⟩ := in_items (G := kt X adr) I.hok hu2 ry ruy rv r ek (ansW (kt X adr) T H 30 y) (ansW_is I.hok)
            obtain ⟨z', ez', rz'⟩ := r.get ez
            obtain ⟨uz, euz, ruz⟩ := rv.get ez'
            have hj : i < its.toArray.size := by
              have := (List.getElem?_eq_some_iff.mp euz).1
              simpa using this
            have l1 := r.length.trans rv.length
            have l2 := lenLe_iff ll
            have at_ : ∀ m (hm : m < its.toArray.size) zz kk, zs[m]? = some zz → weq 30 zz y = some kk → ansW (kt X adr) T H 30 y its.toArray[m] = kk := fun m hm zz kk e1 e2 => by
              obtain ⟨v1, e3, r3⟩ := r.get e1
              obtain ⟨u1, e4, r4⟩ := rv.get e3
              have : its.toArray[m] = u1 := by
                have hm' : m < its.length := by simpa using hm
                have := List.getElem?_eq_getElem hm'
                rw [e4] at this
                simpa using this.symm
              rw [this]
              exact ansW_is I.hok _ _ _ _ r3 r4 e2
            refine call_meets PySem.F.slot_list_index ⟨_, p, rfl⟩ PySem.F.entry_list_index (PySem.F.args_list_index_2 _ _)
              (SeqAt.list_indexAt a its.toArray n none #[] uy (ansW (kt X adr) T H 30 y) i hj (by rw [sizeLine_eq] at l2; have : its.toArray.size = its.length := by simp
                                                                                                  omega) ?_ ?_) ⟨p, fun u hm => i1 u (by simpa using hm), ?_⟩
            · exact at_ i hj z true ez et
            · intro m hm hmi
              have hm' : m < zs.length := by
                have : m < its.length := by simpa using hm
                omega
              have e1 : zs[m]? = some zs[m] := List.getElem?_eq_getElem hm'
              exact at_ m hm _ false e1 (ef m _ hmi e1)
            · exact ⟨.int (i : Nat), H, I.tok _, ⟨_, rfl⟩, q T H _ hr (Ex.rfl' hr.ok) (by unfold Rep; rfl)⟩
          · cases e
        · cases e
      · cases e
    · cases e
  · cases e
/-! ### d.get(k), d.get(k, x) -/
def fGet : FMe := fun w xs h => match dctOf w h with
  | some (ks, vs) => match xs with
    | [k] => match keyFit k ks with
      | true => match dfind k ks vs with
        | some z => .ok z h
        | none => .ok .non h
      | false => .stuck
    | [k, d] => match keyFit k ks with
      | true => match dfind k ks vs with
        | some z => .ok z h
        | none => .ok d h
      | false => .stuck
    | _ => .stuck
  | none => .stuck
theorem found_getD {T : Tie} {H : Hp} {o : Option W} {u : Option Value} {d : W} {vd : V} {ud : Value} (f : Found G T H o u) (rd : Rep G T H d vd) (rud : RelV vd ud) : ∃ v, RelV v (u.getD ud) ∧ Rep G T H (o.getD d) v := by
  cases o with
  | none => have e : u = none := f; rw [e]; exact ⟨vd, rud, rd⟩
  | some w => obtain ⟨v, x, e, r1, r2⟩ := f; rw [e]; exact ⟨v, r1, r2⟩
theorem mt_getW (hu : X.A.units + 64 < cLine) : MtR X "dict.get" (rM (kt X adr) fGet) := by
  intro pins s σ H x xs v us Q I rx rxs ⟨T, h, w, ws, w', h', hr, rp, rs, e, q⟩
  unfold fGet at e
  split at e
  · rename_i ks vs ed
    obtain ⟨a, o, kv, vv, rfl, D⟩ := dct_at hr rp ed
    obtain rfl : v = .ref a := rx
    split at e
    · rename_i k
      split at e
      · rename_i fit
        obtain ⟨vk, rfl, rk⟩ := reps1 rs
        obtain ⟨uk, rfl, ruk⟩ := rxs.one
        have e' : w' = (dfind k ks vs).getD .non ∧ h' = h := by
          split at e
          · rename_i z ez; cases e; rw [ez]; exact ⟨rfl, rfl⟩
          · rename_i ez; cases e; rw [ez]; exact ⟨rfl, rfl⟩
        obtain ⟨rfl, rfl⟩ := e'
        have fin : ∀ (u : Option Value) (s' : Shared), Inv X pins σ H s' → Found (kt X adr) T H (dfind k ks vs) u → EP X pins σ Q (u.getD .none) s' := fun u s' I' f => by
          obtain ⟨v, r1, r2⟩ := found_getD f (d := .non) (vd := .non) (ud := .none) (by unfold Rep; rfl) rfl
          exact ⟨v, H, I', r1, q T H v hr (Ex.rfl' hr.ok) r2⟩
        rcases D.split (G := kt X adr) rfl rfl I.hok fit rk ruk with ⟨κ, kl, us, hκ, hkl, nd, rv, ln, ki, dd⟩ | ⟨κ, kl, us, b, bs, hκ, hkl, nd, rv, ln, ln2, ekv, rfl, rfl, ki, dd⟩
        · exact call_meetsIn PySem.F.slot_dict_get dd.typeIs PySem.F.entry_dict_get (PySem.F.args_dict_get_2 _ _) (meets_dict_get (mixKind X.prog X.w) a ki D.sm) ⟨_, dd.mapOf, fin _ _ (I.tok _) (look_S hκ hkl D.rv rv D.len)⟩
        · exact call_meetsIn PySem.F.slot_dict_get dd.typeIs PySem.F.entry_dict_get (PySem.F.args_dict_get_2 _ _) (meetsH_dict_get (nestedKind X.prog X.w) a b D.sm) ⟨room8 hu, κ, _, ki, dd, fin _ _ (I.tok _) (look_T hκ hkl D.rv rv D.len ln2)⟩
      · cases e
    · rename_i k d
      split at e
      · rename_i fit
        obtain ⟨vk, vd, rfl, rk, rd⟩ := reps2 rs
        obtain ⟨uk, ud, rfl, ruk, rud⟩ := Vals.two rxs
        have e' : w' = (dfind k ks vs).getD d ∧ h' = h := by
          split at e
          · rename_i z ez; cases e; rw [ez]; exact ⟨rfl, rfl⟩
          · rename_i ez; cases e; rw [ez]; exact ⟨rfl, rfl⟩
        obtain ⟨rfl, rfl⟩ := e'
        have fin : ∀ (u : Option Value) (s' : Shared), Inv X pins σ H s' → Found (kt X adr) T H (dfind k ks vs) u → EP X pins σ Q (u.getD ud) s' := fun u s' I' f => by
          obtain ⟨v, r1, r2⟩ := found_getD f rd rud
          exact ⟨v, H, I', r1, q T H v hr (Ex.rfl' hr.ok) r2⟩
        rcases D.split (G := kt X adr) rfl rfl I.hok fit rk ruk with ⟨κ, kl, us, hκ, hkl, nd, rv, ln, ki, dd⟩ | ⟨κ, kl, us, b, bs, hκ, hkl, nd, rv, ln, ln2, ekv, rfl, rfl, ki, dd⟩
        · exact call_meetsIn PySem.F.slot_dict_get dd.typeIs PySem.F.entry_dict_get (PySem.F.args_dict_get_3 _ _ _) (meets_dict_get_default (mixKind X.prog X.w) a ki D.sm ud) ⟨_, dd.mapOf, fin _ _ (I.tok _) (look_S hκ hkl D.rv rv D.len)⟩
        · exact call_meetsIn PySem.F.slot_dict_get dd.typeIs PySem.F.entry_dict_get (PySem.F.args_dict_get_3 _ _ _) (meetsH_dict_get_default (nestedKind X.prog X.w) a b D.sm ud) ⟨room8 hu, κ, _, ki, dd, fin _ _ (I.tok _) (look_T hκ hkl D.rv rv D.len ln2)⟩
      · cases e
    · cases e
  · cases e
end Mi

end
section
namespace Mi
open PySem PySem.Spec PyProof.Rows L2 PySem.W
variable {G : Kt} {X : Cx} {adr : Nat → Addr} {Y : WX}

/-! ### trees as data -/
mutual
def toD : W → PyData
  | .bl b => .bool b
  | .int i => .int i
  | .str s => .str s
  | .tup ws => .tuple (toDs ws)
  | .lst ws => .list (toDs ws)
  | _ => .none
def toDs : List W → List PyData
  | [] => []
  | x :: r => toD x :: toDs r
end
/-- plain, nested below n -/
def allN (f : W → Bool) : List W → Bool
  | [] => true
  | x :: r => match f x with
    | true => allN f r
    | false => false
def plainN : Nat → W → Bool
  | 0, _ => false
  | n + 1, w => match w with
    | .non => true
    | .bl _ => true
    | .int _ => true
    | .str _ => true
    | .tup ws => allN (plainN n) ws
    | .lst ws => allN (plainN n) ws
    | _ => false
theorem toDs_map : ∀ ws, toDs ws = ws.map toD
  | [] => rfl
  | x :: r => by rw [toDs, toDs_map r]; rfl
theorem allN_is {f : W → Bool} : ∀ {ws : List W}, allN f ws = true → ∀ w ∈ ws, f w = true
  | [], _, w, h => (nomatch h)
  | x :: r, e, w, h => by
    unfold allN at e
    split at e
    · rename_i ex
      rcases List.mem_cons.mp h with z | z
      · rw [z]; exact ex
      · exact allN_is e w z
    · cases e
theorem reads_all {P : Program} {wo : World} {T : Tie} {H : Hp} {h : Heap} (ih : ∀ w v u, Rep G T H w v → RelV v u → (∃ as, Reads h u (toD w) as)) : ∀ {ws : List W} {vs : List V} {us : List Value}, Reps G T H ws vs → Vals vs us → ∃ as, ReadsAll h us (toDs ws) as
  | [], vs, us, r, rv => by unfold Reps at r; subst r; cases rv; exact ⟨_, .nil⟩
  | x :: ws, vs, us, r, rv => by
    unfold Reps at r
    obtain ⟨v, s, rfl, h1, r⟩ := r
    cases rv with
    | cons q1 q2 =>
      obtain ⟨a, ra⟩ := ih x v _ h1 q1
      obtain ⟨b, rb⟩ := reads_all (P := P) (wo := wo) ih r q2
      exact ⟨_, .cons ra rb⟩
theorem reads_allW {T : Tie} {H : Hp} {h : Heap} {n : Nat} (ih : ∀ w v u, plainN n w = true → Rep G T H w v → RelV v u → ∃ as, Reads h u (toD w) as) : ∀ {ws : List W} {vs : List V} {us : List Value}, allN (plainN n) ws = true → Reps G T H ws vs → Vals vs us → ∃ as, ReadsAll h us (toDs ws) as
  | [], vs, us, _, r, rv => by unfold Reps at r; subst r; cases rv; exact ⟨_, .nil⟩
  | x :: ws, vs, us, e, r, rv => by
    unfold Reps at r
    obtain ⟨v, s, rfl, h1, r⟩ := r
    unfold allN at e
    split at e
    · rename_i ex
      cases rv with
      | cons q1 q2 =>
        obtain ⟨a, ra⟩ := ih x v _ ex h1 q1
        obtain ⟨b, rb⟩ := reads_allW ih e r q2
        exact ⟨_, .cons ra rb⟩
    · cases e
theorem reads_W {P : Program} {wo : World} {T : Tie} {H : Hp} {h : Heap} (ok : HOk P wo H h) : ∀ (n : Nat) (w : W) (v : V) (u : Value), plainN n w = true → Rep G T H w v → RelV v u → ∃ as, Reads h u (toD w) as
  | 0, _, _, _, e, _, _ => by cases e
  | n + 1, w, v, u, e, r, ru => by
    cases w with
    | non => rw [rep_non r] at ru; cases ru; exact ⟨_, .none⟩
    | bl b => rw [rep_bl r] at ru; cases ru; exact ⟨_, .bool b⟩
    | int b => rw [rep_int r] at ru; obtain ⟨t, rfl⟩ := ru; exact ⟨_, .int b t⟩
    | str b => rw [rep_str r] at ru; obtain ⟨t, rfl⟩ := ru; exact ⟨_, .str b t⟩
    | tup ws =>
      obtain ⟨a, vs, rfl, q, rs⟩ := tup_at r
      obtain rfl : u = .ref a := ru
      obtain ⟨_, its, rv, o, h1, h2, m, h3⟩ := ok _ _ q
      obtain ⟨as, ra⟩ := reads_allW (fun w v u => reads_W ok n w v u) (show allN (plainN n) ws = true from e) rs rv
      exact ⟨_, .tuple h1 h2 h3 (by simpa [toD] using ra)⟩
    | lst ws =>
      unfold Rep at r
      obtain ⟨a, vs, rfl, _, q, rs⟩ := r
      obtain rfl : u = .ref a := ru
      obtain ⟨_, its, m, rv, h1⟩ := ok _ _ q
      obtain ⟨as, ra⟩ := reads_allW (fun w v u => reads_W ok n w v u) (show allN (plainN n) ws = true from e) rs rv
      exact ⟨_, .list h1 rfl rfl (by simpa [toD] using ra)⟩
    | _ => cases e
theorem depth_W : ∀ (n : Nat) (w : W), plainN n w = true → (toD w).depth ≤ n
  | 0, _, e => by cases e
  | n + 1, w, e => by
    have dd : ∀ ws : List W, allN (plainN n) ws = true → PyData.depthAll (toDs ws) ≤ n := fun ws => by
      induction ws with
      | nil => intro _; simp [toDs, PyData.depthAll]
      | cons x r ih =>
        intro e
        unfold allN at e
        split at e
        · rename_i ex
          have h1 := depth_W n x ex
          have h2 := ih e
          simp only [toDs, PyData.depthAll]
          omega
        · cases e
    cases w with
    | non => simp [toD, PyData.depth]
    | bl b => simp [toD, PyData.depth]
    | int b => simp [toD, PyData.depth]
    | str b => simp [toD, PyData.depth]
    | tup ws => have := dd ws e; simp only [toD, PyData.depth]; omega
    | lst ws => have := dd ws e; simp only [toD, PyData.depth]; omega
    | _ => cases e
/-! ### may they be ordered -/
mutual
/-- of one shape, with equal lengths -/
def sameSh : PyData → PyData → Bool
  | .bool _, d => match d with | .bool _ => true | _ => false
  | .int _, d => match d with | .int _ => true | _ => false
  | .str _, d => match d with | .str _ => true | _ => false
  | .list xs, d => match d with | .list ys => sameShs xs ys | _ => false
  | .tuple xs, d => match d with | .tuple ys => sameShs xs ys | _ => false
  | _, _ => false
def sameShs : List PyData → List PyData → Bool
  | [], ys => match ys with | [] => true | _ => false
  | x :: xs, ys => match ys with
    | y :: ys => match sameSh x y with
      | true => sameShs xs ys
      | false => false
    | [] => false
end
mutual
theorem sameSh_alike : ∀ (a b c : PyData), sameSh a b = true → sameSh a c = true → PySem.W.alike b c = true
  | .bool _, b, c, h, k => by cases b <;> cases h; cases c <;> cases k; rfl
  | .int _, b, c, h, k => by cases b <;> cases h; cases c <;> cases k; rfl
  | .str _, b, c, h, k => by cases b <;> cases h; cases c <;> cases k; rfl
  | .list xs, b, c, h, k => by
    cases b with
    | list ys =>
      cases c with
      | list zs => exact sameShs_alike xs ys zs h k
      | _ => cases k
    | _ => cases h
  | .tuple xs, b, c, h, k => by
    cases b with
    | tuple ys =>
      cases c with
      | tuple zs => exact sameShs_alike xs ys zs h k
      | _ => cases k
    | _ => cases h
  | .none, _, _, h, _ => by cases h
  | .dict _, _, _, h, _ => by cases h
theorem sameShs_alike : ∀ (a b c : List PyData), sameShs a b = true → sameShs a c = true → PySem.W.alikeAll b c = true
  | [], b, c, h, k => by
    cases b with
    | nil => exact PySem.W.alikeAll.eq_2 c
    | cons _ _ => cases h
  | x :: xs, b, c, h, k => by
    cases b with
    | nil => cases h
    | cons y ys =>
      cases c with
      | nil => cases k
      | cons z zs =>
        simp only [sameShs] at h k
        split at h
        · rename_i h1
          split at k
          · rename_i k1
            rw [PySem.W.alikeAll, sameSh_alike x y z h1 k1, sameShs_alike xs ys zs h k]
            rfl
          · cases k
        · cases h
end
def allD (f : PyData → Bool) : List PyData → Bool
  | [] => true
  | x :: r => match f x with
    | true => allD f r
    | false => false
theorem allD_is {f : PyData → Bool} : ∀ {ws : List PyData}, allD f ws = true → ∀ w ∈ ws, f w = true
  | [], _, w, h => (nomatch h)
  | x :: r, e, w, h => by
    unfold allD at e
    split at e
    · rename_i ex
      rcases List.mem_cons.mp h with z | z
      · rw [z]; exact ex
      · exact allD_is e w z
    · cases e
def tupNe : PyData → Bool
  | .tuple (_ :: _) => true
  | _ => false
def notTN : PyData → Bool
  | .tuple _ => false
  | .none => false
  | _ => true
def ordOk (ds : List PyData) : Bool := match ds with
  | [] => true
  | d :: r => match (match allD (sameSh d) (d :: r) with
    | true => true
    | false => allD (fun x => allD (PySem.W.alike x) ds) ds) with
    | true => match allD tupNe ds with
      | true => true
      | false => allD notTN ds
    | false => false
theorem ordOk_is {ds : List PyData} (h : ordOk ds = true) : AllAlike ds ∧ Sortable ds := by
  unfold ordOk at h
  split at h
  · exact ⟨fun d hd => (nomatch hd), .inl fun d hd => (nomatch hd)⟩
  · rename_i d r
    split at h
    · rename_i h1
      refine ⟨?_, ?_⟩
      · split at h1
        · rename_i h2
          exact fun a ha b hb => sameSh_alike d a b (allD_is h2 a ha) (allD_is h2 b hb)
        · exact fun a ha b hb => allD_is (allD_is h1 a ha) b hb
      · split at h
        · rename_i h2
          refine .inl fun a ha => ?_
          have := allD_is h2 a ha
          unfold tupNe at this
          split at this
          · exact ⟨_, _, rfl⟩
          · cases this
        · refine .inr fun a ha => ?_
          have := allD_is h a ha
          unfold notTN at this
          split at this
          · cases this
          · cases this
          · rename_i n1 n2
            exact ⟨n2, n1⟩
    · cases h
/-! ### a sort by insertion -/
def ltN : List Nat → List Nat → Bool
  | [], [] => false
  | [], _ :: _ => true
  | _ :: _, [] => false
  | x :: r, y :: t => match Nat.blt x y with
    | true => true
    | false => match Nat.beq x y with
      | true => ltN r t
      | false => false
theorem ltN_is : ∀ a b : List Nat, ltN a b = decide (a < b)
  | [], [] => by simp [ltN]
  | [], _ :: _ => by simp [ltN]
  | _ :: _, [] => by simp [ltN]
  | x :: r, y :: t => by
    unfold ltN
    cases e : Nat.blt x y with
    | true =>
      have := blt e
      simp [List.cons_lt_cons_iff, this]
    | false =>
      have h1 : ¬ x < y := fun z => by rw [Nat.blt, Nat.ble_eq_true_of_le z] at e; cases e
      cases q : Nat.beq x y with
      | true =>
        have : x = y := Nat.eq_of_beq_eq_true q
        subst this
        simp [List.cons_lt_cons_iff, ltN_is r t]
      | false =>
        have h2 : x ≠ y := fun z => by rw [z, Nat.beq_refl] at q; cases q
        simp [List.cons_lt_cons_iff, h1, h2]
def tokLt1 : Int ⊕ List Nat → Int ⊕ List Nat → Bool
  | .inl a, y => match y with
    | .inl b => decide (a < b)
    | .inr _ => true
  | .inr a, y => match y with
    | .inl _ => false
    | .inr b => ltN a b
theorem tokLt1_is (a b : Int ⊕ List Nat) : tokLt1 a b = itemLt a b := by
  cases a <;> cases b <;> try rfl
  show ltN _ _ = decide _
  rw [ltN_is]
def tokLt : List (Int ⊕ List Nat) → List (Int ⊕ List Nat) → Bool
  | [], y => match y with
    | [] => false
    | _ :: _ => true
  | x :: r, y => match y with
    | [] => false
    | y :: t => match tokLt1 x y with
      | true => true
      | false => match tokLt1 y x with
        | true => false
        | false => tokLt r t
theorem tokLt_is : ∀ a b, tokLt a b = PyProof.Rows.lexLt itemOrd a b
  | [], [] => rfl
  | [], _ :: _ => rfl
  | _ :: _, [] => rfl
  | x :: r, y :: t => by
    unfold tokLt PyProof.Rows.lexLt
    dsimp only
    rw [tokLt1_is, tokLt1_is, tokLt_is r t]
    cases itemLt x y <;> cases itemLt y x <;> rfl
/-- a key with its item -/
abbrev KW := List (Int ⊕ List Nat) × W
def insK (x : KW) : List KW → List KW
  | [] => [x]
  | y :: r => match tokLt y.1 x.1 with
    | true => y :: insK x r
    | false => x :: y :: r
def sortK : List KW → List KW
  | [] => []
  | x :: r => insK x (sortK r)
def sndK : List KW → List W
  | [] => []
  | x :: r => x.2 :: sndK r
def keyK : List W → List KW
  | [] => []
  | x :: r => (keyToks (toD x), x) :: keyK r
def sortW (ws : List W) : List W := sndK (sortK (keyK ws))
section
variable {α : Type} (le : α → α → Bool)
def insG (x : α) : List α → List α
  | [] => [x]
  | y :: r => match le x y with
    | true => x :: y :: r
    | false => y :: insG x r
def sortG : List α → List α
  | [] => []
  | x :: r => insG le x (sortG r)
theorem mem_insG {x z : α} : ∀ {l : List α}, z ∈ insG le x l → z = x ∨ z ∈ l
  | [], h => by simp [insG] at h; exact .inl h
  | y :: r, h => by
    unfold insG at h
    split at h
    · rcases List.mem_cons.mp h with q | q
      · exact .inl q
      · exact .inr q
    · rcases List.mem_cons.mp h with q | q
      · exact .inr (by simp [q])
      · exact (mem_insG q).imp id fun q => List.mem_cons_of_mem _ q
variable (trans : ∀ x y z, le x y = true → le y z = true → le x z = true) (total : ∀ x y, (le x y || le y x) = true)
include trans total
theorem insG_pair {x : α} : ∀ {l : List α}, l.Pairwise (fun x y => le x y = true) → (insG le x l).Pairwise (fun x y => le x y = true)
  | [], _ => by simp [insG]
  | y :: r, h => by
    rw [List.pairwise_cons] at h
    unfold insG
    split
    · rename_i e
      rw [List.pairwise_cons, List.pairwise_cons]
      exact ⟨fun z hz => (List.mem_cons.mp hz).elim (fun q => by rw [q]; exact e) fun q => trans x y z e (h.1 z q), h⟩
    · rename_i e
      have yx : le y x = true := by
        have := total x y
        rw [e] at this
        simpa using this
      rw [List.pairwise_cons]
      exact ⟨fun z hz => (mem_insG le hz).elim (fun q => by rw [q]; exact yx) (h.1 z), insG_pair h.2⟩
theorem insG_filter {x c : α} : ∀ {l : List α}, l.Pairwise (fun x y => le x y = true) → (insG le x l).filter (Srt.alike le c) = (x :: l).filter (Srt.alike le c)
  | [], _ => rfl
  | y :: r, h => by
    rw [List.pairwise_cons] at h
    unfold insG
    split
    · rfl
    · rename_i e
      have ih := insG_filter (x := x) (c := c) h.2
      rw [List.filter_cons, ih, List.filter_cons, List.filter_cons, List.filter_cons]
      by_cases q : Srt.alike le c x = true
      · have q' : Srt.alike le c y = false := by
          cases z : Srt.alike le c y with
          | false => rfl
          | true =>
            unfold Srt.alike at q z
            rw [Bool.and_eq_true] at q z
            exact absurd (trans x c y q.2 z.1) (by rw [e]; exact Bool.false_ne_true)
        simp [q, q']
      · simp [q]
theorem sortG_pair : ∀ l : List α, (sortG le l).Pairwise (fun x y => le x y = true)
  | [] => List.Pairwise.nil
  | x :: r => insG_pair le trans total (sortG_pair r)
theorem sortG_is (l : List α) : sortG le l = l.mergeSort le := by
  refine Srt.the le trans total (sortG_pair le trans total l) fun z => ?_
  induction l with
  | nil => rfl
  | cons x r ih =>
    rw [sortG, insG_filter le trans total (sortG_pair le trans total r), List.filter_cons, ih, List.filter_cons]
end
theorem insK_is (x : W) : ∀ l : List W, sndK (insK (keyToks (toD x), x) (keyK l)) = insG (dataLe false toD) x l ∧ insK (keyToks (toD x), x) (keyK l) = keyK (insG (dataLe false toD) x l)
  | [] => ⟨rfl, rfl⟩
  | y :: r => by
    have ih := insK_is x r
    have e : dataLe false toD x y = !tokLt (keyToks (toD y)) (keyToks (toD x)) := by
      rw [tokLt_is]; rfl
    unfold keyK insK insG
    dsimp only
    rw [e]
    cases tokLt (keyToks (toD y)) (keyToks (toD x)) with
    | true => exact ⟨by show y :: _ = y :: _; rw [ih.1], by show _ :: _ = _ :: _; rw [ih.2]⟩
    | false => exact ⟨by show x :: y :: sndK (keyK r) = x :: y :: r; rw [snd_key], rfl⟩
where
  snd_key : ∀ {l : List W}, sndK (keyK l) = l
  | [] => rfl
  | x :: r => by rw [keyK, sndK, snd_key]
theorem sortK_is : ∀ l : List W, sortK (keyK l) = keyK (sortG (dataLe false toD) l)
  | [] => rfl
  | x :: r => by rw [keyK, sortK, sortK_is r, (insK_is x _).2, sortG]
theorem sortW_is (ws : List W) : sortW ws = ws.mergeSort (dataLe false toD) := by
  have t := sortLe_total (listOrd itemOrd) false (fun b : W => keyToks (toD b))
  unfold sortW
  rw [sortK_is, insK_is.snd_key, sortG_is (dataLe false toD) t.trans (fun x y => by rcases t.total x y with h | h <;> simp [dataLe, h])]
/-! ### sorted(xs) -/
def wSorted : FA := fun ws h => match ws with
  | [x] => match lstOf x h with
    | some ys => match allN (plainN 20) ys with
      | true => match ordOk (toDs ys) with
        | true => match lenLe ys.length with
          | true => some (.lst (sortW ys))
          | false => none
        | false => none
      | false => none
    | none => none
  | _ => none
theorem each_of {R : Value → W → Prop} : ∀ {ws : List W} {us : List Value}, ws.length = us.length → (∀ (i : Nat) w u, ws[i]? = some w → us[i]? = some u → R u w) → EachIs R us ws
  | [], [], _, _ => .nil
  | [], _ :: _, h, _ => by cases h
  | _ :: _, [], h, _ => by cases h
  | x :: ws, u :: us, h, f => .cons (f 0 x u rfl rfl) (each_of (by simpa using h) fun i w v h1 h2 => f (i + 1) w v (by simpa using h1) (by simpa using h2))
theorem each_back {T : Tie} {H : Hp} : ∀ {ws : List W} {us : List Value}, EachIs (fun u w => ∃ v, RelV v u ∧ Rep G T H w v) us ws → ∃ vs, Vals vs us ∧ Reps G T H ws vs
  | [], _, .nil => ⟨[], .nil, .nil⟩
  | x :: ws, _, .cons h r => by
    obtain ⟨v, r1, r2⟩ := h
    obtain ⟨vs, a, b⟩ := each_back r
    exact ⟨v :: vs, .cons r1 a, .cons r2 b⟩
theorem mc_sorted (hu : X.A.units + 64 < cLine) : MC X adr (.builtin "sorted") wSorted := by
  intro pins s σ H vs us Q I rv ⟨T, h, ws, w, hr, rs, e, q⟩
  unfold wSorted at e
  split at e
  · split at e
    · rename_i ys ey
      split at e
      · rename_i pl
        split at e
        · rename_i oo
          split at e
          · rename_i ll
            cases e
            obtain ⟨v, rfl, rp⟩ := reps1 rs
            obtain ⟨u, rfl, ru⟩ := rv.one
            obtain ⟨a, vs, rfl, qa, r⟩ := lst_at hr rp ey
            obtain rfl : u = .ref a := ru
            obtain ⟨hz, its, n, rvs, p⟩ := I.hok _ _ qa
            obtain ⟨al, so⟩ := ordOk_is oo
            rw [toDs_map] at al so
            have l1 := r.length.trans rvs.length
            have at_ : ∀ (i : Nat) w u, ys[i]? = some w → its[i]? = some u → ∃ v, RelV v u ∧ Rep (kt X adr) T H w v := fun i w u h1 h2 => by
              obtain ⟨v, e1, r1⟩ := r.get h1
              obtain ⟨u', e2, r2⟩ := rvs.get e1
              rw [h2] at e2
              cases e2
              exact ⟨v, r2, r1⟩
            have e1 : EachIs (fun u w => ∃ v, RelV v u ∧ Rep (kt X adr) T H w v) its ys := each_of l1 at_
            have e2 : EachIs (fun u w => ∃ as, Reads s.heap u (toD w) as) its ys := each_of l1 fun i w u h1 h2 => by
              obtain ⟨v, r1, r2⟩ := at_ i w u h1 h2
              exact reads_W I.hok 20 w v u (allN_is pl w (List.mem_of_getElem? h1)) r2 r1
            refine sorted_data (show s.heap.IsList a its.toArray from ⟨_, p, rfl, _, rfl⟩) e1 e2 al so (lenLe_iff ll) (fun w hw => by have := depth_W 20 w (allN_is pl w hw); omega) fun out hol eo => ?_
            rw [← sortW_is] at eo
            obtain ⟨vs', rv', rp'⟩ := each_back eo
            obtain ⟨ep, he'⟩ := PyProof.Rows.sortedAll_at s.heap its out.toArray
            have hl : vs'.length ≤ sizeLine := by rw [rv'.length, hol]; exact lenLe_iff ll
            exact ⟨.ref _, upd H (s.heap.objs.size + 1) (.lst vs'), I.laid (t' := s.toks) (fun _ _ => PyProof.Rows.sortedAll_old) (Nat.le_succ _) ⟨hl, out, ep, rv', he'⟩, rfl, Hands.lst hr rp' q _ (I.hok.fresh (Nat.le_succ _))⟩
          · cases e
        · cases e
      · cases e
    · cases e
  · cases e
end Mi

end
section
namespace Mi
open PySem PySem.Spec PyProof.Rows L2
variable {G : Kt} {X : Cx} {adr : Nat → Addr} {Y : WX}

/-! ### instances made with keywords -/
section
variable {k : Nat} {f : Addr} {fd : FuncData} {ps ks : List Str} {mf : FM} {x : Str} {p pos : Pos} {e : Expr} {es : List Expr} {as az : AM} {kws : List Keyword}
/-- what follows an __init__ -/
def aft (n : Nat) (fr : Bool) : W → MH → R W := fun v h' => match v with
  | .non => match fr with
    | false => .ok (.ref n) h'
    | true => match h'.get n with
      | some o => .ok o.toW (h'.del n)
      | none => .stuck
  | _ => .stuck
theorem run_mkG {c : Nat} {fr : Bool} {pins : List (Addr × Obj)} {σ : Sl} {H : Hp} {s : Shared} {Q : VK} {us0 us : List Value} {kw : List (Str × Value)} {vs : List V} {T : Tie} {h : MH} {ws : List W} (M : Mk X.K (adr c) f)
    (F : FnOk X.prog X.w X.K X.mg X.base (L2.CX X.prog X.w) k f fd ps (spM (kt X adr) mf)) (hr : Room (k + 1) X.A) (hb : ∀ s1 : Shared, X.K.In s1.heap → ∀ a : Addr, BindsTo s1 fd ⟨.ref a :: us0, kw⟩ (ps.zip (.ref a :: us)))
    (tk : Takes X Y) (I : Inv X pins σ H s) (r : Vals vs us) (hR : Hrel (kt X adr) T h H) (rp : Reps (kt X adr) T H ws vs)
    (q : ResV (kt X adr) Y T H σ ((mf (.ref h.nx :: ws) (h.new (.ins c [] []))).bind (aft h.nx fr)) Q) : wpAny (model X.prog X.w) X.A (call (.ref (adr c)) us0 kw) (EP X pins σ Q) X.xe s := by
  have hx : H (s.heap.objs.size + 1) = none := I.hok.fresh (Nat.le_succ _)
  have hdx : H s.heap.objs.size = none := I.hok.fresh (Nat.le_refl _)
  have nxd : s.heap.objs.size ≠ s.heap.objs.size + 1 := Nat.ne_of_lt (Nat.lt_succ_self _)
  have g1 : Grow H (upd H s.heap.objs.size (.own (s.heap.objs.size + 1))) := Grow.laid hdx
  have hR1 := hR.grow g1
  have x1 := Ex.grow hR.ok g1
  have hx1 : upd H s.heap.objs.size (.own (s.heap.objs.size + 1)) (s.heap.objs.size + 1) = none := by rw [upd_ne (Ne.symm nxd)]; exact hx
  have fdx : Fz (T.add (s.heap.objs.size + 1)) s.heap.objs.size := ⟨fun m z => by
    by_cases hm : m = T.nx
    · simp only [hm, if_true] at z
      exact nxd (Option.some.inj z).symm
    · simp only [hm, if_false] at z
      exact hR.ok.there m _ z hdx, fun z => hR.ok.hidT _ z hdx⟩
  obtain ⟨hR2, x2, r2⟩ := box_new (o := .ins c [] []) (ho := .ins (adr c) s.heap.objs.size []) hR1 hx1 fun _ => ⟨s.heap.objs.size, [], fdx, upd_same, by rw [upd_ne nxd, upd_same], rfl, Reps.nil⟩
  have x12 := x1.trans x2
  have I2 := Inv.made (C := adr c) I
  have hsp : spM (kt X adr) mf (.ref (s.heap.objs.size + 1) :: vs) (upd (upd H s.heap.objs.size (.own (s.heap.objs.size + 1))) (s.heap.objs.size + 1) (.ins (adr c) s.heap.objs.size []))
      (fun v H2 => v = .non ∧ Q (.ref (s.heap.objs.size + 1)) H2) (fun cls d H' => Y cls d σ H') := by
    refine ⟨T.add (s.heap.objs.size + 1), .ref h.nx :: ws, h.new (.ins c [] []), hR2, Reps.cons r2 (reps_ex x12 _ _ rp), ?_⟩
    have q' := Res.ex q x12
    cases em : mf (.ref h.nx :: ws) (h.new (.ins c [] [])) with
    | ok v h' =>
      rw [em] at q'
      intro T' H' v' hr' x' rp'
      cases v with
      | non =>
        unfold Rep at rp'
        refine ⟨rp', ?_⟩
        have r3 := rep_ex x' _ _ r2
        cases fr with
        | false => exact q' T' H' _ hr' x' r3
        | true =>
          have q' : ResV (kt X adr) Y _ _ σ (match h'.get h.nx with
            | some o => .ok o.toW (h'.del h.nx)
            | none => .stuck) Q := q'
          cases eg : h'.get h.nx with
          | none => rw [eg] at q'; exact q'.elim
          | some o =>
            rw [eg] at q'
            obtain ⟨hr4, x4, r4⟩ := freeze hr' eg r3
            exact q' _ _ _ hr4 (x'.trans x4) r4
      | _ => exact q'.elim
    | exc x h' => rw [em] at q'; exact q'
    | stuck => rw [em] at q'; exact q'.elim
  have rr : Vals (V.ref (s.heap.objs.size + 1) :: vs) (Value.ref (s.heap.objs.size + 1) :: us) := .cons rfl r
  refine wpAny_call (make_map (f := f) I.kIn M.makes M.init (beq_iff_eq.mp M.fn) (codeAny_mono (F.run _ X.stack _ _ ⟨Value.ref (s.heap.objs.size + 1) :: us0, kw⟩ (Value.ref (s.heap.objs.size + 1) :: us) _ _ _ (hr.make (adr c) us0 kw)
    (I2.env0.make (adr c) us0 kw) (hb _ I2.kIn _) rr hsp) fun r s' hq' => ?_))
  cases r with
  | error e => exact tk e s' (XE.of_call I2 (fun _ _ _ z => z) hq')
  | ok fl =>
    cases fl with
    | ret u =>
      obtain ⟨v, H', I3, rv, ev, q3⟩ := I2.after hq'
      subst ev
      exact ⟨rv, ⟨V.ref (s.heap.objs.size + 1), H', I3, rfl, q3⟩⟩
    | next => exact False.elim hq'
    | brk => exact False.elim hq'
    | cont => exact False.elim hq'
/-- C(.., k = v, ..), the keywords' parameters last -/
def mMakeK (c n m : Nat) (mf : FM) (fr : Bool) (as az : AM) : EM := fun me h => (as me h).bind fun ws h => (az me h).bind fun zs h => match Nat.beq ws.length n, Nat.beq zs.length m with
  | true, true => (mf (.ref h.nx :: (ws ++ zs)) (h.new (.ins c [] []))).bind (aft h.nx fr)
  | _, _ => .stuck
def MK (X : Cx) (adr : Nat → Addr) (Y : WX) (kws : List Keyword) (m : AM) : Prop := PK X kws (rdA (kt X adr) Y m)
theorem mk_nil : MK X adr Y [] mNil := ⟨fun pos pins s σ H Q I q => pk_nil.run pos pins s σ H Q I (by
  obtain ⟨T, me, h, hr, he, q⟩ := q
  exact q T H [] hr (Ex.rfl' hr.ok) Reps.nil)⟩
theorem mk_cons {nm : Option Str} {kpos : Pos} {ma : EM} {mr : AM} (ha : ME X adr Y e ma) (hrr : MK X adr Y kws mr) : MK X adr Y (⟨nm, e, kpos⟩ :: kws) (mCons ma mr) := ⟨fun pos pins s σ H Q I q => (pk_cons ha hrr).run pos pins s σ H Q I (by
  obtain ⟨T, me, h, hr, he, q⟩ := q
  refine ⟨T, me, h, hr, he, Res.bind q fun w1 h1 _ T1 H1 v1 hr1 x1 rp1 q1 => ?_⟩
  refine ⟨T1, me, h1, hr1, he.ex x1, Res.bind q1 fun ws h2 _ T2 H2 vs hr2 x2 rp2 q2 => ?_⟩
  exact q2 T2 H2 _ hr2 (Ex.rfl' hr2.ok) (Reps.cons (rep_ex x2 _ _ rp1) rp2))⟩
theorem me_makeK {c n : Nat} {fr : Bool} (M : Mk X.K (adr c) f) (F : FnOk X.prog X.w X.K X.mg X.base (L2.CX X.prog X.w) k f fd ps (spM (kt X adr) mf)) (hr : Room (k + 1) X.A) (hg : Gl X x) (hm : X.mg x = some (.ref (adr c)))
    (hb : KBn X.K fd ps (n + 1) ks (fun us ws => us ++ ws) (fun us ws => us ++ ws)) (tk : Takes X Y)
    (ha : MA X adr Y (e :: es) as) (hkw : MK X adr Y kws az) (hall : (backToKw pos (keywordEach kws X.env)).all (·.1.isSome) = true) (hks : (backToKw pos (keywordEach kws X.env)).filterMap (·.1) = ks) (hdb : (x == ("__debug__" : Str)) = false)
    (he : starEach (e :: es) X.env = (false, eval e X.env) :: starEach es X.env) (hpl : ((backTo pos (starEach (e :: es) X.env)).any (·.1) || (backToKw pos (keywordEach kws X.env)).any (·.1.isNone)) = false) :
    ME X adr Y (.Call (.Name x p) (e :: es) kws pos) (mMakeK c n ks.length mf fr as az) := by
  refine ⟨fun pins s σ H Q I ⟨T, me, h, hR, hE, q⟩ => ?_⟩
  refine wpAny_Call_Name_kw (ld_glob I hg hm ?_ hdb)
  refine PySem.W.callWith_KW (h₀ := X.base) I.ok.mod.kin M.kp hall (thn (ha.run pos pins s σ H (fun vs H1 => ∃ T1 h1 ws, Hrel (kt X adr) T1 h1 H1 ∧ Erel (kt X adr) T1 me σ H1 ∧ Reps (kt X adr) T1 H1 ws vs ∧ ResV (kt X adr) Y T1 H1 σ _ Q) I
    ⟨T, me, h, hR, hE, Res.bind q fun ws h1 _ T1 H1 vs hr1 x1 rp q1 => ⟨T1, h1, ws, hr1, hE.ex x1, rp, q1⟩⟩) fun us s1 ⟨vs, H1, I1, r, T1, h1, ws, hr1, hE1, rp, q1⟩ => ?_) hpl he
  refine thn (hkw.run pos pins s1 σ H1 (fun zs H2 => ∃ T2 h2 xs, Hrel (kt X adr) T2 h2 H2 ∧ Reps (kt X adr) T2 H2 ws vs ∧ Reps (kt X adr) T2 H2 xs zs ∧ ResV (kt X adr) Y T2 H2 σ _ Q) I1
    ⟨T1, me, h1, hr1, hE1, Res.bind q1 fun xs h2 _ T2 H2 zs hr2 x2 rp2 q2 => ⟨T2, h2, xs, hr2, reps_ex x2 _ _ rp, rp2, q2⟩⟩) fun wv s2 ⟨zs, H2, I2, rz, T2, h2, xs, hr2, rp1, rp2, q2⟩ => ⟨I2.kIn, ?_⟩
  rw [hks]
  cases n1 : Nat.beq ws.length n with
  | false => simp only [n1] at q2; exact q2.elim
  | true => cases n2 : Nat.beq xs.length ks.length with
    | false => simp only [n1, n2] at q2; exact q2.elim
    | true =>
      simp only [n1, n2] at q2
      have l1 : us.length = n := by rw [← r.length, ← rp1.length]; exact Nat.eq_of_beq_eq_true n1
      have l2 : wv.length = ks.length := by rw [← rz.length, ← rp2.length]; exact Nat.eq_of_beq_eq_true n2
      exact run_mkG (us := us ++ wv) M F hr (fun s1 hk a => hb.to s1 (.ref a :: us) wv hk (by rw [List.length_cons, l1]) l2) tk I2 (r.append rz) hr2 (rp1.append rp2) q2
end
end Mi

end
section
namespace Mi
open PySem PySem.Spec PyProof.Rows L2
variable {G : Kt} {X : Cx} {adr : Nat → Addr} {Y : WX}

/-! ### d.values() -/
def fVals : FMe := fun w xs h => match xs with
  | [] => match w with
    | .dct ks vs => .ok (.dvs ks vs) h
    | _ => .stuck
  | _ => .stuck
theorem mt_valuesW : MtR X "dict.values" (rM (kt X adr) fVals) := by
  intro pins s σ H x xs v us Q I rx rxs ⟨T, h, w, ws, w', h', hr, rp, rs, e, q⟩
  unfold fVals at e
  split at e
  · split at e
    · rename_i ks vs
      cases e
      unfold Reps at rs
      subst rs
      obtain rfl : us = [] := by cases rxs; rfl
      have rp0 := rp
      unfold Rep at rp
      obtain ⟨a, o, kv, vv, rfl, f, sm, ko, qa, d, r2, r3⟩ := rp
      obtain rfl : v = .ref a := rx
      have ea := exact_at I.hok qa
      obtain ⟨es, ep, ed, en, dr⟩ := d.raw ea
      have hp : H s.heap.objs.size = none := I.hok.fresh (Nat.le_refl _)
      have I2 : Inv X pins σ (upd H s.heap.objs.size (exact (valsO a) s.heap.objs.size)) { s with heap := s.heap.push (valsO a) } := I.laid (t' := s.toks) (fun b u e => Heap.get?_push_of_some _ e) (Nat.le_refl _) (exact_ok (Heap.get?_push_size _ rfl))
      have g : Grow H (upd H s.heap.objs.size (exact (valsO a) s.heap.objs.size)) := Grow.laid hp
      have x1 := Ex.grow hr.ok g
      refine call_meetsIn F.slot_dict_values dr.typeIs F.entry_dict_values (F.args_dict_values_1 _) (meets_dict_values_raw a sm) ⟨⟨es, ep, dr⟩, ?_⟩
      refine ⟨.ref s.heap.objs.size, _, I2, rfl, q T _ _ (hr.grow g) x1 ?_⟩
      unfold Rep
      exact ⟨s.heap.objs.size, a, o, kv, vv, rfl, hr.ok.fresh hp, upd_same, f, sm, ko, g _ _ qa, d, reps_ex x1 _ _ r2, reps_ex x1 _ _ r3⟩
    · cases e
  · cases e
end Mi

end
section
namespace Mi
open PySem PySem.Spec PyProof.Rows L2 GenW
variable {G : Kt} {X : Cx} {adr : Nat → Addr} {Y : WX}

/-! ### yield from a list -/
section
variable {prog : Program} {w : World} {A : Around} {E : Value → Shared → Prop} {s : Shared}
/-- a list's iterator turns: its item, or its end -/
theorem next_l {it l : Addr} {i : Nat} {items : Array Value} {Q : Option Value → Shared → Prop} (hh : A.handled = none) (hit : s.heap.IsListIter it l i) (hl : s.heap.IsList l items)
    (hQ : ∀ x h', items[i]? = some x → h'.IsListIter it l (i + 1) → Heap.SameBut it s.heap h' → Q (some x) { s with heap := h' })
    (hE : items[i]? = none → ∀ e h', StopX e h' → Heap.ExtBut it s.heap h' → E e { s with heap := h' }) : wpAny (model prog w) A (callSpecial? (.ref it) "__next__") Q E s := by
  have ty := hit.typeIs
  obtain ⟨o, ho, hc, hd⟩ := hit
  obtain ⟨u, hu, _, m, du⟩ := hl
  refine wpAny_callSpecial?_slot (name := Str.ofString "__next__") ty slot_listiter_next (wpAny_call_entry slot_listiter_next ty entry_listiter_next ?_ (args_listiter_next _))
  change wpAny _ _ (field (.ref it) 0 >>= _) _ _ s
  refine wpAny_bind (wpAny_field ho hd (x := .ref l) rfl ?_)
  change wpAny _ _ (if (Value.ref l == Value.none) = true then _ else _) _ _ s
  rw [if_neg (show ¬ ((Value.ref l == Value.none) = true) from Bool.false_ne_true)]
  change wpAny _ _ (field (.ref it) 1 >>= _) _ _ s
  refine wpAny_bind (wpAny_field ho hd (x := .int i 0) rfl ?_)
  change wpAny _ _ (seqItems? (.ref l) >>= _) _ _ s
  refine wpAny_bind (wpAny_seqItems hu du ?_)
  cases hx : items[i]? with
  | some x =>
    simp only [Int.toNat_natCast, hx]
    refine wpAny_bind (wpAny_setField ho hd (by simp) (wpAny_pure ⟨x, rfl, hQ x _ hx ?_ (Heap.SameBut.update ..)⟩))
    refine ⟨_, Heap.get?_update_self _ ho (Obj.isFreed_of_fields (Obj.data_mapFields hd _)), (Obj.cls_mapFields ..).trans hc, ?_⟩
    rw [Obj.data_mapFields hd]
    simp [rawInt]
  | none =>
    simp only [Int.toNat_natCast, hx]
    refine wpAny_bind (wpAny_rule (wpAny_bind (wpAny_setField ho hd (by simp) ?_)))
    change wpAny _ _ (newExc (.type "StopIteration") [] >>= _) _ _ _
    refine wpAny_bind ?_
    simp only [newExc, newTuple]
    refine wpAny_bind (wpAny_newObj_type ?_ (by size_fits))
    refine wpAny_bind (m := firstArgMember _ _) (wpAny_of_eq (a := Value.none) (by first | rfl | (simp only [firstArgMember]; rfl)) ?_)
    refine wpAny_newObj_type ?_ (by size_fits)
    simp only [raiseNew]
    refine wpAny_bind (wpAny_handled ?_)
    first | rw [show A.in1.handled = none from hh] | rw [hh]
    refine wpAny_bind (wpAny_pure (wpAny_throw ?_))
    refine hE hx _ _ ⟨_, _, _, rfl, Heap.get?_push_size _ rfl, rfl, rfl, ?_⟩ (((Heap.SameBut.update ..).extBut.push _).push _)
    first | rfl | (rw [Array.getElem?_append_left (by decide)]; rfl) | kernel_rfl
end
def tYfLst (te : TE) : TYf := fun σ H Q => te σ H fun x H1 => ∃ a xs, x = .ref a ∧ H1 a = some (.lst xs) ∧ (xs.length ≤ sizeLine → Q xs H1)
theorem close_lst : typeLookup (.type "list_iterator") "close" = pure none := by rw [typeLookup_type, builtinLookup_eq_fast]; kernel_rfl
theorem yf_lst {e : Expr} {te : TE} (he : PE X e te) : YfE X e (tYfLst te) := ⟨fun pins s σ H Q I h => by
  refine thn (he.run pins s σ H _ I h) fun v s1 ⟨x, H1, I1, r1, a, xs, ex, ha, hq⟩ => ?_
  subst ex
  obtain rfl : v = Value.ref a := r1
  obtain ⟨hlen, its, n, rits, hg⟩ := I1.hok a _ ha
  have hl : s1.heap.IsList a its.toArray := ⟨_, hg, rfl, n, rfl⟩
  have lt : ∀ b o, s1.heap.get? b = some o → b ≠ s1.heap.objs.size := fun b o e => Nat.ne_of_lt (Heap.lt_size e)
  refine ⟨"list", hl.typeIs, by decide, wpAny_pyIter_list hl ?_⟩
  let St : Nat → Heap → Prop := fun j h => h.IsListIter s1.heap.objs.size a j ∧ h.IsList a its.toArray
  have an : a ≠ s1.heap.objs.size := lt a _ hg
  have len : xs.length = its.length := rits.length
  have hSt : St 0 (s1.heap.push { cls := .type "list_iterator", data := .fields #[.ref a, .int 0 0] }) := ⟨⟨_, Heap.get?_push_size _ rfl, rfl, rfl⟩, hl.push _⟩
  have hQ : QIt X H1 s1.heap.objs.size xs St := by
    refine ⟨⟨"list_iterator", fun j h q => ?_, close_lst, by decide⟩, fun j h h' q hk => ?_, fun A' j x s2 Q' E' hA hx q fin => ?_, fun A' s2 Q' E' hA q fin => ?_⟩
    · exact q.1.elim fun o z => ⟨o, z.1, z.2.1⟩
    · obtain ⟨⟨o, ho, r⟩, o2, ho2, r2⟩ := q
      exact ⟨⟨o, hk _ o (.inl rfl) ho, r⟩, o2, hk _ o2 (.inr (by rw [ha]; exact fun z => by cases z)) ho2, r2⟩
    · obtain ⟨u, hu, ru⟩ := rits.get hx
      refine next_l hA q.1 q.2 (fun y h' ey st sb => ?_) fun en => ?_
      · have e2 : its[j]? = some y := by simpa using ey
        rw [hu] at e2
        cases e2
        exact fin u h' s2.toks ru ⟨st, q.2.extBut sb.extBut an⟩ fun b o hb eb => sb.extBut b o hb eb
      · have e2 : its[j]? = none := by simpa using en
        rw [hu] at e2
        cases e2
    · refine next_l hA q.1 q.2 (fun y h' ey st sb => ?_) fun en e h' hS hk => fin e h' s2.toks hS fun b o hb eb => hk b o hb eb
      have e2 : its[xs.length]? = some y := by simpa using ey
      rw [List.getElem?_eq_none_iff.mpr (by omega)] at e2
      cases e2
  refine ⟨s1.heap.objs.size, H1, xs, St, rfl, I1.kept (t' := s1.toks) fun b o e => Heap.get?_push_of_some _ e, .inr I1.sz, Nat.ne_of_gt I1.lt, fun y c hy => ?_, I1.hok.fresh (Nat.le_refl _), fun p hp => lt p.1 _ (I1.pin p hp).1, hSt, hQ, hq hlen⟩
  obtain ⟨v, o, ho, _⟩ := I1.cell y c hy
  exact lt c o ho⟩

/-! ### a generator's body: statements that hand out nothing, then yield from -/
abbrev NM := Me → MH → R (List W)
def rdGn (G : Kt) (Y : WX) (g : NM) : TGn := fun D ys σ H => ys = [] ∧ ∃ T me h, Hrel G T h H ∧ Erel G T me σ H ∧ match g me h with
  | .ok ws h' => ∀ T' H' σ' xs, Hrel G T' h' H' → Ex T T' H H' → Reps G T' H' ws xs → xs.length ≤ sizeLine → D.nx xs σ' H'
  | .exc x h' => ∀ T' H' σ' cls d, Hrel G T' h' H' → Ex T T' H H' → XcIs G T' H' x cls d → Y cls d σ' H'
  | .stuck => False
def MGn (X : Cx) (adr : Nat → Addr) (Y : WX) (st : List Stmt) (g : NM) : Prop := GSs X st (rdGn (kt X adr) Y g)
theorem gss_imp {st : List Stmt} {t u : TGn} (h : GSs X st t) (i : ∀ D ys σ H, u D ys σ H → t D ys σ H) : GSs X st u := ⟨fun A S ip R n ys s₀ c fs K J gd lv s σ H D a b k I q => h.run A S ip R n ys s₀ c fs K J gd lv s σ H D a b k I (i D ys σ H q)⟩
def nFrom (m : EM) : NM := fun me h => match m me h with
  | .ok w h => match lstOf w h with
    | some ws => .ok ws h
    | none => .stuck
  | _ => .stuck
def nThen (a : SM) (g : NM) : NM := fun me h => match a me h with
  | .nx me h => g me h
  | .exc x _ h => .exc x h
  | _ => .stuck
section
variable {e : Expr} {m : EM} {yp pos : Pos} {st : Stmt} {rest : List Stmt} {a : SM} {g : NM}
theorem mgn_from (he : ME X adr Y e m) (hc : X.A.handled = none) (hi : interactive X.env = false := by rfl) : MGn X adr Y [.Expr (.YieldFrom e yp) pos] (nFrom m) := by
  refine gss_imp (gss_cons (gs_yieldFrom (yf_lst he) hc hi) gss_nil) fun D ys σ H ⟨ey, T, me, h, hr, hE, q⟩ => ?_
  subst ey
  refine ⟨T, me, h, hr, hE, ?_⟩
  cases em : m me h with
  | ok w h' =>
    unfold nFrom at q
    rw [em] at q
    dsimp only at q
    cases el : lstOf w h' with
    | none => simp only [el] at q
    | some ws =>
      simp only [el] at q
      intro T' H' v hr' x' rp
      obtain ⟨p, vs, rfl, ep, r⟩ := lst_at hr' rp el
      refine ⟨p, vs, rfl, ep, fun hle => ⟨by simpa using hle, ?_⟩⟩
      exact q T' H' σ vs hr' x' r hle
  | exc x h' => unfold nFrom at q; rw [em] at q; exact q.elim
  | stuck => unfold nFrom at q; rw [em] at q; exact q.elim
theorem mgn_cons (h1 : MS X adr Y st a) (h2 : MGn X adr Y rest g) : MGn X adr Y (st :: rest) (nThen a g) := by
  refine gss_imp (gss_cons (gs_ps h1) h2) fun D ys σ H ⟨ey, T, me, h, hr, hE, q⟩ => ?_
  subst ey
  refine ⟨T, me, h, hr, hE, ?_⟩
  cases em : a me h with
  | nx me' h' =>
    unfold nThen at q
    rw [em] at q
    dsimp only at q
    intro T' H' σ' hr' x' e'
    refine ⟨rfl, T', me', h', hr', e', ?_⟩
    cases eg : g me' h' with
    | ok ws h2 => rw [eg] at q; exact fun T2 H2 σ2 xs hr2 x2 r hl => q T2 H2 σ2 xs hr2 (x'.trans x2) r hl
    | exc x h2 => rw [eg] at q; exact fun T2 H2 σ2 c d hr2 x2 r => q T2 H2 σ2 c d hr2 (x'.trans x2) r
    | stuck => rw [eg] at q; exact q.elim
  | exc x me' h' => unfold nThen at q; rw [em] at q; exact fun T' H' σ' cls d hr' x' e' xi => q T' H' σ' cls d hr' x' xi
  | bk _ _ => unfold nThen at q; rw [em] at q; exact q.elim
  | ct _ _ => unfold nThen at q; rw [em] at q; exact q.elim
  | rt _ _ => unfold nThen at q; rw [em] at q; exact q.elim
  | stuck => unfold nThen at q; rw [em] at q; exact q.elim
end
/-! ### a generator def, called and listed -/
abbrev FG := List W → MH → R (List W)
def spGM (G : Kt) (mf : FG) : SpG := fun vs H Q E => ∃ T ws h, Hrel G T h H ∧ Reps G T H ws vs ∧ match mf ws h with
  | .ok os h' => ∀ T' H' xs, Hrel G T' h' H' → Ex T T' H H' → Reps G T' H' os xs → Q xs H'
  | .exc x h' => ∀ T' H' cls d, Hrel G T' h' H' → Ex T T' H H' → XcIs G T' H' x cls d → E cls d H'
  | .stuck => False
def mGen (np nl : Nat) (g : NM) : FG := fun ws h => match Nat.beq ws.length np with
  | false => .stuck
  | true => g (padM nl ws) h
section
variable {P : Program} {w : World} {K : PySem.W.Frag} {mg : Str → Option Value} {base : Heap} {x qual : Str} {params : Arguments} {body : List Stmt} {scope : Scope} {dvs : List V} {kws : List (Str × V)} {f : Addr} {fd : FuncData} {N ps : List Str} {k np nl : Nat} {g : NM}
theorem gfn_m (F : FunD K x qual params body scope dvs kws f fd) (S : GScope N ps scope) (h1 : ps.length = np) (h2 : N.length = np + nl)
    (hb : ∀ (cdv : Value) (A : Around) (outer : List Env) (s : Shared) (H : Hp) (E : XK) (pn : List (Addr × Obj)), Room k (A.deeper (envOfC qual scope s.heap.objs.size f cdv)) →
      MGn (gcxOf P w K mg base N qual scope f cdv A outer s H E pn) adr (fun cls d _ H => E cls d H) body g) :
    GFn P w K mg base (k + 1) f fd ps (spGM ⟨P, w, K, adr⟩ (mGen np nl g)) := by
  have hl : ∀ vs H Q E, spGM ⟨P, w, K, adr⟩ (mGen np nl g) vs H Q E → vs.length = np := fun vs H Q E ⟨T, ws, h, hr, rp, q⟩ => by
    unfold mGen at q
    cases e : Nat.beq ws.length np with
    | false => rw [e] at q; exact q.elim
    | true => rw [← rp.length]; exact Nat.eq_of_beq_eq_true e
  obtain ⟨oc, od, dV, kV, doc, pm, an, cdv, ct, osl, rfl, lk, hcd, _, _⟩ := F.ex
  refine gfn_of lk hcd S (fun vs H Q E h => by rw [h1]; exact hl vs H Q E h) fun A outer s H vs Q E pn hr h => ⟨_, hb cdv A outer s H E pn hr, ?_⟩
  have lv := hl vs H Q E h
  obtain ⟨T, ws, mh, hr, rp, q⟩ := h
  refine ⟨rfl, T, padM nl ws, mh, hr, ?_, ?_⟩
  · have := Erel.start (G := ⟨P, w, K, adr⟩) 0 nl rp
    unfold L2.start
    rw [show N.length - vs.length = nl by omega]
    exact this
  · unfold mGen at q
    cases e : Nat.beq ws.length np with
    | false => rw [e] at q; exact q.elim
    | true =>
      rw [e] at q
      dsimp only at q
      cases eg : g (padM nl ws) mh with
      | ok os h' => rw [eg] at q; exact fun T' H' σ' xs hr' x' r hle => q T' H' xs hr' x' r
      | exc x h' => rw [eg] at q; exact fun T' H' σ' cls d hr' x' xi => q T' H' cls d hr' x' xi
      | stuck => rw [eg] at q; exact q.elim
end
section
variable {k : Nat} {f : Addr} {fd : FuncData} {ps : List Str} {mf : FG} {dws : List W} {ds : List Value} {x nm : Str} {p p2 pos pos' : Pos} {e : Expr} {es : List Expr} {as : AM}
/-- list(f(..)), f a generator def -/
def mListG (mf : FG) (dws : List W) (as : AM) : EM := fun me h => (as me h).bind fun ws h => match mf (ws ++ dws) h with
  | .ok os h => .ok (.lst os) h
  | _ => .stuck
theorem passes_no : Passes (L2.CX X.prog X.w) X (fun _ _ _ => False) := fun pins σ H s e s' I ⟨_, _, _, _, _, _, _, _, _, _, _, _, z⟩ => z.elim
theorem me_listG (F : GFn X.prog X.w X.K X.mg X.base k f fd ps (spGM (kt X adr) mf)) (hr : Room (k + 3) X.A) (hg : Gl X x) (hm : X.mg x = some (.ref f)) (hk : PySem.W.keepIn X.K (.ref f) = true) (hb : Binds X.K fd ps ds) (hd : Dfl X.K dws ds)
    (ha : MA X adr Y (e :: es) as) (hg2 : Gl X nm) (hmg : X.mg nm = none) (hv : bootBuiltins nm = some (.type "list")) (hnm : nm ≠ "__name__") (hdb2 : (nm == ("__debug__" : Str)) = false) (hdb : (x == ("__debug__" : Str)) = false)
    (he : starEach (e :: es) X.env = (false, eval e X.env) :: starEach es X.env) (hpl : (backTo pos' (starEach es X.env)).any (·.1) = false)
    (he2 : starEach [.Call (.Name x p) (e :: es) [] pos'] X.env = (false, eval (.Call (.Name x p) (e :: es) [] pos') X.env) :: starEach [] X.env) :
    ME X adr Y (.Call (.Name nm p2) [.Call (.Name x p) (e :: es) [] pos'] [] pos) (mListG mf dws as) := by
  have hp : PGen X k (.Call (.Name x p) (e :: es) [] pos') (fun σ H cont => rdA (kt X adr) Y as σ H fun vs H1 => ∃ dv, Vals dv ds ∧ spGM (kt X adr) mf (vs ++ dv) H1 cont (fun _ _ _ => False)) (fun _ _ _ => False) := by
    refine ⟨fun pins s σ H cont I h => ?_⟩
    refine wpAny_Call_Name_kw (ld_glob I hg hm ?_ hdb)
    refine PySem.W.callWith_K (h₀ := X.base) I.ok.mod.kin hk (thn (ha.run pos' pins s σ H _ I h) fun us s1 ⟨vs, H1, I1, r, dv, rd, q⟩ => ⟨I1.kIn, ?_⟩) he hpl
    exact run_gfn F (hr.mono (by omega)) hb rd I1 r q
  refine pe_imp (pe_listG hp (passes_no) (fun _ _ _ z => z.elim) hr hg2 hmg hv hnm hdb2 he2) fun σ H Q ⟨T, me, h, hR, hE, q⟩ => ?_
  refine ⟨T, me, h, hR, hE, Res.bind q fun ws h1 _ T1 H1 vs hr1 x1 rp q1 => ?_⟩
  obtain ⟨dv, rd, rpd⟩ := hd (kt X adr) T1 H1 rfl
  refine ⟨dv, rd, T1, ws ++ dws, h1, hr1, rp.append rpd, ?_⟩
  cases em : mf (ws ++ dws) h1 with
  | ok os h2 =>
    simp only [em] at q1
    intro T' H' xs hr' x' r D hD
    have g : Grow H' (upd H' D (.lst xs)) := Grow.laid hD
    have x2 := Ex.grow hr'.ok g
    refine q1 T' _ _ (hr'.grow g) (x'.trans x2) ?_
    unfold Rep
    exact ⟨D, xs, rfl, hr'.ok.fresh hD, upd_same, reps_ex x2 _ _ r⟩
  | exc x h2 => simp only [em] at q1; exact q1.elim
  | stuck => simp only [em] at q1; exact q1.elim
end
end Mi

end
section
namespace Mi
open PySem PySem.Spec PyProof.Rows L2
section
variable {prog : Program} {w : World} {A : Around} {E : Value → Shared → Prop} {s : Shared} {z TI TO i1 i2 : Addr} {fp1 fp2 : List Addr} {n1 n2 i : Nat} {P1 P2 : Nat → Value → Prop} {St1 St2 : Nat → Heap → Prop} {a1 a2 f0 : Value} {f1 : Bool}

/-- a zip, whatever became of the tuple that it gave out -/
abbrev IsZ (h : Heap) (z TI TO : Addr) (f0 : Value) (f1 : Bool) : Prop := h.get? z = some { cls := .type "zip", dict := none, data := .fields #[f0, .bool f1, .bool false, .ref TI, .ref TO], slots := #[] }
def Out0 (f : Value) : Prop := f = .none ∨ ∃ T : Addr, f = rawInt T
theorem look_alive {a : Addr} {Q : Option Obj → Shared → Prop} (h : Q (s.heap.get? a) s) : wpAny (model prog w) A (loadIfAlive a) Q E s := fun _ _ _ => h
/-- the tuple given out: free or not -/
theorem own_free {Q : Bool → Shared → Prop} (hz : IsZ s.heap z TI TO f0 f1) (hf : Out0 f0) (h : ∀ b f h', IsZ h' z TI TO f0 f → Heap.SameBut z s.heap h' → Q b { s with heap := h' }) :
    wpAny (model prog w) A (Builtin.SmallTypes.ownedTupleIsFree (.ref z)) Q E s := by
  unfold Builtin.SmallTypes.ownedTupleIsFree
  rcases hf with rfl | ⟨T, rfl⟩
  · exact wpAny_bind (wpAny_field hz rfl (x := .none) rfl (wpAny_pure (h true f1 s.heap hz (Heap.SameBut.refl _ _))))
  · refine wpAny_bind (wpAny_field hz rfl (x := rawInt T) rfl ?_)
    change wpAny _ _ (loadIfAlive ((T : Int).toNat) >>= _) _ _ _
    rw [Int.toNat_natCast]
    refine wpAny_bind (look_alive ?_)
    cases s.heap.get? T with
    | none =>
      simp only [Option.isNone_none, if_true]
      exact wpAny_pure (h true f1 s.heap hz (Heap.SameBut.refl _ _))
    | some o =>
      simp only [Option.isNone_some, Bool.false_eq_true, if_false]
      refine wpAny_bind (wpAny_field hz rfl (x := .bool f1) rfl ?_)
      cases f1 with
      | true =>
        rw [if_neg (show ¬ ((Value.bool true != Value.bool true) = true) from Bool.false_ne_true)]
        exact wpAny_pure (h false true s.heap hz (Heap.SameBut.refl _ _))
      | false =>
        rw [if_pos (show (Value.bool false != Value.bool true) = true from rfl)]
        exact wpAny_bind (wpAny_setField_rec hz (by simp) fun h₁ hz₁ hs₁ => wpAny_pure (h false true h₁ hz₁ hs₁))
/-- an iterator's next: an item or the end -/
theorem draw_t {it : Addr} {fp : List Addr} {n : Nat} {P : Nat → Value → Prop} {St : Nat → Heap → Prop} {Q : Value → Shared → Prop} (D : Draws prog w A it fp n P St) (st : St i s.heap) (hi : i ≤ n)
    (hQ : i < n → ∀ x h' tk, P i x → St (i + 1) h' → Heap.SameBut it s.heap h' → Q x { s with heap := h', toks := tk })
    (hE : i = n → ∀ h' e, Heap.ExtBut it s.heap h' → (∃ o, h'.get? e = some o ∧ o.cls = .type "StopIteration") → E (.ref e) { s with heap := h' }) : wpAny (model prog w) A (Builtin.SmallTypes.nextOf (.ref it)) Q E s := by
  by_cases h : i < n
  · exact D.item i s Q E h st (hQ h)
  · have e : i = n := by omega
    exact D.done s Q E (e ▸ st) (hE e)
theorem zip_turn {Q : Value → Shared → Prop} (S : ZipSep2 z TI TO i1 i2 fp1 fp2) (D1 : Draws prog w A i1 fp1 n1 P1 St1) (D2 : Draws prog w A i2 fp2 n2 P2 St2)
    (hz : IsZ s.heap z TI TO f0 f1) (hf : Out0 f0) (hTI : IsTupOf2 s.heap TI (.ref i1) (.ref i2)) (hTO : IsTupOf2 s.heap TO a1 a2) (st1 : St1 i s.heap) (st2 : St2 i s.heap) (hle1 : i ≤ n1) (hle2 : i ≤ n2)
    (hQ : i < n1 → i < n2 → ∀ x1 x2 h' tk f f', P1 i x1 → P2 i x2 → IsZ h' z TI TO f f' → Out0 f → (∃ b1 b2, IsTupOf2 h' TO b1 b2) → St1 (i + 1) h' → St2 (i + 1) h' → IsTupOf2 h' s.heap.objs.size x1 x2 → h'.objs.size = s.heap.objs.size + 1 →
      (∀ c o, c ≠ z → c ≠ TO → c ≠ i1 → c ≠ i2 → s.heap.get? c = some o → h'.get? c = some o) → Q (.ref s.heap.objs.size) { s with heap := h', toks := tk })
    (hE : i = n1 ∨ i = n2 → ∀ h' tk e, (∀ c o, c ≠ z → c ≠ TO → c ≠ i1 → c ≠ i2 → s.heap.get? c = some o → h'.get? c = some o) → (∃ o, h'.get? e = some o ∧ o.cls = .type "StopIteration") → E (.ref e) { s with heap := h', toks := tk }) :
    wpAny (model prog w) A (Builtin.«zip.__next__» ⟨[.ref z], []⟩) (fun fin s' => ∃ v, fin = .done (.ret v) ∧ Q v s') E s := by
  obtain ⟨hp, g, d, t0, os⟩ := s
  change wpAny _ _ (field (.ref z) 2 >>= _) _ _ _
  refine wpAny_bind (wpAny_field hz rfl (x := .bool false) rfl ?_)
  change wpAny _ _ (field (.ref z) 3 >>= _) _ _ _
  refine wpAny_bind (wpAny_field hz rfl (x := .ref TI) rfl ?_)
  refine wpAny_bind (wpAny_seqItems hTI rfl ?_)
  change wpAny _ _ (Builtin.SmallTypes.ownedTupleIsFree (.ref z) >>= _) _ _ _
  refine wpAny_bind (own_free hz hf fun b f q0 zq0 sq0 => ?_)
  replace sq0 : Heap.SameBut z hp q0 := sq0
  have T0 : IsTupOf2 q0 TO a1 a2 := sq0.extBut _ _ S.TOz hTO
  have u1 : St1 i q0 := D1.over st1 sq0 S.zf1
  have u2 : St2 i q0 := D2.over st2 sq0 S.zf2
  have stop : ∀ (h' : Heap) (e : Addr) (f : Value) (f' : Bool), IsZ h' z TI TO f f' → (∃ o, h'.get? e = some o ∧ o.cls = .type "StopIteration") → e ≠ z := fun h' e f f' y ⟨o, ho, hc⟩ q => by
    subst q
    rw [y] at ho
    cases ho
    simp at hc
  cases b with
  | false =>
    simp only [Bool.false_eq_true, if_false]
    refine wpAny_bind ?_
    rw [← Array.forIn_toList]
    simp only [List.forIn_cons, List.forIn_nil]
    refine wpAny_bind (wpAny_bind (wpAny_holding ?_))
    change wpAny _ _ (Builtin.SmallTypes.nextOf (.ref i1) >>= _) _ _ ⟨q0, g, d, t0, os⟩
    refine wpAny_bind (draw_t (s := ⟨q0, g, d, t0, os⟩) D1 u1 hle1 (fun lt1 x1 q1 t1 p1 v1 k1 => wpAny_pure (wpAny_pure ?_)) fun en h' e k1 k2 => ?_)
    · refine wpAny_bind (wpAny_bind (wpAny_holding ?_))
      change wpAny _ _ (Builtin.SmallTypes.nextOf (.ref i2) >>= _) _ _ ⟨q1, g, d, t1, os⟩
      replace k1 : Heap.SameBut i1 q0 q1 := k1
      refine wpAny_bind (draw_t (s := ⟨q1, g, d, t1, os⟩) D2 (D2.over u2 k1 S.sep1_2) hle2 (fun lt2 x2 q2 t2 p2 v2 k2 => wpAny_pure (wpAny_pure (wpAny_pure ?_))) fun en h' e k2 k3 => ?_)
      · replace k2 : Heap.SameBut i2 q1 q2 := k2
        change wpAny _ _ (newTuple [x1, x2] >>= _) _ _ _
        refine wpAny_bind (wpAny_newTuple ?_)
        have sz : q2.objs.size = hp.objs.size := by rw [k2.1, k1.1, sq0.1]
        have new : ∀ c o, q2.get? c = some o → (q2.push { cls := .type "tuple", data := .seq #[x1, x2] }).get? c = some o := fun c o e => Heap.get?_push_of_some _ e
        have hT : IsTupOf2 (q2.push { cls := .type "tuple", data := .seq #[x1, x2] }) q2.objs.size x1 x2 := Heap.get?_push_size _ rfl
        have hS : (q2.push { cls := .type "tuple", data := .seq #[x1, x2] }).objs.size = q2.objs.size + 1 := Heap.size_push ..
        refine wpAny_pure ⟨_, rfl, ?_⟩
        change Q (.ref q2.objs.size) ⟨_, g, d, t2, os⟩
        rw [sz] at hT hS ⊢
        exact hQ lt1 lt2 x1 x2 _ t2 _ _ p1 p2 (new _ _ (k2.extBut _ _ S.zi2 (k1.extBut _ _ S.zi1 zq0))) hf ⟨_, _, new _ _ (k2.extBut _ _ S.Ti2 (k1.extBut _ _ S.Ti1 T0))⟩ (D1.frame _ _ _ (D1.over v1 k2 S.sep2_1) fun b _ o e => new b o e) (D2.frame _ _ _ v2 fun b _ o e => new b o e) hT hS
          fun c o c1 c2 c3 c4 e => new _ _ (k2.extBut _ _ c4 (k1.extBut _ _ c3 (sq0.extBut _ _ c1 e)))
      · replace k2 : Heap.ExtBut i2 q1 h' := k2
        exact hE (.inr en) h' t1 e (fun c o c1 c2 c3 c4 y => k2 _ _ c4 (k1.extBut _ _ c3 (sq0.extBut _ _ c1 y))) k3
    · replace k1 : Heap.ExtBut i1 q0 h' := k1
      exact hE (.inl en) h' t0 e (fun c o c1 c2 c3 c4 y => k1 _ _ c3 (sq0.extBut _ _ c1 y)) k2
  | true =>
    simp only [if_true]
    refine wpAny_bind (wpAny_rule ?_)
    refine wpAny_bind (wpAny_field (s := ⟨q0, g, d, t0, os⟩) zq0 rfl (x := .ref TO) rfl ?_)
    refine wpAny_bind (wpAny_setField_rec (s := ⟨q0, g, d, t0, os⟩) zq0 (by simp) fun q1 zq1 k1 => ?_)
    replace zq1 : IsZ q1 z TI TO .ellipsis f := zq1
    replace k1 : Heap.SameBut z q0 q1 := k1
    refine wpAny_bind ?_
    simp only [List.zipIdx_cons, List.zipIdx_nil, List.forIn_cons, List.forIn_nil]
    refine wpAny_bind (wpAny_bind (wpAny_onRaise ?_))
    change wpAny _ _ (Builtin.SmallTypes.nextOf (.ref i1) >>= _) _ _ ⟨q1, g, d, t0, os⟩
    refine wpAny_bind (draw_t (s := ⟨q1, g, d, t0, os⟩) D1 (D1.over u1 k1 S.zf1) hle1 (fun lt1 x1 q2 t1 p1 v1 k2 => wpAny_pure ?_) fun en h' e k2 k3 => ?_)
    · replace k2 : Heap.SameBut i1 q1 q2 := k2
      have T2 : IsTupOf2 q2 TO a1 a2 := k2.extBut _ _ S.Ti1 (k1.extBut _ _ S.TOz T0)
      refine wpAny_bind (wpAny_seqItems (s := ⟨q2, g, d, t1, os⟩) T2 rfl ?_)
      refine wpAny_bind (updateSeq_IsTupOf2 (s := ⟨q2, g, d, t1, os⟩) T2 fun q3 T3 k3 => ?_)
      replace T3 : IsTupOf2 q3 TO x1 a2 := T3
      replace k3 : Heap.SameBut TO q2 q3 := k3
      refine wpAny_bind (wpAny_letGo (wpAny_pure ?_))
      refine wpAny_bind (wpAny_bind (wpAny_onRaise ?_))
      change wpAny _ _ (Builtin.SmallTypes.nextOf (.ref i2) >>= _) _ _ ⟨q3, g, d, t1, os⟩
      have zq3 : IsZ q3 z TI TO .ellipsis f := k3.extBut _ _ S.TOz.symm (k2.extBut _ _ S.zi1 zq1)
      refine wpAny_bind (draw_t (s := ⟨q3, g, d, t1, os⟩) D2 (D2.over (D2.over (D2.over u2 k1 S.zf2) k2 S.sep1_2) k3 S.Tf2) hle2 (fun lt2 x2 q4 t2 p2 v2 k4 => wpAny_pure ?_) fun en h' e k4 k5 => ?_)
      · replace k4 : Heap.SameBut i2 q3 q4 := k4
        have T4 : IsTupOf2 q4 TO x1 a2 := k4.extBut _ _ S.Ti2 T3
        refine wpAny_bind (wpAny_seqItems (s := ⟨q4, g, d, t2, os⟩) T4 rfl ?_)
        refine wpAny_bind (updateSeq_IsTupOf2 (s := ⟨q4, g, d, t2, os⟩) T4 fun q5 T5 k5 => ?_)
        replace T5 : IsTupOf2 q5 TO x1 x2 := T5
        replace k5 : Heap.SameBut TO q4 q5 := k5
        refine wpAny_bind (wpAny_letGo (wpAny_pure (wpAny_pure ?_)))
        refine wpAny_bind (wpAny_seqItems (s := ⟨q5, g, d, t2, os⟩) T5 rfl ?_)
        refine wpAny_bind (wpAny_newTuple ?_)
        have sz : q5.objs.size = hp.objs.size := by rw [k5.1, k4.1, k3.1, k2.1, k1.1, sq0.1]
        have zq5 : IsZ q5 z TI TO .ellipsis f := k5.extBut _ _ S.TOz.symm (k4.extBut _ _ S.zi2 zq3)
        change wpAny _ _ (Builtin.SmallTypes.ownedTupleHandOut (.ref z) (.ref q5.objs.size) >>= _) _ _ ⟨q5.push { cls := .type "tuple", data := .seq #[x1, x2] }, g, d, t2, os⟩
        refine wpAny_bind ?_
        unfold Builtin.SmallTypes.ownedTupleHandOut
        have zq6 : IsZ (q5.push { cls := .type "tuple", data := .seq #[x1, x2] }) z TI TO .ellipsis f := Heap.get?_push_of_some _ zq5
        refine wpAny_bind (wpAny_setField_rec (s := ⟨q5.push { cls := .type "tuple", data := .seq #[x1, x2] }, g, d, t2, os⟩) zq6 (by simp) fun q7 zq7 k7 => ?_)
        replace zq7 : IsZ q7 z TI TO (rawInt q5.objs.size) f := zq7
        replace k7 : Heap.SameBut z (q5.push { cls := .type "tuple", data := .seq #[x1, x2] }) q7 := k7
        refine wpAny_setField_rec (s := ⟨q7, g, d, t2, os⟩) zq7 (by simp) fun q8 zq8 k8 => ?_
        replace zq8 : IsZ q8 z TI TO (rawInt q5.objs.size) false := zq8
        replace k8 : Heap.SameBut z q7 q8 := k8
        have up : ∀ c o, c ≠ z → q5.get? c = some o → q8.get? c = some o := fun c o c1 e => k8.extBut _ _ c1 (k7.extBut _ _ c1 (Heap.get?_push_of_some _ e))
        have zne : q5.objs.size ≠ z := Nat.ne_of_gt (Heap.lt_size zq5)
        have hT : IsTupOf2 q8 q5.objs.size x1 x2 := k8.extBut _ _ zne (k7.extBut _ _ zne (Heap.get?_push_size _ rfl))
        have hS : q8.objs.size = q5.objs.size + 1 := by rw [k8.1, k7.1, Heap.size_push]
        refine wpAny_pure ⟨_, rfl, ?_⟩
        change Q (.ref q5.objs.size) ⟨q8, g, d, t2, os⟩
        rw [sz] at hT hS zq8 ⊢
        exact hQ lt1 lt2 x1 x2 q8 t2 _ _ p1 p2 zq8 (.inr ⟨_, rfl⟩) ⟨_, _, up _ _ S.TOz T5⟩
          (D1.frame _ _ _ (D1.over (D1.over (D1.over v1 k3 S.Tf1) k4 S.sep2_1) k5 S.Tf1) fun b hb o e => up b o (fun q => S.zf1 (q ▸ hb)) e)
          (D2.frame _ _ _ (D2.over v2 k5 S.Tf2) fun b hb o e => up b o (fun q => S.zf2 (q ▸ hb)) e) hT hS
          fun c o c1 c2 c3 c4 e => up _ _ c1 (k5.extBut _ _ c2 (k4.extBut _ _ c4 (k3.extBut _ _ c2 (k2.extBut _ _ c3 (k1.extBut _ _ c1 (sq0.extBut _ _ c1 e))))))
      · replace k4 : Heap.ExtBut i2 q3 h' := k4
        have zq4 : IsZ h' z TI TO .ellipsis f := k4 _ _ S.zi2 zq3
        have ez := stop _ _ _ _ zq4 k5
        obtain ⟨oe, hoe, hce⟩ := k5
        refine wpAny_setField_rec (s := ⟨h', g, d, t1, os⟩) zq4 (by simp) fun q' _ k6 => ?_
        replace k6 : Heap.SameBut z h' q' := k6
        exact hE (.inr en) q' t1 e (fun c o c1 c2 c3 c4 y => k6.extBut _ _ c1 (k4 _ _ c4 (k3.extBut _ _ c2 (k2.extBut _ _ c3 (k1.extBut _ _ c1 (sq0.extBut _ _ c1 y)))))) ⟨oe, k6.extBut _ _ ez hoe, hce⟩
    · replace k2 : Heap.ExtBut i1 q1 h' := k2
      have zq2 : IsZ h' z TI TO .ellipsis f := k2 _ _ S.zi1 zq1
      have ez := stop _ _ _ _ zq2 k3
      obtain ⟨oe, hoe, hce⟩ := k3
      refine wpAny_setField_rec (s := ⟨h', g, d, t0, os⟩) zq2 (by simp) fun q' _ k6 => ?_
      replace k6 : Heap.SameBut z h' q' := k6
      exact hE (.inl en) q' t0 e (fun c o c1 c2 c3 c4 y => k6.extBut _ _ c1 (k2 _ _ c3 (k1.extBut _ _ c1 (sq0.extBut _ _ c1 y)))) ⟨oe, k6.extBut _ _ ez hoe, hce⟩
end
end Mi

end
section
namespace Mi
open PySem PySem.Spec PyProof.Rows L2
variable {G : Kt} {X : Cx} {adr : Nat → Addr} {Y : WX}
section
variable {prog : Program} {w : World} {A : Around} {E : Value → Shared → Prop} {s : Shared}
/-- enumerate of an iterator that is its own -/
theorem meets_enum_own {v : Value} {H : Heap → Prop} (B : ∀ (prog : Program) (w : World) (A : Around) (E : Value → Shared → Prop) (s : Shared) (Q : Value → Shared → Prop), H s.heap → Q v s → wpAny (model prog w) A (pyIter v) Q E s) :
    Meets (Builtin.«enumerate.__new__» ⟨[.type "enumerate", v], []⟩) (fun _ R s => H s.heap ∧
      R (.ok (.ret (.ref s.heap.objs.size))) { s with heap := s.heap.push { cls := .type "enumerate", data := .fields #[.none, .bool false, v, rawInt 0, .none, .none] } }) :=
  .of_wp fun prog w A R s h => by
    obtain ⟨hp, g, d, tk, os⟩ := s
    obtain ⟨h1, h⟩ := h
    have hsub := sub_enumerate
    have q1 : ∀ {A' : Around} {E : Value → Shared → Prop} {Q : Value → Shared → Prop}, Q v ⟨hp, g, d, tk, os⟩ → wpAny (model prog w) A' (pyIter v) Q E ⟨hp, g, d, tk, os⟩ := fun q => B prog w _ _ ⟨hp, g, d, tk, os⟩ _ h1 q
    wp_walk using q1
    refine wpAny_stack_any fun st => wpAny_pure ?_
    split
    · rename_i c _ _ _ _ _
      cases (c == Value.type "enumerate")
      · wp_walk using q1
        exact ⟨_, rfl, h⟩
      · wp_walk using q1
        exact ⟨_, rfl, h⟩
    · wp_walk using q1
      exact ⟨_, rfl, h⟩
theorem enum_own {a : Addr} {H : Heap → Prop} {Q : Value → Shared → Prop} (B : ∀ (prog : Program) (w : World) (A : Around) (E : Value → Shared → Prop) (s : Shared) (Q : Value → Shared → Prop), H s.heap → Q (.ref a) s → wpAny (model prog w) A (pyIter (.ref a)) Q E s) (h1 : H s.heap)
    (h : ∀ h', IsEnum h' s.heap.objs.size a 0 .none → h'.objs.size = s.heap.objs.size + 1 → (∀ b o, s.heap.get? b = some o → h'.get? b = some o) → Q (.ref s.heap.objs.size) { s with heap := h' }) :
    wpAny (model prog w) A (call (.type "enumerate") [.ref a]) Q E s := by
  refine callType_new F.called_enumerate (by decide) (F.typeCall_enumerate_1 _) (F.newCall_enumerate_1 _) (fun obj => F.args_object_init_2 obj _) F.entry_enumerate_new (meets_enum_own B) ⟨h1, ?_⟩
  have he : IsEnum (s.heap.push { cls := .type "enumerate", data := .fields #[.none, .bool false, .ref a, rawInt 0, .none, .none] }) s.heap.objs.size a 0 .none := Heap.get?_push_size _ rfl
  exact ⟨⟨_, he, rfl⟩, h _ he (Heap.size_push ..) fun b o e => Heap.get?_push_of_some _ e⟩
/-- enumerate's next, whatever its iterator does -/
theorem enum_turn {e it : Addr} {i : Int} {old : Value} {Q : Value → Shared → Prop} (he : IsEnum s.heap e it i old)
    (hd : wpAny (model prog w) A (Builtin.SmallTypes.nextOf (.ref it)) (fun x s1 => IsEnum s1.heap e it i old ∧ ∀ h', IsEnumOut h' e it (i + 1) x s1.heap.objs.size → h'.get? s1.heap.objs.size = some { cls := .type "tuple", data := .seq #[.int i s1.toks, x] } →
      h'.objs.size = s1.heap.objs.size + 1 → (∀ b o, b ≠ e → s1.heap.get? b = some o → h'.get? b = some o) → Q (.ref s1.heap.objs.size) { s1 with heap := h', toks := s1.toks + 1 }) E s) :
    wpAny (model prog w) A (Builtin.«enumerate.__next__» ⟨[.ref e], []⟩) (fun fin s' => ∃ v, fin = .done (.ret v) ∧ Q v s') E s := by
  change wpAny _ _ (field (.ref e) 2 >>= _) _ _ s
  refine wpAny_bind (wpAny_field he rfl (x := .ref it) rfl ?_)
  refine wpAny_bind (wpAny_mono hd (fun x s1 h1 => ?_) fun _ _ z => z)
  obtain ⟨he1, fin⟩ := h1
  obtain ⟨hp, g, d, tk, os⟩ := s1
  replace he1 : IsEnum hp e it i old := he1
  have el : e < hp.objs.size := Heap.lt_size he1
  have ne : hp.objs.size ≠ e := Nat.ne_of_gt el
  change wpAny _ _ (field (.ref e) 3 >>= _) _ _ ⟨hp, g, d, tk, os⟩
  refine wpAny_bind (wpAny_field he1 rfl (x := rawInt i) rfl ?_)
  change wpAny _ _ (field (.ref e) 4 >>= _) _ _ ⟨hp, g, d, tk, os⟩
  refine wpAny_bind (wpAny_field he1 rfl (x := .none) rfl ?_)
  change wpAny _ _ (mkInt i >>= _) _ _ ⟨hp, g, d, tk, os⟩
  refine wpAny_bind (wpAny_mkInt ?_)
  change wpAny _ _ (setField (.ref e) 3 (rawInt (i + 1)) >>= _) _ _ ⟨hp, g, d, tk + 1, os⟩
  refine wpAny_bind (wpAny_setField_rec he1 (by simp) fun q1 e1 k1 => ?_)
  replace k1 : Heap.SameBut e hp q1 := k1
  replace e1 : IsEnum q1 e it (i + 1) old := e1
  change wpAny _ _ (setField (.ref e) 4 .none >>= _) _ _ ⟨q1, g, d, tk + 1, os⟩
  refine wpAny_bind (wpAny_setField_rec e1 (by simp) fun q2 e2 k2 => ?_)
  replace k2 : Heap.SameBut e q1 q2 := k2
  replace e2 : IsEnum q2 e it (i + 1) old := e2
  change wpAny _ _ (newTuple [.int i tk, x] >>= _) _ _ ⟨q2, g, d, tk + 1, os⟩
  refine wpAny_bind (wpAny_newTuple ?_)
  have sz : q2.objs.size = hp.objs.size := by rw [k2.1, k1.1]
  have e3 : IsEnum (q2.push { cls := .type "tuple", data := .seq #[.int i tk, x] }) e it (i + 1) old := Heap.get?_push_of_some _ e2
  have t3 : (q2.push { cls := .type "tuple", data := .seq #[.int i tk, x] }).get? hp.objs.size = some { cls := .type "tuple", data := .seq #[.int i tk, x] } := by rw [← sz]; exact Heap.get?_push_size _ rfl
  have z3 : (q2.push { cls := .type "tuple", data := .seq #[.int i tk, x] }).objs.size = hp.objs.size + 1 := by rw [Heap.size_push, sz]
  have k3 : ∀ b o, b ≠ e → hp.get? b = some o → (q2.push { cls := .type "tuple", data := .seq #[.int i tk, x] }).get? b = some o := fun b o hb y => Heap.get?_push_of_some _ (k2.extBut _ _ hb (k1.extBut _ _ hb y))
  change wpAny _ _ (Builtin.SmallTypes.ownedTupleIsFree (.ref e) >>= _) _ _ ⟨q2.push { cls := .type "tuple", data := .seq #[.int i tk, x] }, g, d, tk + 1, os⟩
  rw [sz]
  generalize hq3 : q2.push { cls := .type "tuple", data := .seq #[.int i tk, x] } = q3 at e3 t3 z3 k3
  refine wpAny_bind ?_
  unfold Builtin.SmallTypes.ownedTupleIsFree
  refine wpAny_bind (wpAny_field e3 rfl (x := .none) rfl (wpAny_pure ?_))
  simp only [if_true]
  refine wpAny_bind (wpAny_rule ?_)
  refine wpAny_bind (wpAny_field e3 rfl (x := old) rfl ?_)
  refine wpAny_bind (wpAny_setField_rec e3 (by simp) fun q4 e4 k4 => ?_)
  replace k4 : Heap.SameBut e q3 q4 := k4
  replace e4 : IsEnum q4 e it (i + 1) x := e4
  change wpAny _ _ (Builtin.SmallTypes.ownedTupleHandOut (.ref e) (.ref hp.objs.size) >>= _) _ _ ⟨q4, g, d, tk + 1, os⟩
  refine wpAny_bind ?_
  unfold Builtin.SmallTypes.ownedTupleHandOut
  refine wpAny_bind (wpAny_setField_rec e4 (by simp) fun q5 e5 k5 => ?_)
  replace k5 : Heap.SameBut e q4 q5 := k5
  replace e5 : IsEnumOut q5 e it (i + 1) x hp.objs.size := e5
  refine wpAny_setField_rec e5 (by simp) fun q6 e6 k6 => ?_
  replace k6 : Heap.SameBut e q5 q6 := k6
  replace e6 : IsEnumOut q6 e it (i + 1) x hp.objs.size := e6
  have up : ∀ b o, b ≠ e → q3.get? b = some o → q6.get? b = some o := fun b o hb y => k6.extBut _ _ hb (k5.extBut _ _ hb (k4.extBut _ _ hb y))
  refine wpAny_bind (wpAny_letGo (wpAny_pure ⟨_, rfl, fin q6 e6 (up _ _ ne t3) ?_ fun b o hb y => up b o hb (k3 b o hb y)⟩))
  change q6.objs.size = hp.objs.size + 1
  rw [k6.1, k5.1, k4.1, z3]
/-- next of a zip, asked by another built-in -/
theorem nextOf_zip {z TI TO i1 i2 : Addr} {fp1 fp2 : List Addr} {n1 n2 i : Nat} {P1 P2 : Nat → Value → Prop} {St1 St2 : Nat → Heap → Prop} {a1 a2 f0 : Value} {f1 : Bool} {Q : Value → Shared → Prop} (S : ZipSep2 z TI TO i1 i2 fp1 fp2) (D1 : Draws prog w A.in1 i1 fp1 n1 P1 St1) (D2 : Draws prog w A.in1 i2 fp2 n2 P2 St2)
    (hz : IsZ s.heap z TI TO f0 f1) (hf : Out0 f0) (hTI : IsTupOf2 s.heap TI (.ref i1) (.ref i2)) (hTO : IsTupOf2 s.heap TO a1 a2) (st1 : St1 i s.heap) (st2 : St2 i s.heap) (hle1 : i ≤ n1) (hle2 : i ≤ n2)
    (hQ : i < n1 → i < n2 → ∀ x1 x2 h' tk f f', P1 i x1 → P2 i x2 → IsZ h' z TI TO f f' → Out0 f → (∃ b1 b2, IsTupOf2 h' TO b1 b2) → St1 (i + 1) h' → St2 (i + 1) h' → IsTupOf2 h' s.heap.objs.size x1 x2 → h'.objs.size = s.heap.objs.size + 1 →
      (∀ c o, c ≠ z → c ≠ TO → c ≠ i1 → c ≠ i2 → s.heap.get? c = some o → h'.get? c = some o) → Q (.ref s.heap.objs.size) { s with heap := h', toks := tk })
    (hE : i = n1 ∨ i = n2 → ∀ h' tk e, (∀ c o, c ≠ z → c ≠ TO → c ≠ i1 → c ≠ i2 → s.heap.get? c = some o → h'.get? c = some o) → (∃ o, h'.get? e = some o ∧ o.cls = .type "StopIteration") → E (.ref e) { s with heap := h', toks := tk }) :
    wpAny (model prog w) A (Builtin.SmallTypes.nextOf (.ref z)) Q E s := by
  have hT : s.TypeIs (.ref z) "zip" := ⟨_, hz, rfl⟩
  unfold Builtin.SmallTypes.nextOf
  exact wpAny_bind (wpAny_callSpecial?_slot (name := Str.ofString "__next__") hT F.slot_zip_next (wpAny_call_entry F.slot_zip_next hT F.entry_zip_next
    (zip_turn S D1 D2 hz hf hTI hTO st1 st2 hle1 hle2 (fun l1 l2 x1 x2 h' tk f f' y1 y2 y3 y4 y5 y6 y7 y8 y9 y10 => wpAny_pure (hQ l1 l2 x1 x2 h' tk f f' y1 y2 y3 y4 y5 y6 y7 y8 y9 y10)) hE) (F.args_zip_next_1 _)))
end
end Mi

end
section
namespace Mi
open PySem PySem.Spec PyProof.Rows L2
variable {G : Kt} {X : Cx} {adr : Nat → Addr} {Y : WX}
/-! ### enumerate(zip(a, b)) -/
/-- an iterator of new pairs (number, new pair) -/
def Jez (n : Nat) (Kn : Hp → Prop) (Pr : Nat → Hp → V → V → Prop) : It :=
  ⟨fun i H => i < n ∧ Kn H, fun i H x H' => ∃ T1 T2 a b, x = .ref T2 ∧ H T1 = none ∧ upd H T1 (.tup [a, b]) T2 = none ∧ H' = upd (upd H T1 (.tup [a, b])) T2 (.tup [.int (i : Nat), .ref T1]) ∧ Pr i H a b, fun i H => i = n ∧ Kn H⟩
section
variable {T : Tie} {H : Hp} {x x2 : W} {v v2 : V} {u u2 : Value} {ws ws2 : List W} {kn kn2 : Hp → Prop} {o o2 : Obj} {It It2 : Addr → Nat → Heap → Prop} {F F2 : List Addr} {Sr Sr2 : (Nat → Value → Prop) → Heap → Prop}
def TnEz (It It2 : Addr → Nat → Heap → Prop) (N i : Nat) (h : Heap) : Prop := (∃ old, IsEnum h (N + 5) (N + 4) (i : Int) old) ∧ (∃ f f', IsZ h (N + 4) (N + 2) (N + 3) f f' ∧ Out0 f) ∧ IsTupOf2 h (N + 2) (.ref N) (.ref (N + 1)) ∧ (∃ a1 a2, IsTupOf2 h (N + 3) a1 a2) ∧ It N i h ∧ It2 (N + 1) i h
theorem nn {a b : Nat} (h : a < b ∨ b < a) : a ≠ b := fun e => by omega
theorem turn_ez {elts : List Expr} {kk : Nat} {tpos : Pos} (S : Srcd G T H x v ws u kn o It F Sr) (S2 : Srcd G T H x2 v2 ws2 u2 kn2 o2 It2 F2 Sr2) {N : Nat} (h1 : ∀ b ∈ F, b < N) (h2 : ∀ b ∈ F2, b < N) :
    Turn G.P G.w G.K (.Tuple elts kk tpos) (Jez (min ws.length ws2.length) (fun H => kn H ∧ kn2 H) (fun i H a b => Pr1 G x v ws i H a ∧ Pr1 G x2 v2 ws2 i H b)) [N + 5, N + 4, N + 2, N + 3, N, N + 1] (N + 5) (TnEz It It2 N) := by
  have n1 : N ∉ F := fun m => Nat.lt_irrefl _ (h1 _ m)
  have n2 : N + 1 ∉ F2 := fun m => Nat.not_lt.mpr (Nat.le_succ N) (h2 _ m)
  have obj : ∀ i h, TnEz It It2 N i h → ∀ b ∈ [N + 5, N + 4, N + 2, N + 3, N, N + 1], ∃ o, h.get? b = some o ∧ ∀ v, o.data ≠ .cell v := fun i h st b hb => by
    obtain ⟨⟨old, he⟩, ⟨f, f', hz, _⟩, hTI, ⟨a1, a2, hTO⟩, st1, st2⟩ := st
    have e' : b = N + 5 ∨ b = N + 4 ∨ b = N + 2 ∨ b = N + 3 ∨ b = N ∨ b = N + 1 := by simpa using hb
    rcases e' with q | q | q | q | q | q
    · rw [q]; exact ⟨_, he, fun v q => nomatch q⟩
    · rw [q]; exact ⟨_, hz, fun v q => nomatch q⟩
    · rw [q]; exact ⟨_, hTI, fun v q => nomatch q⟩
    · rw [q]; exact ⟨_, hTO, fun v q => nomatch q⟩
    · rw [q]; exact S.B.cell _ i h st1
    · rw [q]; exact S2.B.cell _ i h st2
  have keep : ∀ i h h', TnEz It It2 N i h → (∀ b ∈ [N + 5, N + 4, N + 2, N + 3, N, N + 1], ∀ o, h.get? b = some o → h'.get? b = some o) → TnEz It It2 N i h' := fun i h h' st hk => by
    obtain ⟨⟨old, he⟩, ⟨f, f', hz, hf⟩, hTI, ⟨a1, a2, hTO⟩, st1, st2⟩ := st
    exact ⟨⟨old, hk _ (by simp) _ he⟩, ⟨f, f', hk _ (by simp) _ hz, hf⟩, hk _ (by simp) _ hTI, ⟨a1, a2, hk _ (by simp) _ hTO⟩, S.B.at_ _ i h h' st1 fun o e => hk N (by simp) o e, S2.B.at_ _ i h h' st2 fun o e => hk (N + 1) (by simp) o e⟩
  refine ⟨by simp, obj, keep, ?_, ?_, fun A i s Q E st hQ => st.1.elim fun _ he => wpAny_pyIter_enum he hQ⟩
  · intro X hP hw hK hc i pins s σ H E I hf st hg
    have I' := I
    obtain ⟨hi, kn1⟩ := hg
    have ok : HOk G.P G.w H s.heap := by rw [← hP, ← hw]; exact I.hok
    have kin : G.K.In s.heap := by rw [← hK]; exact I.kIn
    obtain ⟨Pv, sr, _, pv⟩ := S.read H s.heap ok kin kn1.1
    obtain ⟨Pv2, sr2, _, pv2⟩ := S2.read H s.heap ok kin kn1.2
    have hh : X.A.handled = none := I.ok.hd hc
    have D1 := S.B.draws X.A.in1.in1 hh Pv N n1
    have D2 := S2.B.draws X.A.in1.in1 hh Pv2 (N + 1) n2
    have st0 := st
    obtain ⟨⟨old, he⟩, ⟨f, f', hz, hfo⟩, hTI, ⟨a1, a2, hTO⟩, st1, st2⟩ := st
    have hT : s.TypeIs (.ref (N + 5)) "enumerate" := ⟨_, he, rfl⟩
    have lz : N + 4 < s.heap.objs.size := Heap.lt_size hz
    have le : N + 5 < s.heap.objs.size := Heap.lt_size he
    unfold pyNext
    refine wpAny_bind (wpAny_attempt (wpAny_callSpecial?_slot (name := Str.ofString "__next__") hT _root_.PySem.F.slot_enumerate_next (wpAny_call_entry _root_.PySem.F.slot_enumerate_next hT _root_.PySem.F.entry_enumerate_next
      (enum_turn he (nextOf_zip (zip_sep2 h1 h2) D1 D2 hz hfo hTI hTO ⟨st1, sr⟩ ⟨st2, sr2⟩ (by omega) (by omega) (fun _ _ y1 y2 q1 tk f f' p1 p2 zq oq tq u1 u2 hp sz kq => ⟨?_, fun q2 oe ht sz2 k2 => ?_⟩) (fun en => ?_))) (_root_.PySem.F.args_enumerate_next_1 _))))
    · exact kq (N + 5) _ (nn (by omega)) (nn (by omega)) (nn (by omega)) (nn (by omega)) he
    · refine wpAny_pure ⟨_, rfl, ?_⟩
      refine wpAny_letOwnedTupleGo_enum (s := { s with heap := q2, toks := tk + 1 }) oe fun q3 e3 k3 => ?_
      replace k3 : Heap.SameBut (N + 5) q2 q3 := k3
      replace k2 : ∀ b o, b ≠ N + 5 → q1.get? b = some o → q2.get? b = some o := k2
      replace sz : q1.objs.size = s.heap.objs.size + 1 := sz
      replace ht : q2.get? q1.objs.size = some { cls := .type "tuple", data := .seq #[.int (i : Nat) tk, .ref s.heap.objs.size] } := ht
      have k23 : ∀ b o, b ≠ N + 5 → q1.get? b = some o → q3.get? b = some o := fun b o hb y => k3.extBut _ _ hb (k2 b o hb y)
      obtain ⟨a, ra, fa⟩ := pv i y1 p1
      obtain ⟨b, rb, fb⟩ := pv2 i y2 p2
      have new1 : ObjOk X.prog X.w (upd H s.heap.objs.size (.tup [a, b])) q1 s.heap.objs.size (.tup [a, b]) := ⟨by show 2 ≤ sizeLine; decide, [y1, y2], .cons ra (.cons rb .nil), ⟨_, hp, rfl, _, rfl⟩⟩
      have hf1 : ∀ b ∈ [N + 4, N + 2, N + 3, N, N + 1], FpOk X pins H b := fun b hb => hf b (List.mem_cons_of_mem _ hb)
      have I1 : Inv X pins σ (upd H s.heap.objs.size (.tup [a, b])) { s with heap := q1, toks := tk } := I.turnedNew (ch := [N + 4, N + 2, N + 3, N, N + 1]) (fun c o hb q => kq c o (fun z => hb (by simp [z])) (fun z => hb (by simp [z])) (fun z => hb (by simp [z])) (fun z => hb (by simp [z])) q) hf1 (Nat.le_refl _) new1
      have t3 : q3.get? q1.objs.size = some { cls := .type "tuple", data := .seq #[.int (i : Nat) tk, .ref s.heap.objs.size] } := k3.extBut _ _ (nn (by omega)) ht
      have new2 : ObjOk X.prog X.w (upd (upd H s.heap.objs.size (.tup [a, b])) q1.objs.size (.tup [.int (i : Nat), .ref s.heap.objs.size])) q3 q1.objs.size (.tup [.int (i : Nat), .ref s.heap.objs.size]) :=
        ⟨by show 2 ≤ sizeLine; decide, [.int (i : Nat) tk, .ref s.heap.objs.size], .cons ⟨_, rfl⟩ (.cons rfl .nil), ⟨_, t3, rfl, _, rfl⟩⟩
      have fe : FpOk X pins (upd H s.heap.objs.size (.tup [a, b])) (N + 5) := by
        obtain ⟨z1, z2⟩ := hf (N + 5) (by simp)
        exact ⟨by rw [upd_ne (Nat.ne_of_lt le)]; exact z1, z2⟩
      have I2 : Inv X pins σ (upd (upd H s.heap.objs.size (.tup [a, b])) q1.objs.size (.tup [.int (i : Nat), .ref s.heap.objs.size])) { s with heap := q3, toks := tk + 1 } :=
        I1.turnedNew (ch := [N + 5]) (t' := tk + 1) (fun c o hb q => k23 c o (fun z => hb (by simp [z])) q) (fun b hb => by
          obtain rfl : b = N + 5 := by simpa using hb
          exact fe) (Nat.le_refl _) new2
      refine ⟨.ref q1.objs.size, _, I2, rfl, ⟨s.heap.objs.size, q1.objs.size, a, b, rfl, I.hok.fresh (Nat.le_refl _), I1.hok.fresh (Nat.le_refl _), rfl, fa, fb⟩, ?_, fun c hcm => ?_⟩
      · refine ⟨⟨.ref s.heap.objs.size, ?_⟩, ⟨f, f', k23 _ _ (nn (by omega)) zq, oq⟩, k23 _ _ (nn (by omega)) (kq _ _ (nn (by omega)) (nn (by omega)) (nn (by omega)) (nn (by omega)) hTI), ?_, S.B.at_ _ _ _ _ u1.1 fun o e => k23 _ _ (nn (by omega)) e, S2.B.at_ _ _ _ _ u2.1 fun o e => k23 _ _ (nn (by omega)) e⟩
        · have e1 : ((i + 1 : Nat) : Int) = (i : Int) + 1 := by omega
          rw [e1]
          exact e3
        · obtain ⟨b1, b2, tq⟩ := tq
          exact ⟨b1, b2, k23 _ _ (nn (by omega)) tq⟩
      · have hlt : c < s.heap.objs.size := by
          have e' : c = N + 5 ∨ c = N + 4 ∨ c = N + 2 ∨ c = N + 3 ∨ c = N ∨ c = N + 1 := by simpa using hcm
          rcases e' with z | z | z | z | z | z <;> (rw [z]; first | exact le | exact lz | exact Nat.lt_of_le_of_lt (by omega) le)
        rw [upd_ne (Nat.ne_of_lt (by rw [sz]; exact Nat.lt_succ_of_lt hlt)), upd_ne (Nat.ne_of_lt hlt)]
        exact (hf c hcm).1
    · exact absurd hi (by omega)
  · intro X hP hw hK hc i pins s σ H E I hf st hg
    obtain ⟨hi, kn1⟩ := hg
    have ok : HOk G.P G.w H s.heap := by rw [← hP, ← hw]; exact I.hok
    have kin : G.K.In s.heap := by rw [← hK]; exact I.kIn
    obtain ⟨Pv, sr, _, pv⟩ := S.read H s.heap ok kin kn1.1
    obtain ⟨Pv2, sr2, _, pv2⟩ := S2.read H s.heap ok kin kn1.2
    have hh : X.A.handled = none := I.ok.hd hc
    have D1 := S.B.draws X.A.in1.in1 hh Pv N n1
    have D2 := S2.B.draws X.A.in1.in1 hh Pv2 (N + 1) n2
    obtain ⟨⟨old, he⟩, ⟨f, f', hz, hfo⟩, hTI, ⟨a1, a2, hTO⟩, st1, st2⟩ := st
    have hT : s.TypeIs (.ref (N + 5)) "enumerate" := ⟨_, he, rfl⟩
    unfold pyNext
    refine wpAny_bind (wpAny_attempt (wpAny_callSpecial?_slot (name := Str.ofString "__next__") hT _root_.PySem.F.slot_enumerate_next (wpAny_call_entry _root_.PySem.F.slot_enumerate_next hT _root_.PySem.F.entry_enumerate_next
      (enum_turn he (nextOf_zip (zip_sep2 h1 h2) D1 D2 hz hfo hTI hTO ⟨st1, sr⟩ ⟨st2, sr2⟩ (by omega) (by omega) (fun l1 l2 => by omega) (fun en q1 tk e kq he2 => ?_))) (_root_.PySem.F.args_enumerate_next_1 _))))
    obtain ⟨oe, hoe, hce⟩ := he2
    refine wpAny_bind (wpAny_isInstance (T := "StopIteration") (b := true) ⟨oe, hoe, hce⟩ isSubtype_stop ?_)
    refine wpAny_pure ⟨rfl, I.turnedL (t' := tk) (ch := [N + 5, N + 4, N + 2, N + 3, N, N + 1]) (fun c o hb q => kq c o (fun z => hb (by simp [z])) (fun z => hb (by simp [z])) (fun z => hb (by simp [z])) (fun z => hb (by simp [z])) q) hf⟩
def enumW : Nat → List W → List W
  | _, [] => []
  | i, x :: r => .tup [.int i, x] :: enumW (i + 1) r
theorem enumW_len : ∀ (i : Nat) (l : List W), (enumW i l).length = l.length
  | _, [] => rfl
  | i, _ :: r => by simp [enumW, enumW_len (i + 1) r]
theorem enumW_get : ∀ (k : Nat) (l : List W) (i : Nat) (w : W), (enumW k l)[i]? = some w → ∃ x, l[i]? = some x ∧ w = .tup [.int ((k + i : Nat) : Int), x]
  | _, [], i, w, h => by simp [enumW] at h
  | k, x :: l, 0, w, h => by simp [enumW] at h; exact ⟨x, rfl, h.symm⟩
  | k, x :: l, i + 1, w, h => by
    simp only [enumW, List.getElem?_cons_succ] at h ⊢
    obtain ⟨y, e, q⟩ := enumW_get (k + 1) l i w h
    exact ⟨y, e, by rw [q, show k + 1 + i = k + (i + 1) by omega]⟩
theorem wk_ez {h : MH} (S : Srcd G T H x v ws u kn o It F Sr) (S2 : Srcd G T H x2 v2 ws2 u2 kn2 o2 It2 F2 Sr2) (rp : Rep G T H x v) (rp2 : Rep G T H x2 v2) :
    Wk G T H (enumW 0 (zipW ws ws2)) (Jez (min ws.length ws2.length) (fun H => kn H ∧ kn2 H) (fun i H a b => Pr1 G x v ws i H a ∧ Pr1 G x2 v2 ws2 i H b)) where
  go := fun T' H' i ok x' hi => ⟨by rw [enumW_len, zipW_len] at hi; exact hi, S.keeps T' H' x', S2.keeps T' H' x'⟩
  stop := fun T' H' ok x' => ⟨by rw [enumW_len, zipW_len], S.keeps T' H' x', S2.keeps T' H' x'⟩
  yld := fun T' H' i y H'' h w hr x' ew yl => by
    obtain ⟨p, p2, a, b, rfl, hp, hp2, rfl, f, f2⟩ := yl
    obtain ⟨q, eq, rfl⟩ := enumW_get _ _ _ _ ew
    obtain ⟨z, z2, ez, ez2, rfl⟩ := zipW_get _ _ _ _ eq
    obtain ⟨y, ey, ry⟩ := f T' (rep_ex x' _ _ rp)
    obtain ⟨y2, ey2, ry2⟩ := f2 T' (rep_ex x' _ _ rp2)
    rw [ez] at ey
    rw [ez2] at ey2
    cases ey
    cases ey2
    obtain ⟨hr1, x1, r1⟩ := pair_laid hr hp (.cons ry (.cons ry2 .nil))
    obtain ⟨hr2, x2, r2⟩ := pair_laid (ws := [.int ((0 + i : Nat) : Int), .tup [z, z2]]) (vs := [.int (i : Nat), .ref p]) hr1 hp2 (.cons (by unfold Rep; rw [Nat.zero_add]) (.cons r1 .nil))
    exact ⟨hr2, x1.trans x2, r2⟩
end
def mEz (as : AM) : AM := fun me h => (mZip as me h).bind fun ws h => .ok (enumW 0 ws) h
theorem mi_ez {e e2 : Expr} {as : AM} {p p2 pos pos2 tpos : Pos} {elts : List Expr} {kk : Nat} (hg : Gl X "zip") (hm : X.mg "zip" = none) (hg2 : Gl X "enumerate") (hm2 : X.mg "enumerate" = none) (ha : MA X adr Y [e, e2] as)
    (hs : starEach [e, e2] X.env = (false, eval e X.env) :: starEach [e2] X.env := by rfl) (hpl : (backTo pos (starEach [e2] X.env)).any (·.1) = false := by rfl)
    (hs2 : starEach [.Call (.Name "zip" p) [e, e2] [] pos] X.env = [(false, eval (.Call (.Name "zip" p) [e, e2] [] pos) X.env)] := by rfl) :
    MI X adr Y (.Tuple elts kk tpos) (.Call (.Name "enumerate" p2) [.Call (.Name "zip" p) [e, e2] [] pos] [] pos2) (mEz as) := by
  refine ⟨fun pins s σ H R I ⟨T, me, h, hr, hE, q⟩ => ?_⟩
  refine Call_ (ld_blt I hg2 hm2 boot_enumerate (PyProof.Rows.callWith_type1 ?_ hs2 rfl))
  rw [hs2]
  refine Calls.spliced_cons ?_
  refine Call_ (ld_blt I hg hm PyProof.Rows.boot_zip (PyProof.Rows.callWith_type1 (thn (ha.run pos pins s σ H (fun vs H1 => ∃ T1 h1 xs, Hrel (kt X adr) T1 h1 H1 ∧ Reps (kt X adr) T1 H1 xs vs ∧ ∃ a b u v, xs = [a, b] ∧ itemsOf a = some u ∧ itemsOf b = some v ∧ ∀ J, Wk (kt X adr) T1 H1 (enumW 0 (zipW u v)) J → R J H1) I
    ⟨T, me, h, hr, hE, ?_⟩) fun us s1 ⟨vs, H1, I1, r1, T1, h1, xs, hr1, rp, a, b, iu, iv, ex, ea, eb, q⟩ => ?_) hs hpl))
  · unfold mEz mZip at q
    rw [Mi.R.bind_bind] at q
    refine Res.bind q fun ws h1 _ T1 H1 vs hr1 x1 rp1 q1 => ?_
    refine ⟨T1, h1, ws, hr1, rp1, ?_⟩
    split at q1
    · split at q1
      · exact ⟨_, _, _, _, rfl, by assumption, by assumption, fun J wk => q1 T1 H1 J hr1 (Ex.rfl' hr1.ok) wk⟩
      · exact q1.elim
    · exact q1.elim
  · subst ex
    unfold Reps at rp
    obtain ⟨va, s', rfl, ra, rp⟩ := rp
    unfold Reps at rp
    obtain ⟨vb, s'', rfl, rb, rp⟩ := rp
    unfold Reps at rp
    subst rp
    obtain ⟨ua, ub, rfl, r2, r3⟩ := Vals.two r1
    obtain ⟨kn, o, It, F, Sr, S⟩ := src_of (G := kt X adr) r2 I1.hok ra ea
    obtain ⟨kn2, o2, It2, F2, Sr2, S2⟩ := src_of (G := kt X adr) r3 I1.hok rb eb
    obtain ⟨Pv, sr, lt, _⟩ := S.read H1 s1.heap I1.hok I1.kIn (S.keeps T1 H1 (Ex.rfl' hr1.ok))
    obtain ⟨Pv2, sr2, lt2, _⟩ := S2.read H1 s1.heap I1.hok I1.kIn (S2.keeps T1 H1 (Ex.rfl' hr1.ok))
    refine zip_begins2 (S.B.begins Pv) (S2.B.begins Pv2) sr sr2 fun h' hz hTI hTO h1' h2' hsz hk => ?_
    refine Calls.spliced_nil ?_
    refine enum_own (H := fun h => IsZip h (s1.heap.objs.size + 4) (s1.heap.objs.size + 2) (s1.heap.objs.size + 3) .none) (fun prog w A E s Q hz q => wpAny_pyIter_zip hz q) hz fun q1 he hsz2 hk2 => ?_
    replace hk2 : ∀ b o, h'.get? b = some o → q1.get? b = some o := hk2
    replace he : IsEnum q1 h'.objs.size (s1.heap.objs.size + 4) 0 .none := he
    change wpAny _ _ (pyIter (.ref h'.objs.size)) _ _ _
    rw [hsz] at he ⊢
    refine wpAny_pyIter_enum (s := { s1 with heap := q1 }) he ?_
    have I2 : Inv X pins σ H1 { s1 with heap := q1 } := I1.kept (t' := s1.toks) fun b o e => hk2 b o (hk b o e)
    refine ⟨s1.heap.objs.size + 5, [s1.heap.objs.size + 5, s1.heap.objs.size + 4, s1.heap.objs.size + 2, s1.heap.objs.size + 3, s1.heap.objs.size, s1.heap.objs.size + 1], _, _, H1, rfl, I2, turn_ez S S2 lt lt2, ⟨⟨_, he⟩, ⟨_, _, hk2 _ _ hz, .inl rfl⟩, hk2 _ _ hTI, ⟨_, _, hk2 _ _ hTO⟩, S.B.start _ _ (hk2 _ _ h1'), S2.B.start _ _ (hk2 _ _ h2')⟩, fun c hcm => ?_, q _ (wk_ez (h := h1) S S2 ra rb)⟩
    have e' : c = s1.heap.objs.size + 5 ∨ c = s1.heap.objs.size + 4 ∨ c = s1.heap.objs.size + 2 ∨ c = s1.heap.objs.size + 3 ∨ c = s1.heap.objs.size ∨ c = s1.heap.objs.size + 1 := by simpa using hcm
    have hle : s1.heap.objs.size ≤ c := by
      rcases e' with z | z | z | z | z | z <;> rw [z] <;> simp
    exact I1.fpOk hle (I1.hok.fresh hle)
end Mi

end
section
namespace Mi
open PySem PySem.Spec PyProof.Rows L2
variable {G : Kt} {X : Cx} {adr : Nat → Addr} {Y : WX}
/-! ### dicts compared -/
section
variable {prog : Program} {w : World} {A : Around} {E : Value → Shared → Prop} {s : Shared}
/-- entry e against the dict at b: found or not, and how the values compare -/
def Hit (prog : Program) (w : World) (A : Around) (s : Shared) (b : Addr) (es' : Array DictEntry) (e : DictEntry) (r : Bool) : Prop :=
  ((∀ (Q : Option Nat → Shared → Prop) (E : Value → Shared → Prop), Q none s → wpAny (model prog w) A (dictFind b e.key e.hash) Q E s) ∧ r = false) ∨
  ∃ (j : Nat) (f : DictEntry), es'[j]? = some f ∧ (∀ (Q : Option Nat → Shared → Prop) (E : Value → Shared → Prop), Q (some j) s → wpAny (model prog w) A (dictFind b e.key e.hash) Q E s) ∧ SeqAt.EqAt A s e.val f.val r
theorem range_all_split (r : Nat → Bool) {i n : Nat} (h : i < n) (hr : r i = false) : (List.range n).all r = false := by
  rw [List.all_eq_false]
  exact ⟨i, List.mem_range.mpr h, by rw [hr]; decide⟩
theorem same_raw {nm : String} {a b : Addr} {oa ob : Obj} {es es' : Array DictEntry} {ep ep' : Nat} {r : Nat → Bool} {Q : Bool → Shared → Prop} (ha : (a == sysModules) = false) (hb : (b == sysModules) = false)
    (hoa : s.heap.get? a = some oa) (hda : oa.data = .dict es ep) (hob : s.heap.get? b = some ob) (hdb : ob.data = .dict es' ep') (hit : es.size = es'.size → ∀ i e, es[i]? = some e → Hit prog w A s b es' e (r i))
    (h : Q (es.size == es'.size && (List.range es.size).all r) s) : wpAny (model prog w) A (Builtin.Dict.samePairs nm a b) Q E s := by
  unfold Builtin.Dict.samePairs Builtin.Dict.showsAll
  rw [if_neg (show ¬ (a == sysModules) = true by rw [ha]; exact Bool.false_ne_true), if_neg (show ¬ (b == sysModules) = true by rw [hb]; exact Bool.false_ne_true)]
  refine wpAny_bind (wpAny_pure (wpAny_bind (wpAny_pure (wpAny_bind (wpAny_dictEntries hoa hda ?_)))))
  dsimp only
  refine wpAny_bind (wpAny_dictEntries hob hdb ?_)
  by_cases sz : es.size = es'.size
  · rw [if_neg (by rw [sz]; simp)]
    have h' : Q ((List.range es.size).all r) s := by simpa [sz] using h
    refine wpAny_bind (wpAny_dictEpoch hoa hda (wpAny_bind ?_))
    rw [Std.Legacy.Range.forIn_eq_forIn_range']
    simp only [Std.Legacy.Range.size, Nat.sub_zero, Nat.add_sub_cancel, Nat.div_one]
    refine wpAny_forIn_list _ (fun rest q s' => s' = s ∧ q = (none, ()) ∧ ∃ i, rest = List.range' i (es.size - i) ∧ i ≤ es.size ∧ (List.range i).all r = true) _ ?_ ?_ _ _ ⟨rfl, rfl, 0, by simp, Nat.zero_le _, rfl⟩
    · rintro x rest q s' ⟨rfl, rfl, i, hr, hi, pre⟩
      have lt : i < es.size := by
        rcases Nat.lt_or_ge i es.size with z | z
        · exact z
        · rw [Nat.sub_eq_zero_of_le z] at hr
          simp at hr
      have e1 : es.size - i = (es.size - (i + 1)) + 1 := by omega
      rw [e1, List.range'_succ] at hr
      injection hr with h1 h2
      subst h1
      refine wpAny_bind (wpAny_dictEntries hoa hda ?_)
      have ex : es[x]? = some es[x] := Array.getElem?_eq_getElem lt
      rw [ex]
      change wpAny _ _ (holding [es[x].key, es[x].val] _ >>= _) _ _ _
      have stop : r x = false → Q false s' := fun z => by rw [range_all_split r lt z] at h'; exact h'
      rcases hit sz x _ ex with ⟨fd, rz⟩ | ⟨j, f, ej, fd, eq⟩
      · refine wpAny_bind (wpAny_holding (wpAny_bind (fd _ _ (wpAny_pure ?_))))
        change wpAny _ _ (if (!false) = true then _ else _) _ _ _
        rw [if_pos (by decide)]
        exact wpAny_pure (wpAny_pure (stop rz))
      · refine wpAny_bind (wpAny_holding (wpAny_bind (fd _ _ ?_)))
        refine wpAny_bind (wpAny_dictEntries hob hdb ?_)
        rw [ej]
        refine wpAny_holding (eq _ _ _ _ ?_)
        cases rx : r x with
        | false =>
          change wpAny _ _ (if (!false) = true then _ else _) _ _ _
          rw [if_pos (by decide)]
          exact wpAny_pure (wpAny_pure (stop rx))
        | true =>
          change wpAny _ _ (if (!true) = true then _ else _) _ _ _
          rw [if_neg (by decide)]
          refine wpAny_bind (wpAny_dictEpoch hoa hda ?_)
          rw [if_neg (by simp)]
          exact wpAny_pure ⟨rfl, rfl, x + 1, h2, lt, by rw [List.range_succ, List.all_append, pre]; simp [rx]⟩
    · rintro q s' ⟨rfl, rfl, i, hr, hi, pre⟩
      have e : i = es.size := by
        rcases Nat.lt_or_ge i es.size with z | z
        · have e1 : es.size - i = (es.size - (i + 1)) + 1 := by omega
          rw [e1, List.range'_succ] at hr
          exact nomatch hr
        · exact Nat.le_antisymm hi z
      rw [← e, pre] at h'
      exact wpAny_pure h'
  · rw [if_pos (by simpa using sz)]
    have e : (es.size == es'.size) = false := by simpa using sz
    rw [e, Bool.false_and] at h
    exact wpAny_bind (wpAny_rule (wpAny_pure h))
theorem dict_cmp {a b : Addr} {oa ob : Obj} {es es' : Array DictEntry} {ep ep' : Nat} {r : Nat → Bool} {Q : Value → Shared → Prop} (neg : Bool) (ha : (a == sysModules) = false) (hb : (b == sysModules) = false) (xa : oa.ExactDict) (xb : ob.ExactDict)
    (hoa : s.heap.get? a = some oa) (hda : oa.data = .dict es ep) (hob : s.heap.get? b = some ob) (hdb : ob.data = .dict es' ep') (hu : A.units < cLine) (hit : es.size = es'.size → ∀ i e, es[i]? = some e → Hit prog w A.in1 s b es' e (r i))
    (h : Q (.bool (xor neg (es.size == es'.size && (List.range es.size).all r))) s) : wpAny (model prog w) A (compareOp (if neg then .NotEq else .Eq) (.ref a) (.ref b)) Q E s := by
  have da : s.heap.DictRaw a es ep := ⟨oa, hoa, xa, hda⟩
  have db : s.heap.DictRaw b es' ep' := ⟨ob, hob, xb, hdb⟩
  cases neg with
  | false =>
    refine wpAny_richCompare_same_room (op := .Eq) da.typeIs db.typeIs PySem.F.slot_dict_eq (wpAny_call_entry PySem.F.slot_dict_eq da.typeIs PySem.F.entry_dict_eq ?_ (PySem.F.args_dict_eq_2 _ _)) hu
    change wpAny _ _ (Builtin.Dict.dictSlotArgs "__eq__" ⟨[.ref a, .ref b], []⟩ >>= _) _ _ s
    refine wpAny_bind ?_
    unfold Builtin.Dict.dictSlotArgs
    refine wpAny_bind (wpAny_notOrdered_dict da.typeIs ?_)
    change wpAny _ _ (pure (Value.ref a, Value.ref b)) _ _ s
    refine wpAny_pure (wpAny_bind (wpAny_isInstance (T := "dict") db.typeIs PySem.F.sub_dict_dict ?_))
    simp only [Bool.not_true, Bool.false_eq_true, if_false]
    refine wpAny_bind (wpAny_pure (wpAny_bind (wpAny_pure (wpAny_bind (same_raw ha hb hoa hda hob hdb hit ?_)))))
    exact wpAny_pure ⟨_, rfl, ⟨(fun x => nomatch x), by simpa using h⟩⟩
  | true =>
    refine wpAny_richCompare_same_room (op := .NotEq) da.typeIs db.typeIs PySem.F.slot_dict_ne (wpAny_call_entry PySem.F.slot_dict_ne da.typeIs PySem.F.entry_dict_ne ?_ (PySem.F.args_dict_ne_2 _ _)) hu
    change wpAny _ _ (Builtin.Dict.dictSlotArgs "__ne__" ⟨[.ref a, .ref b], []⟩ >>= _) _ _ s
    refine wpAny_bind ?_
    unfold Builtin.Dict.dictSlotArgs
    refine wpAny_bind (wpAny_notOrdered_dict da.typeIs ?_)
    change wpAny _ _ (pure (Value.ref a, Value.ref b)) _ _ s
    refine wpAny_pure (wpAny_bind (wpAny_isInstance (T := "dict") db.typeIs PySem.F.sub_dict_dict ?_))
    simp only [Bool.not_true, Bool.false_eq_true, if_false]
    refine wpAny_bind (wpAny_pure (wpAny_bind (wpAny_pure (wpAny_bind (same_raw ha hb hoa hda hob hdb hit ?_)))))
    exact wpAny_pure ⟨_, rfl, ⟨(fun x => nomatch x), by simpa using h⟩⟩
end
def wdgo (ks' vs' : List W) : List W → List W → Option Bool
  | k :: ks, v :: vs => match keyFit k ks' with
    | true => match dfind k ks' vs' with
      | some y => match weq 29 v y with
        | some b => match wdgo ks' vs' ks vs with
          | some c => some (b && c)
          | none => none
        | none => none
      | none => match wdgo ks' vs' ks vs with
        | some _ => some false
        | none => none
    | false => none
  | [], [] => some true
  | _, _ => none
theorem wdgo_at {ks' vs' : List W} : ∀ {ks vs : List W} {b : Bool}, wdgo ks' vs' ks vs = some b → ∃ r : Nat → Bool, (∀ i k v, ks[i]? = some k → vs[i]? = some v → keyFit k ks' = true ∧ ((dfind k ks' vs' = none ∧ r i = false) ∨ ∃ y, dfind k ks' vs' = some y ∧ weq 29 v y = some (r i))) ∧ (List.range ks.length).all r = b
  | [], [], b, h => by cases h; exact ⟨fun _ => true, fun i k v e => by simp at e, rfl⟩
  | [], v :: vs, b, h => by cases h
  | k :: ks, [], b, h => by cases h
  | k :: ks, v :: vs, b, h => by
    have mk : ∀ (a : Bool) {c : Bool} (r : Nat → Bool), ((List.range ks.length).all r = c) → (List.range (k :: ks).length).all (fun j => match j with | 0 => a | j + 1 => r j) = (a && c) := fun a c r e => by
      rw [List.length_cons, List.range_succ_eq_map, List.all_cons, List.all_map, ← e]
      rfl
    unfold wdgo at h
    split at h
    · rename_i fit
      split at h
      · rename_i y ey
        split at h
        · rename_i a ea
          split at h
          · rename_i c ec
            cases h
            obtain ⟨r, h1, h2⟩ := wdgo_at ec
            refine ⟨fun j => match j with | 0 => a | j + 1 => r j, fun i k' v' e1 e2 => ?_, mk a r h2⟩
            cases i with
            | zero => simp at e1 e2; subst e1 e2; exact ⟨fit, .inr ⟨y, ey, ea⟩⟩
            | succ i => exact h1 i k' v' (by simpa using e1) (by simpa using e2)
          · cases h
        · cases h
      · rename_i ey
        split at h
        · rename_i c ec
          cases h
          obtain ⟨r, h1, h2⟩ := wdgo_at ec
          refine ⟨fun j => match j with | 0 => false | j + 1 => r j, fun i k' v' e1 e2 => ?_, by rw [mk false r h2, Bool.false_and]⟩
          cases i with
          | zero => simp at e1 e2; subst e1 e2; exact ⟨fit, .inl ⟨ey, rfl⟩⟩
          | succ i => exact h1 i k' v' (by simpa using e1) (by simpa using e2)
        · cases h
    · cases h
theorem Ents.hashAt {es : List DictEntry} {kv vv : List V} {hs : List Int} (r : Ents es kv vv hs) : ∀ {i : Nat} {e : DictEntry}, es[i]? = some e → hs[i]? = some e.hash := by
  induction r with
  | nil => intro i e h; simp at h
  | cons hk hv hh _ ih =>
    intro i e h
    cases i with
    | zero => simp at h; subst h; simp [hh]
    | succ i => simpa using ih (by simpa using h)
theorem nodup_inj {α : Type} : ∀ {l : List α} (_ : l.Nodup) {i j : Nat} (hi : i < l.length) (hj : j < l.length), l[i] = l[j] → i = j
  | [], _, i, j, hi, _, _ => by simp at hi
  | x :: l, n, 0, 0, _, _, _ => rfl
  | x :: l, n, 0, j + 1, hi, hj, e => absurd (show x ∈ l by
      have e : x = l[j]'(by simpa using hj) := by simpa using e
      rw [e]; exact List.getElem_mem _) (List.nodup_cons.mp n).1
  | x :: l, n, i + 1, 0, hi, hj, e => absurd (show x ∈ l by
      have e : l[i]'(by simpa using hi) = x := by simpa using e
      rw [← e]; exact List.getElem_mem _) (List.nodup_cons.mp n).1
  | x :: l, n, i + 1, j + 1, hi, hj, e => by
    rw [nodup_inj (List.nodup_cons.mp n).2 (i := i) (j := j) (by simpa using hi) (by simpa using hj) (by simpa using e)]
theorem find_in {P : Program} {wo : World} {A : Around} {s : Shared} (eP : G.P = P) (ew : G.w = wo) {T : Tie} {H : Hp} (ok : HOk P wo H s.heap) (hu : A.units + 8 < cLine) {ks vs : List W} {a : Addr} {o : Obj} {kv vv : List V} (D : DAt G T H ks vs a o kv vv) {es : Array DictEntry} {ep : Nat} (ed : o.data = .dict es ep) {k : W} {vk : V} {uk : Value}
    (fit : keyFit k ks = true) (rk : Rep G T H k vk) (ru : RelV vk uk) :
    (dfind k ks vs = none → ∀ (Q : Option Nat → Shared → Prop) (E : Value → Shared → Prop), Q none s → wpAny (model P wo) A (dictFind a uk (hashW wo k)) Q E s) ∧
    (∀ y, dfind k ks vs = some y → ∃ (j : Nat) (f : DictEntry), es[j]? = some f ∧ (∀ (Q : Option Nat → Shared → Prop) (E : Value → Shared → Prop), Q (some j) s → wpAny (model P wo) A (dictFind a uk (hashW wo k)) Q E s) ∧ ∃ v, RelV v f.val ∧ Rep G T H y v) := by
  have ea := exact_at ok D.at_
  rcases D.split eP ew ok fit rk ru with ⟨κ, kl, us, hκ, hkl, nd, rv, ln, ki, dd⟩ | ⟨κ, kl, us, b, bs, hκ, hkl, nd, rv, ln, ln2, ekv, rfl, rfl, ki, dd⟩
  · obtain ⟨o2, es2, ep2, e1, e2, e3, e4, e5, _⟩ := dd
    rw [ea] at e1
    cases e1
    rw [ed] at e3
    cases e3
    have fd := look_S hκ hkl D.rv rv D.len
    have fnd : findBy (mixKind P wo).is es κ = valueAt (kl.zip us) κ := by
      rw [← e5.find κ]
      obtain ⟨l⟩ := es
      simp [findBy]
    rw [hash_S hκ]
    have run : ∀ (Q : Option Nat → Shared → Prop) (E : Value → Shared → Prop), Q (es.findIdx? fun e => (mixKind P wo).is κ e.key) s → wpAny (model P wo) A (dictFind a uk (keyH wo κ)) Q E s := fun Q E h => wpAny_dictFind_of (knd := mixKind P wo) ki ea ed e4 h
    rw [findBy_of_findIdx?] at fnd
    refine ⟨fun en => ?_, fun y ey => ?_⟩
    · rw [en] at fd
      have z : valueAt (kl.zip us) κ = none := fd
      rw [z] at fnd
      cases ej : es.findIdx? fun e => (mixKind P wo).is κ e.key with
      | none => rw [ej] at run; exact run
      | some j =>
        rw [ej] at fnd
        obtain ⟨jl, _, _⟩ := Array.findIdx?_eq_some_iff_getElem.mp ej
        simp [Array.getElem?_eq_getElem jl] at fnd
    · rw [ey] at fd
      obtain ⟨v, x, z, r1, r2⟩ := fd
      rw [z] at fnd
      cases ej : es.findIdx? fun e => (mixKind P wo).is κ e.key with
      | none => rw [ej] at fnd; simp at fnd
      | some j =>
        rw [ej] at fnd run
        obtain ⟨jl, _, _⟩ := Array.findIdx?_eq_some_iff_getElem.mp ej
        have ex : es[j].val = x := by simpa [Array.getElem?_eq_getElem jl] using fnd
        exact ⟨j, es[j], Array.getElem?_eq_getElem jl, run, v, by rw [ex]; exact r1, r2⟩
  · obtain ⟨o2, es2, ep2, e1, e2, e3, e4, e5, e6⟩ := dd
    rw [ea] at e1
    cases e1
    rw [ed] at e3
    cases e3
    have fd := look_T (bs := bs) hκ hkl D.rv rv D.len ln2
    rw [hash_T hκ]
    refine ⟨fun en => ?_, fun y ey => ?_⟩
    · rw [en] at fd
      have z : ((atKey (kl.zip (bs.zip us)) κ).map (·.2)) = none := fd
      intro Q E h
      refine wpAny_dictFind_heap (knd := nestedKind P wo) hu ki ea ed e4 e5 e6 (fun _ => h) fun j p ej => ?_
      rw [atKey_of_get e6 ej] at z
      cases z
    · rw [ey] at fd
      obtain ⟨v, x, z, r1, r2⟩ := fd
      cases ep2 : atKey (kl.zip (bs.zip us)) κ with
      | none => rw [ep2] at z; cases z
      | some p =>
        rw [ep2] at z
        cases z
        obtain ⟨j, ej⟩ : ∃ j, (kl.zip (bs.zip us))[j]? = some (κ, p) := by
          unfold atKey at ep2
          obtain ⟨q, eq, rfl⟩ := Option.map_eq_some_iff.mp ep2
          have m := List.mem_of_find?_eq_some eq
          have c := List.find?_some eq
          obtain ⟨j, ej⟩ := List.mem_iff_getElem?.mp m
          have : q.1 = κ := by simpa using c
          exact ⟨j, by rw [ej, ← this]⟩
        refine ⟨j, entryOfKey (nestedKind P wo) (κ, p), ?_, fun Q E h => ?_, v, r1, r2⟩
        · rw [entry_at e4 j, ej]
          rfl
        · refine wpAny_dictFind_heap (knd := nestedKind P wo) hu ki ea ed e4 e5 e6 (fun hn => absurd ej (hn j p)) fun j' p' ej' => ?_
          have : j' = j := by
            have h1 : ((kl.zip (bs.zip us)).map (·.1))[j']? = some κ := by rw [List.getElem?_map, ej']; rfl
            have h2 : ((kl.zip (bs.zip us)).map (·.1))[j]? = some κ := by rw [List.getElem?_map, ej]; rfl
            have l1 := (List.getElem?_eq_some_iff.mp h1).1
            have l2 := (List.getElem?_eq_some_iff.mp h2).1
            rw [List.getElem?_eq_getElem l1] at h1
            rw [List.getElem?_eq_getElem l2] at h2
            exact nodup_inj e6 l1 l2 (Option.some.inj (h1.trans h2.symm))
          rw [this]
          exact h
def wCmpD (neg : Bool) : F2 := fun a b h => match dctOf a h, dctOf b h with
  | some (ks, vs), some (ks', vs') => match Nat.beq ks.length ks'.length with
    | false => some (.bl neg)
    | true => match wdgo ks' vs' ks vs with
      | some r => some (.bl (xor neg r))
      | none => none
  | none, none => match weq 30 a b with
    | some r => some (.bl (xor neg r))
    | none => none
  | _, _ => none
theorem mo_cmpD (neg : Bool) (hu : X.A.units + 64 < cLine) : MO X adr (compareOp (if neg then .NotEq else .Eq)) (wCmpD neg) := by
  intro pins s σ H x y v u Q I rx ry ⟨T, h, w1, w2, w, hr, r1, r2, e, q⟩
  unfold wCmpD at e
  split at e
  · rename_i ks vs ks' vs' d1 d2
    obtain ⟨a, o, kv, vv, rfl, D⟩ := dct_at hr r1 d1
    obtain ⟨b, o', kv', vv', rfl, D'⟩ := dct_at hr r2 d2
    obtain rfl : v = .ref a := rx
    obtain rfl : u = .ref b := ry
    have ea := exact_at I.hok D.at_
    have eb := exact_at I.hok D'.at_
    obtain ⟨es, ep, ed, en, dr⟩ := D.d.raw ea
    obtain ⟨es', ep', ed', en', dr'⟩ := D'.d.raw eb
    have l1 : es.size = ks.length := by
      have z1 := en.len.1
      have z2 := D.rk.length
      simp at z1; omega
    have l2 : es'.size = ks'.length := by
      have z1 := en'.len.1
      have z2 := D'.rk.length
      simp at z1; omega
    split at e
    · rename_i nb
      cases e
      have ne : es.size ≠ es'.size := fun z => by
        rw [l1, l2] at z
        rw [z, Nat.beq_refl] at nb
        cases nb
      refine dict_cmp (r := fun _ => false) neg D.sm D'.sm D.d.1 D'.d.1 ea ed eb ed' (by omega) (fun z => absurd z ne) ?_
      have e0 : (es.size == es'.size) = false := by simpa using ne
      rw [e0, Bool.false_and, Bool.xor_false]
      exact ⟨.bl neg, H, I, rfl, Hands.bl hr q⟩
    · rename_i nb
      have leq : ks.length = ks'.length := Nat.eq_of_beq_eq_true nb
      split at e
      · rename_i r er
        cases e
        obtain ⟨f, h1, h2⟩ := wdgo_at er
        refine dict_cmp (r := f) neg D.sm D'.sm D.d.1 D'.d.1 ea ed eb ed' (by omega) (fun z i e ei => ?_) ?_
        · have ei' : es.toList[i]? = some e := by simpa using ei
          obtain ⟨k1, v1, g1, g2, q1, q2⟩ := en.get ei'
          have hh := en.hashAt ei'
          obtain ⟨kw, f1, p1⟩ := D.rk.getL g1
          obtain ⟨vw, f2, p2⟩ := D.rv.getL g2
          have eh : e.hash = hashW X.w kw := by
            rw [List.getElem?_map, f1] at hh
            exact (Option.some.inj hh).symm
          obtain ⟨fit, c⟩ := h1 i kw vw f1 f2
          obtain ⟨F1, F2⟩ := find_in (A := X.A.in1) (P := X.prog) (wo := X.w) rfl rfl I.hok (by show X.A.units + 1 + 8 < cLine; omega) D' ed' fit p1 q1
          rw [← eh] at F1 F2
          rcases c with ⟨c1, c2⟩ | ⟨y, c1, c2⟩
          · exact .inl ⟨F1 c1, c2⟩
          · obtain ⟨j, f', ej, run, v', s1, s2⟩ := F2 y c1
            exact .inr ⟨j, f', ej, run, (weq_at (G := kt X adr) 29 I.hok (by show X.A.units + 1 + 29 < cLine; omega) c2 p2 s2 q2 s1).2.2⟩
        · have e0 : (es.size == es'.size) = true := by simp; omega
          rw [e0, Bool.true_and, l1, h2]
          exact ⟨.bl _, H, I, rfl, Hands.bl hr q⟩
      · cases e
  · split at e
    · rename_i r er
      cases e
      have z := weq_at (G := kt X adr) (A := X.A) (s := s) 30 I.hok (by omega) er r1 r2 rx ry
      cases neg with
      | false => exact z.1 _ _ _ _ ⟨.bl _, H, I, rfl, Hands.bl hr (by simpa using q)⟩
      | true => exact z.2.1 _ _ _ _ ⟨.bl _, H, I, rfl, Hands.bl hr (by simpa using q)⟩
    · cases e
  · cases e
end Mi

end
section
namespace Mi
open PySem PySem.Spec PyProof.Rows L2
variable {G : Kt} {X : Cx} {adr : Nat → Addr} {Y : WX}

/-! ### a op b op c -/
def mChain (F F' : F2) (a b c : EM) : EM := fun me h => (a me h).bind fun x h => (b me h).bind fun y h => match F x y h with
  | some (.bl true) => (c me h).bind fun z h => ofO (F' y z h) h
  | some (.bl false) => .ok (.bl false) h
  | _ => .stuck
section
variable {a b c : Expr} {ma mb mc : EM} {pos : Pos} {F F' : F2} {op op' : CmpOp}
theorem rd_chain : ∀ σ H Q, rdE (kt X adr) Y (mChain F F' ma mb mc) σ H Q → tChain (rW (kt X adr) F) (rW (kt X adr) F') (rdE (kt X adr) Y ma) (rdE (kt X adr) Y mb) (rdE (kt X adr) Y mc) σ H Q := fun σ H Q ⟨T, me, h, hr, hE, q⟩ =>
  ⟨T, me, h, hr, hE, Res.bind q fun x h1 _ T1 H1 v1 hr1 x1 rp1 q1 => ⟨T1, me, h1, hr1, hE.ex x1, Res.bind q1 fun y h2 _ T2 H2 v2 hr2 x2 rp2 q2 => by
    cases e : F x y h2 with
    | none => rw [e] at q2; exact q2.elim
    | some w =>
      rw [e] at q2
      refine ⟨T2, h2, x, y, w, hr2, rep_ex x2 _ _ rp1, rp2, e, fun T3 H3 v3 hr3 x3 rp3 => ?_⟩
      cases w with
      | bl k =>
        unfold Rep at rp3
        refine ⟨k, rp3, ?_⟩
        cases k with
        | false =>
          rw [if_neg (by decide)]
          exact q2 T3 H3 _ hr3 x3 (by unfold Rep; rfl)
        | true =>
          rw [if_pos rfl]
          refine ⟨T3, me, h2, hr3, ((hE.ex x1).ex x2).ex x3, Res.bind (Res.ex q2 x3) fun z h4 _ T4 H4 v4 hr4 x4 rp4 q4 => ?_⟩
          cases e2 : F' y z h4 with
          | none => rw [e2] at q4; exact q4.elim
          | some w2 =>
            rw [e2] at q4
            exact ⟨T4, h4, y, z, w2, hr4, rep_ex x4 _ _ (rep_ex x3 _ _ rp2), rp4, e2, q4⟩
      | _ => exact q2.elim⟩⟩
theorem me_chain (ho : MO X adr (compareOp op) F) (ho' : MO X adr (compareOp op') F') (ha : ME X adr Y a ma) (hb : ME X adr Y b mb) (hc : ME X adr Y c mc) (hm : lastMarks [op, op'] [b, c] = false) : ME X adr Y (.Compare a [op, op'] [b, c] pos) (mChain F F' ma mb mc) :=
  pe_imp (pe_chain ho ho' ha hb hc hm) rd_chain
theorem mt_chain (ho : MO X adr (compareOp op) F) (ho' : MO X adr (compareOp op') F') (ha : ME X adr Y a ma) (hb : ME X adr Y b mb) (hc : ME X adr Y c mc) (hm : lastMarks [op, op'] [b, c] = false) : MT X adr Y (.Compare a [op, op'] [b, c] pos) (mChain F F' ma mb mc) :=
  pt_imp (pt_chain ho ho' ha hb hc hm) fun σ H Q q => rd_chain (Y := Y) σ H _ (rd_test σ H Q q)
/-! ### -i -/
def mNeg (a : EM) : EM := fun me h => (a me h).bind fun x h => match x with
  | .int i => .ok (.int (-i)) h
  | _ => .stuck
theorem me_neg (ha : ME X adr Y a ma) : ME X adr Y (.UnaryOp .USub a pos) (mNeg ma) := pe_imp (pe_un un_neg ha) fun σ H Q ⟨T, me, h, hr, hE, q⟩ => ⟨T, me, h, hr, hE, Res.bind q fun x h1 _ T1 H1 v hr1 x1 rp q1 => by
  cases x with
  | int i => exact ⟨i, rep_int rp, q1 T1 H1 _ hr1 (Ex.rfl' hr1.ok) (by unfold Rep; rfl)⟩
  | _ => exact q1.elim⟩
end
/-! ### list(range(n)) -/
section
variable {e a b : Expr} {as ma : EM} {p p2 pos pos2 : Pos}
theorem rgV_rep {T : Tie} {H : Hp} (a b : Int) : Reps G T H (rangeW a (b - a).toNat) (rgV a b) := by
  unfold rgV
  generalize (b - a).toNat = n
  have : ∀ (n : Nat) (k : Nat), Reps G T H (rangeW (a + (k : Nat)) n) ((List.range' k n).map fun i => V.int (a + (i : Nat))) := by
    intro n
    induction n with
    | zero => intro k; exact Reps.nil
    | succ n ih =>
      intro k
      rw [List.range'_succ, List.map_cons]
      refine Reps.cons (by unfold Rep; rfl) ?_
      have e := ih (k + 1)
      rw [show a + ((k + 1 : Nat) : Int) = a + (k : Nat) + 1 by omega] at e
      exact e
  have z := this n 0
  rw [← List.range_eq_range'] at z
  simpa using z
def mLstRg (m : EM) : EM := fun me h => (m me h).bind fun x h => match x with
  | .int j => match decide (0 ≤ j) && decide (j ≤ 16777216) with
    | true => .ok (.lst (rangeW 0 j.toNat)) h
    | false => .stuck
  | _ => .stuck
theorem me_listRg (hc : X.calm = true) (hg : Gl X "list") (hm : X.mg "list" = none) (hg2 : Gl X "range") (hm2 : X.mg "range" = none) (ha : ME X adr Y a ma) (na : starEach [a] X.env = (false, eval a X.env) :: starEach [] X.env := by rfl)
    (na2 : starEach [.Call (.Name "range" p2) [a] [] pos2] X.env = (false, eval (.Call (.Name "range" p2) [a] [] pos2) X.env) :: starEach [] X.env := by rfl) : ME X adr Y (.Call (.Name "list" p) [.Call (.Name "range" p2) [a] [] pos2] [] pos) (mLstRg ma) :=
  pe_imp (pe_listRg hc hg hm (prg_1 hg2 hm2 ha na) na2) fun σ H Q ⟨T, me, h, hr, hE, q⟩ => ⟨T, me, h, hr, hE, Res.bind q fun x h1 _ T1 H1 v hr1 x1 rp q1 => by
    cases x with
    | int j =>
      dsimp only at q1
      cases k : (decide (0 ≤ j) && decide (j ≤ 16777216)) with
      | false => simp only [k] at q1; exact q1.elim
      | true =>
        simp only [k] at q1
        rw [Bool.and_eq_true, decide_eq_true_iff, decide_eq_true_iff] at k
        refine ⟨j, rep_int rp, .of_le (by omega) (by omega) (by omega) (by omega), fun D hD => ?_⟩
        obtain ⟨hr2, x2, r2⟩ := list_laid hr1 hD (rgV_rep (G := kt X adr) (T := T1) (H := H1) 0 j)
        refine q1 T1 _ _ hr2 x2 ?_
        rw [Int.sub_zero] at r2
        exact r2
    | _ => exact q1.elim⟩
end
/-! ### what is boxed freezes -/
def mFz (m : EM) : EM := fun me h => (m me h).bind fun w h => match w with
  | .ref n => match h.get n with
    | some o => .ok o.toW (h.del n)
    | none => .stuck
  | w => .ok w h
theorem me_fz {e : Expr} {m : EM} (he : ME X adr Y e m) : ME X adr Y e (mFz m) := pe_imp he fun σ H Q ⟨T, me, h, hr, hE, q⟩ => ⟨T, me, h, hr, hE, Res.bind q fun w h1 _ T1 H1 v hr1 x1 rp q1 => by
  cases w with
  | ref n =>
    dsimp only at q1
    cases eg : h1.get n with
    | none => simp only [eg] at q1; exact q1.elim
    | some o =>
      simp only [eg] at q1
      obtain ⟨hr2, x2, r2⟩ := freeze hr1 eg rp
      exact q1 _ _ _ hr2 x2 r2
  | _ => exact q1 T1 H1 v hr1 (Ex.rfl' hr1.ok) rp⟩
/-! ### ==, != of what is boxed -/
def derefW (h : MH) (w : W) : W := match w with
  | .ref n => match h.get n with
    | some (.lst ws) => .lst ws
    | _ => w
  | w => w
theorem deref_ok {T : Tie} {h : MH} {H : Hp} {w : W} {v : V} (hr : Hrel G T h H) (rp : Rep G T H w v) : ∃ T', Ex T T' H H ∧ (∃ h', Hrel G T' h' H ∧ ∀ m o, h'.get m = some o → h.get m = some o) ∧ Rep G T' H (derefW h w) v := by
  unfold derefW
  split
  · rename_i n
    split
    · rename_i ws eg
      obtain ⟨hr2, x2, r2⟩ := freeze hr eg rp
      refine ⟨_, x2, ⟨_, hr2, fun m o e => ?_⟩, r2⟩
      by_cases z : m = n
      · subst z; rw [get_del_same] at e; cases e
      · rwa [get_del_other z] at e
    · exact ⟨T, Ex.rfl' hr.ok, ⟨h, hr, fun _ _ e => e⟩, rp⟩
  · exact ⟨T, Ex.rfl' hr.ok, ⟨h, hr, fun _ _ e => e⟩, rp⟩
/-- of the two at most one is boxed -/
def wCmpB (neg : Bool) : F2 := fun a b h => match a, b with
  | .ref n, .ref m => wCmpD neg (.ref n) (.ref m) h
  | .ref n, b => match h.get n with
    | some (.lst ws) => match weq 30 (.lst ws) b with
      | some r => some (.bl (xor neg r))
      | none => none
    | _ => wCmpD neg (.ref n) b h
  | a, b => wCmpD neg a b h
theorem mo_cmpB (neg : Bool) (hu : X.A.units + 64 < cLine) : MO X adr (compareOp (if neg then .NotEq else .Eq)) (wCmpB neg) := by
  intro pins s σ H x y v u Q I rx ry ⟨T, h, w1, w2, w, hr, r1, r2, e, q⟩
  have old : wCmpD neg w1 w2 h = some w → wpAny (model X.prog X.w) X.A (compareOp (if neg then .NotEq else .Eq) v u) (EP X pins σ Q) X.xe s := fun e => mo_cmpD neg hu pins s σ H x y v u Q I rx ry ⟨T, h, w1, w2, w, hr, r1, r2, e, q⟩
  unfold wCmpB at e
  split at e
  · exact old e
  · rename_i n b _
    split at e
    · rename_i ws eg
      split at e
      · rename_i r er
        cases e
        obtain ⟨hr2, x2, rr⟩ := freeze hr eg r1
        have z := weq_at (G := kt X adr) (A := X.A) (s := s) 30 I.hok (by omega) er rr (rep_ex x2 _ _ r2) rx ry
        cases neg with
        | false => exact z.1 _ _ _ _ ⟨.bl _, H, I, rfl, Hands.bl hr (by simpa using q)⟩
        | true => exact z.2.1 _ _ _ _ ⟨.bl _, H, I, rfl, Hands.bl hr (by simpa using q)⟩
      · cases e
    · exact old e
  · exact old e
theorem mo_eqB (hu : X.A.units + 64 < cLine) : MO X adr (compareOp .Eq) (wCmpB false) := mo_cmpB false hu
theorem mo_neB (hu : X.A.units + 64 < cLine) : MO X adr (compareOp .NotEq) (wCmpB true) := mo_cmpB true hu
/-! ### try that runs through -/
def sTry0 (b : SM) : SM := fun me h => match b me h with
  | .exc _ _ _ => .stuck
  | r => r
theorem ms_try0 {body : List Stmt} {h₀ : ExceptHandler} {hs : List ExceptHandler} {pos : Pos} {b : SM} (hb : MSs X.nox adr Y0 body b) : MS X adr Y (.Try body (h₀ :: hs) [] [] pos) (sTry0 b) :=
  ps_imp (ps_try_thru0 hb) fun D σ H ⟨T, me, h, hr, hE, q⟩ => ⟨T, me, h, hr, hE, by
    unfold sTry0 at q
    cases e : b me h with
    | exc _ _ _ => rw [e] at q; exact q.elim
    | nx _ _ => rw [e] at q; exact q
    | bk _ _ => rw [e] at q; exact q
    | ct _ _ => rw [e] at q; exact q
    | rt _ _ => rw [e] at q; exact q
    | stuck => rw [e] at q; exact q⟩
/-! ### methods -/
/-- what a caller of a def needs -/
structure Cal (P : Program) (w : World) (K : PySem.W.Frag) (mg : Str → Option Value) (base : Heap) (adr : Nat → Addr) (f : Addr) (k : Nat) (mf : FM) (dws : List W) : Prop where
  ex : ∃ fd ps ds, FnOk P w K mg base (L2.CX P w) k f fd ps (spM ⟨P, w, K, adr⟩ mf) ∧ Binds K fd ps ds ∧ Dfl K dws ds
  kp : PySem.W.keepIn K (.ref f) = true
section
variable {k : Nat} {f : Addr} {mf : FM} {dws : List W} {x m : Str} {p pos apos : Pos} {e o : Expr} {es : List Expr} {as : AM} {mo : EM}
theorem me_cal (C : Cal X.prog X.w X.K X.mg X.base adr f k mf dws) (hr : Room k X.A) (hg : Gl X x) (hm : X.mg x = some (.ref f)) (tk : Takes X Y)
    (ha : MA X adr Y (e :: es) as) (hdb : (x == ("__debug__" : Str)) = false) (he : starEach (e :: es) X.env = (false, eval e X.env) :: starEach es X.env) (hpl : (backTo pos (starEach es X.env)).any (·.1) = false) :
    ME X adr Y (.Call (.Name x p) (e :: es) [] pos) (mCall mf dws as) := by
  obtain ⟨fd, ps, ds, F, hb, hd⟩ := C.ex
  exact me_call F hr hg hm C.kp hb hd tk ha hdb he hpl
theorem me_cal0 (C : Cal X.prog X.w X.K X.mg X.base adr f k mf dws) (hr : Room k X.A) (hg : Gl X x) (hm : X.mg x = some (.ref f)) (tk : Takes X Y) (hdb : (x == ("__debug__" : Str)) = false) :
    ME X adr Y (.Call (.Name x p) [] [] pos) (mCall0 mf dws) := by
  obtain ⟨fd, ps, ds, F, hb, hd⟩ := C.ex
  exact me_call0 F hr hg hm C.kp hb hd tk hdb
theorem me_mk {c : Nat} {fr : Bool} (M : Mk X.K (adr c) f) (C : Cal X.prog X.w X.K X.mg X.base adr f k mf dws) (hr : Room (k + 1) X.A) (hg : Gl X x) (hm : X.mg x = some (.ref (adr c))) (tk : Takes X Y)
    (ha : MA X adr Y (e :: es) as) (hdb : (x == ("__debug__" : Str)) = false) (he : starEach (e :: es) X.env = (false, eval e X.env) :: starEach es X.env) (hpl : (backTo pos (starEach es X.env)).any (·.1) = false) :
    ME X adr Y (.Call (.Name x p) (e :: es) [] pos) (mMake c mf dws fr as) := by
  obtain ⟨fd, ps, ds, F, hb, hd⟩ := C.ex
  exact me_make M F hr hg hm hb hd tk ha hdb he hpl
/-- o.m(e, ..), o of class c -/
def mMt (c : Nat) (m : Str) (mf : FM) (dws : List W) (mo : EM) (as : AM) : EM := fun me h => (mo me h).bind fun w h => match insOf w h with
  | some (c', fn, fv) => match Nat.beq c' c with
    | true => match getF m fn fv with
      | none => (as me h).bind fun ws h => mf (w :: (ws ++ dws)) h
      | some _ => .stuck
    | false => .stuck
  | none => .stuck
theorem getF_none {T : Tie} {H : Hp} {f : Str} : ∀ {fn : List Str} {fv : List W} {vv : List V}, fn.length = vv.length → Reps G T H fv vv → getF f fn fv = none → (fn.zip vv).lookup f = none
  | [], _, _, _, _, _ => rfl
  | g :: fn, [], vv, l, r, e => by unfold Reps at r; subst r; cases l
  | g :: fn, y :: fv, vv, l, r, e => by
    unfold Reps at r
    obtain ⟨v, s, rfl, h1, h2⟩ := r
    unfold getF at e
    cases q : strEq f g with
    | true => rw [q] at e; cases e
    | false =>
      rw [q] at e
      have ne : (f == g) = false := beq_eq_false_iff_ne.mpr fun z => by rw [strEq_iff.mpr z] at q; cases q
      simp only [List.zip_cons_cons, List.lookup, ne]
      exact getF_none (by simpa using l) h2 e
theorem me_mt {c : Nat} {pl : Sem Bool} (ho : ME X adr Y o mo) (hc : Cls X.K (adr c)) (hm : Meth X.K (adr c) m f) (C : Cal X.prog X.w X.K X.mg X.base adr f k mf dws) (hr : Room k X.A) (tk : Takes X Y) (ha : MA X adr Y (e :: es) as)
    (hst : starEach (e :: es) X.env = (false, eval e X.env) :: starEach es X.env) (hpl : (backTo pos (starEach es X.env)).any (·.1) = false)
    (ht : eval (.Call (.Attribute o m apos) (e :: es) [] pos) X.env = (do
      let ov ← eval o X.env
      standAt apos.atName
      let (f, first) ← holding [ov] (getMethod ov m pl)
      callWith pos f first (backTo pos (starEach (e :: es) X.env)) (backToKw pos (keywordEach [] X.env)))) :
    ME X adr Y (.Call (.Attribute o m apos) (e :: es) [] pos) (mMt c m mf dws mo as) := by
  obtain ⟨fd, ps, ds, F, hb, hd⟩ := C.ex
  refine ⟨fun pins s σ H Q I ⟨T, me, h, hR, hE, q⟩ => ?_⟩
  refine PySem.W.methodCall_KW (pl := pl) (thn (ho.run pins s σ H (fun v H1 => ∃ T1 h1 w fn fv, Hrel (kt X adr) T1 h1 H1 ∧ Erel (kt X adr) T1 me σ H1 ∧ Rep (kt X adr) T1 H1 w v ∧ insOf w h1 = some (c, fn, fv) ∧ getF m fn fv = none ∧ ResV (kt X adr) Y T1 H1 σ ((as me h1).bind fun ws h => mf (w :: (ws ++ dws)) h) Q) I
    ⟨T, me, h, hR, hE, Res.bind q fun w h1 _ T1 H1 v hr1 x1 rp q1 => ?_⟩) fun u s1 ⟨v, H1, I1, rv, T1, h1, w, fn, fv, hr1, hE1, rp, ei, en, q1⟩ => ?_) ht
  · cases ei : insOf w h1 with
    | none => simp only [ei] at q1; exact q1.elim
    | some t =>
      obtain ⟨c', fn, fv⟩ := t
      simp only [ei] at q1
      cases ec : Nat.beq c' c with
      | false => simp only [ec] at q1; exact q1.elim
      | true =>
        simp only [ec] at q1
        obtain rfl := Nat.eq_of_beq_eq_true ec
        cases en : getF m fn fv with
        | some _ => simp only [en] at q1; exact q1.elim
        | none => simp only [en] at q1; exact ⟨T1, h1, w, fn, fv, hr1, hE.ex x1, rp, ei, en, q1⟩
  · obtain ⟨a, dx, vv, rfl, e2, l, r⟩ := insOf_at hr1 rp ei
    obtain rfl : u = .ref a := rv
    refine getmeth_ok I1 e2 hc hm (getF_none l r en) ?_
    refine PySem.W.callWith_K (first := [.ref a]) (h₀ := X.base) I1.ok.mod.kin hm.kp (thn (ha.run pos pins s1 σ H1 (fun vs H2 => ∃ T2 h2 ws, Hrel (kt X adr) T2 h2 H2 ∧ Rep (kt X adr) T2 H2 w (.ref a) ∧ Reps (kt X adr) T2 H2 ws vs ∧ ResV (kt X adr) Y T2 H2 σ (mf (w :: (ws ++ dws)) h2) Q) I1
      ⟨T1, me, h1, hr1, hE1, Res.bind q1 fun ws h2 _ T2 H2 vs hr2 x2 rp2 q2 => ⟨T2, h2, ws, hr2, rep_ex x2 _ _ rp, rp2, q2⟩⟩) fun us s2 ⟨vs, H2, I2, r2, T2, h2, ws, hr2, rp1, rp2, q2⟩ => ⟨I2.kIn, ?_⟩) hst hpl
    exact run_m (us := .ref a :: us) (vs := .ref a :: vs) (ws := w :: ws) F hr hb hd tk I2 (.cons rfl r2) hr2 (.cons rp1 rp2) q2
end
theorem takes0 (h : X.xe = fun _ _ => False) : Takes X Y0 := fun u s' ⟨_, _, _, _, _, _, _, _, _, _, _, _, _, _, _, _, z⟩ => z.elim
theorem owns0 (h : X.xe = fun _ _ => False) : PassesOwn (model X.prog X.w) X.A X.env X.xe := by rw [h]; exact .never
end Mi

end
section
namespace Mi
open PySem PySem.Spec PyProof.Rows L2
theorem _root_.L2.Room.hu {k : Nat} {A : Around} (r : Room k A) : A.units + 64 < cLine := by have := r.un; omega
theorem blk_mk {N : List Str} {sc scope : Scope} {own : List (Str × Nat)} (kind : scope.kind = .function) (b : ((scope.names.all fun y => decide (scope.names.lookup y.1 = some y.2)) && ((own.all fun p => decide (N[p.2]? = some p.1)) &&
   ((scope.names.all fun y => !(decide (y.2 = .free)) || (decide (sc.names.lookup y.1 = some .cell) || decide (sc.names.lookup y.1 = some .free))) &&
    (scope.names.all fun y => !(decide (y.2 = .local) || decide (y.2 = .cell)) || (decide (y.1 ∈ own.map (·.1)) || decide (y.1 ∉ N)))))) = true) : BlkOk N sc scope own := by
  simp only [Bool.and_eq_true, List.all_eq_true, Bool.or_eq_true, Bool.not_eq_true', decide_eq_true_iff, decide_eq_false_iff_not, Bool.or_eq_false_iff] at b
  obtain ⟨b1, b2, b3, b4⟩ := b
  exact ⟨kind, b1, b2, fun y hy e => (b3 y hy).elim (fun z => absurd e z) id, fun y hy e => (b4 y hy).elim (fun z => absurd e (by rcases e with e | e <;> simp [e] at z)) id⟩
/-- what a caller with keywords needs -/
structure CalK (P : Program) (w : World) (K : PySem.W.Frag) (mg : Str → Option Value) (base : Heap) (adr : Nat → Addr) (f : Addr) (k n : Nat) (ks : List Str) (mf : FM) : Prop where
  ex : ∃ fd ps, FnOk P w K mg base (L2.CX P w) k f fd ps (spM ⟨P, w, K, adr⟩ mf) ∧ KBn K fd ps (n + 1) ks (fun us ws => us ++ ws) (fun us ws => us ++ ws)
/-- what a caller of a generator def needs -/
structure CalG (P : Program) (w : World) (K : PySem.W.Frag) (mg : Str → Option Value) (base : Heap) (adr : Nat → Addr) (f : Addr) (k : Nat) (mf : FG) (dws : List W) : Prop where
  ex : ∃ fd ps ds, GFn P w K mg base k f fd ps (spGM ⟨P, w, K, adr⟩ mf) ∧ Binds K fd ps ds ∧ Dfl K dws ds
  kp : PySem.W.keepIn K (.ref f) = true
section
variable {X : Cx} {adr : Nat → Addr} {Y : WX} {k n c : Nat} {fr : Bool} {f : Addr} {mf : FM} {ks : List Str} {x nm : Str} {p p2 pos pos' : Pos} {e : Expr} {es : List Expr} {as az : AM} {kws : List Keyword} {dws : List W}
theorem me_mkK (M : Mk X.K (adr c) f) (C : CalK X.prog X.w X.K X.mg X.base adr f k n ks mf) (hr : Room (k + 1) X.A) (hg : Gl X x) (hm : X.mg x = some (.ref (adr c))) (tk : Takes X Y)
    (ha : MA X adr Y (e :: es) as) (hkw : MK X adr Y kws az) (hall : (backToKw pos (keywordEach kws X.env)).all (·.1.isSome) = true) (hks : (backToKw pos (keywordEach kws X.env)).filterMap (·.1) = ks) (hdb : (x == ("__debug__" : Str)) = false)
    (he : starEach (e :: es) X.env = (false, eval e X.env) :: starEach es X.env) (hpl : ((backTo pos (starEach (e :: es) X.env)).any (·.1) || (backToKw pos (keywordEach kws X.env)).any (·.1.isNone)) = false) :
    ME X adr Y (.Call (.Name x p) (e :: es) kws pos) (mMakeK c n ks.length mf fr as az) := by
  obtain ⟨fd, ps, F, hb⟩ := C.ex
  exact me_makeK M F hr hg hm hb tk ha hkw hall hks hdb he hpl
theorem me_calG {mf : FG} (C : CalG X.prog X.w X.K X.mg X.base adr f k mf dws) (hr : Room (k + 3) X.A) (hg : Gl X x) (hm : X.mg x = some (.ref f)) (ha : MA X adr Y (e :: es) as) (hg2 : Gl X "list") (hmg : X.mg "list" = none)
    (hdb : (x == ("__debug__" : Str)) = false := by decide) (he : starEach (e :: es) X.env = (false, eval e X.env) :: starEach es X.env := by rfl) (hpl : (backTo pos' (starEach es X.env)).any (·.1) = false := by rfl)
    (he2 : starEach [.Call (.Name x p) (e :: es) [] pos'] X.env = (false, eval (.Call (.Name x p) (e :: es) [] pos') X.env) :: starEach [] X.env := by rfl) :
    ME X adr Y (.Call (.Name "list" p2) [.Call (.Name x p) (e :: es) [] pos'] [] pos) (mListG mf dws as) := by
  obtain ⟨fd, ps, ds, F, hb, hd⟩ := C.ex
  exact me_listG F hr hg hm C.kp hb hd ha hg2 hmg rfl (by decide) (by decide) hdb he hpl he2
/-- a call that gives a bool: all that it boxed is dropped, the numbers too -/
def mRst (m : EM) : EM := fun me h => match m me h with
  | .ok (.bl b) _ => .ok (.bl b) ⟨h.nx, []⟩
  | _ => .stuck
theorem me_rst {m : EM} (he : ME X adr Y e m) : ME X adr Y e (mRst m) := pe_imp he fun σ H Q ⟨T, me, h, hr, hE, q⟩ => ⟨T, me, h, hr, hE, by
  unfold mRst at q
  cases em : m me h with
  | exc _ _ => rw [em] at q; exact q.elim
  | stuck => rw [em] at q; exact q.elim
  | ok w h' =>
    rw [em] at q
    cases w with
    | bl b =>
      intro T' H' v hr' x' rp
      have ok := hr'.ok
      have some_of : ∀ {n a}, (if n < T.nx then T'.ρ n else none) = some a → n < T.nx ∧ T'.ρ n = some a := fun {n a} z => by
        by_cases l : n < T.nx
        · simp only [l, if_true] at z; exact ⟨l, z⟩
        · simp only [l, if_false] at z; cases z
      refine q { ρ := fun n => if n < T.nx then T'.ρ n else none, nx := T.nx, hid := T'.hid } H' v ⟨⟨fun m a z => (some_of z).1, fun m n a z1 z2 => ok.inj m n a (some_of z1).2 (some_of z2).2, fun n a z => ok.there n a (some_of z).2, fun n a z => ok.hid n a (some_of z).2, ok.hidT⟩, hr.nx, fun n o z => by cases z⟩
        ⟨Nat.le_refl _, fun m hm => ?_, fun m a hm z => absurd (some_of z).1 (Nat.not_lt.mpr hm), x'.fz, x'.there, x'.hid, x'.hidN, x'.hidS⟩ (by unfold Rep at rp ⊢; exact rp)
      show (if m < T.nx then T'.ρ m else none) = T.ρ m ∨ (if m < T.nx then T'.ρ m else none) = none
      rw [if_pos hm]
      exact x'.old m hm
    | _ => exact q.elim⟩
/-- a def that is never called -/
theorem cal_stuck {P : Program} {w : World} {K : PySem.W.Frag} {mg : Str → Option Value} {base : Heap} {fd : FuncData} {ps : List Str} {ds : List Value} (hb : Binds K fd ps ds) (hd : Dfl K dws ds) (kp : PySem.W.keepIn K (.ref f) = true) : Cal P w K mg base adr f k (fun _ _ => .stuck) dws :=
  ⟨⟨fd, ps, ds, ⟨fun _ _ _ _ ⟨_, _, _, _, _, q⟩ => q.elim, fun _ _ _ _ _ _ _ _ _ _ _ _ _ ⟨_, _, _, _, _, q⟩ => q.elim⟩, hb, hd⟩, kp⟩
end
/-! ### own classes, by computing -/
def isB (K : PySem.W.Frag) (adr : Nat → Addr) (n : Nat) (sub : Nat → Nat → Bool) : Bool :=
  ((List.range n).all fun c => (List.range n).all fun d => decide (PySem.W.kitOne K (.ref (adr c)) (.ref (adr d)) = some (sub c d))) &&
  (((List.range n).all fun c => (List.range 6).all fun k => decide (PySem.W.kitOne K (.ref (adr c)) (.type (tyName k)) = some false)) &&
  (((List.range 7).all fun k => (List.range n).all fun d => decide (PySem.W.kitOne K (.type (tyName k)) (.ref (adr d)) = some false)) &&
  (((List.range n).all fun c => PySem.W.plainGet K (adr c) Str.empty && (PySem.W.hasDictIn K (adr c) && (PySem.W.plainOver K (adr c) && (He.eqO (PySem.W.findIn K (.ref (adr c)) "__setattr__") (some (some (.builtin "object.__setattr__"))) &&
    (He.eqO (PySem.W.findIn K (.ref (adr c)) "__class__") (some (some (.builtin "object.__class__"))) && decide (PySem.W.mroIn K (adr c) (.type "object") = some true)))))) &&
  (He.eqO (PySem.W.specialIn K (.builtin "object.__class__") "__get__") (some (some (.builtin "getset_descriptor.__get__"))) && decide (PySem.W.takesIn K (.builtin "object.__class__") = some true)))))
theorem isB_ok {K : PySem.W.Frag} {adr : Nat → Addr} {n : Nat} {sub : Nat → Nat → Bool} (h : isB K adr n sub = true) : IsF K adr n sub := by
  unfold isB at h
  simp only [Bool.and_eq_true, List.all_eq_true, decide_eq_true_iff, List.mem_range] at h
  obtain ⟨h1, h2, h3, h4, h5, h6⟩ := h
  exact ⟨fun c d hc hd => h1 c hc d hd, fun c k hc hk => h2 c hc k hk, fun k d hk hd => h3 k hk d hd, fun c hc => by
    obtain ⟨a1, a2, a3, a4, a5, a6⟩ := h4 c hc
    exact ⟨⟨a1, a2, a3, He.eqO_ok a4⟩, He.eqO_ok a5, a6⟩, He.eqO_ok h5, h6⟩
def k0B (K : PySem.W.Frag) (a : Addr) : Bool := match K.lookup a with
  | some o => decide (o.cls = .type "tuple") && (match o.data with
    | .seq its _ => its.isEmpty
    | _ => false)
  | none => false
theorem k0B_ok {K : PySem.W.Frag} {a : Addr} (h : k0B K a = true) : K0 K a := by
  unfold k0B at h
  split at h
  · rename_i o e
    rw [Bool.and_eq_true, decide_eq_true_iff] at h
    obtain ⟨h1, h2⟩ := h
    split at h2
    · rename_i its n d
      have : its = #[] := by simpa using h2
      subst this
      exact ⟨o, n, e, h1, d⟩
    · cases h2
  · cases h
/-! ### defaults -/
theorem dfl_int {K : PySem.W.Frag} {i : Int} {ds : List Value} (h : Vals [V.int i] ds) : Dfl K [.int i] ds := fun G T H _ => ⟨_, h, Reps.cons (by unfold Rep; rfl) Reps.nil⟩
theorem dfl_kt0 {K : PySem.W.Frag} {a : Addr} {ds : List Value} (k : K0 K a) (h : Vals [V.ref a] ds) : Dfl K [.kt0] ds := fun G T H e => ⟨_, h, Reps.cons (by unfold Rep; subst e; exact ⟨a, rfl, k⟩) Reps.nil⟩
theorem dfl_nil {K : PySem.W.Frag} {ds : List Value} (h : Vals ([] : List V) ds) : Dfl K [] ds := fun G T H _ => ⟨_, h, Reps.nil⟩
end Mi

end
section
namespace Mi
open PySem PySem.Spec PyProof.Rows L2
variable {G : Kt} {X : Cx} {adr : Nat → Addr} {Y : WX}
/-- i, j = a, b without a tuple -/
def sPar2 (i j : Nat) (as : AM) : SM := fun me h => .ofA me (as me h) fun ws h => match ws with
  | [a, b] => .nx (put (put me i a) j b) h
  | _ => .stuck
def sPar3 (i j l : Nat) (as : AM) : SM := fun me h => .ofA me (as me h) fun ws h => match ws with
  | [a, b, c] => .nx (put (put (put me i a) j b) l c) h
  | _ => .stuck
theorem ms_par2 {i j : Nat} {x y : Str} {a b : Expr} {as : AM} {px py pt pos : Pos} {kt' k2 pt2} (hc : X.calm = true) (hN : X.N.Nodup) (hi : X.N[i]? = some x) (hj : X.N[j]? = some y) (hij : i ≠ j)
    (hx : X.env.scope.names.lookup x = some .local) (hy : X.env.scope.names.lookup y = some .local) (ha : MA X adr Y [a, b] as)
    (hw : swappedStores [.Tuple [.Name x px, .Name y py] kt' pt] (.Tuple [a, b] k2 pt2) X.env = pure (some [x, y]))
    (hs : swapsWithSole [.Tuple [.Name x px, .Name y py] kt' pt] (.Tuple [a, b] k2 pt2) pos.line X.env = pure false) :
    MS X adr Y (.Assign [.Tuple [.Name x px, .Name y py] kt' pt] (.Tuple [a, b] k2 pt2) pos) (sPar2 i j as) :=
  ps_imp (ps_par hc hN hi hj hij hx hy ha hw hs) fun D σ H ⟨T, me, h, hr, hE, q⟩ => ⟨T, me, h, hr, hE, ResS.bindA hE q fun ws h1 _ T1 H1 vs hr1 x1 rp e1 q1 => by
    match ws, rp, q1 with
    | [], _, q1 => exact q1.elim
    | [_], _, q1 => exact q1.elim
    | [w1, w2], rp, q1 =>
      unfold Reps at rp
      obtain ⟨v1, s1, rfl, r1, rp⟩ := rp
      unfold Reps at rp
      obtain ⟨v2, s2, rfl, r2, rp⟩ := rp
      unfold Reps at rp
      subst rp
      exact ⟨v1, v2, rfl, q1 T1 H1 _ hr1 (Ex.rfl' hr1.ok) ((e1.put r1).put r2)⟩
    | _ :: _ :: _ :: _, _, q1 => exact q1.elim⟩
theorem ms_par3 {i j l : Nat} {x y z : Str} {a b c : Expr} {as : AM} {px py pz pt pos : Pos} {kt' k2 pt2} (hc : X.calm = true) (hN : X.N.Nodup) (hi : X.N[i]? = some x) (hj : X.N[j]? = some y) (hl : X.N[l]? = some z) (hij : i ≠ j) (hil : i ≠ l) (hjl : j ≠ l)
    (hx : X.env.scope.names.lookup x = some .local) (hy : X.env.scope.names.lookup y = some .local) (hz : X.env.scope.names.lookup z = some .local) (ha : MA X adr Y [a, b, c] as)
    (hw : swappedStores [.Tuple [.Name x px, .Name y py, .Name z pz] kt' pt] (.Tuple [a, b, c] k2 pt2) X.env = pure (some [x, y, z]))
    (hs : swapsWithSole [.Tuple [.Name x px, .Name y py, .Name z pz] kt' pt] (.Tuple [a, b, c] k2 pt2) pos.line X.env = pure false) :
    MS X adr Y (.Assign [.Tuple [.Name x px, .Name y py, .Name z pz] kt' pt] (.Tuple [a, b, c] k2 pt2) pos) (sPar3 i j l as) :=
  ps_imp (ps_par3 hc hN hi hj hl hij hil hjl hx hy hz ha hw hs) fun D σ H ⟨T, me, h, hr, hE, q⟩ => ⟨T, me, h, hr, hE, ResS.bindA hE q fun ws h1 _ T1 H1 vs hr1 x1 rp e1 q1 => by
    match ws, rp, q1 with
    | [], _, q1 => exact q1.elim
    | [_], _, q1 => exact q1.elim
    | [_, _], _, q1 => exact q1.elim
    | [w1, w2, w3], rp, q1 =>
      unfold Reps at rp
      obtain ⟨v1, s1, rfl, r1, rp⟩ := rp
      unfold Reps at rp
      obtain ⟨v2, s2, rfl, r2, rp⟩ := rp
      unfold Reps at rp
      obtain ⟨v3, s3, rfl, r3, rp⟩ := rp
      unfold Reps at rp
      subst rp
      exact ⟨v1, v2, v3, rfl, q1 T1 H1 _ hr1 (Ex.rfl' hr1.ok) (((e1.put r1).put r2).put r3)⟩
    | _ :: _ :: _ :: _ :: _, _, q1 => exact q1.elim⟩
/-- a if c else b as a test -/
theorem pt_ifExp {c a b : Expr} {pos : Pos} {tc ta tb : TT} (hc : PT X c tc) (ha : PT X a ta) (hb : PT X b tb) : PT X (.IfExp c a b pos) (fun σ H Q => tc σ H fun d H1 => if d = true then ta σ H1 Q else tb σ H1 Q) := by
  refine ⟨fun pins s σ H Q I h => ?_⟩
  refine isTrue_IfExp (thn (hc.run pins s σ H _ I h) fun d s1 ⟨H1, I1, q1⟩ => ?_)
  cases d with
  | true => exact ha.run pins s1 σ H1 Q I1 (by simpa using q1)
  | false => exact hb.run pins s1 σ H1 Q I1 (by simpa using q1)
theorem mt_ifExp {c a b : Expr} {pos : Pos} {mc ma mb : EM} (hc : MT X adr Y c mc) (ha : MT X adr Y a ma) (hb : MT X adr Y b mb) : MT X adr Y (.IfExp c a b pos) (mIf mc ma mb) := by
  refine pt_imp (pt_ifExp hc ha hb) fun σ H Q q => ?_
  obtain ⟨T, me, h, hr, he, q⟩ := q
  refine ⟨T, me, h, hr, he, ?_⟩
  unfold mIf at q
  rw [asB_bind] at q
  refine Res.bindB q (fun w h n => ?_) fun k h1 _ T1 H1 hr1 x1 q1 => ?_
  · cases w <;> first | rfl | exact absurd rfl (n _)
  · cases k with
    | true => exact ⟨T1, me, h1, hr1, he.ex x1, q1⟩
    | false => exact ⟨T1, me, h1, hr1, he.ex x1, q1⟩
end Mi

end
section
namespace K35
open PySem PySem.Spec PyProof.Rows L2 Mi
abbrev pr : Program := PySem.Challenge.pw_fewbounds_k35_by_hand
def top (i : Nat) : Stmt := pr.main.body.getD i (.Pass ⟨0, 0, 0, 0⟩)
def cBody : Stmt → List Stmt
  | .ClassDef (body := b) .. => b
  | _ => []
def mth (i j : Nat) : Stmt := (cBody (top i)).getD j (.Pass ⟨0, 0, 0, 0⟩)
def nC : Nat := 4
def subC (a b : Nat) : Bool := Nat.beq a b
def clsN : Nat → Str
  | 0 => "Bound"
  | 1 => "Shelf"
  | 2 => "Bounding"
  | _ => "NoBounding"
abbrev adr (K : PySem.W.Frag) : Nat → Addr := fun n => He.ga K (clsN n)
abbrev dd_is_name : He.DefD := ⟨("is_name", none), "is_name", "is_name", defArgs (top 19), defBody (top 19), defScope (top 19), [], []⟩
abbrev dd_is_integer : He.DefD := ⟨("is_integer", none), "is_integer", "is_integer", defArgs (top 18), defBody (top 18), defScope (top 18), [], []⟩
abbrev dd_are_versions : He.DefD := ⟨("are_versions", none), "are_versions", "are_versions", defArgs (top 20), defBody (top 20), defScope (top 20), [], []⟩
abbrev dd_Bound_init : He.DefD := ⟨("Bound", some "__init__"), "__init__", "Bound.__init__", defArgs (mth 21 0), defBody (mth 21 0), defScope (mth 21 0), [], [("cost", .int 1)]⟩
abbrev dd_are_packages : He.DefD := ⟨("are_packages", none), "are_packages", "are_packages", defArgs (top 22), defBody (top 22), defScope (top 22), [], []⟩
abbrev dd_are_others : He.DefD := ⟨("are_others", none), "are_others", "are_others", defArgs (top 24), defBody (top 24), defScope (top 24), [], []⟩
abbrev dd_is_item : He.DefD := ⟨("is_item", none), "is_item", "is_item", defArgs (top 23), defBody (top 23), defScope (top 23), [], []⟩
abbrev dd_are_needs : He.DefD := ⟨("are_needs", none), "are_needs", "are_needs", defArgs (top 25), defBody (top 25), defScope (top 25), [], []⟩
abbrev dd_is_break : He.DefD := ⟨("is_break", none), "is_break", "is_break", defArgs (top 26), defBody (top 26), defScope (top 26), [], []⟩
abbrev dd_is_request : He.DefD := ⟨("is_request", none), "is_request", "is_request", defArgs (top 27), defBody (top 27), defScope (top 27), [], []⟩
abbrev dd_is_bound_of : He.DefD := ⟨("is_bound_of", none), "is_bound_of", "is_bound_of", defArgs (top 28), defBody (top 28), defScope (top 28), [], []⟩
abbrev dd_Shelf_init : He.DefD := ⟨("Shelf", some "__init__"), "__init__", "Shelf.__init__", defArgs (mth 29 0), defBody (mth 29 0), defScope (mth 29 0), [], []⟩
abbrev dd__law_small : He.DefD := ⟨("_law_small", none), "_law_small", "_law_small", defArgs (top 73), defBody (top 73), defScope (top 73), [], []⟩
abbrev dd_check_shelf : He.DefD := ⟨("check_shelf", none), "check_shelf", "check_shelf", defArgs (top 31), defBody (top 31), defScope (top 31), [], []⟩
abbrev dd_all_sets : He.DefD := ⟨("all_sets", none), "all_sets", "all_sets", defArgs (top 66), defBody (top 66), defScope (top 66), [], []⟩
abbrev dd_empty_plan : He.DefD := ⟨("empty_plan", none), "empty_plan", "empty_plan", defArgs (top 41), defBody (top 41), defScope (top 41), [], []⟩
abbrev dd_items_of : He.DefD := ⟨("items_of", none), "items_of", "items_of", defArgs (top 38), defBody (top 38), defScope (top 38), [], []⟩
abbrev dd_needed : He.DefD := ⟨("needed", none), "needed", "needed", defArgs (top 30), defBody (top 30), defScope (top 30), [], []⟩
abbrev dd_next_of : He.DefD := ⟨("next_of", none), "next_of", "next_of", defArgs (top 39), defBody (top 39), defScope (top 39), [], []⟩
abbrev dd_choices_of : He.DefD := ⟨("choices_of", none), "choices_of", "choices_of", defArgs (top 40), defBody (top 40), defScope (top 40), [], []⟩
abbrev dd_all_plans : He.DefD := ⟨("all_plans", none), "all_plans", "all_plans", defArgs (top 45), defBody (top 45), defScope (top 45), [], []⟩
abbrev dd_violates : He.DefD := ⟨("violates", none), "violates", "violates", defArgs (top 43), defBody (top 43), defScope (top 43), [], []⟩
abbrev dd_is_allowed : He.DefD := ⟨("is_allowed", none), "is_allowed", "is_allowed", defArgs (top 44), defBody (top 44), defScope (top 44), [], []⟩
abbrev dd_allowed_plans : He.DefD := ⟨("allowed_plans", none), "allowed_plans", "allowed_plans", defArgs (top 50), defBody (top 50), defScope (top 50), [], []⟩
abbrev dd_clashing : He.DefD := ⟨("clashing", none), "clashing", "clashing", defArgs (top 42), defBody (top 42), defScope (top 42), [], []⟩
abbrev dd_tree_of : He.DefD := ⟨("tree_of", none), "tree_of", "tree_of", defArgs (top 65), defBody (top 65), defScope (top 65), [], []⟩
abbrev dd_doubt_of : He.DefD := ⟨("doubt_of", none), "doubt_of", "doubt_of", defArgs (top 67), defBody (top 67), defScope (top 67), [], []⟩
abbrev dd_cost_of : He.DefD := ⟨("cost_of", none), "cost_of", "cost_of", defArgs (top 53), defBody (top 53), defScope (top 53), [], []⟩
abbrev dd_NoBounding_init : He.DefD := ⟨("NoBounding", some "__init__"), "__init__", "NoBounding.__init__", defArgs (mth 69 0), defBody (mth 69 0), defScope (mth 69 0), [], []⟩
abbrev dd_Bounding_init : He.DefD := ⟨("Bounding", some "__init__"), "__init__", "Bounding.__init__", defArgs (mth 68 0), defBody (mth 68 0), defScope (mth 68 0), [], []⟩
abbrev dd_cheapest : He.DefD := ⟨("cheapest", none), "cheapest", "cheapest", defArgs (top 71), defBody (top 71), defScope (top 71), [], []⟩
abbrev dd_is_sound : He.DefD := ⟨("is_sound", none), "is_sound", "is_sound", defArgs (top 58), defBody (top 58), defScope (top 58), [], []⟩
abbrev dd_is_closed : He.DefD := ⟨("is_closed", none), "is_closed", "is_closed", defArgs (top 59), defBody (top 59), defScope (top 59), [], []⟩
abbrev dd_is_against : He.DefD := ⟨("is_against", none), "is_against", "is_against", defArgs (top 63), defBody (top 63), defScope (top 63), [], []⟩
abbrev dd_are_doubts : He.DefD := ⟨("are_doubts", none), "are_doubts", "are_doubts", defArgs (top 70), defBody (top 70), defScope (top 70), [], []⟩
abbrev dd_Bounding_shows : He.DefD := ⟨("Bounding", some "shows"), "shows", "Bounding.shows", defArgs (mth 68 2), defBody (mth 68 2), defScope (mth 68 2), [], []⟩
abbrev dd_NoBounding_shows : He.DefD := ⟨("NoBounding", some "shows"), "shows", "NoBounding.shows", defArgs (mth 69 2), defBody (mth 69 2), defScope (mth 69 2), [], []⟩
abbrev dd__law_cheapest_right : He.DefD := ⟨("_law_cheapest_right", none), "_law_cheapest_right", "_law_cheapest_right", defArgs (top 76), defBody (top 76), defScope (top 76), [], []⟩
abbrev dd_check_set : He.DefD := ⟨("check_set", none), "check_set", "check_set", defArgs (top 35), defBody (top 35), defScope (top 35), [], []⟩
abbrev dd_serves : He.DefD := ⟨("serves", none), "serves", "serves", defArgs (top 51), defBody (top 51), defScope (top 51), [], []⟩
abbrev dd_is_right : He.DefD := ⟨("is_right", none), "is_right", "is_right", defArgs (top 52), defBody (top 52), defScope (top 52), [], []⟩
abbrev dd_is_index : He.DefD := ⟨("is_index", none), "is_index", "is_index", defArgs (top 33), defBody (top 33), defScope (top 33), [], []⟩
abbrev dd_check_request : He.DefD := ⟨("check_request", none), "check_request", "check_request", defArgs (top 34), defBody (top 34), defScope (top 34), [], []⟩
abbrev dd_plans : He.DefD := ⟨("plans", none), "plans", "plans", defArgs (top 46), defBody (top 46), defScope (top 46), [.adr (He.dflAt ("plans", none) 0)], []⟩
abbrev dd_is_plan : He.DefD := ⟨("is_plan", none), "is_plan", "is_plan", defArgs (top 36), defBody (top 36), defScope (top 36), [], []⟩
abbrev dd_check_plan : He.DefD := ⟨("check_plan", none), "check_plan", "check_plan", defArgs (top 37), defBody (top 37), defScope (top 37), [], []⟩
abbrev dd_next_package : He.DefD := ⟨("next_package", none), "next_package", "next_package", defArgs (top 47), defBody (top 47), defScope (top 47), [], []⟩
abbrev dd_set_cost : He.DefD := ⟨("set_cost", none), "set_cost", "set_cost", defArgs (top 54), defBody (top 54), defScope (top 54), [], []⟩
abbrev dd_is_broken : He.DefD := ⟨("is_broken", none), "is_broken", "is_broken", defArgs (top 48), defBody (top 48), defScope (top 48), [], []⟩
abbrev dd_allows : He.DefD := ⟨("allows", none), "allows", "allows", defArgs (top 49), defBody (top 49), defScope (top 49), [], []⟩
abbrev dd__law_plans_right : He.DefD := ⟨("_law_plans_right", none), "_law_plans_right", "_law_plans_right", defArgs (top 74), defBody (top 74), defScope (top 74), [], []⟩
abbrev dd__law_answers_right : He.DefD := ⟨("_law_answers_right", none), "_law_answers_right", "_law_answers_right", defArgs (top 77), defBody (top 77), defScope (top 77), [], []⟩
abbrev dd_is_form : He.DefD := ⟨("is_form", none), "is_form", "is_form", defArgs (top 57), defBody (top 57), defScope (top 57), [], []⟩
abbrev dd_is_tree : He.DefD := ⟨("is_tree", none), "is_tree", "is_tree", defArgs (top 60), defBody (top 60), defScope (top 60), [], []⟩
abbrev dd_is_shut : He.DefD := ⟨("is_shut", none), "is_shut", "is_shut", defArgs (top 61), defBody (top 61), defScope (top 61), [], []⟩
abbrev dd_check_doubt : He.DefD := ⟨("check_doubt", none), "check_doubt", "check_doubt", defArgs (top 62), defBody (top 62), defScope (top 62), [], []⟩
abbrev dd_is_doubt : He.DefD := ⟨("is_doubt", none), "is_doubt", "is_doubt", defArgs (top 64), defBody (top 64), defScope (top 64), [], []⟩
abbrev dd__law_trees_right : He.DefD := ⟨("_law_trees_right", none), "_law_trees_right", "_law_trees_right", defArgs (top 75), defBody (top 75), defScope (top 75), [], []⟩
abbrev dd_law : He.DefD := ⟨("law", none), "law", "law", defArgs (top 78), defBody (top 78), defScope (top 78), [], []⟩
def fnL : List He.DefD := [dd_is_name, dd_is_integer, dd_are_versions, dd_Bound_init, dd_are_packages, dd_are_others, dd_is_item, dd_are_needs, dd_is_break, dd_is_request, dd_is_bound_of, dd_Shelf_init, dd__law_small, dd_check_shelf, dd_all_sets, dd_empty_plan, dd_items_of, dd_needed, dd_next_of, dd_choices_of, dd_all_plans, dd_violates, dd_is_allowed, dd_allowed_plans, dd_clashing, dd_tree_of, dd_doubt_of, dd_cost_of, dd_NoBounding_init, dd_Bounding_init, dd_cheapest, dd_is_sound, dd_is_closed, dd_is_against, dd_are_doubts, dd_Bounding_shows, dd_NoBounding_shows, dd__law_cheapest_right, dd_check_set, dd_serves, dd_is_right, dd_is_index, dd_check_request, dd_plans, dd_is_plan, dd_check_plan, dd_next_package, dd_set_cost, dd_is_broken, dd_allows, dd__law_plans_right, dd__law_answers_right, dd_is_form, dd_is_tree, dd_is_shut, dd_check_doubt, dd_is_doubt, dd__law_trees_right, dd_law]
def faL : List He.Fa := [.glo "Bound", .glo "Shelf", .glo "Bounding", .glo "NoBounding", .glo "is_name", .glo "is_integer", .glo "are_versions", .glo "are_packages", .glo "are_others", .glo "is_item", .glo "are_needs", .glo "is_break", .glo "is_request", .glo "is_bound_of", .glo "_law_small", .glo "check_shelf", .glo "all_sets", .glo "empty_plan", .glo "items_of", .glo "needed", .glo "next_of", .glo "choices_of", .glo "all_plans", .glo "violates", .glo "is_allowed", .glo "allowed_plans", .glo "clashing", .glo "tree_of", .glo "doubt_of", .glo "cost_of", .glo "cheapest", .glo "is_sound", .glo "is_closed", .glo "is_against", .glo "are_doubts", .glo "_law_cheapest_right", .glo "check_set", .glo "serves", .glo "is_right", .glo "is_index", .glo "check_request", .glo "plans", .glo "is_plan", .glo "check_plan", .glo "next_package", .glo "set_cost", .glo "is_broken", .glo "allows", .glo "_law_plans_right", .glo "_law_answers_right", .glo "is_form", .glo "is_tree", .glo "is_shut", .glo "check_doubt", .glo "is_doubt", .glo "_law_trees_right", .glo "law", .free "abs", .free "all", .free "any", .free "bool", .free "dict", .free "enumerate", .free "int", .free "isinstance", .free "len", .free "list", .free "range", .free "sorted", .free "str", .free "sum", .free "tuple", .free "zip", .str "LETTERS" "abcdefghijklmnopqrstuvwxyz", .int "MAX_BOUNDS" 6, .int "MAX_COST" 9, .int "MAX_DEPTH" 6, .int "MAX_NAME" 8, .int "MAX_PACKAGES" 5, .int "MAX_REQUESTS" 3, .int "MAX_VERSION" 3, .cls "Bound", .cls "Shelf", .cls "Bounding", .cls "NoBounding", .noat "Shelf" "asked", .noat "Bounding" "bounds", .noat "Bound" "charge", .noat "Shelf" "clashes", .noat "Bounding" "doubts", .noat "NoBounding" "doubts", .noat "Shelf" "lines", .noat "Shelf" "most", .noat "Bounding" "plans", .noat "Bound" "sides", .noat "Bounding" "trees", .noat "Shelf" "wants", .mkr "Bound", .mkr "Shelf", .mkr "NoBounding", .mkr "Bounding", .meth "Bounding" "shows", .meth "NoBounding" "shows"]
def exB (K : PySem.W.Frag) : Bool := isB K (adr K) nC subC && k0B K (He.dflAt ("plans", none) 0 K)
structure Hd (K : PySem.W.Frag) (mg : Str → Option Value) : Prop where
  ns : ∃ h : Heap, K.In h ∧ h.Ns mainGlobals mg
  c : He.SaysD faL fnL K
  ex : exB K = true
section
variable {P : Program} {w : World} {K : PySem.W.Frag} {mg : Str → Option Value} {base : Heap}
theorem g_Bound (Z : Hd K mg) : mg "Bound" = some (.ref (He.ga K "Bound")) := let ⟨_, X, G⟩ := Z.ns; He.glo_ok X G (Z.c.fact 0 rfl)
theorem g_Shelf (Z : Hd K mg) : mg "Shelf" = some (.ref (He.ga K "Shelf")) := let ⟨_, X, G⟩ := Z.ns; He.glo_ok X G (Z.c.fact 1 rfl)
theorem g_Bounding (Z : Hd K mg) : mg "Bounding" = some (.ref (He.ga K "Bounding")) := let ⟨_, X, G⟩ := Z.ns; He.glo_ok X G (Z.c.fact 2 rfl)
theorem g_NoBounding (Z : Hd K mg) : mg "NoBounding" = some (.ref (He.ga K "NoBounding")) := let ⟨_, X, G⟩ := Z.ns; He.glo_ok X G (Z.c.fact 3 rfl)
theorem g_is_name (Z : Hd K mg) : mg "is_name" = some (.ref (He.ga K "is_name")) := let ⟨_, X, G⟩ := Z.ns; He.glo_ok X G (Z.c.fact 4 rfl)
theorem g_is_integer (Z : Hd K mg) : mg "is_integer" = some (.ref (He.ga K "is_integer")) := let ⟨_, X, G⟩ := Z.ns; He.glo_ok X G (Z.c.fact 5 rfl)
theorem g_are_versions (Z : Hd K mg) : mg "are_versions" = some (.ref (He.ga K "are_versions")) := let ⟨_, X, G⟩ := Z.ns; He.glo_ok X G (Z.c.fact 6 rfl)
theorem g_are_packages (Z : Hd K mg) : mg "are_packages" = some (.ref (He.ga K "are_packages")) := let ⟨_, X, G⟩ := Z.ns; He.glo_ok X G (Z.c.fact 7 rfl)
theorem g_are_others (Z : Hd K mg) : mg "are_others" = some (.ref (He.ga K "are_others")) := let ⟨_, X, G⟩ := Z.ns; He.glo_ok X G (Z.c.fact 8 rfl)
theorem g_is_item (Z : Hd K mg) : mg "is_item" = some (.ref (He.ga K "is_item")) := let ⟨_, X, G⟩ := Z.ns; He.glo_ok X G (Z.c.fact 9 rfl)
theorem g_are_needs (Z : Hd K mg) : mg "are_needs" = some (.ref (He.ga K "are_needs")) := let ⟨_, X, G⟩ := Z.ns; He.glo_ok X G (Z.c.fact 10 rfl)
theorem g_is_break (Z : Hd K mg) : mg "is_break" = some (.ref (He.ga K "is_break")) := let ⟨_, X, G⟩ := Z.ns; He.glo_ok X G (Z.c.fact 11 rfl)
theorem g_is_request (Z : Hd K mg) : mg "is_request" = some (.ref (He.ga K "is_request")) := let ⟨_, X, G⟩ := Z.ns; He.glo_ok X G (Z.c.fact 12 rfl)
theorem g_is_bound_of (Z : Hd K mg) : mg "is_bound_of" = some (.ref (He.ga K "is_bound_of")) := let ⟨_, X, G⟩ := Z.ns; He.glo_ok X G (Z.c.fact 13 rfl)
theorem g__law_small (Z : Hd K mg) : mg "_law_small" = some (.ref (He.ga K "_law_small")) := let ⟨_, X, G⟩ := Z.ns; He.glo_ok X G (Z.c.fact 14 rfl)
theorem g_check_shelf (Z : Hd K mg) : mg "check_shelf" = some (.ref (He.ga K "check_shelf")) := let ⟨_, X, G⟩ := Z.ns; He.glo_ok X G (Z.c.fact 15 rfl)
theorem g_all_sets (Z : Hd K mg) : mg "all_sets" = some (.ref (He.ga K "all_sets")) := let ⟨_, X, G⟩ := Z.ns; He.glo_ok X G (Z.c.fact 16 rfl)
theorem g_empty_plan (Z : Hd K mg) : mg "empty_plan" = some (.ref (He.ga K "empty_plan")) := let ⟨_, X, G⟩ := Z.ns; He.glo_ok X G (Z.c.fact 17 rfl)
theorem g_items_of (Z : Hd K mg) : mg "items_of" = some (.ref (He.ga K "items_of")) := let ⟨_, X, G⟩ := Z.ns; He.glo_ok X G (Z.c.fact 18 rfl)
theorem g_needed (Z : Hd K mg) : mg "needed" = some (.ref (He.ga K "needed")) := let ⟨_, X, G⟩ := Z.ns; He.glo_ok X G (Z.c.fact 19 rfl)
theorem g_next_of (Z : Hd K mg) : mg "next_of" = some (.ref (He.ga K "next_of")) := let ⟨_, X, G⟩ := Z.ns; He.glo_ok X G (Z.c.fact 20 rfl)
theorem g_choices_of (Z : Hd K mg) : mg "choices_of" = some (.ref (He.ga K "choices_of")) := let ⟨_, X, G⟩ := Z.ns; He.glo_ok X G (Z.c.fact 21 rfl)
theorem g_all_plans (Z : Hd K mg) : mg "all_plans" = some (.ref (He.ga K "all_plans")) := let ⟨_, X, G⟩ := Z.ns; He.glo_ok X G (Z.c.fact 22 rfl)
theorem g_violates (Z : Hd K mg) : mg "violates" = some (.ref (He.ga K "violates")) := let ⟨_, X, G⟩ := Z.ns; He.glo_ok X G (Z.c.fact 23 rfl)
theorem g_is_allowed (Z : Hd K mg) : mg "is_allowed" = some (.ref (He.ga K "is_allowed")) := let ⟨_, X, G⟩ := Z.ns; He.glo_ok X G (Z.c.fact 24 rfl)
theorem g_allowed_plans (Z : Hd K mg) : mg "allowed_plans" = some (.ref (He.ga K "allowed_plans")) := let ⟨_, X, G⟩ := Z.ns; He.glo_ok X G (Z.c.fact 25 rfl)
theorem g_clashing (Z : Hd K mg) : mg "clashing" = some (.ref (He.ga K "clashing")) := let ⟨_, X, G⟩ := Z.ns; He.glo_ok X G (Z.c.fact 26 rfl)
theorem g_tree_of (Z : Hd K mg) : mg "tree_of" = some (.ref (He.ga K "tree_of")) := let ⟨_, X, G⟩ := Z.ns; He.glo_ok X G (Z.c.fact 27 rfl)
theorem g_doubt_of (Z : Hd K mg) : mg "doubt_of" = some (.ref (He.ga K "doubt_of")) := let ⟨_, X, G⟩ := Z.ns; He.glo_ok X G (Z.c.fact 28 rfl)
theorem g_cost_of (Z : Hd K mg) : mg "cost_of" = some (.ref (He.ga K "cost_of")) := let ⟨_, X, G⟩ := Z.ns; He.glo_ok X G (Z.c.fact 29 rfl)
theorem g_cheapest (Z : Hd K mg) : mg "cheapest" = some (.ref (He.ga K "cheapest")) := let ⟨_, X, G⟩ := Z.ns; He.glo_ok X G (Z.c.fact 30 rfl)
theorem g_is_sound (Z : Hd K mg) : mg "is_sound" = some (.ref (He.ga K "is_sound")) := let ⟨_, X, G⟩ := Z.ns; He.glo_ok X G (Z.c.fact 31 rfl)
theorem g_is_closed (Z : Hd K mg) : mg "is_closed" = some (.ref (He.ga K "is_closed")) := let ⟨_, X, G⟩ := Z.ns; He.glo_ok X G (Z.c.fact 32 rfl)
theorem g_is_against (Z : Hd K mg) : mg "is_against" = some (.ref (He.ga K "is_against")) := let ⟨_, X, G⟩ := Z.ns; He.glo_ok X G (Z.c.fact 33 rfl)
theorem g_are_doubts (Z : Hd K mg) : mg "are_doubts" = some (.ref (He.ga K "are_doubts")) := let ⟨_, X, G⟩ := Z.ns; He.glo_ok X G (Z.c.fact 34 rfl)
theorem g__law_cheapest_right (Z : Hd K mg) : mg "_law_cheapest_right" = some (.ref (He.ga K "_law_cheapest_right")) := let ⟨_, X, G⟩ := Z.ns; He.glo_ok X G (Z.c.fact 35 rfl)
theorem g_check_set (Z : Hd K mg) : mg "check_set" = some (.ref (He.ga K "check_set")) := let ⟨_, X, G⟩ := Z.ns; He.glo_ok X G (Z.c.fact 36 rfl)
theorem g_serves (Z : Hd K mg) : mg "serves" = some (.ref (He.ga K "serves")) := let ⟨_, X, G⟩ := Z.ns; He.glo_ok X G (Z.c.fact 37 rfl)
theorem g_is_right (Z : Hd K mg) : mg "is_right" = some (.ref (He.ga K "is_right")) := let ⟨_, X, G⟩ := Z.ns; He.glo_ok X G (Z.c.fact 38 rfl)
theorem g_is_index (Z : Hd K mg) : mg "is_index" = some (.ref (He.ga K "is_index")) := let ⟨_, X, G⟩ := Z.ns; He.glo_ok X G (Z.c.fact 39 rfl)
theorem g_check_request (Z : Hd K mg) : mg "check_request" = some (.ref (He.ga K "check_request")) := let ⟨_, X, G⟩ := Z.ns; He.glo_ok X G (Z.c.fact 40 rfl)
theorem g_plans (Z : Hd K mg) : mg "plans" = some (.ref (He.ga K "plans")) := let ⟨_, X, G⟩ := Z.ns; He.glo_ok X G (Z.c.fact 41 rfl)
theorem g_is_plan (Z : Hd K mg) : mg "is_plan" = some (.ref (He.ga K "is_plan")) := let ⟨_, X, G⟩ := Z.ns; He.glo_ok X G (Z.c.fact 42 rfl)
theorem g_check_plan (Z : Hd K mg) : mg "check_plan" = some (.ref (He.ga K "check_plan")) := let ⟨_, X, G⟩ := Z.ns; He.glo_ok X G (Z.c.fact 43 rfl)
theorem g_next_package (Z : Hd K mg) : mg "next_package" = some (.ref (He.ga K "next_package")) := let ⟨_, X, G⟩ := Z.ns; He.glo_ok X G (Z.c.fact 44 rfl)
theorem g_set_cost (Z : Hd K mg) : mg "set_cost" = some (.ref (He.ga K "set_cost")) := let ⟨_, X, G⟩ := Z.ns; He.glo_ok X G (Z.c.fact 45 rfl)
theorem g_is_broken (Z : Hd K mg) : mg "is_broken" = some (.ref (He.ga K "is_broken")) := let ⟨_, X, G⟩ := Z.ns; He.glo_ok X G (Z.c.fact 46 rfl)
theorem g_allows (Z : Hd K mg) : mg "allows" = some (.ref (He.ga K "allows")) := let ⟨_, X, G⟩ := Z.ns; He.glo_ok X G (Z.c.fact 47 rfl)
theorem g__law_plans_right (Z : Hd K mg) : mg "_law_plans_right" = some (.ref (He.ga K "_law_plans_right")) := let ⟨_, X, G⟩ := Z.ns; He.glo_ok X G (Z.c.fact 48 rfl)
theorem g__law_answers_right (Z : Hd K mg) : mg "_law_answers_right" = some (.ref (He.ga K "_law_answers_right")) := let ⟨_, X, G⟩ := Z.ns; He.glo_ok X G (Z.c.fact 49 rfl)
theorem g_is_form (Z : Hd K mg) : mg "is_form" = some (.ref (He.ga K "is_form")) := let ⟨_, X, G⟩ := Z.ns; He.glo_ok X G (Z.c.fact 50 rfl)
theorem g_is_tree (Z : Hd K mg) : mg "is_tree" = some (.ref (He.ga K "is_tree")) := let ⟨_, X, G⟩ := Z.ns; He.glo_ok X G (Z.c.fact 51 rfl)
theorem g_is_shut (Z : Hd K mg) : mg "is_shut" = some (.ref (He.ga K "is_shut")) := let ⟨_, X, G⟩ := Z.ns; He.glo_ok X G (Z.c.fact 52 rfl)
theorem g_check_doubt (Z : Hd K mg) : mg "check_doubt" = some (.ref (He.ga K "check_doubt")) := let ⟨_, X, G⟩ := Z.ns; He.glo_ok X G (Z.c.fact 53 rfl)
theorem g_is_doubt (Z : Hd K mg) : mg "is_doubt" = some (.ref (He.ga K "is_doubt")) := let ⟨_, X, G⟩ := Z.ns; He.glo_ok X G (Z.c.fact 54 rfl)
theorem g__law_trees_right (Z : Hd K mg) : mg "_law_trees_right" = some (.ref (He.ga K "_law_trees_right")) := let ⟨_, X, G⟩ := Z.ns; He.glo_ok X G (Z.c.fact 55 rfl)
theorem g_law (Z : Hd K mg) : mg "law" = some (.ref (He.ga K "law")) := let ⟨_, X, G⟩ := Z.ns; He.glo_ok X G (Z.c.fact 56 rfl)
theorem f_abs (Z : Hd K mg) : mg "abs" = none := let ⟨_, X, G⟩ := Z.ns; He.free_ok X G (Z.c.fact 57 rfl)
theorem f_all (Z : Hd K mg) : mg "all" = none := let ⟨_, X, G⟩ := Z.ns; He.free_ok X G (Z.c.fact 58 rfl)
theorem f_any (Z : Hd K mg) : mg "any" = none := let ⟨_, X, G⟩ := Z.ns; He.free_ok X G (Z.c.fact 59 rfl)
theorem f_bool (Z : Hd K mg) : mg "bool" = none := let ⟨_, X, G⟩ := Z.ns; He.free_ok X G (Z.c.fact 60 rfl)
theorem f_dict (Z : Hd K mg) : mg "dict" = none := let ⟨_, X, G⟩ := Z.ns; He.free_ok X G (Z.c.fact 61 rfl)
theorem f_enumerate (Z : Hd K mg) : mg "enumerate" = none := let ⟨_, X, G⟩ := Z.ns; He.free_ok X G (Z.c.fact 62 rfl)
theorem f_int (Z : Hd K mg) : mg "int" = none := let ⟨_, X, G⟩ := Z.ns; He.free_ok X G (Z.c.fact 63 rfl)
theorem f_isinstance (Z : Hd K mg) : mg "isinstance" = none := let ⟨_, X, G⟩ := Z.ns; He.free_ok X G (Z.c.fact 64 rfl)
theorem f_len (Z : Hd K mg) : mg "len" = none := let ⟨_, X, G⟩ := Z.ns; He.free_ok X G (Z.c.fact 65 rfl)
theorem f_list (Z : Hd K mg) : mg "list" = none := let ⟨_, X, G⟩ := Z.ns; He.free_ok X G (Z.c.fact 66 rfl)
theorem f_range (Z : Hd K mg) : mg "range" = none := let ⟨_, X, G⟩ := Z.ns; He.free_ok X G (Z.c.fact 67 rfl)
theorem f_sorted (Z : Hd K mg) : mg "sorted" = none := let ⟨_, X, G⟩ := Z.ns; He.free_ok X G (Z.c.fact 68 rfl)
theorem f_str (Z : Hd K mg) : mg "str" = none := let ⟨_, X, G⟩ := Z.ns; He.free_ok X G (Z.c.fact 69 rfl)
theorem f_sum (Z : Hd K mg) : mg "sum" = none := let ⟨_, X, G⟩ := Z.ns; He.free_ok X G (Z.c.fact 70 rfl)
theorem f_tuple (Z : Hd K mg) : mg "tuple" = none := let ⟨_, X, G⟩ := Z.ns; He.free_ok X G (Z.c.fact 71 rfl)
theorem f_zip (Z : Hd K mg) : mg "zip" = none := let ⟨_, X, G⟩ := Z.ns; He.free_ok X G (Z.c.fact 72 rfl)
theorem c_LETTERS (Z : Hd K mg) : ∃ t, mg "LETTERS" = some (.str "abcdefghijklmnopqrstuvwxyz" t) := let ⟨_, X, G⟩ := Z.ns; He.str_ok X G (Z.c.fact 73 rfl)
theorem c_MAX_BOUNDS (Z : Hd K mg) : ∃ t, mg "MAX_BOUNDS" = some (.int 6 t) := let ⟨_, X, G⟩ := Z.ns; He.int_ok X G (Z.c.fact 74 rfl)
theorem c_MAX_COST (Z : Hd K mg) : ∃ t, mg "MAX_COST" = some (.int 9 t) := let ⟨_, X, G⟩ := Z.ns; He.int_ok X G (Z.c.fact 75 rfl)
theorem c_MAX_DEPTH (Z : Hd K mg) : ∃ t, mg "MAX_DEPTH" = some (.int 6 t) := let ⟨_, X, G⟩ := Z.ns; He.int_ok X G (Z.c.fact 76 rfl)
theorem c_MAX_NAME (Z : Hd K mg) : ∃ t, mg "MAX_NAME" = some (.int 8 t) := let ⟨_, X, G⟩ := Z.ns; He.int_ok X G (Z.c.fact 77 rfl)
theorem c_MAX_PACKAGES (Z : Hd K mg) : ∃ t, mg "MAX_PACKAGES" = some (.int 5 t) := let ⟨_, X, G⟩ := Z.ns; He.int_ok X G (Z.c.fact 78 rfl)
theorem c_MAX_REQUESTS (Z : Hd K mg) : ∃ t, mg "MAX_REQUESTS" = some (.int 3 t) := let ⟨_, X, G⟩ := Z.ns; He.int_ok X G (Z.c.fact 79 rfl)
theorem c_MAX_VERSION (Z : Hd K mg) : ∃ t, mg "MAX_VERSION" = some (.int 3 t) := let ⟨_, X, G⟩ := Z.ns; He.int_ok X G (Z.c.fact 80 rfl)
theorem l_Bound (Z : Hd K mg) : Cls K (He.ga K "Bound") := He.cls_ok (Z.c.fact 81 rfl)
theorem l_Shelf (Z : Hd K mg) : Cls K (He.ga K "Shelf") := He.cls_ok (Z.c.fact 82 rfl)
theorem l_Bounding (Z : Hd K mg) : Cls K (He.ga K "Bounding") := He.cls_ok (Z.c.fact 83 rfl)
theorem l_NoBounding (Z : Hd K mg) : Cls K (He.ga K "NoBounding") := He.cls_ok (Z.c.fact 84 rfl)
theorem a_asked (Z : Hd K mg) : ∀ c ∈ [1], Cls K (adr K c) ∧ NoAttr K (adr K c) "asked" := fun c hc => match c, hc with | _, .head _ => ⟨l_Shelf Z, He.noat_ok (Z.c.fact 85 rfl)⟩
theorem a_bounds (Z : Hd K mg) : ∀ c ∈ [2], Cls K (adr K c) ∧ NoAttr K (adr K c) "bounds" := fun c hc => match c, hc with | _, .head _ => ⟨l_Bounding Z, He.noat_ok (Z.c.fact 86 rfl)⟩
theorem a_charge (Z : Hd K mg) : ∀ c ∈ [0], Cls K (adr K c) ∧ NoAttr K (adr K c) "charge" := fun c hc => match c, hc with | _, .head _ => ⟨l_Bound Z, He.noat_ok (Z.c.fact 87 rfl)⟩
theorem a_clashes (Z : Hd K mg) : ∀ c ∈ [1], Cls K (adr K c) ∧ NoAttr K (adr K c) "clashes" := fun c hc => match c, hc with | _, .head _ => ⟨l_Shelf Z, He.noat_ok (Z.c.fact 88 rfl)⟩
theorem a_doubts (Z : Hd K mg) : ∀ c ∈ [2, 3], Cls K (adr K c) ∧ NoAttr K (adr K c) "doubts" := fun c hc => match c, hc with | _, .head _ => ⟨l_Bounding Z, He.noat_ok (Z.c.fact 89 rfl)⟩ | _, .tail _ (.head _) => ⟨l_NoBounding Z, He.noat_ok (Z.c.fact 90 rfl)⟩
theorem a_lines (Z : Hd K mg) : ∀ c ∈ [1], Cls K (adr K c) ∧ NoAttr K (adr K c) "lines" := fun c hc => match c, hc with | _, .head _ => ⟨l_Shelf Z, He.noat_ok (Z.c.fact 91 rfl)⟩
theorem a_most (Z : Hd K mg) : ∀ c ∈ [1], Cls K (adr K c) ∧ NoAttr K (adr K c) "most" := fun c hc => match c, hc with | _, .head _ => ⟨l_Shelf Z, He.noat_ok (Z.c.fact 92 rfl)⟩
theorem a_plans (Z : Hd K mg) : ∀ c ∈ [2], Cls K (adr K c) ∧ NoAttr K (adr K c) "plans" := fun c hc => match c, hc with | _, .head _ => ⟨l_Bounding Z, He.noat_ok (Z.c.fact 93 rfl)⟩
theorem a_sides (Z : Hd K mg) : ∀ c ∈ [0], Cls K (adr K c) ∧ NoAttr K (adr K c) "sides" := fun c hc => match c, hc with | _, .head _ => ⟨l_Bound Z, He.noat_ok (Z.c.fact 94 rfl)⟩
theorem a_trees (Z : Hd K mg) : ∀ c ∈ [2], Cls K (adr K c) ∧ NoAttr K (adr K c) "trees" := fun c hc => match c, hc with | _, .head _ => ⟨l_Bounding Z, He.noat_ok (Z.c.fact 95 rfl)⟩
theorem a_wants (Z : Hd K mg) : ∀ c ∈ [1], Cls K (adr K c) ∧ NoAttr K (adr K c) "wants" := fun c hc => match c, hc with | _, .head _ => ⟨l_Shelf Z, He.noat_ok (Z.c.fact 96 rfl)⟩
theorem mk_Bound (Z : Hd K mg) : Mk K (He.ga K "Bound") (He.ma K (He.ga K "Bound") "__init__") := He.mkr_ok (Z.c.fact 97 rfl)
theorem mk_Shelf (Z : Hd K mg) : Mk K (He.ga K "Shelf") (He.ma K (He.ga K "Shelf") "__init__") := He.mkr_ok (Z.c.fact 98 rfl)
theorem mk_NoBounding (Z : Hd K mg) : Mk K (He.ga K "NoBounding") (He.ma K (He.ga K "NoBounding") "__init__") := He.mkr_ok (Z.c.fact 99 rfl)
theorem mk_Bounding (Z : Hd K mg) : Mk K (He.ga K "Bounding") (He.ma K (He.ga K "Bounding") "__init__") := He.mkr_ok (Z.c.fact 100 rfl)
theorem t_Bounding_shows (Z : Hd K mg) : Meth K (He.ga K "Bounding") "shows" (He.ma K (He.ga K "Bounding") "shows") := He.meth_ok (Z.c.fact 101 rfl)
theorem t_NoBounding_shows (Z : Hd K mg) : Meth K (He.ga K "NoBounding") "shows" (He.ma K (He.ga K "NoBounding") "shows") := He.meth_ok (Z.c.fact 102 rfl)
theorem isf (Z : Hd K mg) : IsF K (adr K) nC subC := isB_ok (Bool.and_eq_true_iff.mp Z.ex).1
end
def m_is_name : FM := mDef 1 1 true (sSeq (sRet (mAnd (mCallB (wIsi nC subC) (mCons (mV 0) (mCons (mC (.ty 1)) mNil))) (mAnd (mChain wLe wLe (mC (.int 1)) (mCallB wLen (mCons (mV 0) mNil)) (mC (.int 8))) (mCallB wAll (mCons (mLc (mSeq (mV 0)) (gSet 1) yes (mBin (wIn false) (mV 1) (mC (.str "abcdefghijklmnopqrstuvwxyz"))) [1]) mNil))))) sNil)
def m_is_integer : FM := mDef 3 0 true (sSeq (sRet (mAnd (mCallB (wIsi nC subC) (mCons (mV 0) (mCons (mC (.ty 0)) mNil))) (mAnd (mNot (mCallB (wIsi nC subC) (mCons (mV 0) (mCons (mC (.ty 2)) mNil)))) (mChain wLe wLe (mV 1) (mV 0) (mV 2))))) sNil)
def m_are_versions : FM := mDef 1 2 true (sSeq (sIf (mOr (mNot (mCallB (wIsi nC subC) (mCons (mV 0) (mCons (mC (.ty 3)) mNil)))) (mOr (mBin (wCmpB false) (mV 0) (mTup mNil)) (mNot (mCallB wAll (mCons (mLc (mSeq (mV 0)) (gSet 1) yes (mCall m_is_integer [] (mCons (mV 1) (mCons (mC (.int 1)) (mCons (mC (.int 3)) mNil)))) [1]) mNil))))) (sSeq (sRet (mC (.bl false))) sNil) sNil) (sSeq (sRet (mCallB wAll (mCons (mLc (mZip (mCons (mV 0) (mCons (mSl (mV 0) (oSome (mC (.int 1))) oNone) mNil))) (gTupM 2 (gAnd (gSet 1) (gAnd (gSet 2) gNo))) yes (mBin wLt (mV 1) (mV 2)) [1, 2]) mNil))) sNil))
def m_Bound_init : FM := mDef 6 0 true (sSeq (sIf (mOr (mNot (mCall m_is_name [] (mCons (mV 1) mNil))) (mOr (mNot (mCall m_is_name [] (mCons (mV 3) mNil))) (mBin (wCmpB false) (mV 1) (mV 3)))) (sSeq sNever sNil) sNil) (sSeq (sIf (mOr (mNot (mCall m_are_versions [] (mCons (mV 2) mNil))) (mNot (mCall m_are_versions [] (mCons (mV 4) mNil)))) (sSeq sNever sNil) sNil) (sSeq (sIf (mNot (mCall m_is_integer [] (mCons (mV 5) (mCons (mC (.int 1)) (mCons (mC (.int 9)) mNil))))) (sSeq sNever sNil) sNil) (sSeq (sFldM [0] "sides" (mV 0) (mTup (mCons (mTup (mCons (mV 1) (mCons (mV 2) mNil))) (mCons (mTup (mCons (mV 3) (mCons (mV 4) mNil))) mNil)))) (sSeq (sFldM [0] "charge" (mV 0) (mV 5)) sNil)))))
def m_are_packages : FM := mDef 1 2 true (sSeq (sIf (mOr (mNot (mCallB (wIsi nC subC) (mCons (mV 0) (mCons (mC (.ty 5)) mNil)))) (mNot (mChain wLe wLe (mC (.int 2)) (mCallB wLen (mCons (mV 0) mNil)) (mC (.int 5))))) (sSeq (sRet (mC (.bl false))) sNil) sNil) (sSeq (sRet (mCallB wAll (mCons (mLc (mItems (mV 0)) (gTupM 2 (gAnd (gSet 1) (gAnd (gSet 2) gNo))) yes (mAnd (mCall m_is_name [] (mCons (mV 1) mNil)) (mCall m_is_integer [] (mCons (mV 2) (mCons (mC (.int 1)) (mCons (mC (.int 3)) mNil))))) [1, 2]) mNil))) sNil))
def m_are_others : FM := mDef 3 1 true (sSeq (sIf (mOr (mNot (mCallB (wIsi nC subC) (mCons (mV 2) (mCons (mC (.ty 3)) mNil)))) (mNot (mCallB wAll (mCons (mLc (mSeq (mV 2)) (gSet 3) yes (mAnd (mCallB (wIsi nC subC) (mCons (mV 3) (mCons (mC (.ty 1)) mNil))) (mBin (wIn false) (mV 3) (mV 0))) [3]) mNil)))) (sSeq (sRet (mC (.bl false))) sNil) sNil) (sSeq (sRet (mAnd (mBin (wIn true) (mV 1) (mV 2)) (mBin (wCmpB false) (mCallB wLen (mCons (mDc (mSeq (mV 2)) (gSet 3) yes (mV 3) (mC (.bl true)) [3]) mNil)) (mCallB wLen (mCons (mV 2) mNil))))) sNil))
def m_is_item : FM := mDef 2 0 true (sSeq (sIf (mOr (mNot (mCallB (wIsi nC subC) (mCons (mV 1) (mCons (mC (.ty 3)) mNil)))) (mOr (mBin (wCmpB true) (mCallB wLen (mCons (mV 1) mNil)) (mC (.int 2))) (mOr (mNot (mCallB (wIsi nC subC) (mCons (mBin wIx (mV 1) (mC (.int 0))) (mCons (mC (.ty 1)) mNil)))) (mBin (wIn true) (mBin wIx (mV 1) (mC (.int 0))) (mV 0))))) (sSeq (sRet (mC (.bl false))) sNil) sNil) (sSeq (sRet (mCall m_is_integer [] (mCons (mBin wIx (mV 1) (mC (.int 1))) (mCons (mC (.int 1)) (mCons (mBin wIx (mV 0) (mBin wIx (mV 1) (mC (.int 0)))) mNil))))) sNil))
def m_are_needs : FM := mDef 2 2 true (sSeq (sIf (mNot (mCallB (wIsi nC subC) (mCons (mV 1) (mCons (mC (.ty 5)) mNil)))) (sSeq (sRet (mC (.bl false))) sNil) sNil) (sSeq (sRet (mCallB wAll (mCons (mLc (mItems (mV 1)) (gTupM 2 (gAnd (gSet 2) (gAnd (gSet 3) gNo))) yes (mAnd (mCall m_is_item [] (mCons (mV 0) (mCons (mV 2) mNil))) (mCall m_are_others [] (mCons (mV 0) (mCons (mBin wIx (mV 2) (mC (.int 0))) (mCons (mV 3) mNil))))) [2, 3]) mNil))) sNil))
def m_is_break : FM := mDef 2 1 true (sSeq (sIf (mOr (mNot (mCallB (wIsi nC subC) (mCons (mV 1) (mCons (mC (.ty 3)) mNil)))) (mOr (mBin (wCmpB true) (mCallB wLen (mCons (mV 1) mNil)) (mC (.int 2))) (mNot (mCallB wAll (mCons (mLc (mSeq (mV 1)) (gSet 2) yes (mCall m_is_item [] (mCons (mV 0) (mCons (mV 2) mNil))) [2]) mNil))))) (sSeq (sRet (mC (.bl false))) sNil) sNil) (sSeq (sRet (mBin (wCmpB true) (mBin wIx (mBin wIx (mV 1) (mC (.int 0))) (mC (.int 0))) (mBin wIx (mBin wIx (mV 1) (mC (.int 1))) (mC (.int 0))))) sNil))
def m_is_request : FM := mDef 2 2 true (sSeq (sIf (mOr (mNot (mCallB (wIsi nC subC) (mCons (mV 1) (mCons (mC (.ty 3)) mNil)))) (mOr (mBin (wCmpB false) (mV 1) (mTup mNil)) (mNot (mCallB wAll (mCons (mLc (mSeq (mV 1)) (gSet 3) yes (mCallB (wIsi nC subC) (mCons (mV 3) (mCons (mC (.ty 1)) mNil))) [3]) mNil))))) (sSeq (sRet (mC (.bl false))) sNil) sNil) (sSeq (sRet (mBin (wCmpB false) (mCallB wList (mCons (mV 1) mNil)) (mLc (mSeq (mV 0)) (gSet 2) (mBin (wIn false) (mV 2) (mV 1)) (mV 2) [2]))) sNil))
def m_is_bound_of : FM := mDef 2 2 true (sSeq (sIf (mNot (mCallB (wIsi nC subC) (mCons (mV 1) (mCons (mC (.cl 0)) mNil)))) (sSeq (sRet (mC (.bl false))) sNil) sNil) (sSeq (sRet (mCallB wAll (mCons (mLc (mSeq (mFld [0] "sides" (mV 1))) (gTupM 2 (gAnd (gSet 2) (gAnd (gSet 3) gNo))) yes (mAnd (mBin (wIn false) (mV 2) (mV 0)) (mBin wLe (mBin wIx (mV 3) (mNeg (mC (.int 1)))) (mBin wIx (mV 0) (mV 2)))) [2, 3]) mNil))) sNil))
def m_Shelf_init : FM := mDef 6 7 true (sSeq (sIf (mNot (mCall m_are_packages [] (mCons (mV 1) mNil))) (sSeq sNever sNil) sNil) (sSeq (sIf (mNot (mCall m_are_needs [] (mCons (mV 1) (mCons (mV 2) mNil)))) (sSeq sNever sNil) sNil) (sSeq (sIf (mOr (mNot (mCallB (wIsi nC subC) (mCons (mV 3) (mCons (mTup (mCons (mC (.ty 4)) (mCons (mC (.ty 3)) mNil))) mNil)))) (mNot (mCallB wAll (mCons (mLc (mSeq (mV 3)) (gSet 12) yes (mCall m_is_break [] (mCons (mV 1) (mCons (mV 12) mNil))) [12]) mNil)))) (sSeq sNever sNil) sNil) (sSeq (sIf (mOr (mNot (mCallB (wIsi nC subC) (mCons (mV 4) (mCons (mTup (mCons (mC (.ty 4)) (mCons (mC (.ty 3)) mNil))) mNil)))) (mNot (mChain wLe wLe (mC (.int 1)) (mCallB wLen (mCons (mV 4) mNil)) (mC (.int 3))))) (sSeq sNever sNil) sNil) (sSeq (sIf (mNot (mCallB wAll (mCons (mLc (mSeq (mV 4)) (gSet 11) yes (mCall m_is_request [] (mCons (mV 1) (mCons (mV 11) mNil))) [11]) mNil))) (sSeq sNever sNil) sNil) (sSeq (sIf (mOr (mNot (mCallB (wIsi nC subC) (mCons (mV 5) (mCons (mC (.ty 5)) mNil)))) (mBin wGt (mCallB wLen (mCons (mV 5) mNil)) (mC (.int 6)))) (sSeq sNever sNil) sNil) (sSeq (sIf (mNot (mCallB wAll (mCons (mLc (mItems (mV 5)) (gTupM 2 (gAnd (gSet 6) (gAnd (gSet 10) gNo))) yes (mAnd (mCall m_is_name [] (mCons (mV 6) mNil)) (mCall m_is_bound_of [] (mCons (mV 1) (mCons (mV 10) mNil)))) [6, 10]) mNil))) (sSeq sNever sNil) sNil) (sSeq (sFldM [1] "most" (mV 0) (mDc (mItems (mV 1)) (gTupM 2 (gAnd (gSet 6) (gAnd (gSet 7) gNo))) yes (mV 6) (mV 7) [6, 7])) (sSeq (sFldM [1] "wants" (mV 0) (mDc (mItems (mV 2)) (gTupM 2 (gAnd (gSet 8) (gAnd (gSet 9) gNo))) (mBin (wCmpB true) (mV 9) (mTup mNil)) (mV 8) (mV 9) [8, 9])) (sSeq (sFldM [1] "clashes" (mV 0) (mCallB wSorted (mCons (mCallB wList (mCons (mDc (mSeq (mV 3)) (gSet 12) yes (mCallB wTuple (mCons (mCallB wSorted (mCons (mCallB wList (mCons (mV 12) mNil)) mNil)) mNil)) (mC (.bl true)) [12]) mNil)) mNil))) (sSeq (sFldM [1] "asked" (mV 0) (mCallB wList (mCons (mV 4) mNil))) (sSeq (sFldM [1] "lines" (mV 0) (mDc (mItems (mV 5)) (gTupM 2 (gAnd (gSet 6) (gAnd (gSet 10) gNo))) yes (mV 6) (mV 10) [6, 10])) sNil))))))))))))
def m__law_small : FM := mDef 1 2 true (sSeq (sSet 1 (mDictB (mCons (mC (.str "new")) (mCons (mMakeK 0 4 1 m_Bound_init true (mCons (mC (.str "lib")) (mCons (mTup (mCons (mC (.int 2)) mNil)) (mCons (mC (.str "app")) (mCons (mTup (mCons (mC (.int 1)) mNil)) mNil)))) (mCons (mV 0) mNil)) mNil)))) (sSeq (sPut (mV 1) (mC (.str "old")) (mMakeK 0 4 1 m_Bound_init true (mCons (mC (.str "app")) (mCons (mTup (mCons (mC (.int 2)) mNil)) (mCons (mC (.str "lib")) (mCons (mTup (mCons (mC (.int 1)) mNil)) mNil)))) (mCons (mV 0) mNil))) (sSeq (sPut (mV 1) (mC (.str "all")) (mMake 0 m_Bound_init [.int 1] true (mCons (mC (.str "app")) (mCons (mTup (mCons (mC (.int 1)) (mCons (mC (.int 2)) mNil))) (mCons (mC (.str "lib")) (mCons (mTup (mCons (mC (.int 1)) (mCons (mC (.int 2)) mNil))) mNil)))))) (sSeq (sSet 2 (mDict (mCons (mTup (mCons (mC (.str "app")) (mCons (mC (.int 1)) mNil))) (mCons (mTup (mCons (mC (.str "lib")) mNil)) (mCons (mTup (mCons (mC (.str "app")) (mCons (mC (.int 2)) mNil))) (mCons (mTup (mCons (mC (.str "lib")) mNil)) mNil)))))) (sSeq (sRet (mMake 1 m_Shelf_init [] true (mCons (mDict (mCons (mC (.str "app")) (mCons (mC (.int 2)) (mCons (mC (.str "lib")) (mCons (mC (.int 2)) mNil))))) (mCons (mV 2) (mCons (mLst (mCons (mTup (mCons (mTup (mCons (mC (.str "lib")) (mCons (mC (.int 1)) mNil))) (mCons (mTup (mCons (mC (.str "app")) (mCons (mC (.int 2)) mNil))) mNil))) mNil)) (mCons (mLst (mCons (mTup (mCons (mC (.str "app")) mNil)) mNil)) (mCons (mFz (mV 1)) mNil))))))) sNil)))))
def m_check_shelf : FM := mDef 1 0 true (sSeq (sIf (mNot (mCallB (wIsi nC subC) (mCons (mV 0) (mCons (mC (.cl 1)) mNil)))) (sSeq sNever sNil) sNil) sNil)
def m_all_sets : FM := mDef 1 7 true (sSeq (sPar2 2 3 (mCons (mCallB wList (mCons (mFld [1] "lines" (mV 0)) mNil)) (mCons (mBox (mCons (mTup mNil) mNil)) mNil))) (sSeq (sSet 1 (mLst (mCons (mTup mNil) mNil))) (sSeq (sWhile (mBin (wCmpB true) (mV 1) (mLst mNil)) (sSeq (sSet 4 (mBox mNil)) (sSeq (sForI (mSeq (mV 1)) (gSet 5) (sSeq (sSet 6 (mIf (mBin (wCmpB true) (mV 5) (mTup mNil)) (mBin wAdd (mMeth isL fIndex (mV 2) (mCons (mBin wIx (mV 5) (mNeg (mC (.int 1)))) mNil)) (mC (.int 1))) (mC (.int 0)))) (sSeq (sExpr (mMeth isL fExtend (mV 4) (mCons (mLc (mSeq (mSl (mV 2) (oSome (mV 6)) oNone)) (gSet 7) yes (mTup (mStar (mV 5) (mCons (mV 7) mNil))) [7]) mNil))) sNil))) (sSeq (sExpr (mMeth isL fExtend (mV 3) (mCons (mV 4) mNil))) (sSeq (sSet 1 (mFz (mV 4))) sNil)))) 400) (sSeq (sRet (mFz (mV 3))) sNil))))
def m_empty_plan : FM := mDef 1 0 true (sSeq (sRet (mBin wMul (mTup (mCons (mC (.int 0)) mNil)) (mCallB wLen (mCons (mFld [1] "most" (mV 0)) mNil)))) sNil)
def m_items_of : FM := mDef 2 2 true (sSeq (sRet (mLc (mZip (mCons (mFld [1] "most" (mV 0)) (mCons (mV 1) mNil))) (gTupM 2 (gAnd (gSet 2) (gAnd (gSet 3) gNo))) (mBin (wCmpB true) (mV 3) (mC (.int 0))) (mTup (mCons (mV 2) (mCons (mV 3) mNil))) [2, 3])) sNil)
def m_needed : FM := mDef 2 0 true (sSeq (sRet (mMeth isD fGet (mFld [1] "wants" (mV 0)) (mCons (mV 1) (mCons (mTup mNil) mNil)))) sNil)
def m_next_of : FM := mDef 3 4 true (sSeq (sSet 3 (mCall m_items_of [] (mCons (mV 0) (mCons (mV 2) mNil)))) (sSeq (sForI (mZip (mCons (mFld [1] "most" (mV 0)) (mCons (mV 2) mNil))) (gTupM 2 (gAnd (gSet 4) (gAnd (gSet 5) gNo))) (sSeq (sIf (mBin (wCmpB false) (mV 5) (mC (.int 0))) (sSeq (sIf (mOr (mBin (wIn false) (mV 4) (mBin wIx (mFld [1] "asked" (mV 0)) (mV 1))) (mCallB wAny (mCons (mLc (mSeq (mV 3)) (gSet 6) yes (mBin (wIn false) (mV 4) (mCall m_needed [] (mCons (mV 0) (mCons (mV 6) mNil)))) [6]) mNil))) (sSeq (sRet (mV 4)) sNil) sNil) sNil) sNil) sNil)) (sSeq (sRet (mC .non)) sNil)))
def m_choices_of : FM := mDef 3 2 true (sSeq (sSet 3 (mMeth isL fIndex (mCallB wList (mCons (mFld [1] "most" (mV 0)) mNil)) (mCons (mV 2) mNil))) (sSeq (sRet (mLc (mRng2 (mCons (mC (.int 1)) (mCons (mBin wAdd (mBin wIx (mFld [1] "most" (mV 0)) (mV 2)) (mC (.int 1))) mNil))) (gSet 4) yes (mTup (mStar (mSl (mV 1) oNone (oSome (mV 3))) (mCons (mV 4) (mStar (mSl (mV 1) (oSome (mBin wAdd (mV 3) (mC (.int 1)))) oNone) mNil)))) [4])) sNil))
def m_all_plans : FM := mDef 2 4 true (sSeq (sPar2 2 3 (mCons (mBox mNil) (mCons (mBox (mCons (mCall m_empty_plan [] (mCons (mV 0) mNil)) mNil)) mNil))) (sSeq (sWhile (mBin (wCmpB true) (mV 3) (mLst mNil)) (sSeq (sSet 4 (mMeth isL fPop (mV 3) (mCons (mC (.int 0)) mNil))) (sSeq (sSet 5 (mCall m_next_of [] (mCons (mV 0) (mCons (mV 1) (mCons (mV 4) mNil))))) (sSeq (sIf (mBin (wIs false) (mV 5) (mC .non)) (sSeq (sExpr (mMeth isL fAppend (mV 2) (mCons (mV 4) mNil))) sNil) (sSeq (sExpr (mMeth isL fExtend (mV 3) (mCons (mCall m_choices_of [] (mCons (mV 0) (mCons (mV 4) (mCons (mV 5) mNil)))) mNil))) sNil)) sNil))) 400) (sSeq (sRet (mCallB wSorted (mCons (mFz (mV 2)) mNil))) sNil)))
def m_violates : FM := mDef 3 4 true (sSeq (sSet 3 (mCall m_items_of [] (mCons (mV 0) (mCons (mV 1) mNil)))) (sSeq (sForI (mSeq (mFld [0] "sides" (mBin wIx (mFld [1] "lines" (mV 0)) (mV 2)))) (gTupM 2 (gAnd (gSet 4) (gAnd (gSet 5) gNo))) (sSeq (sIf (mNot (mCallB wAny (mCons (mLc (mSeq (mV 5)) (gSet 6) yes (mBin (wIn false) (mTup (mCons (mV 4) (mCons (mV 6) mNil))) (mV 3)) [6]) mNil))) (sSeq (sRet (mC (.bl false))) sNil) sNil) sNil)) (sSeq (sRet (mC (.bl true))) sNil)))
def m_is_allowed : FM := mDef 3 1 true (sSeq (sRet (mNot (mCallB wAny (mCons (mLc (mSeq (mV 1)) (gSet 3) yes (mCall m_violates [] (mCons (mV 0) (mCons (mV 2) (mCons (mV 3) mNil)))) [3]) mNil)))) sNil)
def m_allowed_plans : FM := mDef 3 1 true (sSeq (sRet (mLc (mSeq (mCall m_all_plans [] (mCons (mV 0) (mCons (mV 1) mNil)))) (gSet 3) (mCall m_is_allowed [] (mCons (mV 0) (mCons (mV 2) (mCons (mV 3) mNil)))) (mV 3) [3])) sNil)
def m_clashing : FM := mDef 2 3 true (sSeq (sSet 2 (mCall m_items_of [] (mCons (mV 0) (mCons (mV 1) mNil)))) (sSeq (sRet (mCallB wAny (mCons (mLc (mSeq (mFld [1] "clashes" (mV 0))) (gTupM 2 (gAnd (gSet 3) (gAnd (gSet 4) gNo))) yes (mAnd (mBin (wIn false) (mV 3) (mV 2)) (mBin (wIn false) (mV 4) (mV 2))) [3, 4]) mNil))) sNil))
def m_tree_of : Nat → FM
  | 0 => fun _ _ => .stuck
  | n + 1 => mDef 4 2 true (sSeq (sForI (mSeq (mV 2)) (gSet 4) (sSeq (sIf (mCall m_violates [] (mCons (mV 0) (mCons (mV 3) (mCons (mV 4) mNil)))) (sSeq (sRet (mTup (mCons (mC (.str "bound")) (mCons (mV 4) mNil)))) sNil) sNil) sNil)) (sSeq (sSet 4 (mCall m_next_of [] (mCons (mV 0) (mCons (mV 1) (mCons (mV 3) mNil))))) (sSeq (sIf (mBin (wIs false) (mV 4) (mC .non)) (sSeq (sRet (mTup (mCons (mC (.str "done")) mNil))) sNil) sNil) (sSeq (sRet (mTup (mCons (mC (.str "choose")) (mCons (mCallB wTuple (mCons (mLc (mSeq (mCall m_choices_of [] (mCons (mV 0) (mCons (mV 3) (mCons (mV 4) mNil))))) (gSet 5) yes (mCall (m_tree_of n) [] (mCons (mV 0) (mCons (mV 1) (mCons (mV 2) (mCons (mV 5) mNil))))) [5]) mNil)) mNil)))) sNil))))
def m_doubt_of : FM := mDef 2 3 true (sSeq (sForI (mRng1 (mCons (mCallB wLen (mCons (mFld [1] "asked" (mV 0)) mNil)) mNil)) (gSet 2) (sSeq (sSet 3 (mCall m_allowed_plans [] (mCons (mV 0) (mCons (mV 2) (mCons (mV 1) mNil))))) (sSeq (sForI (mSeq (mV 3)) (gSet 4) (sSeq (sIf (mCall m_clashing [] (mCons (mV 0) (mCons (mV 4) mNil))) (sSeq (sRet (mTup (mCons (mC (.str "broken")) (mCons (mV 2) (mCons (mV 4) mNil))))) sNil) sNil) sNil)) (sSeq (sIf (mBin (wCmpB false) (mV 3) (mLst mNil)) (sSeq (sRet (mTup (mCons (mC (.str "shut")) (mCons (mV 2) (mCons (mCall (m_tree_of 9) [] (mCons (mV 0) (mCons (mV 2) (mCons (mV 1) (mCons (mCall m_empty_plan [] (mCons (mV 0) mNil)) mNil))))) mNil))))) sNil) sNil) sNil)))) (sSeq (sRet (mC .non)) sNil))
def m_cost_of : FM := mDef 2 1 true (sSeq (sRet (mCallB wSum (mCons (mLc (mSeq (mV 1)) (gSet 2) yes (mFld [0] "charge" (mBin wIx (mFld [1] "lines" (mV 0)) (mV 2))) [2]) mNil))) sNil)
def m_NoBounding_init : FM := mDef 2 2 true (sSeq (sFldM [2, 3] "doubts" (mV 0) (mDc (mItems (mV 1)) (gTupM 2 (gAnd (gSet 2) (gAnd (gSet 3) gNo))) yes (mV 2) (mV 3) [2, 3])) sNil)
def m_Bounding_init : FM := mDef 5 2 true (sSeq (sFldM [2] "bounds" (mV 0) (mV 1)) (sSeq (sFldM [2] "plans" (mV 0) (mCallB wList (mCons (mV 2) mNil))) (sSeq (sFldM [2] "trees" (mV 0) (mCallB wList (mCons (mV 3) mNil))) (sSeq (sFldM [2, 3] "doubts" (mV 0) (mDc (mItems (mV 4)) (gTupM 2 (gAnd (gSet 5) (gAnd (gSet 6) gNo))) yes (mV 5) (mV 6) [5, 6])) sNil))))
def m_cheapest : FM := mDef 1 7 true (sSeq (sExpr (mCall m_check_shelf [] (mCons (mV 0) mNil))) (sSeq (sSet 1 (mDc (mSeq (mCall m_all_sets [] (mCons (mV 0) mNil))) (gSet 4) yes (mV 4) (mCall m_doubt_of [] (mCons (mV 0) (mCons (mV 4) mNil))) [4])) (sSeq (sSet 2 (mC .non)) (sSeq (sForI (mItems (mV 1)) (gTupM 2 (gAnd (gSet 4) (gAnd (gSet 6) gNo))) (sSeq (sIf (mAnd (mBin (wIs false) (mV 6) (mC .non)) (mOr (mBin (wIs false) (mV 2) (mC .non)) (mBin wLt (mCall m_cost_of [] (mCons (mV 0) (mCons (mV 4) mNil))) (mCall m_cost_of [] (mCons (mV 0) (mCons (mV 2) mNil)))))) (sSeq (sSet 2 (mV 4)) sNil) sNil) sNil)) (sSeq (sIf (mBin (wIs false) (mV 2) (mC .non)) (sSeq (sRet (mMake 3 m_NoBounding_init [] true (mCons (mV 1) mNil))) sNil) sNil) (sSeq (sSet 3 (mDc (mSeq (mV 1)) (gSet 4) (mBin wLt (mCall m_cost_of [] (mCons (mV 0) (mCons (mV 4) mNil))) (mCall m_cost_of [] (mCons (mV 0) (mCons (mV 2) mNil)))) (mV 4) (mBin wIx (mV 1) (mV 4)) [4])) (sSeq (sSet 4 (mLstRg (mCallB wLen (mCons (mFld [1] "asked" (mV 0)) mNil)))) (sSeq (sSet 5 (mLc (mSeq (mV 4)) (gSet 7) yes (mBin wIx (mCall m_allowed_plans [] (mCons (mV 0) (mCons (mV 7) (mCons (mV 2) mNil)))) (mC (.int 0))) [7])) (sSeq (sRet (mMake 2 m_Bounding_init [] true (mCons (mV 2) (mCons (mV 5) (mCons (mLc (mSeq (mV 4)) (gSet 7) yes (mCall (m_tree_of 9) [] (mCons (mV 0) (mCons (mV 7) (mCons (mV 2) (mCons (mCall m_empty_plan [] (mCons (mV 0) mNil)) mNil))))) [7]) (mCons (mV 3) mNil)))))) sNil)))))))))
def m_is_sound : Nat → FM
  | 0 => fun _ _ => .stuck
  | n + 1 => mDef 5 4 true (sSeq (sIf (mBin (wCmpB false) (mBin wIx (mV 4) (mC (.int 0))) (mC (.str "bound"))) (sSeq (sRet (mAnd (mBin (wIn false) (mBin wIx (mV 4) (mC (.int 1))) (mV 2)) (mCall m_violates [] (mCons (mV 0) (mCons (mV 3) (mCons (mBin wIx (mV 4) (mC (.int 1))) mNil)))))) sNil) sNil) (sSeq (sSet 5 (mCall m_next_of [] (mCons (mV 0) (mCons (mV 1) (mCons (mV 3) mNil))))) (sSeq (sIf (mBin (wCmpB false) (mBin wIx (mV 4) (mC (.int 0))) (mC (.str "done"))) (sSeq (sRet (mAnd (mBin (wIs false) (mV 5) (mC .non)) (mNot (mCall m_clashing [] (mCons (mV 0) (mCons (mV 3) mNil)))))) sNil) sNil) (sSeq (sIf (mBin (wIs false) (mV 5) (mC .non)) (sSeq (sRet (mC (.bl false))) sNil) sNil) (sSeq (sSet 6 (mCall m_choices_of [] (mCons (mV 0) (mCons (mV 3) (mCons (mV 5) mNil))))) (sSeq (sIf (mBin (wCmpB true) (mCallB wLen (mCons (mV 6) mNil)) (mCallB wLen (mCons (mBin wIx (mV 4) (mC (.int 1))) mNil))) (sSeq (sRet (mC (.bl false))) sNil) sNil) (sSeq (sRet (mCallB wAll (mCons (mLc (mZip (mCons (mV 6) (mCons (mBin wIx (mV 4) (mC (.int 1))) mNil))) (gTupM 2 (gAnd (gSet 7) (gAnd (gSet 8) gNo))) yes (mCall (m_is_sound n) [] (mCons (mV 0) (mCons (mV 1) (mCons (mV 2) (mCons (mV 7) (mCons (mV 8) mNil)))))) [7, 8]) mNil))) sNil)))))))
def m_is_closed : FM := mDef 1 2 true (sSeq (sSet 1 (mBox (mCons (mV 0) mNil))) (sSeq (sWhile (mBin (wCmpB true) (mV 1) (mLst mNil)) (sSeq (sSet 2 (mMeth isL fPop (mV 1) mNil)) (sSeq (sIf (mBin (wCmpB false) (mBin wIx (mV 2) (mC (.int 0))) (mC (.str "done"))) (sSeq (sRet (mC (.bl false))) sNil) sNil) (sSeq (sIf (mBin (wCmpB false) (mBin wIx (mV 2) (mC (.int 0))) (mC (.str "choose"))) (sSeq (sExpr (mMeth isL fExtend (mV 1) (mCons (mBin wIx (mV 2) (mC (.int 1))) mNil))) sNil) sNil) sNil))) 400) (sSeq (sRet (mC (.bl true))) sNil)))
def m_is_against : FM := mDef 3 3 true (sSeq (sAsg (gTupM 3 (gAnd (gSet 3) (gAnd (gSet 4) (gAnd (gSet 5) gNo)))) (mV 2)) (sSeq (sIf (mBin (wCmpB false) (mV 3) (mC (.str "shut"))) (sSeq (sRet (mAnd (mCall m_is_closed [] (mCons (mV 5) mNil)) (mCall (m_is_sound 9) [] (mCons (mV 0) (mCons (mV 4) (mCons (mV 1) (mCons (mCall m_empty_plan [] (mCons (mV 0) mNil)) (mCons (mV 5) mNil)))))))) sNil) sNil) (sSeq (sIf (mOr (mBin (wIn true) (mV 5) (mCall m_all_plans [] (mCons (mV 0) (mCons (mV 4) mNil)))) (mNot (mCall m_clashing [] (mCons (mV 0) (mCons (mV 5) mNil))))) (sSeq (sRet (mC (.bl false))) sNil) sNil) (sSeq (sRet (mCall m_is_allowed [] (mCons (mV 0) (mCons (mV 1) (mCons (mV 5) mNil))))) sNil))))
def m_are_doubts : FM := mDef 3 1 true (sSeq (sIf (mOr (mBin (wCmpB true) (mCallB wLen (mCons (mV 1) mNil)) (mCallB wLen (mCons (mV 2) mNil))) (mNot (mCallB wAll (mCons (mLc (mSeq (mV 2)) (gSet 3) yes (mBin (wIn false) (mV 3) (mV 1)) [3]) mNil)))) (sSeq (sRet (mC (.bl false))) sNil) sNil) (sSeq (sRet (mCallB wAll (mCons (mLc (mSeq (mV 2)) (gSet 3) yes (mCall m_is_against [] (mCons (mV 0) (mCons (mV 3) (mCons (mBin wIx (mV 1) (mV 3)) mNil)))) [3]) mNil))) sNil))
def m_Bounding_shows : FM := mDef 2 5 true (sSeq (sExpr (mCall m_check_shelf [] (mCons (mV 1) mNil))) (sSeq (sForI (mEz (mCons (mFld [2] "plans" (mV 0)) (mCons (mFld [2] "trees" (mV 0)) mNil))) (gTupM 2 (gAnd (gSet 3) (gAnd (gTupM 2 (gAnd (gSet 4) (gAnd (gSet 5) gNo))) gNo))) (sSeq (sIf (mOr (mBin (wIn true) (mV 4) (mCall m_all_plans [] (mCons (mV 1) (mCons (mV 3) mNil)))) (mNot (mCall m_is_allowed [] (mCons (mV 1) (mCons (mFld [2] "bounds" (mV 0)) (mCons (mV 4) mNil)))))) (sSeq (sRet (mC (.bl false))) sNil) sNil) (sSeq (sIf (mNot (mCall (m_is_sound 9) [] (mCons (mV 1) (mCons (mV 3) (mCons (mFld [2] "bounds" (mV 0)) (mCons (mCall m_empty_plan [] (mCons (mV 1) mNil)) (mCons (mV 5) mNil))))))) (sSeq (sRet (mC (.bl false))) sNil) sNil) sNil))) (sSeq (sSet 2 (mCall m_cost_of [] (mCons (mV 1) (mCons (mFld [2] "bounds" (mV 0)) mNil)))) (sSeq (sRet (mCall m_are_doubts [] (mCons (mV 1) (mCons (mFld [2, 3] "doubts" (mV 0)) (mCons (mLc (mSeq (mCall m_all_sets [] (mCons (mV 1) mNil))) (gSet 6) (mBin wLt (mCall m_cost_of [] (mCons (mV 1) (mCons (mV 6) mNil))) (mV 2)) (mV 6) [6]) mNil))))) sNil))))
def m_NoBounding_shows : FM := mDef 2 0 true (sSeq (sExpr (mCall m_check_shelf [] (mCons (mV 1) mNil))) (sSeq (sRet (mCall m_are_doubts [] (mCons (mV 1) (mCons (mFld [2, 3] "doubts" (mV 0)) (mCons (mCall m_all_sets [] (mCons (mV 1) mNil)) mNil))))) sNil))
def m__law_cheapest_right : FM := mDef 1 9 true (sSeq (sSet 1 (mCall m__law_small [] (mCons (mV 0) mNil))) (sSeq (sSet 2 (mCall m_cheapest [] (mCons (mV 1) mNil))) (sSeq (sIf (mOr (mBin (wCmpB true) (mFld [2] "bounds" (mV 2)) (mTup (mCons (mC (.str "old")) mNil))) (mBin (wIs true) (mMt 2 "shows" m_Bounding_shows [] (mV 2) (mCons (mV 1) mNil)) (mC (.bl true)))) (sSeq (sRet (mC (.bl false))) sNil) sNil) (sSeq (sIf (mBin (wCmpB true) (mCallB wList (mCons (mFld [2, 3] "doubts" (mV 2)) mNil)) (mBin wAdd (mLst (mCons (mTup mNil) mNil)) (mIf (mBin wGt (mV 0) (mC (.int 1))) (mLst (mCons (mTup (mCons (mC (.str "all")) mNil)) mNil)) (mLst mNil)))) (sSeq (sRet (mC (.bl false))) sNil) sNil) (sSeq (sSet 3 (mDictB (mCons (mC (.str "one")) (mCons (mMakeK 0 4 1 m_Bound_init true (mCons (mC (.str "a")) (mCons (mTup (mCons (mC (.int 1)) mNil)) (mCons (mC (.str "b")) (mCons (mTup (mCons (mC (.int 2)) mNil)) mNil)))) (mCons (mC (.int 2)) mNil)) (mCons (mC (.str "two")) (mCons (mMake 0 m_Bound_init [.int 1] true (mCons (mC (.str "b")) (mCons (mTup (mCons (mC (.int 2)) mNil)) (mCons (mC (.str "a")) (mCons (mTup (mCons (mC (.int 1)) mNil)) mNil))))) mNil)))))) (sSeq (sPut (mV 3) (mC (.str "three")) (mMake 0 m_Bound_init [.int 1] true (mCons (mC (.str "a")) (mCons (mTup (mCons (mC (.int 1)) (mCons (mC (.int 2)) mNil))) (mCons (mC (.str "b")) (mCons (mTup (mCons (mC (.int 2)) mNil)) mNil)))))) (sSeq (sSet 4 (mMake 1 m_Shelf_init [] true (mCons (mDict (mCons (mC (.str "a")) (mCons (mC (.int 2)) (mCons (mC (.str "b")) (mCons (mC (.int 2)) mNil))))) (mCons mDict0 (mCons (mLst (mCons (mTup (mCons (mTup (mCons (mC (.str "a")) (mCons (mC (.int 1)) mNil))) (mCons (mTup (mCons (mC (.str "b")) (mCons (mC (.int 2)) mNil))) mNil))) mNil)) (mCons (mLst (mCons (mTup (mCons (mC (.str "a")) (mCons (mC (.str "b")) mNil))) mNil)) (mCons (mFz (mV 3)) mNil))))))) (sSeq (sIf (mBin (wCmpB true) (mFld [2] "bounds" (mCall m_cheapest [] (mCons (mV 4) mNil))) (mTup (mCons (mC (.str "two")) mNil))) (sSeq (sRet (mC (.bl false))) sNil) sNil) (sSeq (sIf (mBin (wCmpB true) (mCallB wList (mCons (mFld [2, 3] "doubts" (mCall m_cheapest [] (mCons (mV 4) mNil))) mNil)) (mLst (mCons (mTup mNil) mNil))) (sSeq (sRet (mC (.bl false))) sNil) sNil) (sSeq (sIf (mBin (wIs true) (mMt 2 "shows" m_Bounding_shows [] (mCall m_cheapest [] (mCons (mV 4) mNil)) (mCons (mV 4) mNil)) (mC (.bl true))) (sSeq (sRet (mC (.bl false))) sNil) sNil) (sSeq (sSet 5 (mMake 1 m_Shelf_init [] true (mCons (mDict (mCons (mC (.str "a")) (mCons (mC (.int 2)) (mCons (mC (.str "b")) (mCons (mC (.int 1)) mNil))))) (mCons mDict0 (mCons (mLst mNil) (mCons (mLst (mCons (mTup (mCons (mC (.str "a")) mNil)) (mCons (mTup (mCons (mC (.str "b")) mNil)) mNil))) (mCons mDict0 mNil))))))) (sSeq (sIf (mBin (wCmpB true) (mFld [2] "bounds" (mCall m_cheapest [] (mCons (mV 5) mNil))) (mTup mNil)) (sSeq (sRet (mC (.bl false))) sNil) sNil) (sSeq (sIf (mBin (wCmpB true) (mFld [2, 3] "doubts" (mCall m_cheapest [] (mCons (mV 5) mNil))) mDict0) (sSeq (sRet (mC (.bl false))) sNil) sNil) (sSeq (sIf (mBin (wIs true) (mMt 2 "shows" m_Bounding_shows [] (mCall m_cheapest [] (mCons (mV 5) mNil)) (mCons (mV 5) mNil)) (mC (.bl true))) (sSeq (sRet (mC (.bl false))) sNil) sNil) (sSeq (sSet 6 (mDict (mCons (mC (.str "go")) (mCons (mMakeK 0 4 1 m_Bound_init true (mCons (mC (.str "a")) (mCons (mTup (mCons (mC (.int 1)) mNil)) (mCons (mC (.str "b")) (mCons (mTup (mCons (mC (.int 1)) mNil)) mNil)))) (mCons (mV 0) mNil)) mNil)))) (sSeq (sSet 7 (mMake 1 m_Shelf_init [] true (mCons (mDict (mCons (mC (.str "a")) (mCons (mC (.int 1)) (mCons (mC (.str "b")) (mCons (mC (.int 1)) mNil))))) (mCons (mDict (mCons (mTup (mCons (mC (.str "a")) (mCons (mC (.int 1)) mNil))) (mCons (mTup (mCons (mC (.str "b")) mNil)) mNil))) (mCons (mLst (mCons (mTup (mCons (mTup (mCons (mC (.str "a")) (mCons (mC (.int 1)) mNil))) (mCons (mTup (mCons (mC (.str "b")) (mCons (mC (.int 1)) mNil))) mNil))) mNil)) (mCons (mLst (mCons (mTup (mCons (mC (.str "a")) mNil)) mNil)) (mCons (mV 6) mNil))))))) (sSeq (sSet 2 (mCall m_cheapest [] (mCons (mV 7) mNil))) (sSeq (sIf (mNot (mCallB (wIsi nC subC) (mCons (mV 2) (mCons (mC (.cl 3)) mNil)))) (sSeq (sRet (mC (.bl false))) sNil) sNil) (sSeq (sIf (mBin (wIs true) (mMt 3 "shows" m_NoBounding_shows [] (mV 2) (mCons (mV 7) mNil)) (mC (.bl true))) (sSeq (sRet (mC (.bl false))) sNil) sNil) (sSeq (sIf (mBin (wCmpB true) (mCallB wList (mCons (mFld [2, 3] "doubts" (mV 2)) mNil)) (mLst (mCons (mTup mNil) (mCons (mTup (mCons (mC (.str "go")) mNil)) mNil)))) (sSeq (sRet (mC (.bl false))) sNil) sNil) (sSeq (sSet 8 (mTup (mCons (mC (.str "choose")) (mCons (mTup (mCons (mTup (mCons (mC (.str "choose")) (mCons (mTup (mCons (mTup (mCons (mC (.str "bound")) (mCons (mC (.str "go")) mNil))) mNil)) mNil))) mNil)) mNil)))) (sSeq (sSet 9 (mDict (mCons (mTup (mCons (mC (.str "go")) mNil)) (mCons (mTup (mCons (mC (.str "shut")) (mCons (mC (.int 0)) (mCons (mV 8) mNil)))) (mCons (mTup mNil) (mCons (mTup (mCons (mC (.str "broken")) (mCons (mC (.int 0)) (mCons (mTup (mCons (mC (.int 1)) (mCons (mC (.int 1)) mNil))) mNil)))) mNil)))))) (sSeq (sIf (mOr (mBin (wCmpB true) (mFld [2, 3] "doubts" (mV 2)) (mV 9)) (mBin (wIs true) (mMt 3 "shows" m_NoBounding_shows [] (mMake 3 m_NoBounding_init [] true (mCons (mV 9) mNil)) (mCons (mV 7) mNil)) (mC (.bl true)))) (sSeq (sRet (mC (.bl false))) sNil) sNil) (sSeq (sIf (mMt 3 "shows" m_NoBounding_shows [] (mMake 3 m_NoBounding_init [] true (mCons (mDict (mCons (mTup mNil) (mCons (mBin wIx (mV 9) (mTup mNil)) mNil))) mNil)) (mCons (mV 7) mNil)) (sSeq (sRet (mC (.bl false))) sNil) sNil) (sSeq (sRet (mBin (wIs false) (mMt 3 "shows" m_NoBounding_shows [] (mMake 3 m_NoBounding_init [] true (mCons (mDict (mCons (mTup mNil) (mCons (mBin wIx (mV 9) (mTup mNil)) (mCons (mTup (mCons (mC (.str "go")) mNil)) (mCons (mBin wIx (mV 9) (mTup mNil)) mNil))))) mNil)) (mCons (mV 7) mNil)) (mC (.bl false)))) sNil)))))))))))))))))))))))))
def m_check_set : FM := mDef 2 2 true (sSeq (sIf (mOr (mNot (mCallB (wIsi nC subC) (mCons (mV 1) (mCons (mC (.ty 3)) mNil)))) (mNot (mCallB wAll (mCons (mLc (mSeq (mV 1)) (gSet 3) yes (mCallB (wIsi nC subC) (mCons (mV 3) (mCons (mC (.ty 1)) mNil))) [3]) mNil)))) (sSeq sNever sNil) sNil) (sSeq (sIf (mBin (wCmpB true) (mCallB wList (mCons (mV 1) mNil)) (mLc (mSeq (mFld [1] "lines" (mV 0))) (gSet 2) (mBin (wIn false) (mV 2) (mV 1)) (mV 2) [2])) (sSeq sNever sNil) sNil) sNil))
def m_serves : FM := mDef 3 2 true (sSeq (sSet 3 (mCall m_allowed_plans [] (mCons (mV 0) (mCons (mV 1) (mCons (mV 2) mNil))))) (sSeq (sRet (mAnd (mBin (wCmpB true) (mV 3) (mLst mNil)) (mNot (mCallB wAny (mCons (mLc (mSeq (mV 3)) (gSet 4) yes (mCall m_clashing [] (mCons (mV 0) (mCons (mV 4) mNil))) [4]) mNil))))) sNil))
def m_is_right : FM := mDef 2 1 true (sSeq (sExpr (mCall m_check_shelf [] (mCons (mV 0) mNil))) (sSeq (sExpr (mCall m_check_set [] (mCons (mV 0) (mCons (mV 1) mNil)))) (sSeq (sRet (mCallB wAll (mCons (mLc (mRng1 (mCons (mCallB wLen (mCons (mFld [1] "asked" (mV 0)) mNil)) mNil)) (gSet 2) yes (mCall m_serves [] (mCons (mV 0) (mCons (mV 2) (mCons (mV 1) mNil)))) [2]) mNil))) sNil)))
def m_is_index : FM := mDef 2 0 true (sSeq (sRet (mCall m_is_integer [] (mCons (mV 1) (mCons (mC (.int 0)) (mCons (mBin wSub (mCallB wLen (mCons (mFld [1] "asked" (mV 0)) mNil)) (mC (.int 1))) mNil))))) sNil)
def m_check_request : FM := mDef 2 0 true (sSeq (sExpr (mCall m_check_shelf [] (mCons (mV 0) mNil))) (sSeq (sIf (mNot (mCall m_is_index [] (mCons (mV 0) (mCons (mV 1) mNil)))) (sSeq sNever sNil) sNil) sNil))
def m_plans : FG := mGen 3 1 (nThen (sExpr (mCall m_check_request [] (mCons (mV 0) (mCons (mV 1) mNil)))) (nThen (sExpr (mCall m_check_set [] (mCons (mV 0) (mCons (mV 2) mNil)))) (nFrom (mLc (mSeq (mCall m_all_plans [] (mCons (mV 0) (mCons (mV 1) mNil)))) (gSet 3) (mCall m_is_allowed [] (mCons (mV 0) (mCons (mV 2) (mCons (mV 3) mNil)))) (mV 3) [3]))))
def m_is_plan : FM := mDef 2 2 true (sSeq (sIf (mOr (mNot (mCallB (wIsi nC subC) (mCons (mV 1) (mCons (mC (.ty 3)) mNil)))) (mBin (wCmpB true) (mCallB wLen (mCons (mV 1) mNil)) (mCallB wLen (mCons (mFld [1] "most" (mV 0)) mNil)))) (sSeq (sRet (mC (.bl false))) sNil) sNil) (sSeq (sRet (mCallB wAll (mCons (mLc (mZip (mCons (mV 1) (mCons (mMeth isD fVals (mFld [1] "most" (mV 0)) mNil) mNil))) (gTupM 2 (gAnd (gSet 2) (gAnd (gSet 3) gNo))) yes (mCall m_is_integer [] (mCons (mV 2) (mCons (mC (.int 0)) (mCons (mV 3) mNil)))) [2, 3]) mNil))) sNil))
def m_check_plan : FM := mDef 2 0 true (sSeq (sIf (mNot (mCall m_is_plan [] (mCons (mV 0) (mCons (mV 1) mNil)))) (sSeq sNever sNil) sNil) sNil)
def m_next_package : FM := mDef 3 0 true (sSeq (sExpr (mCall m_check_request [] (mCons (mV 0) (mCons (mV 1) mNil)))) (sSeq (sExpr (mCall m_check_plan [] (mCons (mV 0) (mCons (mV 2) mNil)))) (sSeq (sRet (mCall m_next_of [] (mCons (mV 0) (mCons (mV 1) (mCons (mV 2) mNil))))) sNil)))
def m_set_cost : FM := mDef 2 0 true (sSeq (sExpr (mCall m_check_shelf [] (mCons (mV 0) mNil))) (sSeq (sExpr (mCall m_check_set [] (mCons (mV 0) (mCons (mV 1) mNil)))) (sSeq (sRet (mCall m_cost_of [] (mCons (mV 0) (mCons (mV 1) mNil)))) sNil)))
def m_is_broken : FM := mDef 2 0 true (sSeq (sExpr (mCall m_check_shelf [] (mCons (mV 0) mNil))) (sSeq (sExpr (mCall m_check_plan [] (mCons (mV 0) (mCons (mV 1) mNil)))) (sSeq (sRet (mCall m_clashing [] (mCons (mV 0) (mCons (mV 1) mNil)))) sNil)))
def m_allows : FM := mDef 3 0 true (sSeq (sExpr (mCall m_check_shelf [] (mCons (mV 0) mNil))) (sSeq (sExpr (mCall m_check_set [] (mCons (mV 0) (mCons (mV 1) mNil)))) (sSeq (sExpr (mCall m_check_plan [] (mCons (mV 0) (mCons (mV 2) mNil)))) (sSeq (sRet (mCall m_is_allowed [] (mCons (mV 0) (mCons (mV 1) (mCons (mV 2) mNil))))) sNil))))
def m__law_plans_right : FM := mDef 1 9 true (sSeq (sSet 1 (mCall m__law_small [] (mCons (mV 0) mNil))) (sSeq (sSet 2 (mLst (mCons (mTup (mCons (mTup mNil) (mCons (mLst (mCons (mTup (mCons (mC (.int 1)) (mCons (mC (.int 1)) mNil))) (mCons (mTup (mCons (mC (.int 1)) (mCons (mC (.int 2)) mNil))) (mCons (mTup (mCons (mC (.int 2)) (mCons (mC (.int 1)) mNil))) (mCons (mTup (mCons (mC (.int 2)) (mCons (mC (.int 2)) mNil))) mNil))))) (mCons (mC (.bl false)) mNil)))) mNil))) (sSeq (sSet 2 (mBin wAdd (mV 2) (mLst (mCons (mTup (mCons (mTup (mCons (mC (.str "old")) mNil)) (mCons (mLst (mCons (mTup (mCons (mC (.int 1)) (mCons (mC (.int 1)) mNil))) (mCons (mTup (mCons (mC (.int 1)) (mCons (mC (.int 2)) mNil))) (mCons (mTup (mCons (mC (.int 2)) (mCons (mC (.int 2)) mNil))) mNil)))) (mCons (mC (.bl true)) mNil)))) mNil)))) (sSeq (sSet 2 (mBin wAdd (mV 2) (mLst (mCons (mTup (mCons (mTup (mCons (mC (.str "new")) mNil)) (mCons (mLst (mCons (mTup (mCons (mC (.int 1)) (mCons (mC (.int 1)) mNil))) (mCons (mTup (mCons (mC (.int 2)) (mCons (mC (.int 1)) mNil))) (mCons (mTup (mCons (mC (.int 2)) (mCons (mC (.int 2)) mNil))) mNil)))) (mCons (mC (.bl false)) mNil)))) mNil)))) (sSeq (sSet 2 (mBin wAdd (mV 2) (mLst (mCons (mTup (mCons (mTup (mCons (mC (.str "new")) (mCons (mC (.str "old")) mNil))) (mCons (mLst (mCons (mTup (mCons (mC (.int 1)) (mCons (mC (.int 1)) mNil))) (mCons (mTup (mCons (mC (.int 2)) (mCons (mC (.int 2)) mNil))) mNil))) (mCons (mC (.bl true)) mNil)))) (mCons (mTup (mCons (mTup (mCons (mC (.str "all")) mNil)) (mCons (mLst mNil) (mCons (mC (.bl false)) mNil)))) mNil))))) (sSeq (sForI (mSeq (mV 2)) (gTupM 3 (gAnd (gSet 6) (gAnd (gSet 5) (gAnd (gSet 7) gNo)))) (sSeq (sIf (mOr (mBin (wCmpB true) (mListG m_plans [] (mCons (mV 1) (mCons (mC (.int 0)) (mCons (mV 6) mNil)))) (mV 5)) (mBin (wCmpB true) (mCall m_is_right [] (mCons (mV 1) (mCons (mV 6) mNil))) (mV 7))) (sSeq (sRet (mC (.bl false))) sNil) sNil) sNil)) (sSeq (sSet 2 (mLst (mCons (mTup (mCons (mTup (mCons (mC (.int 0)) (mCons (mC (.int 0)) mNil))) (mCons (mC (.str "app")) mNil))) (mCons (mTup (mCons (mTup (mCons (mC (.int 1)) (mCons (mC (.int 0)) mNil))) (mCons (mC (.str "lib")) mNil))) (mCons (mTup (mCons (mTup (mCons (mC (.int 0)) (mCons (mC (.int 1)) mNil))) (mCons (mC (.str "app")) mNil))) (mCons (mTup (mCons (mTup (mCons (mC (.int 2)) (mCons (mC (.int 2)) mNil))) (mCons (mC .non) mNil))) mNil)))))) (sSeq (sIf (mNot (mCallB wAll (mCons (mLc (mSeq (mV 2)) (gTupM 2 (gAnd (gSet 9) (gAnd (gSet 5) gNo))) yes (mBin (wCmpB false) (mCall m_next_package [] (mCons (mV 1) (mCons (mC (.int 0)) (mCons (mV 9) mNil)))) (mV 5)) [5, 9]) mNil))) (sSeq (sRet (mC (.bl false))) sNil) sNil) (sSeq (sIf (mBin (wCmpB true) (mCall m_set_cost [] (mCons (mV 1) (mCons (mTup (mCons (mC (.str "new")) (mCons (mC (.str "old")) (mCons (mC (.str "all")) mNil)))) mNil))) (mBin wAdd (mBin wMul (mC (.int 2)) (mV 0)) (mC (.int 1)))) (sSeq (sRet (mC (.bl false))) sNil) sNil) (sSeq (sIf (mBin (wIs true) (mCall m_is_broken [] (mCons (mV 1) (mCons (mTup (mCons (mC (.int 2)) (mCons (mC (.int 1)) mNil))) mNil))) (mC (.bl true))) (sSeq (sRet (mC (.bl false))) sNil) sNil) (sSeq (sIf (mCall m_is_broken [] (mCons (mV 1) (mCons (mTup (mCons (mC (.int 2)) (mCons (mC (.int 2)) mNil))) mNil))) (sSeq (sRet (mC (.bl false))) sNil) sNil) (sSeq (sIf (mBin (wIs true) (mCall m_allows [] (mCons (mV 1) (mCons (mTup (mCons (mC (.str "all")) mNil)) (mCons (mTup (mCons (mC (.int 1)) (mCons (mC (.int 0)) mNil))) mNil)))) (mC (.bl true))) (sSeq (sRet (mC (.bl false))) sNil) sNil) (sSeq (sIf (mCall m_allows [] (mCons (mV 1) (mCons (mTup (mCons (mC (.str "all")) mNil)) (mCons (mTup (mCons (mC (.int 2)) (mCons (mC (.int 2)) mNil))) mNil)))) (sSeq (sRet (mC (.bl false))) sNil) sNil) (sSeq (sIf (mCall m_allows [] (mCons (mV 1) (mCons (mTup (mCons (mC (.str "old")) mNil)) (mCons (mTup (mCons (mC (.int 2)) (mCons (mC (.int 1)) mNil))) mNil)))) (sSeq (sRet (mC (.bl false))) sNil) sNil) (sSeq (sSet 3 (mDict (mCons (mTup (mCons (mC (.str "c")) (mCons (mC (.int 1)) mNil))) (mCons (mTup (mCons (mC (.str "b")) mNil)) (mCons (mTup (mCons (mC (.str "b")) (mCons (mC (.int 1)) mNil))) (mCons (mTup (mCons (mC (.str "a")) mNil)) (mCons (mTup (mCons (mC (.str "a")) (mCons (mC (.int 2)) mNil))) (mCons (mTup (mCons (mC (.str "c")) mNil)) (mCons (mTup (mCons (mC (.str "b")) (mCons (mC (.int 2)) mNil))) (mCons (mTup (mCons (mC (.str "d")) mNil)) mNil)))))))))) (sSeq (sSet 4 (mMake 1 m_Shelf_init [] true (mCons (mDict (mCons (mC (.str "a")) (mCons (mC (.int 2)) (mCons (mC (.str "b")) (mCons (mC (.int 2)) (mCons (mC (.str "c")) (mCons (mC (.int 1)) (mCons (mC (.str "d")) (mCons (mC (.int 1)) mNil))))))))) (mCons (mV 3) (mCons (mLst mNil) (mCons (mLst (mCons (mTup (mCons (mC (.str "c")) mNil)) (mCons (mTup (mCons (mC (.str "a")) (mCons (mC (.str "d")) mNil))) (mCons (mTup (mCons (mC (.str "b")) mNil)) mNil)))) (mCons mDict0 mNil))))))) (sSeq (sSet 5 (mLst (mCons (mLst (mCons (mTup (mCons (mC (.int 0)) (mCons (mC (.int 2)) (mCons (mC (.int 1)) (mCons (mC (.int 1)) mNil))))) (mCons (mTup (mCons (mC (.int 1)) (mCons (mC (.int 1)) (mCons (mC (.int 1)) (mCons (mC (.int 0)) mNil))))) (mCons (mTup (mCons (mC (.int 2)) (mCons (mC (.int 1)) (mCons (mC (.int 1)) (mCons (mC (.int 0)) mNil))))) mNil)))) mNil))) (sSeq (sSet 5 (mBin wAdd (mV 5) (mLst (mCons (mLst (mCons (mTup (mCons (mC (.int 1)) (mCons (mC (.int 0)) (mCons (mC (.int 0)) (mCons (mC (.int 1)) mNil))))) (mCons (mTup (mCons (mC (.int 2)) (mCons (mC (.int 1)) (mCons (mC (.int 1)) (mCons (mC (.int 1)) mNil))))) (mCons (mTup (mCons (mC (.int 2)) (mCons (mC (.int 2)) (mCons (mC (.int 1)) (mCons (mC (.int 1)) mNil))))) mNil)))) mNil)))) (sSeq (sSet 5 (mBin wAdd (mV 5) (mLst (mCons (mLst (mCons (mTup (mCons (mC (.int 0)) (mCons (mC (.int 2)) (mCons (mC (.int 0)) (mCons (mC (.int 1)) mNil))))) (mCons (mTup (mCons (mC (.int 1)) (mCons (mC (.int 1)) (mCons (mC (.int 0)) (mCons (mC (.int 0)) mNil))))) (mCons (mTup (mCons (mC (.int 2)) (mCons (mC (.int 1)) (mCons (mC (.int 1)) (mCons (mC (.int 0)) mNil))))) mNil)))) mNil)))) (sSeq (sRet (mAnd (mBin (wCmpB false) (mLc (mRng1 (mCons (mC (.int 3)) mNil)) (gSet 8) yes (mListG m_plans [.kt0] (mCons (mV 4) (mCons (mV 8) mNil))) [8]) (mV 5)) (mBin (wCmpB false) (mCall m_next_package [] (mCons (mV 4) (mCons (mC (.int 2)) (mCons (mTup (mCons (mC (.int 2)) (mCons (mC (.int 1)) (mCons (mC (.int 0)) (mCons (mC (.int 0)) mNil))))) mNil)))) (mC (.str "c"))))) sNil))))))))))))))))))))
def m__law_answers_right : FM := mDef 0 13 true (sSeq (sAsg (gTupM 2 (gAnd (gSet 4) (gAnd (gSet 5) gNo))) (mTup (mCons (mTup (mCons (mC (.str "done")) mNil)) (mCons (mTup (mCons (mC (.str "bound")) (mCons (mC (.str "old")) mNil))) mNil)))) (sSeq (sSet 0 (mTup (mCons (mC (.str "choose")) (mCons (mTup (mCons (mTup (mCons (mC (.str "choose")) (mCons (mTup (mCons (mV 4) (mCons (mV 4) mNil))) mNil))) (mCons (mTup (mCons (mC (.str "choose")) (mCons (mTup (mCons (mV 5) (mCons (mV 4) mNil))) mNil))) mNil))) mNil)))) (sSeq (sSet 1 (mTup (mCons (mC (.str "choose")) (mCons (mBin wMul (mTup (mCons (mTup (mCons (mC (.str "choose")) (mCons (mBin wMul (mTup (mCons (mTup (mCons (mC (.str "bound")) (mCons (mC (.str "all")) mNil))) mNil)) (mC (.int 2))) mNil))) mNil)) (mC (.int 2))) mNil)))) (sSeq (sPar2 6 7 (mCons (mTup (mCons (mC (.str "broken")) (mCons (mC (.int 0)) (mCons (mTup (mCons (mC (.int 2)) (mCons (mC (.int 1)) mNil))) mNil)))) (mCons (mTup (mCons (mC (.str "shut")) (mCons (mC (.int 0)) (mCons (mV 1) mNil)))) mNil))) (sSeq (sSet 2 (mLst (mCons (mTup (mCons (mC (.int 1)) (mCons (mTup (mCons (mC (.int 1)) (mCons (mC (.int 1)) mNil))) (mCons (mV 0) (mCons (mDict (mCons (mTup mNil) (mCons (mV 6) mNil))) (mCons (mC (.bl true)) mNil)))))) (mCons (mTup (mCons (mC (.int 1)) (mCons (mTup (mCons (mC (.int 2)) (mCons (mC (.int 2)) mNil))) (mCons (mV 0) (mCons (mDict (mCons (mTup mNil) (mCons (mV 6) mNil))) (mCons (mC (.bl true)) mNil)))))) mNil)))) (sSeq (sSet 2 (mBin wAdd (mV 2) (mLst (mCons (mTup (mCons (mC (.int 1)) (mCons (mTup (mCons (mC (.int 2)) (mCons (mC (.int 1)) mNil))) (mCons (mV 0) (mCons (mDict (mCons (mTup mNil) (mCons (mV 6) mNil))) (mCons (mC (.bl false)) mNil)))))) mNil)))) (sSeq (sSet 2 (mBin wAdd (mV 2) (mLst (mCons (mTup (mCons (mC (.int 1)) (mCons (mTup (mCons (mC (.int 0)) (mCons (mC (.int 1)) mNil))) (mCons (mV 0) (mCons (mDict (mCons (mTup mNil) (mCons (mV 6) mNil))) (mCons (mC (.bl false)) mNil)))))) (mCons (mTup (mCons (mC (.int 1)) (mCons (mTup (mCons (mC (.int 1)) (mCons (mC (.int 1)) mNil))) (mCons (mV 0) (mCons mDict0 (mCons (mC (.bl false)) mNil)))))) mNil))))) (sSeq (sSet 2 (mBin wAdd (mV 2) (mLst (mCons (mTup (mCons (mC (.int 1)) (mCons (mTup (mCons (mC (.int 1)) (mCons (mC (.int 1)) mNil))) (mCons (mV 1) (mCons (mDict (mCons (mTup mNil) (mCons (mV 6) mNil))) (mCons (mC (.bl false)) mNil)))))) mNil)))) (sSeq (sSet 2 (mBin wAdd (mV 2) (mLst (mCons (mTup (mCons (mC (.int 2)) (mCons (mTup (mCons (mC (.int 1)) (mCons (mC (.int 2)) mNil))) (mCons (mV 0) (mCons (mDict (mCons (mTup (mCons (mC (.str "all")) mNil)) (mCons (mV 7) (mCons (mTup mNil) (mCons (mV 6) mNil))))) (mCons (mC (.bl true)) mNil)))))) mNil)))) (sSeq (sSet 2 (mBin wAdd (mV 2) (mLst (mCons (mTup (mCons (mC (.int 2)) (mCons (mTup (mCons (mC (.int 1)) (mCons (mC (.int 2)) mNil))) (mCons (mV 0) (mCons (mDict (mCons (mTup mNil) (mCons (mV 6) mNil))) (mCons (mC (.bl false)) mNil)))))) mNil)))) (sSeq (sSet 2 (mBin wAdd (mV 2) (mLst (mCons (mTup (mCons (mC (.int 2)) (mCons (mTup (mCons (mC (.int 1)) (mCons (mC (.int 2)) mNil))) (mCons (mV 0) (mCons (mDict (mCons (mTup (mCons (mC (.str "all")) mNil)) (mCons (mV 6) (mCons (mTup mNil) (mCons (mV 6) mNil))))) (mCons (mC (.bl false)) mNil)))))) mNil)))) (sSeq (sSet 2 (mBin wAdd (mV 2) (mLst (mCons (mTup (mCons (mC (.int 1)) (mCons (mTup (mCons (mC (.int 1)) (mCons (mC (.int 1)) mNil))) (mCons (mV 0) (mCons (mDict (mCons (mTup mNil) (mCons (mV 6) (mCons (mTup (mCons (mC (.str "all")) mNil)) (mCons (mV 7) mNil))))) (mCons (mC (.bl false)) mNil)))))) mNil)))) (sSeq (sSet 2 (mBin wAdd (mV 2) (mLst (mCons (mTup (mCons (mC (.int 3)) (mCons (mTup (mCons (mC (.int 1)) (mCons (mC (.int 1)) mNil))) (mCons (mV 0) (mCons (mDict (mCons (mTup mNil) (mCons (mV 6) (mCons (mTup (mCons (mC (.str "all")) mNil)) (mCons (mV 7) mNil))))) (mCons (mC (.bl true)) mNil)))))) mNil)))) (sSeq (sForI (mSeq (mV 2)) (gTupM 5 (gAnd (gSet 8) (gAnd (gSet 9) (gAnd (gSet 10) (gAnd (gSet 11) (gAnd (gSet 12) gNo)))))) (sSeq (sIf (mBin (wCmpB true) (mMt 2 "shows" m_Bounding_shows [] (mMake 2 m_Bounding_init [] true (mCons (mTup (mCons (mC (.str "old")) mNil)) (mCons (mLst (mCons (mV 9) mNil)) (mCons (mLst (mCons (mV 10) mNil)) (mCons (mV 11) mNil))))) (mCons (mCall m__law_small [] (mCons (mV 8) mNil)) mNil)) (mV 12)) (sSeq (sRet (mC (.bl false))) sNil) sNil) sNil)) (sSeq (sSet 3 (mTup (mCons (mC (.str "choose")) (mCons (mTup (mCons (mTup (mCons (mC (.str "choose")) (mCons (mTup (mCons (mV 4) (mCons (mV 4) mNil))) mNil))) (mCons (mTup (mCons (mC (.str "choose")) (mCons (mTup (mCons (mV 4) (mCons (mV 4) mNil))) mNil))) mNil))) mNil)))) (sSeq (sRet (mBin (wIs false) (mMt 2 "shows" m_Bounding_shows [] (mMake 2 m_Bounding_init [] true (mCons (mTup mNil) (mCons (mLst (mCons (mTup (mCons (mC (.int 1)) (mCons (mC (.int 1)) mNil))) mNil)) (mCons (mLst (mCons (mV 3) mNil)) (mCons mDict0 mNil))))) (mCons (mCall m__law_small [] (mCons (mC (.int 1)) mNil)) mNil)) (mC (.bl false)))) sNil))))))))))))))))
def m_is_form : FM := mDef 1 4 true (sSeq (sSet 1 (mBox (mCons (mTup (mCons (mV 0) (mCons (mC (.int 1)) mNil))) mNil))) (sSeq (sWhile (mBin (wCmpB true) (mV 1) (mLst mNil)) (sSeq (sAsg (gTupM 2 (gAnd (gSet 2) (gAnd (gSet 3) gNo))) (mMeth isL fPop (mV 1) mNil)) (sSeq (sIf (mOr (mBin wGt (mV 3) (mC (.int 6))) (mOr (mNot (mCallB (wIsi nC subC) (mCons (mV 2) (mCons (mC (.ty 3)) mNil)))) (mOr (mBin (wCmpB false) (mV 2) (mTup mNil)) (mNot (mCallB (wIsi nC subC) (mCons (mBin wIx (mV 2) (mC (.int 0))) (mCons (mC (.ty 1)) mNil))))))) (sSeq (sRet (mC (.bl false))) sNil) sNil) (sSeq (sIf (mAnd (mBin (wCmpB false) (mBin wIx (mV 2) (mC (.int 0))) (mC (.str "choose"))) (mAnd (mBin (wCmpB false) (mCallB wLen (mCons (mV 2) mNil)) (mC (.int 2))) (mCallB (wIsi nC subC) (mCons (mBin wIx (mV 2) (mC (.int 1))) (mCons (mC (.ty 3)) mNil))))) (sSeq (sExpr (mMeth isL fExtend (mV 1) (mCons (mLc (mSeq (mBin wIx (mV 2) (mC (.int 1)))) (gSet 4) yes (mTup (mCons (mV 4) (mCons (mBin wAdd (mV 3) (mC (.int 1))) mNil))) [4]) mNil))) sNil) (sSeq (sIf (mAnd (mBin (wCmpB true) (mV 2) (mTup (mCons (mC (.str "done")) mNil))) (mOr (mBin (wCmpB true) (mBin wIx (mV 2) (mC (.int 0))) (mC (.str "bound"))) (mOr (mBin (wCmpB true) (mCallB wLen (mCons (mV 2) mNil)) (mC (.int 2))) (mNot (mCallB (wIsi nC subC) (mCons (mBin wIx (mV 2) (mC (.int 1))) (mCons (mC (.ty 1)) mNil))))))) (sSeq (sRet (mC (.bl false))) sNil) sNil) sNil)) sNil))) 400) (sSeq (sRet (mC (.bl true))) sNil)))
def m_is_tree : FM := mDef 4 0 true (sSeq (sExpr (mCall m_check_request [] (mCons (mV 0) (mCons (mV 1) mNil)))) (sSeq (sExpr (mCall m_check_set [] (mCons (mV 0) (mCons (mV 2) mNil)))) (sSeq (sIf (mNot (mCall m_is_form [] (mCons (mV 3) mNil))) (sSeq sNever sNil) sNil) (sSeq (sRet (mCall (m_is_sound 9) [] (mCons (mV 0) (mCons (mV 1) (mCons (mV 2) (mCons (mCall m_empty_plan [] (mCons (mV 0) mNil)) (mCons (mV 3) mNil))))))) sNil))))
def m_is_shut : FM := mDef 1 0 true (sSeq (sIf (mNot (mCall m_is_form [] (mCons (mV 0) mNil))) (sSeq sNever sNil) sNil) (sSeq (sRet (mCall m_is_closed [] (mCons (mV 0) mNil))) sNil))
def m_check_doubt : FM := mDef 2 0 true (sSeq (sIf (mOr (mNot (mCallB (wIsi nC subC) (mCons (mV 1) (mCons (mC (.ty 3)) mNil)))) (mOr (mBin (wCmpB true) (mCallB wLen (mCons (mV 1) mNil)) (mC (.int 3))) (mNot (mCall m_is_index [] (mCons (mV 0) (mCons (mBin wIx (mV 1) (mC (.int 1))) mNil)))))) (sSeq sNever sNil) sNil) (sSeq (sIf (mOr (mNot (mCallB (wIsi nC subC) (mCons (mBin wIx (mV 1) (mC (.int 0))) (mCons (mC (.ty 1)) mNil)))) (mBin (wIn true) (mBin wIx (mV 1) (mC (.int 0))) (mTup (mCons (mC (.str "broken")) (mCons (mC (.str "shut")) mNil))))) (sSeq sNever sNil) sNil) (sSeq (sIf (mNot (mIf (mBin (wCmpB false) (mBin wIx (mV 1) (mC (.int 0))) (mC (.str "broken"))) (mCall m_is_plan [] (mCons (mV 0) (mCons (mBin wIx (mV 1) (mC (.int 2))) mNil))) (mCall m_is_form [] (mCons (mBin wIx (mV 1) (mC (.int 2))) mNil)))) (sSeq sNever sNil) sNil) sNil)))
def m_is_doubt : FM := mDef 3 0 true (sSeq (sExpr (mCall m_check_shelf [] (mCons (mV 0) mNil))) (sSeq (sExpr (mCall m_check_set [] (mCons (mV 0) (mCons (mV 1) mNil)))) (sSeq (sExpr (mCall m_check_doubt [] (mCons (mV 0) (mCons (mV 2) mNil)))) (sSeq (sRet (mCall m_is_against [] (mCons (mV 0) (mCons (mV 1) (mCons (mV 2) mNil))))) sNil))))
def m__law_trees_right : FM := mDef 0 14 true (sSeq (sSet 0 (mCall m__law_small [] (mCons (mC (.int 3)) mNil))) (sSeq (sAsg (gTupM 4 (gAnd (gSet 6) (gAnd (gSet 7) (gAnd (gSet 8) (gAnd (gSet 9) gNo))))) (mTup (mCons (mTup (mCons (mC (.str "done")) mNil)) (mCons (mTup (mCons (mC (.str "bound")) (mCons (mC (.str "old")) mNil))) (mCons (mTup (mCons (mC (.str "bound")) (mCons (mC (.str "new")) mNil))) (mCons (mTup (mCons (mC (.str "bound")) (mCons (mC (.str "all")) mNil))) mNil)))))) (sSeq (sSet 1 (mTup (mCons (mC (.str "choose")) (mCons (mTup (mCons (mTup (mCons (mC (.str "choose")) (mCons (mTup (mCons (mV 6) (mCons (mV 6) mNil))) mNil))) (mCons (mTup (mCons (mC (.str "choose")) (mCons (mTup (mCons (mV 7) (mCons (mV 6) mNil))) mNil))) mNil))) mNil)))) (sSeq (sSet 2 (mTup (mCons (mC (.str "choose")) (mCons (mTup (mCons (mTup (mCons (mC (.str "choose")) (mCons (mTup (mCons (mV 9) (mCons (mV 9) mNil))) mNil))) (mCons (mTup (mCons (mC (.str "choose")) (mCons (mTup (mCons (mV 9) (mCons (mV 9) mNil))) mNil))) mNil))) mNil)))) (sSeq (sSet 3 (mTup (mCons (mC (.str "choose")) (mCons (mTup (mCons (mTup (mCons (mC (.str "choose")) (mCons (mTup (mCons (mV 6) (mCons (mV 8) mNil))) mNil))) (mCons (mTup (mCons (mC (.str "choose")) (mCons (mTup (mCons (mV 7) (mCons (mV 6) mNil))) mNil))) mNil))) mNil)))) (sSeq (sSet 4 (mTup (mCons (mC (.str "choose")) (mCons (mTup (mCons (mTup (mCons (mC (.str "choose")) (mCons (mTup (mCons (mV 6) (mCons (mTup (mCons (mC (.str "choose")) (mCons (mTup mNil) mNil))) mNil))) mNil))) (mCons (mTup (mCons (mC (.str "choose")) (mCons (mTup (mCons (mV 7) (mCons (mV 6) mNil))) mNil))) mNil))) mNil)))) (sSeq (sSet 5 (mLst (mCons (mTup (mCons (mTup (mCons (mC (.str "old")) mNil)) (mCons (mV 1) (mCons (mC (.bl true)) mNil)))) (mCons (mTup (mCons (mTup (mCons (mC (.str "new")) (mCons (mC (.str "old")) mNil))) (mCons (mV 1) (mCons (mC (.bl true)) mNil)))) (mCons (mTup (mCons (mTup mNil) (mCons (mV 1) (mCons (mC (.bl false)) mNil)))) mNil))))) (sSeq (sSet 5 (mBin wAdd (mV 5) (mLst (mCons (mTup (mCons (mTup (mCons (mC (.str "old")) (mCons (mC (.str "all")) mNil))) (mCons (mV 1) (mCons (mC (.bl true)) mNil)))) (mCons (mTup (mCons (mTup (mCons (mC (.str "all")) mNil)) (mCons (mV 2) (mCons (mC (.bl true)) mNil)))) mNil))))) (sSeq (sSet 5 (mBin wAdd (mV 5) (mLst (mCons (mTup (mCons (mTup (mCons (mC (.str "old")) (mCons (mC (.str "all")) mNil))) (mCons (mV 2) (mCons (mC (.bl true)) mNil)))) (mCons (mTup (mCons (mTup (mCons (mC (.str "old")) mNil)) (mCons (mV 2) (mCons (mC (.bl false)) mNil)))) mNil))))) (sSeq (sSet 5 (mBin wAdd (mV 5) (mLst (mCons (mTup (mCons (mTup mNil) (mCons (mTup (mCons (mC (.str "choose")) (mCons (mTup (mCons (mTup (mCons (mC (.str "choose")) (mCons (mTup (mCons (mV 6) (mCons (mV 6) mNil))) mNil))) (mCons (mTup (mCons (mC (.str "choose")) (mCons (mTup (mCons (mV 6) (mCons (mV 6) mNil))) mNil))) mNil))) mNil))) (mCons (mC (.bl false)) mNil)))) mNil)))) (sSeq (sSet 5 (mBin wAdd (mV 5) (mLst (mCons (mTup (mCons (mTup (mCons (mC (.str "old")) mNil)) (mCons (mTup (mCons (mC (.str "choose")) (mCons (mTup (mCons (mTup (mCons (mC (.str "choose")) (mCons (mTup (mCons (mV 6) (mCons (mV 6) mNil))) mNil))) mNil)) mNil))) (mCons (mC (.bl false)) mNil)))) mNil)))) (sSeq (sSet 5 (mBin wAdd (mV 5) (mLst (mCons (mTup (mCons (mTup (mCons (mC (.str "old")) mNil)) (mCons (mV 6) (mCons (mC (.bl false)) mNil)))) (mCons (mTup (mCons (mTup (mCons (mC (.str "old")) mNil)) (mCons (mV 7) (mCons (mC (.bl false)) mNil)))) mNil))))) (sSeq (sSet 5 (mBin wAdd (mV 5) (mLst (mCons (mTup (mCons (mTup (mCons (mC (.str "old")) mNil)) (mCons (mTup (mCons (mC (.str "choose")) (mCons (mTup mNil) mNil))) (mCons (mC (.bl false)) mNil)))) mNil)))) (sSeq (sSet 5 (mBin wAdd (mV 5) (mLst (mCons (mTup (mCons (mTup (mCons (mC (.str "new")) (mCons (mC (.str "old")) mNil))) (mCons (mV 3) (mCons (mC (.bl true)) mNil)))) mNil)))) (sSeq (sSet 5 (mBin wAdd (mV 5) (mLst (mCons (mTup (mCons (mTup (mCons (mC (.str "old")) mNil)) (mCons (mV 3) (mCons (mC (.bl false)) mNil)))) mNil)))) (sSeq (sSet 5 (mBin wAdd (mV 5) (mLst (mCons (mTup (mCons (mTup (mCons (mC (.str "old")) mNil)) (mCons (mV 4) (mCons (mC (.bl false)) mNil)))) mNil)))) (sSeq (sForI (mSeq (mV 5)) (gTupM 3 (gAnd (gSet 10) (gAnd (gSet 11) (gAnd (gSet 12) gNo)))) (sSeq (sIf (mBin (wCmpB true) (mCall m_is_tree [] (mCons (mV 0) (mCons (mC (.int 0)) (mCons (mV 10) (mCons (mV 11) mNil))))) (mV 12)) (sSeq (sRet (mC (.bl false))) sNil) sNil) sNil)) (sSeq (sSet 5 (mLst (mCons (mTup (mCons (mV 6) (mCons (mC (.bl false)) mNil))) (mCons (mTup (mCons (mV 7) (mCons (mC (.bl true)) mNil))) (mCons (mTup (mCons (mV 1) (mCons (mC (.bl false)) mNil))) (mCons (mTup (mCons (mV 2) (mCons (mC (.bl true)) mNil))) mNil)))))) (sSeq (sSet 5 (mBin wAdd (mV 5) (mLst (mCons (mTup (mCons (mTup (mCons (mC (.str "choose")) (mCons (mTup mNil) mNil))) (mCons (mC (.bl true)) mNil))) (mCons (mTup (mCons (mTup (mCons (mC (.str "choose")) (mCons (mTup (mCons (mTup (mCons (mC (.str "choose")) (mCons (mTup (mCons (mV 7) (mCons (mV 6) mNil))) mNil))) mNil)) mNil))) (mCons (mC (.bl false)) mNil))) mNil))))) (sSeq (sIf (mNot (mCallB wAll (mCons (mLc (mSeq (mV 5)) (gTupM 2 (gAnd (gSet 11) (gAnd (gSet 12) gNo))) yes (mBin (wCmpB false) (mCall m_is_shut [] (mCons (mV 11) mNil)) (mV 12)) [11, 12]) mNil))) (sSeq (sRet (mC (.bl false))) sNil) sNil) (sSeq (sSet 5 (mLst (mCons (mTup (mCons (mTup mNil) (mCons (mTup (mCons (mC (.str "broken")) (mCons (mC (.int 0)) (mCons (mTup (mCons (mC (.int 2)) (mCons (mC (.int 1)) mNil))) mNil)))) (mCons (mC (.bl true)) mNil)))) (mCons (mTup (mCons (mTup (mCons (mC (.str "new")) mNil)) (mCons (mTup (mCons (mC (.str "broken")) (mCons (mC (.int 0)) (mCons (mTup (mCons (mC (.int 2)) (mCons (mC (.int 1)) mNil))) mNil)))) (mCons (mC (.bl true)) mNil)))) mNil)))) (sSeq (sSet 5 (mBin wAdd (mV 5) (mLst (mCons (mTup (mCons (mTup (mCons (mC (.str "old")) mNil)) (mCons (mTup (mCons (mC (.str "broken")) (mCons (mC (.int 0)) (mCons (mTup (mCons (mC (.int 2)) (mCons (mC (.int 1)) mNil))) mNil)))) (mCons (mC (.bl false)) mNil)))) mNil)))) (sSeq (sSet 5 (mBin wAdd (mV 5) (mLst (mCons (mTup (mCons (mTup mNil) (mCons (mTup (mCons (mC (.str "broken")) (mCons (mC (.int 0)) (mCons (mTup (mCons (mC (.int 2)) (mCons (mC (.int 2)) mNil))) mNil)))) (mCons (mC (.bl false)) mNil)))) (mCons (mTup (mCons (mTup mNil) (mCons (mTup (mCons (mC (.str "broken")) (mCons (mC (.int 0)) (mCons (mTup (mCons (mC (.int 0)) (mCons (mC (.int 0)) mNil))) mNil)))) (mCons (mC (.bl false)) mNil)))) mNil))))) (sSeq (sSet 5 (mBin wAdd (mV 5) (mLst (mCons (mTup (mCons (mTup (mCons (mC (.str "all")) mNil)) (mCons (mTup (mCons (mC (.str "shut")) (mCons (mC (.int 0)) (mCons (mV 2) mNil)))) (mCons (mC (.bl true)) mNil)))) mNil)))) (sSeq (sSet 5 (mBin wAdd (mV 5) (mLst (mCons (mTup (mCons (mTup (mCons (mC (.str "old")) mNil)) (mCons (mTup (mCons (mC (.str "shut")) (mCons (mC (.int 0)) (mCons (mV 1) mNil)))) (mCons (mC (.bl false)) mNil)))) (mCons (mTup (mCons (mTup mNil) (mCons (mTup (mCons (mC (.str "shut")) (mCons (mC (.int 0)) (mCons (mV 2) mNil)))) (mCons (mC (.bl false)) mNil)))) mNil))))) (sSeq (sSet 5 (mBin wAdd (mV 5) (mLst (mCons (mTup (mCons (mTup (mCons (mC (.str "all")) mNil)) (mCons (mTup (mCons (mC (.str "broken")) (mCons (mC (.int 0)) (mCons (mTup (mCons (mC (.int 2)) (mCons (mC (.int 1)) mNil))) mNil)))) (mCons (mC (.bl false)) mNil)))) mNil)))) (sSeq (sSet 5 (mBin wAdd (mV 5) (mLst (mCons (mTup (mCons (mTup (mCons (mC (.str "all")) mNil)) (mCons (mTup (mCons (mC (.str "shut")) (mCons (mC (.int 0)) (mCons (mV 9) mNil)))) (mCons (mC (.bl false)) mNil)))) mNil)))) (sSeq (sRet (mCallB wAll (mCons (mLc (mSeq (mV 5)) (gTupM 3 (gAnd (gSet 10) (gAnd (gSet 13) (gAnd (gSet 12) gNo)))) yes (mBin (wCmpB false) (mCall m_is_doubt [] (mCons (mV 0) (mCons (mV 10) (mCons (mV 13) mNil)))) (mV 12)) [10, 12, 13]) mNil))) sNil))))))))))))))))))))))))))))
def m_law : FM := mDef 1 2 true (sSeq (sTry0 (sSeq (sForI (mSeq (mBin wAdd (mLst (mCons (mC (.int 0)) mNil)) (mSl (mV 0) oNone (oSome (mC (.int 3)))))) (gSet 1) (sSeq (sSet 2 (mBin wAdd (mC (.int 1)) (mBin wMod (mCallB wAbs (mCons (mV 1) mNil)) (mC (.int 9))))) (sSeq (sIf (mOr (mNot (mRst (mCall m__law_plans_right [] (mCons (mV 2) mNil)))) (mNot (mRst (mCall m__law_cheapest_right [] (mCons (mV 2) mNil))))) (sSeq (sRet (mC (.bl false))) sNil) sNil) sNil))) (sSeq (sRet (mAnd (mRst (mCall0 m__law_trees_right [])) (mRst (mCall0 m__law_answers_right [])))) sNil))) sNil)
end K35

end
section
namespace Mi
open PySem PySem.Spec PyProof.Rows L2
/-! ### the head's facts: defs, names and one more Bool -/
def obsX (n : Nat) (fa : List He.Fa) (fn : List He.DefD) (ex : PySem.W.Frag → Bool) (g : Addr → Option Obj) : He.AlD × Bool :=
  (He.obsD fa fn (He.frG g (He.asD g n)), ex (He.frG g (He.asD g n)))
def hookX (n : Nat) (fa : List He.Fa) (fn : List He.DefD) (ex : PySem.W.Frag → Bool) : PySem.W.Hook where
  α := He.AlD × Bool
  obs := fun s => obsX n fa fn ex s.heap.get?
  val := fun _ => (He.valD fn, true)
  says := fun _ h => ∃ K : PySem.W.Frag, K.In h ∧ He.SaysD fa fn K ∧ ex K = true
  of := fun _ s e => ⟨He.frG s.heap.get? (He.asD s.heap.get? n), He.frG_in, congrArg (fun z : He.AlD × Bool => z.1) e, congrArg (fun z : He.AlD × Bool => z.2) e⟩
  keeps := fun _ _ _ ⟨K, hK, c, x⟩ k => ⟨K, PySem.W.Frag.In.keeps hK k, c, x⟩
theorem obsX_eq {n : Nat} {fa : List He.Fa} {fn : List He.DefD} {ex : PySem.W.Frag → Bool} {g : Addr → Option Obj} {s : Shared} (h : ∀ a, g a = s.heap.get? a) : obsX n fa fn ex g = (hookX n fa fn ex).obs s := by
  have e : g = s.heap.get? := funext h
  subst e
  rfl
/-- a law's end; what may be let out hangs on the world -/
theorem end_ofW {l : PySem.W.OpenLaw} {n k : Nat} {q : Program} {loose : List Str} {XP : (Str → Option Value) → Heap → Prop} {YP : World → Heap → Prop} {d : DefRec} {CX : World → CXT} {x : Str}
    (h1 : l.most = some n) (h2 : n ≤ sizeLine) (h3 : d.params.defaults = []) (rm : Room k callerA)
    (F : ∀ (w : World) (mg : Str → Option Value) (fa : Addr) (h : Heap), YP w h → h.Ns mainGlobals mg → mg d.name = some (.ref fa) →
      ∃ (K : PySem.W.Frag) (fd : FuncData) (sp : Sp), K.In h ∧ (∀ (s : Shared) (u : Value), BindsTo s fd ⟨[u], []⟩ [(x, u)]) ∧
        (∀ (H : Hp) (a : Addr) (ns : List Int), ns.length ≤ n → Only H → SqL K H a (ns.map V.int) → sp [.ref a] H (fun v _ => v = .bl true) fun _ _ _ => False) ∧
        ∀ base : Heap, K.In base → base.Ns mainGlobals mg → FnOk l.prog w K mg base (CX w) k fa fd [x] sp)
    (out : ∀ (w : World) (H : Hp) (s : Shared) (e : Value) (s' : Shared), CX w [] H s (fun _ _ _ => False) e s' → False) :
    PySem.W.WalkO q loose XP YP l.row.toRowW d [] (fun f vs => PySem.call f vs) := by
  refine Att.attach_call h1 h3 fun w s₀ s₁ mg mb fa o pm cd doc a vs ns G Y ho hd hcd hmg hobj hints hlen hg => ?_
  obtain ⟨K, fd, sp, KX, b, hs, ok⟩ := F w mg fa _ Y G.T.g hmg
  refine law_call KX G.T.g G.T.b G.T.builtins G.T.nolimit hg hobj hints (Nat.le_trans hlen h2) rm ok b (fun H hO hS => ?_) fun H e s' => out w H s₁ e s'
  exact hs H a ns hlen hO hS
theorem out_no (P : Program) (w : World) (H : Hp) (s : Shared) (e : Value) (s' : Shared) : L2.CX P w [] H s (fun _ _ _ => False) e s' → False := fun ⟨_, _, _, _, _, _, _, _, _, _, _, _, z⟩ => z
/-! ### the law's start -/
abbrev h0 : MH := ⟨0, []⟩
def okT (r : R W) : Bool := match r with
  | .ok (.bl true) _ => true
  | _ => false
theorem rst_ok {m : EM} {me : Me} {h : MH} (e : okT (m me h) = true) : mRst m me h = .ok (.bl true) ⟨h.nx, []⟩ := by
  unfold mRst
  cases q : m me h with
  | ok w h' =>
    rw [q] at e
    cases w with
    | bl b => cases b <;> first | rfl | cases e
    | _ => cases e
  | exc _ _ => rw [q] at e; cases e
  | stuck => rw [q] at e; cases e
/-- the script's place, the empty heap -/
theorem start_ok {P : Program} {w : World} {K : PySem.W.Frag} {adr : Nat → Addr} {m : FM} {n : Nat} (ev : ∀ ns : List Int, ns.length ≤ n → okT (m [.scr ns] h0) = true) {H : Hp} {a : Addr} {ns : List Int} (hl : ns.length ≤ n) (hO : Only H) (hS : SqL K H a (ns.map V.int)) :
    spM ⟨P, w, K, adr⟩ m [.ref a] H (fun v _ => v = .bl true) fun _ _ _ => False := by
  refine ⟨⟨fun _ => none, 0, []⟩, [.scr ns], h0, ⟨⟨fun _ _ e => (nomatch e), fun _ _ _ e => (nomatch e), fun _ _ e => (nomatch e), fun _ _ e => (nomatch e), fun _ e => (nomatch e)⟩, rfl, fun _ _ e => (nomatch e)⟩, Reps.cons ?_ Reps.nil, ?_⟩
  · unfold Rep
    refine ⟨a, rfl, ?_⟩
    rcases hS with r | r
    · exact .inl ⟨⟨fun _ e => (nomatch e), fun e => (nomatch e)⟩, r⟩
    · exact .inr r
  · have e := ev ns hl
    cases q : m [.scr ns] h0 with
    | ok w' h' =>
      rw [q] at e
      cases w' with
      | bl b =>
        cases b with
        | true =>
          intro T' H' v _ _ rp
          unfold Rep at rp
          exact rp
        | false => cases e
      | _ => cases e
    | exc _ _ => rw [q] at e; cases e
    | stuck => rw [q] at e; cases e
/-! ### a loop over the script's first cells -/
def IntsAll (ws : List W) : Prop := ∀ w ∈ ws, ∃ n : Int, w = .int n
theorem intsAll_of (ns : List Int) : IntsAll (intsW ns) := fun w hw => by
  induction ns with
  | nil => cases hw
  | cons n r ih =>
    unfold intsW at hw
    rcases List.mem_cons.mp hw with e | e
    · exact ⟨n, e⟩
    · exact ih e
theorem intsAll_cut {ws : List W} (h : IntsAll ws) (lo hi : Option Int) : IntsAll (cutW ws lo hi) := fun w hw => h w (List.mem_of_mem_drop (List.mem_of_mem_take hw))
theorem intsW_length : ∀ ns : List Int, (intsW ns).length = ns.length
  | [] => rfl
  | _ :: r => congrArg (· + 1) (intsW_length r)
theorem cutW_le (ws : List W) (lo hi : Option Int) : (cutW ws lo hi).length ≤ ws.length := by
  unfold cutW
  rw [List.length_take, List.length_drop]
  omega
/-- [z] + script[:k] -/
theorem cells_ok {z k : Int} {ns : List Int} {b c : Option W} (hl : ns.length ≤ 63) : ∃ ws, mSeq (mBin wAdd (mLst (mCons (mC (.int z)) mNil)) (mSl (mV 0) oNone (oSome (mC (.int k))))) [some (.scr ns), b, c] h0 = .ok ws h0 ∧ IntsAll ws := by
  refine ⟨.int z :: cutW (intsW ns) none (some k), ?_, fun w hw => ?_⟩
  · have l : lenLe (1 + (cutW (intsW ns) none (some k)).length) = true := by
      unfold lenLe
      exact Nat.ble_eq_true_of_le (by have := cutW_le (intsW ns) none (some k); rw [intsW_length] at this; omega)
    show (ofO (wIf (lenLe (1 + (cutW (intsW ns) none (some k)).length)) (.lst (.int z :: cutW (intsW ns) none (some k)))) h0).bind (fun w h => ofO (itemsOf w) h) = _
    rw [l]
    rfl
  · rcases List.mem_cons.mp hw with e | e
    · exact ⟨z, e⟩
    · exact intsAll_cut (intsAll_of ns) _ _ w e
theorem for_cells {body : SM} (hb : ∀ a n c, ∃ c', body [a, some (.int n), c] h0 = .nx [a, some (.int n), c'] h0) : ∀ (ws : List W), IntsAll ws → ∀ a b c, ∃ b' c', sFor (gSet 1) body ws [a, b, c] h0 = .nx [a, b', c'] h0
  | [], _, a, b, c => ⟨b, c, rfl⟩
  | w :: ws, h, a, b, c => by
    obtain ⟨n, rfl⟩ := h w List.mem_cons_self
    obtain ⟨c', e⟩ := hb a n c
    obtain ⟨b2, c2, e2⟩ := for_cells hb ws (fun w hw => h w (List.mem_cons_of_mem _ hw)) a (some (.int n)) c'
    refine ⟨b2, c2, ?_⟩
    show (match body [a, some (.int n), c] h0 with
      | .nx me h => sFor (gSet 1) body ws me h
      | .ct me h => sFor (gSet 1) body ws me h
      | .bk me h => .nx me h
      | r => r) = _
    rw [e]
    exact e2
theorem seq_nx {a b : SM} {me me' : Me} {h h' : MH} (e : a me h = .nx me' h') : sSeq a b me h = b me' h' := by unfold sSeq; rw [e]
theorem seq_rt {a b : SM} {me : Me} {w : W} {h h' : MH} (e : a me h = .rt w h') : sSeq a b me h = .rt w h' := by unfold sSeq; rw [e]
theorem try_rt {a : SM} {me : Me} {w : W} {h h' : MH} (e : a me h = .rt w h') : sTry0 a me h = .rt w h' := by unfold sTry0; rw [e]
theorem for_law {src : AM} {body : SM} {ret : EM} {ns : List Int} (hsrc : ∃ ws, src [some (.scr ns), none, none] h0 = .ok ws h0 ∧ IntsAll ws) (hb : ∀ a n c, ∃ c', body [a, some (.int n), c] h0 = .nx [a, some (.int n), c'] h0)
    (hret : ∀ me, ∃ h', ret me h0 = .ok (.bl true) h') : okT (mDef 1 2 true (sSeq (sTry0 (sSeq (sForI src (gSet 1) body) (sSeq (sRet ret) sNil))) sNil) [.scr ns] h0) = true := by
  obtain ⟨ws, e, hi⟩ := hsrc
  obtain ⟨b', c', e2⟩ := for_cells hb ws hi (some (.scr ns)) none none
  obtain ⟨h', e3⟩ := hret [some (.scr ns), b', c']
  have e4 : sForI src (gSet 1) body [some (.scr ns), none, none] h0 = .nx [some (.scr ns), b', c'] h0 := by
    unfold sForI
    rw [e]
    exact e2
  have e5 : sRet ret [some (.scr ns), b', c'] h0 = .rt (.bl true) h' := by
    unfold sRet
    rw [e3]
    rfl
  have e6 : sSeq (sTry0 (sSeq (sForI src (gSet 1) body) (sSeq (sRet ret) sNil))) sNil [some (.scr ns), none, none] h0 = .rt (.bl true) h' := by
    exact seq_rt (try_rt ((seq_nx e4).trans (seq_rt e5)))
  unfold mDef
  show okT (match sSeq (sTry0 (sSeq (sForI src (gSet 1) body) (sSeq (sRet ret) sNil))) sNil [some (.scr ns), none, none] h0 with
    | .nx _ h' => .ok .non (match true with | true => h'.back h0.nx | false => h')
    | .rt w h' => .ok w (match true with | true => h'.back h0.nx | false => h')
    | .exc x _ h' => .exc x h'
    | _ => .stuck) = true
  rw [e6]
  rfl
theorem two_tests {e A B : EM} {S : SM} {a c : Option W} {n : Int} {k : Int} (he : e [a, some (.int n), c] h0 = .ok (.int k) h0) (hA : A [a, some (.int n), some (.int k)] h0 = .ok (.bl true) h0) (hB : B [a, some (.int n), some (.int k)] h0 = .ok (.bl true) h0) :
    sSeq (sSet 2 e) (sSeq (sIf (mOr (mNot A) (mNot B)) S sNil) sNil) [a, some (.int n), c] h0 = .nx [a, some (.int n), some (.int k)] h0 := by
  have e1 : sSet 2 e [a, some (.int n), c] h0 = .nx [a, some (.int n), some (.int k)] h0 := by
    unfold sSet
    rw [he]
    rfl
  have e2 : mNot A [a, some (.int n), some (.int k)] h0 = .ok (.bl false) h0 := by
    unfold mNot
    rw [hA]
    rfl
  have e3 : mNot B [a, some (.int n), some (.int k)] h0 = .ok (.bl false) h0 := by
    unfold mNot
    rw [hB]
    rfl
  have e4 : mOr (mNot A) (mNot B) [a, some (.int n), some (.int k)] h0 = .ok (.bl false) h0 := by
    unfold mOr
    rw [e2]
    exact e3
  have e5 : sIf (mOr (mNot A) (mNot B)) S sNil [a, some (.int n), some (.int k)] h0 = .nx [a, some (.int n), some (.int k)] h0 := by
    unfold sIf
    rw [e4]
    rfl
  exact (seq_nx e1).trans (seq_nx e5)
theorem worth_in (n : Int) : 1 ≤ 1 + (if n < 0 then -n else n) % 9 ∧ 1 + (if n < 0 then -n else n) % 9 ≤ 9 := by omega
theorem nine {P : Int → Prop} (h1 : P 1) (h2 : P 2) (h3 : P 3) (h4 : P 4) (h5 : P 5) (h6 : P 6) (h7 : P 7) (h8 : P 8) (h9 : P 9) (k : Int) (h : 1 ≤ k ∧ k ≤ 9) : P k := by
  have : k = 1 ∨ k = 2 ∨ k = 3 ∨ k = 4 ∨ k = 5 ∨ k = 6 ∨ k = 7 ∨ k = 8 ∨ k = 9 := by omega
  rcases this with e | e | e | e | e | e | e | e | e <;> subst e <;> assumption
end Mi

end
section
namespace K35
open PySem PySem.Spec PyProof.Rows L2 Mi
theorem pl : ∀ k : Int, 1 ≤ k ∧ k ≤ 9 → okT (m__law_plans_right [.int k] h0) = true :=
  nine (P := fun k => okT (m__law_plans_right [.int k] h0) = true) (by decide +kernel) (by decide +kernel) (by decide +kernel) (by decide +kernel) (by decide +kernel) (by decide +kernel) (by decide +kernel) (by decide +kernel) (by decide +kernel)
theorem ch1 : okT (m__law_cheapest_right [.int 1] h0) = true := by decide +kernel
theorem ch2 : okT (m__law_cheapest_right [.int 2] h0) = true := by decide +kernel
theorem ch3 : okT (m__law_cheapest_right [.int 3] h0) = true := by decide +kernel
theorem ch4 : okT (m__law_cheapest_right [.int 4] h0) = true := by decide +kernel
theorem ch5 : okT (m__law_cheapest_right [.int 5] h0) = true := by decide +kernel
theorem ch6 : okT (m__law_cheapest_right [.int 6] h0) = true := by decide +kernel
theorem ch7 : okT (m__law_cheapest_right [.int 7] h0) = true := by decide +kernel
theorem ch8 : okT (m__law_cheapest_right [.int 8] h0) = true := by decide +kernel
theorem ch9 : okT (m__law_cheapest_right [.int 9] h0) = true := by decide +kernel
theorem ch : ∀ k : Int, 1 ≤ k ∧ k ≤ 9 → okT (m__law_cheapest_right [.int k] h0) = true :=
  nine (P := fun k => okT (m__law_cheapest_right [.int k] h0) = true) ch1 ch2 ch3 ch4 ch5 ch6 ch7 ch8 ch9
theorem tr : okT (m__law_trees_right [] h0) = true := by decide +kernel
theorem an : okT (m__law_answers_right [] h0) = true := by decide +kernel
theorem ev (ns : List Int) (hl : ns.length ≤ 63) : okT (m_law [.scr ns] h0) = true := by
  refine for_law (cells_ok hl) (fun a n c => ?_) fun me => ?_
  · have hk := worth_in n
    refine ⟨_, two_tests (k := 1 + (if n < 0 then -n else n) % 9) rfl (rst_ok ?_) (rst_ok ?_)⟩
    · exact pl _ hk
    · exact ch _ hk
  · refine ⟨h0, ?_⟩
    have e1 : mRst (mCall0 m__law_trees_right []) me h0 = .ok (.bl true) h0 := rst_ok tr
    have e2 : mRst (mCall0 m__law_answers_right []) me h0 = .ok (.bl true) h0 := rst_ok an
    unfold mAnd
    rw [e1]
    exact e2
end K35

end
section
namespace K35
open PySem PySem.Spec PyProof.Rows L2 Mi
def names0 : List PySem.Str := ["BoundError", "BadBound", "BadShelf", "BadName", "BadSet", "BadRequest", "BadPlan", "BadTree", "BadDoubt", "LETTERS", "MAX_NAME", "MAX_PACKAGES", "MAX_VERSION", "MAX_REQUESTS", "MAX_BOUNDS", "MAX_COST", "is_integer", "is_name", "are_versions", "Bound", "are_packages", "is_item", "are_others", "are_needs", "is_break", "is_request", "is_bound_of", "Shelf", "needed", "check_shelf"]
def names1 : List PySem.Str := ["is_index", "check_request", "check_set", "is_plan", "check_plan", "items_of", "next_of", "choices_of", "empty_plan", "clashing", "violates", "is_allowed", "all_plans", "plans", "next_package", "is_broken", "allows", "allowed_plans", "serves", "is_right", "cost_of", "set_cost", "MAX_DEPTH", "is_form", "is_sound", "is_closed", "is_tree", "is_shut", "check_doubt", "is_against"]
def names2 : List PySem.Str := ["is_doubt", "tree_of", "all_sets", "doubt_of", "Bounding", "NoBounding", "are_doubts", "cheapest", "_law_small", "_law_plans_right", "_law_trees_right", "_law_cheapest_right", "_law_answers_right"]
def names : List PySem.Str := names0 ++ names1 ++ names2
abbrev RR : PySem.W.OpenRow := PySem.W.OpenLaw.row PySem.Challenge.rw_fewbounds_k35_by_hand
abbrev hk : PySem.W.Hook := hookX 4 faL fnL exB
def ob (s : PySem.W.SharedT) : He.AlD × Bool := obsX 4 faL fnL exB (HandSHeadRun.getT s)
theorem ob_eq (s : PySem.W.SharedT) : ob s = hk.obs s.abs := obsX_eq (HandSHeadRun.getT_eq s)
theorem run (w : World) : HandSHeadRun.RunEq RR (PySem.W.view RR.prog [78]) hk ob 20000 names w := by
  intro os
  kernel_rfl
end K35

end
section
namespace K35
open PySem PySem.Spec PyProof.Rows L2 Mi
theorem nd_is_name : (["value", "sign"] : List Str).Nodup := by decide +kernel
theorem sc_is_name : FnScope ["value", "sign"] ["value"] (defScope (top 19)) := ⟨rfl, rfl, rfl, by decide +kernel, rfl, by decide +kernel, by decide +kernel⟩
theorem k_is_name {P : Program} {w : World} {K : PySem.W.Frag} {mg : Str → Option Value} {base : Heap} (Z : Hd K mg) : Cal P w K mg base (adr K) (He.ga K "is_name") 1 m_is_name [] := by
  obtain ⟨fd, F⟩ := Z.c.def_ 0 (d := dd_is_name) rfl
  refine ⟨⟨fd, ["value"], [], fn_m F sc_is_name rfl rfl (fun cdv A outer s H E hr => ?_), (F.bindsN (ps := ["value"]) (fun _ _ _ _ _ _ us hl => match us, hl with | [_], _ => rfl)), Dfl.nil⟩, F.kp⟩
  exact (ms_cons (ms_ret (me_and (me_bi (mc_isi (isf Z)) rfl (f_isinstance Z) rfl (ma_cons (me_var rfl (by first | exact .inl rfl | exact .inr (.inl rfl) | exact .inr (.inr rfl)) rfl rfl) (ma_cons (me_ty (n := 1) rfl (f_str Z) rfl) ma_nil rfl) rfl)) (me_and (me_chain mo_le mo_le me_int (me_bi mc_len rfl (f_len Z) rfl (ma_cons (me_var rfl (by first | exact .inl rfl | exact .inr (.inl rfl) | exact .inr (.inr rfl)) rfl rfl) ma_nil rfl)) (me_globI rfl (c_MAX_NAME Z) rfl) (by with_unfolding_all rfl)) (me_one (me_bi (mc_all rfl) rfl (f_all Z) rfl (ma_cons (me_lc (own := [("sign", 1)]) rfl nd_is_name (mi_any (me_var rfl (by first | exact .inl rfl | exact .inr (.inl rfl) | exact .inr (.inr rfl)) rfl rfl)) (blk_mk rfl (by rfl)) rfl (fun _ _ _ _ _ => (mg_name nd_is_name rfl (by first | exact .inl rfl | exact .inr rfl) (by first | exact .inl rfl | exact .inr rfl) (sl := [1]) (by decide))) (fun _ _ _ _ _ => mts_nil) (fun _ _ _ _ _ => (me_cmpW (mo_in hr.hu) (me_var rfl (by first | exact .inl rfl | exact .inr (.inl rfl) | exact .inr (.inr rfl)) rfl rfl) (me_globS rfl (c_LETTERS Z) rfl) rfl)) (fun _ => rfl)) ma_nil rfl)))))) ms_nil)
end K35

end
section
namespace K35
open PySem PySem.Spec PyProof.Rows L2 Mi
theorem nd_is_integer : (["value", "low", "high"] : List Str).Nodup := by decide +kernel
theorem sc_is_integer : FnScope ["value", "low", "high"] ["value", "low", "high"] (defScope (top 18)) := ⟨rfl, rfl, rfl, by decide +kernel, rfl, by decide +kernel, by decide +kernel⟩
theorem k_is_integer {P : Program} {w : World} {K : PySem.W.Frag} {mg : Str → Option Value} {base : Heap} (Z : Hd K mg) : Cal P w K mg base (adr K) (He.ga K "is_integer") 1 m_is_integer [] := by
  obtain ⟨fd, F⟩ := Z.c.def_ 1 (d := dd_is_integer) rfl
  refine ⟨⟨fd, ["value", "low", "high"], [], fn_m F sc_is_integer rfl rfl (fun cdv A outer s H E hr => ?_), (F.bindsN (ps := ["value", "low", "high"]) (fun _ _ _ _ _ _ us hl => match us, hl with | [_, _, _], _ => rfl)), Dfl.nil⟩, F.kp⟩
  exact (ms_cons (ms_ret (me_and (me_bi (mc_isi (isf Z)) rfl (f_isinstance Z) rfl (ma_cons (me_var rfl (by first | exact .inl rfl | exact .inr (.inl rfl) | exact .inr (.inr rfl)) rfl rfl) (ma_cons (me_ty (n := 0) rfl (f_int Z) rfl) ma_nil rfl) rfl)) (me_and (me_not (me_bi (mc_isi (isf Z)) rfl (f_isinstance Z) rfl (ma_cons (me_var rfl (by first | exact .inl rfl | exact .inr (.inl rfl) | exact .inr (.inr rfl)) rfl rfl) (ma_cons (me_ty (n := 2) rfl (f_bool Z) rfl) ma_nil rfl) rfl))) (me_one (me_chain mo_le mo_le (me_var rfl (by first | exact .inl rfl | exact .inr (.inl rfl) | exact .inr (.inr rfl)) rfl rfl) (me_var rfl (by first | exact .inl rfl | exact .inr (.inl rfl) | exact .inr (.inr rfl)) rfl rfl) (me_var rfl (by first | exact .inl rfl | exact .inr (.inl rfl) | exact .inr (.inr rfl)) rfl rfl) (by with_unfolding_all rfl)))))) ms_nil)
end K35

end
section
namespace K35
open PySem PySem.Spec PyProof.Rows L2 Mi
theorem nd_are_versions : (["value", "one", "other"] : List Str).Nodup := by decide +kernel
theorem sc_are_versions : FnScope ["value", "one", "other"] ["value"] (defScope (top 20)) := ⟨rfl, rfl, rfl, by decide +kernel, rfl, by decide +kernel, by decide +kernel⟩
theorem k_are_versions {P : Program} {w : World} {K : PySem.W.Frag} {mg : Str → Option Value} {base : Heap} (Z : Hd K mg) : Cal P w K mg base (adr K) (He.ga K "are_versions") 2 m_are_versions [] := by
  obtain ⟨fd, F⟩ := Z.c.def_ 2 (d := dd_are_versions) rfl
  refine ⟨⟨fd, ["value"], [], fn_m F sc_are_versions rfl rfl (fun cdv A outer s H E hr => ?_), (F.bindsN (ps := ["value"]) (fun _ _ _ _ _ _ us hl => match us, hl with | [_], _ => rfl)), Dfl.nil⟩, F.kp⟩
  exact (ms_cons (ms_if (MW.mt (mw_or (mt_not (mt_val (me_bi (mc_isi (isf Z)) rfl (f_isinstance Z) rfl (ma_cons (me_var rfl (by first | exact .inl rfl | exact .inr (.inl rfl) | exact .inr (.inr rfl)) rfl rfl) (ma_cons (me_ty (n := 3) rfl (f_tuple Z) rfl) ma_nil rfl) rfl)) (fun _ => rfl))) (mw_or (mt_cmpW (mo_eqB hr.hu) (me_var rfl (by first | exact .inl rfl | exact .inr (.inl rfl) | exact .inr (.inr rfl)) rfl rfl) (me_tup ma_nil) rfl) (mw_or1 (mt_not (mt_val (me_bi (mc_all rfl) rfl (f_all Z) rfl (ma_cons (me_lc (own := [("one", 1)]) rfl nd_are_versions (mi_any (me_var rfl (by first | exact .inl rfl | exact .inr (.inl rfl) | exact .inr (.inr rfl)) rfl rfl)) (blk_mk rfl (by rfl)) rfl (fun _ _ _ _ _ => (mg_name nd_are_versions rfl (by first | exact .inl rfl | exact .inr rfl) (by first | exact .inl rfl | exact .inr rfl) (sl := [1]) (by decide))) (fun _ _ _ _ _ => mts_nil) (fun _ _ _ _ _ => (me_cal (k_is_integer Z) (hr.mono (by omega)) rfl (g_is_integer Z) (takes0 rfl) (ma_cons (me_var rfl (by first | exact .inl rfl | exact .inr (.inl rfl) | exact .inr (.inr rfl)) rfl rfl) (ma_cons me_int (ma_cons (me_globI rfl (c_MAX_VERSION Z) rfl) ma_nil rfl) rfl) rfl) rfl rfl rfl)) (fun _ => rfl)) ma_nil rfl)) (fun _ => rfl))))))) (ms_cons (ms_ret me_bl) ms_nil) ms_nil) (ms_cons (ms_ret (me_bi (mc_all rfl) rfl (f_all Z) rfl (ma_cons (me_lc (own := [("one", 1), ("other", 2)]) rfl nd_are_versions (mi_zip rfl (f_zip Z) (ma_cons (me_var rfl (by first | exact .inl rfl | exact .inr (.inl rfl) | exact .inr (.inr rfl)) rfl rfl) (ma_cons (me_slice (me_var rfl (by first | exact .inl rfl | exact .inr (.inl rfl) | exact .inr (.inr rfl)) rfl rfl) (mo_some me_int) mo_none) ma_nil rfl) rfl)) (blk_mk rfl (by rfl)) rfl (fun _ _ _ _ _ => (mg_tup rfl (mgs_cons (mg_name nd_are_versions rfl (by first | exact .inl rfl | exact .inr rfl) (by first | exact .inl rfl | exact .inr rfl) (sl := [1, 2]) (by decide)) (mgs_cons (mg_name nd_are_versions rfl (by first | exact .inl rfl | exact .inr rfl) (by first | exact .inl rfl | exact .inr rfl) (sl := [1, 2]) (by decide)) mgs_nil rfl) rfl) rfl rfl)) (fun _ _ _ _ _ => mts_nil) (fun _ _ _ _ _ => (me_cmpW mo_lt (me_var rfl (by first | exact .inl rfl | exact .inr (.inl rfl) | exact .inr (.inr rfl)) rfl rfl) (me_var rfl (by first | exact .inl rfl | exact .inr (.inl rfl) | exact .inr (.inr rfl)) rfl rfl) rfl)) (fun _ => rfl)) ma_nil rfl))) ms_nil))
end K35

end
section
namespace K35
open PySem PySem.Spec PyProof.Rows L2 Mi
theorem nd_Bound_init : (["self", "first", "versions", "second", "others", "cost"] : List Str).Nodup := by decide +kernel
theorem sc_Bound_init : FnScope ["self", "first", "versions", "second", "others", "cost"] ["self", "first", "versions", "second", "others", "cost"] (defScope (mth 21 0)) := ⟨rfl, rfl, rfl, by decide +kernel, rfl, by decide +kernel, by decide +kernel⟩
theorem g0_Bound_init {P : Program} {w : World} {K : PySem.W.Frag} {mg : Str → Option Value} {base : Heap} (Z : Hd K mg) {fd : FuncData} (F : FunD K dd_Bound_init.name dd_Bound_init.qual dd_Bound_init.params dd_Bound_init.body dd_Bound_init.scope (dd_Bound_init.dvs K) (dd_Bound_init.kws K) (He.fAd K dd_Bound_init.at_) fd) : FnOk P w K mg base (L2.CX P w) 3 (He.ma K (He.ga K "Bound") "__init__") fd ["self", "first", "versions", "second", "others", "cost"] (spM ⟨P, w, K, adr K⟩ m_Bound_init) := by
  refine fn_m F sc_Bound_init rfl rfl fun cdv A outer s H E hr => ?_
  exact (ms_cons (ms_if (MW.mt (mw_or (mt_not (mt_val (me_cal (k_is_name Z) (hr.mono (by omega)) rfl (g_is_name Z) (takes_of rfl rfl rfl rfl) (ma_cons (me_var rfl (by first | exact .inl rfl | exact .inr (.inl rfl) | exact .inr (.inr rfl)) rfl rfl) ma_nil rfl) rfl rfl rfl) (fun _ => rfl))) (mw_or (mt_not (mt_val (me_cal (k_is_name Z) (hr.mono (by omega)) rfl (g_is_name Z) (takes_of rfl rfl rfl rfl) (ma_cons (me_var rfl (by first | exact .inl rfl | exact .inr (.inl rfl) | exact .inr (.inr rfl)) rfl rfl) ma_nil rfl) rfl rfl rfl) (fun _ => rfl))) (mw_or1 (mt_cmpW (mo_eqB hr.hu) (me_var rfl (by first | exact .inl rfl | exact .inr (.inl rfl) | exact .inr (.inr rfl)) rfl rfl) (me_var rfl (by first | exact .inl rfl | exact .inr (.inl rfl) | exact .inr (.inr rfl)) rfl rfl) rfl))))) (ms_cons ms_never ms_nil) ms_nil) (ms_cons (ms_if (MW.mt (mw_or (mt_not (mt_val (me_cal (k_are_versions Z) (hr.mono (by omega)) rfl (g_are_versions Z) (takes_of rfl rfl rfl rfl) (ma_cons (me_var rfl (by first | exact .inl rfl | exact .inr (.inl rfl) | exact .inr (.inr rfl)) rfl rfl) ma_nil rfl) rfl rfl rfl) (fun _ => rfl))) (mw_or1 (mt_not (mt_val (me_cal (k_are_versions Z) (hr.mono (by omega)) rfl (g_are_versions Z) (takes_of rfl rfl rfl rfl) (ma_cons (me_var rfl (by first | exact .inl rfl | exact .inr (.inl rfl) | exact .inr (.inr rfl)) rfl rfl) ma_nil rfl) rfl rfl rfl) (fun _ => rfl)))))) (ms_cons ms_never ms_nil) ms_nil) (ms_cons (ms_if (mt_not (mt_val (me_cal (k_is_integer Z) (hr.mono (by omega)) rfl (g_is_integer Z) (takes_of rfl rfl rfl rfl) (ma_cons (me_var rfl (by first | exact .inl rfl | exact .inr (.inl rfl) | exact .inr (.inr rfl)) rfl rfl) (ma_cons me_int (ma_cons (me_globI rfl (c_MAX_COST Z) rfl) ma_nil rfl) rfl) rfl) rfl rfl rfl) (fun _ => rfl))) (ms_cons ms_never ms_nil) ms_nil) (ms_cons (ms_fld (me_var rfl (by first | exact .inl rfl | exact .inr (.inl rfl) | exact .inr (.inr rfl)) rfl rfl) (me_tup (ma_cons (me_tup (ma_cons (me_var rfl (by first | exact .inl rfl | exact .inr (.inl rfl) | exact .inr (.inr rfl)) rfl rfl) (ma_cons (me_var rfl (by first | exact .inl rfl | exact .inr (.inl rfl) | exact .inr (.inr rfl)) rfl rfl) ma_nil rfl) rfl)) (ma_cons (me_tup (ma_cons (me_var rfl (by first | exact .inl rfl | exact .inr (.inl rfl) | exact .inr (.inr rfl)) rfl rfl) (ma_cons (me_var rfl (by first | exact .inl rfl | exact .inr (.inl rfl) | exact .inr (.inr rfl)) rfl rfl) ma_nil rfl) rfl)) ma_nil rfl) rfl)) (a_sides Z) rfl) (ms_cons (ms_fld (me_var rfl (by first | exact .inl rfl | exact .inr (.inl rfl) | exact .inr (.inr rfl)) rfl rfl) (me_var rfl (by first | exact .inl rfl | exact .inr (.inl rfl) | exact .inr (.inr rfl)) rfl rfl) (a_charge Z) rfl) ms_nil)))))
theorem k_Bound_init {P : Program} {w : World} {K : PySem.W.Frag} {mg : Str → Option Value} {base : Heap} (Z : Hd K mg) : Cal P w K mg base (adr K) (He.ma K (He.ga K "Bound") "__init__") 3 m_Bound_init [.int 1] := by
  obtain ⟨fd, F⟩ := Z.c.def_ 3 (d := dd_Bound_init) rfl
  obtain ⟨ds, hv, hb⟩ := F.binds0 (ps := ["self", "first", "versions", "second", "others", "cost"]) 5 (by simp [He.DefD.kws]) rfl (fun D doc pm an cdv ct us ks h1 h2 => match us, ks, h1, h2 with | [_, _, _, _, _], [_], _, _ => ⟨_, _, _, _, _, _, rfl, rfl, rfl⟩)
  exact ⟨⟨fd, _, ds, g0_Bound_init Z F, hb, dfl_int hv⟩, F.kp⟩
theorem kk_Bound_init {P : Program} {w : World} {K : PySem.W.Frag} {mg : Str → Option Value} {base : Heap} (Z : Hd K mg) : CalK P w K mg base (adr K) (He.ma K (He.ga K "Bound") "__init__") 3 4 ["cost"] m_Bound_init := by
  obtain ⟨fd, F⟩ := Z.c.def_ 3 (d := dd_Bound_init) rfl
  obtain ⟨mv, hb⟩ := F.kbinds0 (ps := ["self", "first", "versions", "second", "others", "cost"]) 5 ["cost"] [] (fun us _ ws => us ++ ws) (by simp [He.DefD.kws]) (fun _ h => nomatch h) (fun r1 _ r2 => r1.append r2) (fun D doc pm an cdv ct us mv ws h1 h2 h3 => match us, mv, ws, h1, h2, h3 with | [_, _, _, _, _], [], [_], _, _, _ => rfl)
  exact ⟨fd, _, g0_Bound_init Z F, hb⟩
end K35

end
section
namespace K35
open PySem PySem.Spec PyProof.Rows L2 Mi
theorem nd_are_packages : (["value", "name", "most"] : List Str).Nodup := by decide +kernel
theorem sc_are_packages : FnScope ["value", "name", "most"] ["value"] (defScope (top 22)) := ⟨rfl, rfl, rfl, by decide +kernel, rfl, by decide +kernel, by decide +kernel⟩
theorem k_are_packages {P : Program} {w : World} {K : PySem.W.Frag} {mg : Str → Option Value} {base : Heap} (Z : Hd K mg) : Cal P w K mg base (adr K) (He.ga K "are_packages") 2 m_are_packages [] := by
  obtain ⟨fd, F⟩ := Z.c.def_ 4 (d := dd_are_packages) rfl
  refine ⟨⟨fd, ["value"], [], fn_m F sc_are_packages rfl rfl (fun cdv A outer s H E hr => ?_), (F.bindsN (ps := ["value"]) (fun _ _ _ _ _ _ us hl => match us, hl with | [_], _ => rfl)), Dfl.nil⟩, F.kp⟩
  exact (ms_cons (ms_if (MW.mt (mw_or (mt_not (mt_val (me_bi (mc_isi (isf Z)) rfl (f_isinstance Z) rfl (ma_cons (me_var rfl (by first | exact .inl rfl | exact .inr (.inl rfl) | exact .inr (.inr rfl)) rfl rfl) (ma_cons (me_ty (n := 5) rfl (f_dict Z) rfl) ma_nil rfl) rfl)) (fun _ => rfl))) (mw_or1 (mt_not (mt_chain mo_le mo_le me_int (me_bi mc_len rfl (f_len Z) rfl (ma_cons (me_var rfl (by first | exact .inl rfl | exact .inr (.inl rfl) | exact .inr (.inr rfl)) rfl rfl) ma_nil rfl)) (me_globI rfl (c_MAX_PACKAGES Z) rfl) (by with_unfolding_all rfl)))))) (ms_cons (ms_ret me_bl) ms_nil) ms_nil) (ms_cons (ms_ret (me_bi (mc_all rfl) rfl (f_all Z) rfl (ma_cons (me_lc (own := [("name", 1), ("most", 2)]) rfl nd_are_packages (mi_items (me_var rfl (by first | exact .inl rfl | exact .inr (.inl rfl) | exact .inr (.inr rfl)) rfl rfl)) (blk_mk rfl (by rfl)) rfl (fun _ _ _ _ _ => (mg_tup rfl (mgs_cons (mg_name nd_are_packages rfl (by first | exact .inl rfl | exact .inr rfl) (by first | exact .inl rfl | exact .inr rfl) (sl := [1, 2]) (by decide)) (mgs_cons (mg_name nd_are_packages rfl (by first | exact .inl rfl | exact .inr rfl) (by first | exact .inl rfl | exact .inr rfl) (sl := [1, 2]) (by decide)) mgs_nil rfl) rfl) rfl rfl)) (fun _ _ _ _ _ => mts_nil) (fun _ _ _ _ _ => (me_and (me_cal (k_is_name Z) (hr.mono (by omega)) rfl (g_is_name Z) (takes0 rfl) (ma_cons (me_var rfl (by first | exact .inl rfl | exact .inr (.inl rfl) | exact .inr (.inr rfl)) rfl rfl) ma_nil rfl) rfl rfl rfl) (me_one (me_cal (k_is_integer Z) (hr.mono (by omega)) rfl (g_is_integer Z) (takes0 rfl) (ma_cons (me_var rfl (by first | exact .inl rfl | exact .inr (.inl rfl) | exact .inr (.inr rfl)) rfl rfl) (ma_cons me_int (ma_cons (me_globI rfl (c_MAX_VERSION Z) rfl) ma_nil rfl) rfl) rfl) rfl rfl rfl)))) (fun _ => rfl)) ma_nil rfl))) ms_nil))
end K35

end
section
namespace K35
open PySem PySem.Spec PyProof.Rows L2 Mi
theorem nd_are_others : (["packages", "name", "value", "one"] : List Str).Nodup := by decide +kernel
theorem sc_are_others : FnScope ["packages", "name", "value", "one"] ["packages", "name", "value"] (defScope (top 24)) := ⟨rfl, rfl, rfl, by decide +kernel, rfl, by decide +kernel, by decide +kernel⟩
theorem k_are_others {P : Program} {w : World} {K : PySem.W.Frag} {mg : Str → Option Value} {base : Heap} (Z : Hd K mg) : Cal P w K mg base (adr K) (He.ga K "are_others") 1 m_are_others [] := by
  obtain ⟨fd, F⟩ := Z.c.def_ 5 (d := dd_are_others) rfl
  refine ⟨⟨fd, ["packages", "name", "value"], [], fn_m F sc_are_others rfl rfl (fun cdv A outer s H E hr => ?_), (F.bindsN (ps := ["packages", "name", "value"]) (fun _ _ _ _ _ _ us hl => match us, hl with | [_, _, _], _ => rfl)), Dfl.nil⟩, F.kp⟩
  exact (ms_cons (ms_if (MW.mt (mw_or (mt_not (mt_val (me_bi (mc_isi (isf Z)) rfl (f_isinstance Z) rfl (ma_cons (me_var rfl (by first | exact .inl rfl | exact .inr (.inl rfl) | exact .inr (.inr rfl)) rfl rfl) (ma_cons (me_ty (n := 3) rfl (f_tuple Z) rfl) ma_nil rfl) rfl)) (fun _ => rfl))) (mw_or1 (mt_not (mt_val (me_bi (mc_all rfl) rfl (f_all Z) rfl (ma_cons (me_lc (own := [("one", 3)]) rfl nd_are_others (mi_any (me_var rfl (by first | exact .inl rfl | exact .inr (.inl rfl) | exact .inr (.inr rfl)) rfl rfl)) (blk_mk rfl (by rfl)) rfl (fun _ _ _ _ _ => (mg_name nd_are_others rfl (by first | exact .inl rfl | exact .inr rfl) (by first | exact .inl rfl | exact .inr rfl) (sl := [3]) (by decide))) (fun _ _ _ _ _ => mts_nil) (fun _ _ _ _ _ => (me_and (me_bi (mc_isi (isf Z)) rfl (f_isinstance Z) rfl (ma_cons (me_var rfl (by first | exact .inl rfl | exact .inr (.inl rfl) | exact .inr (.inr rfl)) rfl rfl) (ma_cons (me_ty (n := 1) rfl (f_str Z) rfl) ma_nil rfl) rfl)) (me_one (me_cmpW (mo_in hr.hu) (me_var rfl (by first | exact .inl rfl | exact .inr (.inl rfl) | exact .inr (.inr rfl)) rfl rfl) (me_var rfl (by first | exact .inl rfl | exact .inr (.inl rfl) | exact .inr (.inr rfl)) rfl rfl) rfl)))) (fun _ => rfl)) ma_nil rfl)) (fun _ => rfl)))))) (ms_cons (ms_ret me_bl) ms_nil) ms_nil) (ms_cons (ms_ret (me_and (me_cmpW (mo_notIn hr.hu) (me_var rfl (by first | exact .inl rfl | exact .inr (.inl rfl) | exact .inr (.inr rfl)) rfl rfl) (me_var rfl (by first | exact .inl rfl | exact .inr (.inl rfl) | exact .inr (.inr rfl)) rfl rfl) rfl) (me_one (me_cmpW (mo_eqB hr.hu) (me_bi mc_len rfl (f_len Z) rfl (ma_cons (me_dc (own := [("one", 3)]) hr.hu rfl nd_are_others (mi_any (me_var rfl (by first | exact .inl rfl | exact .inr (.inl rfl) | exact .inr (.inr rfl)) rfl rfl)) (blk_mk rfl (by rfl)) rfl (fun _ _ _ _ _ => (mg_name nd_are_others rfl (by first | exact .inl rfl | exact .inr rfl) (by first | exact .inl rfl | exact .inr rfl) (sl := [3]) (by decide))) (fun _ _ _ _ _ => mts_nil) (fun _ _ _ _ _ => (me_var rfl (by first | exact .inl rfl | exact .inr (.inl rfl) | exact .inr (.inr rfl)) rfl rfl)) (fun _ _ _ _ _ => me_bl) (fun _ => rfl)) ma_nil rfl)) (me_bi mc_len rfl (f_len Z) rfl (ma_cons (me_var rfl (by first | exact .inl rfl | exact .inr (.inl rfl) | exact .inr (.inr rfl)) rfl rfl) ma_nil rfl)) rfl)))) ms_nil))
end K35

end
section
namespace K35
open PySem PySem.Spec PyProof.Rows L2 Mi
theorem nd_is_item : (["packages", "value"] : List Str).Nodup := by decide +kernel
theorem sc_is_item : FnScope ["packages", "value"] ["packages", "value"] (defScope (top 23)) := ⟨rfl, rfl, rfl, by decide +kernel, rfl, by decide +kernel, by decide +kernel⟩
theorem k_is_item {P : Program} {w : World} {K : PySem.W.Frag} {mg : Str → Option Value} {base : Heap} (Z : Hd K mg) : Cal P w K mg base (adr K) (He.ga K "is_item") 2 m_is_item [] := by
  obtain ⟨fd, F⟩ := Z.c.def_ 6 (d := dd_is_item) rfl
  refine ⟨⟨fd, ["packages", "value"], [], fn_m F sc_is_item rfl rfl (fun cdv A outer s H E hr => ?_), (F.bindsN (ps := ["packages", "value"]) (fun _ _ _ _ _ _ us hl => match us, hl with | [_, _], _ => rfl)), Dfl.nil⟩, F.kp⟩
  exact (ms_cons (ms_if (MW.mt (mw_or (mt_not (mt_val (me_bi (mc_isi (isf Z)) rfl (f_isinstance Z) rfl (ma_cons (me_var rfl (by first | exact .inl rfl | exact .inr (.inl rfl) | exact .inr (.inr rfl)) rfl rfl) (ma_cons (me_ty (n := 3) rfl (f_tuple Z) rfl) ma_nil rfl) rfl)) (fun _ => rfl))) (mw_or (mt_cmpW (mo_neB hr.hu) (me_bi mc_len rfl (f_len Z) rfl (ma_cons (me_var rfl (by first | exact .inl rfl | exact .inr (.inl rfl) | exact .inr (.inr rfl)) rfl rfl) ma_nil rfl)) me_int rfl) (mw_or (mt_not (mt_val (me_bi (mc_isi (isf Z)) rfl (f_isinstance Z) rfl (ma_cons (me_ix hr.hu (me_var rfl (by first | exact .inl rfl | exact .inr (.inl rfl) | exact .inr (.inr rfl)) rfl rfl) me_int (fun _ _ => rfl)) (ma_cons (me_ty (n := 1) rfl (f_str Z) rfl) ma_nil rfl) rfl)) (fun _ => rfl))) (mw_or1 (mt_cmpW (mo_notIn hr.hu) (me_ix hr.hu (me_var rfl (by first | exact .inl rfl | exact .inr (.inl rfl) | exact .inr (.inr rfl)) rfl rfl) me_int (fun _ _ => rfl)) (me_var rfl (by first | exact .inl rfl | exact .inr (.inl rfl) | exact .inr (.inr rfl)) rfl rfl) rfl)))))) (ms_cons (ms_ret me_bl) ms_nil) ms_nil) (ms_cons (ms_ret (me_cal (k_is_integer Z) (hr.mono (by omega)) rfl (g_is_integer Z) (takes_of rfl rfl rfl rfl) (ma_cons (me_ix hr.hu (me_var rfl (by first | exact .inl rfl | exact .inr (.inl rfl) | exact .inr (.inr rfl)) rfl rfl) me_int (fun _ _ => rfl)) (ma_cons me_int (ma_cons (me_ix hr.hu (me_var rfl (by first | exact .inl rfl | exact .inr (.inl rfl) | exact .inr (.inr rfl)) rfl rfl) (me_ix hr.hu (me_var rfl (by first | exact .inl rfl | exact .inr (.inl rfl) | exact .inr (.inr rfl)) rfl rfl) me_int (fun _ _ => rfl)) (fun _ _ => rfl)) ma_nil rfl) rfl) rfl) rfl rfl rfl)) ms_nil))
end K35

end
section
namespace K35
open PySem PySem.Spec PyProof.Rows L2 Mi
theorem nd_are_needs : (["packages", "value", "item", "some"] : List Str).Nodup := by decide +kernel
theorem sc_are_needs : FnScope ["packages", "value", "item", "some"] ["packages", "value"] (defScope (top 25)) := ⟨rfl, rfl, rfl, by decide +kernel, rfl, by decide +kernel, by decide +kernel⟩
theorem k_are_needs {P : Program} {w : World} {K : PySem.W.Frag} {mg : Str → Option Value} {base : Heap} (Z : Hd K mg) : Cal P w K mg base (adr K) (He.ga K "are_needs") 3 m_are_needs [] := by
  obtain ⟨fd, F⟩ := Z.c.def_ 7 (d := dd_are_needs) rfl
  refine ⟨⟨fd, ["packages", "value"], [], fn_m F sc_are_needs rfl rfl (fun cdv A outer s H E hr => ?_), (F.bindsN (ps := ["packages", "value"]) (fun _ _ _ _ _ _ us hl => match us, hl with | [_, _], _ => rfl)), Dfl.nil⟩, F.kp⟩
  exact (ms_cons (ms_if (mt_not (mt_val (me_bi (mc_isi (isf Z)) rfl (f_isinstance Z) rfl (ma_cons (me_var rfl (by first | exact .inl rfl | exact .inr (.inl rfl) | exact .inr (.inr rfl)) rfl rfl) (ma_cons (me_ty (n := 5) rfl (f_dict Z) rfl) ma_nil rfl) rfl)) (fun _ => rfl))) (ms_cons (ms_ret me_bl) ms_nil) ms_nil) (ms_cons (ms_ret (me_bi (mc_all rfl) rfl (f_all Z) rfl (ma_cons (me_lc (own := [("item", 2), ("some", 3)]) rfl nd_are_needs (mi_items (me_var rfl (by first | exact .inl rfl | exact .inr (.inl rfl) | exact .inr (.inr rfl)) rfl rfl)) (blk_mk rfl (by rfl)) rfl (fun _ _ _ _ _ => (mg_tup rfl (mgs_cons (mg_name nd_are_needs rfl (by first | exact .inl rfl | exact .inr rfl) (by first | exact .inl rfl | exact .inr rfl) (sl := [2, 3]) (by decide)) (mgs_cons (mg_name nd_are_needs rfl (by first | exact .inl rfl | exact .inr rfl) (by first | exact .inl rfl | exact .inr rfl) (sl := [2, 3]) (by decide)) mgs_nil rfl) rfl) rfl rfl)) (fun _ _ _ _ _ => mts_nil) (fun _ _ _ _ _ => (me_and (me_cal (k_is_item Z) (hr.mono (by omega)) rfl (g_is_item Z) (takes0 rfl) (ma_cons (me_var rfl (by first | exact .inl rfl | exact .inr (.inl rfl) | exact .inr (.inr rfl)) rfl rfl) (ma_cons (me_var rfl (by first | exact .inl rfl | exact .inr (.inl rfl) | exact .inr (.inr rfl)) rfl rfl) ma_nil rfl) rfl) rfl rfl rfl) (me_one (me_cal (k_are_others Z) (hr.mono (by omega)) rfl (g_are_others Z) (takes0 rfl) (ma_cons (me_var rfl (by first | exact .inl rfl | exact .inr (.inl rfl) | exact .inr (.inr rfl)) rfl rfl) (ma_cons (me_ix hr.hu (me_var rfl (by first | exact .inl rfl | exact .inr (.inl rfl) | exact .inr (.inr rfl)) rfl rfl) me_int (fun _ _ => rfl)) (ma_cons (me_var rfl (by first | exact .inl rfl | exact .inr (.inl rfl) | exact .inr (.inr rfl)) rfl rfl) ma_nil rfl) rfl) rfl) rfl rfl rfl)))) (fun _ => rfl)) ma_nil rfl))) ms_nil))
end K35

end
section
namespace K35
open PySem PySem.Spec PyProof.Rows L2 Mi
theorem nd_is_break : (["packages", "value", "item"] : List Str).Nodup := by decide +kernel
theorem sc_is_break : FnScope ["packages", "value", "item"] ["packages", "value"] (defScope (top 26)) := ⟨rfl, rfl, rfl, by decide +kernel, rfl, by decide +kernel, by decide +kernel⟩
theorem k_is_break {P : Program} {w : World} {K : PySem.W.Frag} {mg : Str → Option Value} {base : Heap} (Z : Hd K mg) : Cal P w K mg base (adr K) (He.ga K "is_break") 3 m_is_break [] := by
  obtain ⟨fd, F⟩ := Z.c.def_ 8 (d := dd_is_break) rfl
  refine ⟨⟨fd, ["packages", "value"], [], fn_m F sc_is_break rfl rfl (fun cdv A outer s H E hr => ?_), (F.bindsN (ps := ["packages", "value"]) (fun _ _ _ _ _ _ us hl => match us, hl with | [_, _], _ => rfl)), Dfl.nil⟩, F.kp⟩
  exact (ms_cons (ms_if (MW.mt (mw_or (mt_not (mt_val (me_bi (mc_isi (isf Z)) rfl (f_isinstance Z) rfl (ma_cons (me_var rfl (by first | exact .inl rfl | exact .inr (.inl rfl) | exact .inr (.inr rfl)) rfl rfl) (ma_cons (me_ty (n := 3) rfl (f_tuple Z) rfl) ma_nil rfl) rfl)) (fun _ => rfl))) (mw_or (mt_cmpW (mo_neB hr.hu) (me_bi mc_len rfl (f_len Z) rfl (ma_cons (me_var rfl (by first | exact .inl rfl | exact .inr (.inl rfl) | exact .inr (.inr rfl)) rfl rfl) ma_nil rfl)) me_int rfl) (mw_or1 (mt_not (mt_val (me_bi (mc_all rfl) rfl (f_all Z) rfl (ma_cons (me_lc (own := [("item", 2)]) rfl nd_is_break (mi_any (me_var rfl (by first | exact .inl rfl | exact .inr (.inl rfl) | exact .inr (.inr rfl)) rfl rfl)) (blk_mk rfl (by rfl)) rfl (fun _ _ _ _ _ => (mg_name nd_is_break rfl (by first | exact .inl rfl | exact .inr rfl) (by first | exact .inl rfl | exact .inr rfl) (sl := [2]) (by decide))) (fun _ _ _ _ _ => mts_nil) (fun _ _ _ _ _ => (me_cal (k_is_item Z) (hr.mono (by omega)) rfl (g_is_item Z) (takes0 rfl) (ma_cons (me_var rfl (by first | exact .inl rfl | exact .inr (.inl rfl) | exact .inr (.inr rfl)) rfl rfl) (ma_cons (me_var rfl (by first | exact .inl rfl | exact .inr (.inl rfl) | exact .inr (.inr rfl)) rfl rfl) ma_nil rfl) rfl) rfl rfl rfl)) (fun _ => rfl)) ma_nil rfl)) (fun _ => rfl))))))) (ms_cons (ms_ret me_bl) ms_nil) ms_nil) (ms_cons (ms_ret (me_cmpW (mo_neB hr.hu) (me_ix hr.hu (me_ix hr.hu (me_var rfl (by first | exact .inl rfl | exact .inr (.inl rfl) | exact .inr (.inr rfl)) rfl rfl) me_int (fun _ _ => rfl)) me_int (fun _ _ => rfl)) (me_ix hr.hu (me_ix hr.hu (me_var rfl (by first | exact .inl rfl | exact .inr (.inl rfl) | exact .inr (.inr rfl)) rfl rfl) me_int (fun _ _ => rfl)) me_int (fun _ _ => rfl)) rfl)) ms_nil))
end K35

end
section
namespace K35
open PySem PySem.Spec PyProof.Rows L2 Mi
theorem nd_is_request : (["packages", "value", "name", "one"] : List Str).Nodup := by decide +kernel
theorem sc_is_request : FnScope ["packages", "value", "name", "one"] ["packages", "value"] (defScope (top 27)) := ⟨rfl, rfl, rfl, by decide +kernel, rfl, by decide +kernel, by decide +kernel⟩
theorem k_is_request {P : Program} {w : World} {K : PySem.W.Frag} {mg : Str → Option Value} {base : Heap} (Z : Hd K mg) : Cal P w K mg base (adr K) (He.ga K "is_request") 1 m_is_request [] := by
  obtain ⟨fd, F⟩ := Z.c.def_ 9 (d := dd_is_request) rfl
  refine ⟨⟨fd, ["packages", "value"], [], fn_m F sc_is_request rfl rfl (fun cdv A outer s H E hr => ?_), (F.bindsN (ps := ["packages", "value"]) (fun _ _ _ _ _ _ us hl => match us, hl with | [_, _], _ => rfl)), Dfl.nil⟩, F.kp⟩
  exact (ms_cons (ms_if (MW.mt (mw_or (mt_not (mt_val (me_bi (mc_isi (isf Z)) rfl (f_isinstance Z) rfl (ma_cons (me_var rfl (by first | exact .inl rfl | exact .inr (.inl rfl) | exact .inr (.inr rfl)) rfl rfl) (ma_cons (me_ty (n := 3) rfl (f_tuple Z) rfl) ma_nil rfl) rfl)) (fun _ => rfl))) (mw_or (mt_cmpW (mo_eqB hr.hu) (me_var rfl (by first | exact .inl rfl | exact .inr (.inl rfl) | exact .inr (.inr rfl)) rfl rfl) (me_tup ma_nil) rfl) (mw_or1 (mt_not (mt_val (me_bi (mc_all rfl) rfl (f_all Z) rfl (ma_cons (me_lc (own := [("one", 3)]) rfl nd_is_request (mi_any (me_var rfl (by first | exact .inl rfl | exact .inr (.inl rfl) | exact .inr (.inr rfl)) rfl rfl)) (blk_mk rfl (by rfl)) rfl (fun _ _ _ _ _ => (mg_name nd_is_request rfl (by first | exact .inl rfl | exact .inr rfl) (by first | exact .inl rfl | exact .inr rfl) (sl := [3]) (by decide))) (fun _ _ _ _ _ => mts_nil) (fun _ _ _ _ _ => (me_bi (mc_isi (isf Z)) rfl (f_isinstance Z) rfl (ma_cons (me_var rfl (by first | exact .inl rfl | exact .inr (.inl rfl) | exact .inr (.inr rfl)) rfl rfl) (ma_cons (me_ty (n := 1) rfl (f_str Z) rfl) ma_nil rfl) rfl))) (fun _ => rfl)) ma_nil rfl)) (fun _ => rfl))))))) (ms_cons (ms_ret me_bl) ms_nil) ms_nil) (ms_cons (ms_ret (me_cmpW (mo_eqB hr.hu) (me_bt (mc_list rfl) rfl (f_list Z) rfl (ma_cons (me_var rfl (by first | exact .inl rfl | exact .inr (.inl rfl) | exact .inr (.inr rfl)) rfl rfl) ma_nil rfl)) (me_lc (own := [("name", 2)]) rfl nd_is_request (mi_any (me_var rfl (by first | exact .inl rfl | exact .inr (.inl rfl) | exact .inr (.inr rfl)) rfl rfl)) (blk_mk rfl (by rfl)) rfl (fun _ _ _ _ _ => (mg_name nd_is_request rfl (by first | exact .inl rfl | exact .inr rfl) (by first | exact .inl rfl | exact .inr rfl) (sl := [2]) (by decide))) (fun _ _ _ _ _ => (mts_one (mt_cmpW (mo_in hr.hu) (me_var rfl (by first | exact .inl rfl | exact .inr (.inl rfl) | exact .inr (.inr rfl)) rfl rfl) (me_var rfl (by first | exact .inl rfl | exact .inr (.inl rfl) | exact .inr (.inr rfl)) rfl rfl) rfl))) (fun _ _ _ _ _ => (me_var rfl (by first | exact .inl rfl | exact .inr (.inl rfl) | exact .inr (.inr rfl)) rfl rfl)) (fun _ => rfl)) rfl)) ms_nil))
end K35

end
section
namespace K35
open PySem PySem.Spec PyProof.Rows L2 Mi
theorem nd_is_bound_of : (["packages", "value", "name", "versions"] : List Str).Nodup := by decide +kernel
theorem sc_is_bound_of : FnScope ["packages", "value", "name", "versions"] ["packages", "value"] (defScope (top 28)) := ⟨rfl, rfl, rfl, by decide +kernel, rfl, by decide +kernel, by decide +kernel⟩
theorem k_is_bound_of {P : Program} {w : World} {K : PySem.W.Frag} {mg : Str → Option Value} {base : Heap} (Z : Hd K mg) : Cal P w K mg base (adr K) (He.ga K "is_bound_of") 1 m_is_bound_of [] := by
  obtain ⟨fd, F⟩ := Z.c.def_ 10 (d := dd_is_bound_of) rfl
  refine ⟨⟨fd, ["packages", "value"], [], fn_m F sc_is_bound_of rfl rfl (fun cdv A outer s H E hr => ?_), (F.bindsN (ps := ["packages", "value"]) (fun _ _ _ _ _ _ us hl => match us, hl with | [_, _], _ => rfl)), Dfl.nil⟩, F.kp⟩
  exact (ms_cons (ms_if (mt_not (mt_val (me_bi (mc_isi (isf Z)) rfl (f_isinstance Z) rfl (ma_cons (me_var rfl (by first | exact .inl rfl | exact .inr (.inl rfl) | exact .inr (.inr rfl)) rfl rfl) (ma_cons (me_cls (c := 0) rfl (g_Bound Z)) ma_nil rfl) rfl)) (fun _ => rfl))) (ms_cons (ms_ret me_bl) ms_nil) ms_nil) (ms_cons (ms_ret (me_bi (mc_all rfl) rfl (f_all Z) rfl (ma_cons (me_lc (own := [("name", 2), ("versions", 3)]) rfl nd_is_bound_of (mi_any (me_fld (me_var rfl (by first | exact .inl rfl | exact .inr (.inl rfl) | exact .inr (.inr rfl)) rfl rfl) (a_sides Z) rfl)) (blk_mk rfl (by rfl)) rfl (fun _ _ _ _ _ => (mg_tup rfl (mgs_cons (mg_name nd_is_bound_of rfl (by first | exact .inl rfl | exact .inr rfl) (by first | exact .inl rfl | exact .inr rfl) (sl := [2, 3]) (by decide)) (mgs_cons (mg_name nd_is_bound_of rfl (by first | exact .inl rfl | exact .inr rfl) (by first | exact .inl rfl | exact .inr rfl) (sl := [2, 3]) (by decide)) mgs_nil rfl) rfl) rfl rfl)) (fun _ _ _ _ _ => mts_nil) (fun _ _ _ _ _ => (me_and (me_cmpW (mo_in hr.hu) (me_var rfl (by first | exact .inl rfl | exact .inr (.inl rfl) | exact .inr (.inr rfl)) rfl rfl) (me_var rfl (by first | exact .inl rfl | exact .inr (.inl rfl) | exact .inr (.inr rfl)) rfl rfl) rfl) (me_one (me_cmpW mo_le (me_ix hr.hu (me_var rfl (by first | exact .inl rfl | exact .inr (.inl rfl) | exact .inr (.inr rfl)) rfl rfl) (me_neg me_int) (fun _ _ => rfl)) (me_ix hr.hu (me_var rfl (by first | exact .inl rfl | exact .inr (.inl rfl) | exact .inr (.inr rfl)) rfl rfl) (me_var rfl (by first | exact .inl rfl | exact .inr (.inl rfl) | exact .inr (.inr rfl)) rfl rfl) (fun _ _ => rfl)) rfl)))) (fun _ => rfl)) ma_nil rfl))) ms_nil))
end K35

end
section
namespace K35
open PySem PySem.Spec PyProof.Rows L2 Mi
theorem nd_Shelf_init : (["self", "packages", "needs", "breaks", "requests", "bounds", "name", "count", "item", "some", "bound", "one", "pair"] : List Str).Nodup := by decide +kernel
theorem sc_Shelf_init : FnScope ["self", "packages", "needs", "breaks", "requests", "bounds", "name", "count", "item", "some", "bound", "one", "pair"] ["self", "packages", "needs", "breaks", "requests", "bounds"] (defScope (mth 29 0)) := ⟨rfl, rfl, rfl, by decide +kernel, rfl, by decide +kernel, by decide +kernel⟩
theorem k_Shelf_init {P : Program} {w : World} {K : PySem.W.Frag} {mg : Str → Option Value} {base : Heap} (Z : Hd K mg) : Cal P w K mg base (adr K) (He.ma K (He.ga K "Shelf") "__init__") 4 m_Shelf_init [] := by
  obtain ⟨fd, F⟩ := Z.c.def_ 11 (d := dd_Shelf_init) rfl
  refine ⟨⟨fd, ["self", "packages", "needs", "breaks", "requests", "bounds"], [], fn_m F sc_Shelf_init rfl rfl (fun cdv A outer s H E hr => ?_), (F.bindsN (ps := ["self", "packages", "needs", "breaks", "requests", "bounds"]) (fun _ _ _ _ _ _ us hl => match us, hl with | [_, _, _, _, _, _], _ => rfl)), Dfl.nil⟩, F.kp⟩
  exact (ms_cons (ms_if (mt_not (mt_val (me_cal (k_are_packages Z) (hr.mono (by omega)) rfl (g_are_packages Z) (takes_of rfl rfl rfl rfl) (ma_cons (me_var rfl (by first | exact .inl rfl | exact .inr (.inl rfl) | exact .inr (.inr rfl)) rfl rfl) ma_nil rfl) rfl rfl rfl) (fun _ => rfl))) (ms_cons ms_never ms_nil) ms_nil) (ms_cons (ms_if (mt_not (mt_val (me_cal (k_are_needs Z) (hr.mono (by omega)) rfl (g_are_needs Z) (takes_of rfl rfl rfl rfl) (ma_cons (me_var rfl (by first | exact .inl rfl | exact .inr (.inl rfl) | exact .inr (.inr rfl)) rfl rfl) (ma_cons (me_var rfl (by first | exact .inl rfl | exact .inr (.inl rfl) | exact .inr (.inr rfl)) rfl rfl) ma_nil rfl) rfl) rfl rfl rfl) (fun _ => rfl))) (ms_cons ms_never ms_nil) ms_nil) (ms_cons (ms_if (MW.mt (mw_or (mt_not (mt_val (me_bi (mc_isi (isf Z)) rfl (f_isinstance Z) rfl (ma_cons (me_var rfl (by first | exact .inl rfl | exact .inr (.inl rfl) | exact .inr (.inr rfl)) rfl rfl) (ma_cons (me_tup (ma_cons (me_ty (n := 4) rfl (f_list Z) rfl) (ma_cons (me_ty (n := 3) rfl (f_tuple Z) rfl) ma_nil rfl) rfl)) ma_nil rfl) rfl)) (fun _ => rfl))) (mw_or1 (mt_not (mt_val (me_bi (mc_all rfl) rfl (f_all Z) rfl (ma_cons (me_lc (own := [("pair", 12)]) rfl nd_Shelf_init (mi_any (me_var rfl (by first | exact .inl rfl | exact .inr (.inl rfl) | exact .inr (.inr rfl)) rfl rfl)) (blk_mk rfl (by rfl)) rfl (fun _ _ _ _ _ => (mg_name nd_Shelf_init rfl (by first | exact .inl rfl | exact .inr rfl) (by first | exact .inl rfl | exact .inr rfl) (sl := [12]) (by decide))) (fun _ _ _ _ _ => mts_nil) (fun _ _ _ _ _ => (me_cal (k_is_break Z) (hr.mono (by omega)) rfl (g_is_break Z) (takes0 rfl) (ma_cons (me_var rfl (by first | exact .inl rfl | exact .inr (.inl rfl) | exact .inr (.inr rfl)) rfl rfl) (ma_cons (me_var rfl (by first | exact .inl rfl | exact .inr (.inl rfl) | exact .inr (.inr rfl)) rfl rfl) ma_nil rfl) rfl) rfl rfl rfl)) (fun _ => rfl)) ma_nil rfl)) (fun _ => rfl)))))) (ms_cons ms_never ms_nil) ms_nil) (ms_cons (ms_if (MW.mt (mw_or (mt_not (mt_val (me_bi (mc_isi (isf Z)) rfl (f_isinstance Z) rfl (ma_cons (me_var rfl (by first | exact .inl rfl | exact .inr (.inl rfl) | exact .inr (.inr rfl)) rfl rfl) (ma_cons (me_tup (ma_cons (me_ty (n := 4) rfl (f_list Z) rfl) (ma_cons (me_ty (n := 3) rfl (f_tuple Z) rfl) ma_nil rfl) rfl)) ma_nil rfl) rfl)) (fun _ => rfl))) (mw_or1 (mt_not (mt_chain mo_le mo_le me_int (me_bi mc_len rfl (f_len Z) rfl (ma_cons (me_var rfl (by first | exact .inl rfl | exact .inr (.inl rfl) | exact .inr (.inr rfl)) rfl rfl) ma_nil rfl)) (me_globI rfl (c_MAX_REQUESTS Z) rfl) (by with_unfolding_all rfl)))))) (ms_cons ms_never ms_nil) ms_nil) (ms_cons (ms_if (mt_not (mt_val (me_bi (mc_all rfl) rfl (f_all Z) rfl (ma_cons (me_lc (own := [("one", 11)]) rfl nd_Shelf_init (mi_any (me_var rfl (by first | exact .inl rfl | exact .inr (.inl rfl) | exact .inr (.inr rfl)) rfl rfl)) (blk_mk rfl (by rfl)) rfl (fun _ _ _ _ _ => (mg_name nd_Shelf_init rfl (by first | exact .inl rfl | exact .inr rfl) (by first | exact .inl rfl | exact .inr rfl) (sl := [11]) (by decide))) (fun _ _ _ _ _ => mts_nil) (fun _ _ _ _ _ => (me_cal (k_is_request Z) (hr.mono (by omega)) rfl (g_is_request Z) (takes0 rfl) (ma_cons (me_var rfl (by first | exact .inl rfl | exact .inr (.inl rfl) | exact .inr (.inr rfl)) rfl rfl) (ma_cons (me_var rfl (by first | exact .inl rfl | exact .inr (.inl rfl) | exact .inr (.inr rfl)) rfl rfl) ma_nil rfl) rfl) rfl rfl rfl)) (fun _ => rfl)) ma_nil rfl)) (fun _ => rfl))) (ms_cons ms_never ms_nil) ms_nil) (ms_cons (ms_if (MW.mt (mw_or (mt_not (mt_val (me_bi (mc_isi (isf Z)) rfl (f_isinstance Z) rfl (ma_cons (me_var rfl (by first | exact .inl rfl | exact .inr (.inl rfl) | exact .inr (.inr rfl)) rfl rfl) (ma_cons (me_ty (n := 5) rfl (f_dict Z) rfl) ma_nil rfl) rfl)) (fun _ => rfl))) (mw_or1 (mt_cmpW mo_gt (me_bi mc_len rfl (f_len Z) rfl (ma_cons (me_var rfl (by first | exact .inl rfl | exact .inr (.inl rfl) | exact .inr (.inr rfl)) rfl rfl) ma_nil rfl)) (me_globI rfl (c_MAX_BOUNDS Z) rfl) rfl)))) (ms_cons ms_never ms_nil) ms_nil) (ms_cons (ms_if (mt_not (mt_val (me_bi (mc_all rfl) rfl (f_all Z) rfl (ma_cons (me_lc (own := [("name", 6), ("bound", 10)]) rfl nd_Shelf_init (mi_items (me_var rfl (by first | exact .inl rfl | exact .inr (.inl rfl) | exact .inr (.inr rfl)) rfl rfl)) (blk_mk rfl (by rfl)) rfl (fun _ _ _ _ _ => (mg_tup rfl (mgs_cons (mg_name nd_Shelf_init rfl (by first | exact .inl rfl | exact .inr rfl) (by first | exact .inl rfl | exact .inr rfl) (sl := [6, 10]) (by decide)) (mgs_cons (mg_name nd_Shelf_init rfl (by first | exact .inl rfl | exact .inr rfl) (by first | exact .inl rfl | exact .inr rfl) (sl := [6, 10]) (by decide)) mgs_nil rfl) rfl) rfl rfl)) (fun _ _ _ _ _ => mts_nil) (fun _ _ _ _ _ => (me_and (me_cal (k_is_name Z) (hr.mono (by omega)) rfl (g_is_name Z) (takes0 rfl) (ma_cons (me_var rfl (by first | exact .inl rfl | exact .inr (.inl rfl) | exact .inr (.inr rfl)) rfl rfl) ma_nil rfl) rfl rfl rfl) (me_one (me_cal (k_is_bound_of Z) (hr.mono (by omega)) rfl (g_is_bound_of Z) (takes0 rfl) (ma_cons (me_var rfl (by first | exact .inl rfl | exact .inr (.inl rfl) | exact .inr (.inr rfl)) rfl rfl) (ma_cons (me_var rfl (by first | exact .inl rfl | exact .inr (.inl rfl) | exact .inr (.inr rfl)) rfl rfl) ma_nil rfl) rfl) rfl rfl rfl)))) (fun _ => rfl)) ma_nil rfl)) (fun _ => rfl))) (ms_cons ms_never ms_nil) ms_nil) (ms_cons (ms_fld (me_var rfl (by first | exact .inl rfl | exact .inr (.inl rfl) | exact .inr (.inr rfl)) rfl rfl) (me_dc (own := [("name", 6), ("count", 7)]) hr.hu rfl nd_Shelf_init (mi_items (me_var rfl (by first | exact .inl rfl | exact .inr (.inl rfl) | exact .inr (.inr rfl)) rfl rfl)) (blk_mk rfl (by rfl)) rfl (fun _ _ _ _ _ => (mg_tup rfl (mgs_cons (mg_name nd_Shelf_init rfl (by first | exact .inl rfl | exact .inr rfl) (by first | exact .inl rfl | exact .inr rfl) (sl := [6, 7]) (by decide)) (mgs_cons (mg_name nd_Shelf_init rfl (by first | exact .inl rfl | exact .inr rfl) (by first | exact .inl rfl | exact .inr rfl) (sl := [6, 7]) (by decide)) mgs_nil rfl) rfl) rfl rfl)) (fun _ _ _ _ _ => mts_nil) (fun _ _ _ _ _ => (me_var rfl (by first | exact .inl rfl | exact .inr (.inl rfl) | exact .inr (.inr rfl)) rfl rfl)) (fun _ _ _ _ _ => (me_var rfl (by first | exact .inl rfl | exact .inr (.inl rfl) | exact .inr (.inr rfl)) rfl rfl)) (fun _ => rfl)) (a_most Z) rfl) (ms_cons (ms_fld (me_var rfl (by first | exact .inl rfl | exact .inr (.inl rfl) | exact .inr (.inr rfl)) rfl rfl) (me_dc (own := [("item", 8), ("some", 9)]) hr.hu rfl nd_Shelf_init (mi_items (me_var rfl (by first | exact .inl rfl | exact .inr (.inl rfl) | exact .inr (.inr rfl)) rfl rfl)) (blk_mk rfl (by rfl)) rfl (fun _ _ _ _ _ => (mg_tup rfl (mgs_cons (mg_name nd_Shelf_init rfl (by first | exact .inl rfl | exact .inr rfl) (by first | exact .inl rfl | exact .inr rfl) (sl := [8, 9]) (by decide)) (mgs_cons (mg_name nd_Shelf_init rfl (by first | exact .inl rfl | exact .inr rfl) (by first | exact .inl rfl | exact .inr rfl) (sl := [8, 9]) (by decide)) mgs_nil rfl) rfl) rfl rfl)) (fun _ _ _ _ _ => (mts_one (mt_cmpW (mo_neB hr.hu) (me_var rfl (by first | exact .inl rfl | exact .inr (.inl rfl) | exact .inr (.inr rfl)) rfl rfl) (me_tup ma_nil) rfl))) (fun _ _ _ _ _ => (me_var rfl (by first | exact .inl rfl | exact .inr (.inl rfl) | exact .inr (.inr rfl)) rfl rfl)) (fun _ _ _ _ _ => (me_var rfl (by first | exact .inl rfl | exact .inr (.inl rfl) | exact .inr (.inr rfl)) rfl rfl)) (fun _ => rfl)) (a_wants Z) rfl) (ms_cons (ms_fld (me_var rfl (by first | exact .inl rfl | exact .inr (.inl rfl) | exact .inr (.inr rfl)) rfl rfl) (me_bi (mc_sorted hr.hu) rfl (f_sorted Z) rfl (ma_cons (me_bt (mc_list rfl) rfl (f_list Z) rfl (ma_cons (me_dc (own := [("pair", 12)]) hr.hu rfl nd_Shelf_init (mi_any (me_var rfl (by first | exact .inl rfl | exact .inr (.inl rfl) | exact .inr (.inr rfl)) rfl rfl)) (blk_mk rfl (by rfl)) rfl (fun _ _ _ _ _ => (mg_name nd_Shelf_init rfl (by first | exact .inl rfl | exact .inr rfl) (by first | exact .inl rfl | exact .inr rfl) (sl := [12]) (by decide))) (fun _ _ _ _ _ => mts_nil) (fun _ _ _ _ _ => (me_bt mc_tuple rfl (f_tuple Z) rfl (ma_cons (me_bi (mc_sorted hr.hu) rfl (f_sorted Z) rfl (ma_cons (me_bt (mc_list rfl) rfl (f_list Z) rfl (ma_cons (me_var rfl (by first | exact .inl rfl | exact .inr (.inl rfl) | exact .inr (.inr rfl)) rfl rfl) ma_nil rfl)) ma_nil rfl)) ma_nil rfl))) (fun _ _ _ _ _ => me_bl) (fun _ => rfl)) ma_nil rfl)) ma_nil rfl)) (a_clashes Z) rfl) (ms_cons (ms_fld (me_var rfl (by first | exact .inl rfl | exact .inr (.inl rfl) | exact .inr (.inr rfl)) rfl rfl) (me_bt (mc_list rfl) rfl (f_list Z) rfl (ma_cons (me_var rfl (by first | exact .inl rfl | exact .inr (.inl rfl) | exact .inr (.inr rfl)) rfl rfl) ma_nil rfl)) (a_asked Z) rfl) (ms_cons (ms_fld (me_var rfl (by first | exact .inl rfl | exact .inr (.inl rfl) | exact .inr (.inr rfl)) rfl rfl) (me_dc (own := [("name", 6), ("bound", 10)]) hr.hu rfl nd_Shelf_init (mi_items (me_var rfl (by first | exact .inl rfl | exact .inr (.inl rfl) | exact .inr (.inr rfl)) rfl rfl)) (blk_mk rfl (by rfl)) rfl (fun _ _ _ _ _ => (mg_tup rfl (mgs_cons (mg_name nd_Shelf_init rfl (by first | exact .inl rfl | exact .inr rfl) (by first | exact .inl rfl | exact .inr rfl) (sl := [6, 10]) (by decide)) (mgs_cons (mg_name nd_Shelf_init rfl (by first | exact .inl rfl | exact .inr rfl) (by first | exact .inl rfl | exact .inr rfl) (sl := [6, 10]) (by decide)) mgs_nil rfl) rfl) rfl rfl)) (fun _ _ _ _ _ => mts_nil) (fun _ _ _ _ _ => (me_var rfl (by first | exact .inl rfl | exact .inr (.inl rfl) | exact .inr (.inr rfl)) rfl rfl)) (fun _ _ _ _ _ => (me_var rfl (by first | exact .inl rfl | exact .inr (.inl rfl) | exact .inr (.inr rfl)) rfl rfl)) (fun _ => rfl)) (a_lines Z) rfl) ms_nil))))))))))))
end K35

end
section
namespace K35
open PySem PySem.Spec PyProof.Rows L2 Mi
theorem nd__law_small : (["_law_worth", "_law_bounds", "_law_wants"] : List Str).Nodup := by decide +kernel
theorem sc__law_small : FnScope ["_law_worth", "_law_bounds", "_law_wants"] ["_law_worth"] (defScope (top 73)) := ⟨rfl, rfl, rfl, by decide +kernel, rfl, by decide +kernel, by decide +kernel⟩
theorem k__law_small {P : Program} {w : World} {K : PySem.W.Frag} {mg : Str → Option Value} {base : Heap} (Z : Hd K mg) : Cal P w K mg base (adr K) (He.ga K "_law_small") 6 m__law_small [] := by
  obtain ⟨fd, F⟩ := Z.c.def_ 12 (d := dd__law_small) rfl
  refine ⟨⟨fd, ["_law_worth"], [], fn_m F sc__law_small rfl rfl (fun cdv A outer s H E hr => ?_), (F.bindsN (ps := ["_law_worth"]) (fun _ _ _ _ _ _ us hl => match us, hl with | [_], _ => rfl)), Dfl.nil⟩, F.kp⟩
  exact (ms_cons (ms_set nd__law_small (i := 1) rfl (by first | exact .inl rfl | exact .inr rfl) (me_dictB hr.hu (mps_cons me_str (me_mkK (fr := true) (mk_Bound Z) (kk_Bound_init Z) (hr.mono (by omega)) rfl (g_Bound Z) (takes_of rfl rfl rfl rfl) (ma_cons me_str (ma_cons (me_tup (ma_cons me_int ma_nil rfl)) (ma_cons me_str (ma_cons (me_tup (ma_cons me_int ma_nil rfl)) ma_nil rfl) rfl) rfl) rfl) (mk_cons (me_var rfl (by first | exact .inl rfl | exact .inr (.inl rfl) | exact .inr (.inr rfl)) rfl rfl) mk_nil) rfl rfl rfl rfl rfl) mps_nil) rfl rfl (by simp) (by decide)) rfl (.inl rfl)) (ms_cons (ms_put hr.hu (me_var rfl (by first | exact .inl rfl | exact .inr (.inl rfl) | exact .inr (.inr rfl)) rfl rfl) me_str (me_mkK (fr := true) (mk_Bound Z) (kk_Bound_init Z) (hr.mono (by omega)) rfl (g_Bound Z) (takes_of rfl rfl rfl rfl) (ma_cons me_str (ma_cons (me_tup (ma_cons me_int ma_nil rfl)) (ma_cons me_str (ma_cons (me_tup (ma_cons me_int ma_nil rfl)) ma_nil rfl) rfl) rfl) rfl) (mk_cons (me_var rfl (by first | exact .inl rfl | exact .inr (.inl rfl) | exact .inr (.inr rfl)) rfl rfl) mk_nil) rfl rfl rfl rfl rfl) rfl) (ms_cons (ms_put hr.hu (me_var rfl (by first | exact .inl rfl | exact .inr (.inl rfl) | exact .inr (.inr rfl)) rfl rfl) me_str (me_mk (fr := true) (mk_Bound Z) (k_Bound_init Z) (hr.mono (by omega)) rfl (g_Bound Z) (takes_of rfl rfl rfl rfl) (ma_cons me_str (ma_cons (me_tup (ma_cons me_int (ma_cons me_int ma_nil rfl) rfl)) (ma_cons me_str (ma_cons (me_tup (ma_cons me_int (ma_cons me_int ma_nil rfl) rfl)) ma_nil rfl) rfl) rfl) rfl) rfl rfl rfl) rfl) (ms_cons (ms_set nd__law_small (i := 2) rfl (by first | exact .inl rfl | exact .inr rfl) (me_dict hr.hu (mps_cons (me_tup (ma_cons me_str (ma_cons me_int ma_nil rfl) rfl)) (me_tup (ma_cons me_str ma_nil rfl)) (mps_cons (me_tup (ma_cons me_str (ma_cons me_int ma_nil rfl) rfl)) (me_tup (ma_cons me_str ma_nil rfl)) mps_nil)) rfl rfl (by simp) (by decide)) rfl (.inl rfl)) (ms_cons (ms_ret (me_mk (fr := true) (mk_Shelf Z) (k_Shelf_init Z) (hr.mono (by omega)) rfl (g_Shelf Z) (takes_of rfl rfl rfl rfl) (ma_cons (me_dict hr.hu (mps_cons me_str me_int (mps_cons me_str me_int mps_nil)) rfl rfl (by simp) (by decide)) (ma_cons (me_var rfl (by first | exact .inl rfl | exact .inr (.inl rfl) | exact .inr (.inr rfl)) rfl rfl) (ma_cons (me_lst (ma_cons (me_tup (ma_cons (me_tup (ma_cons me_str (ma_cons me_int ma_nil rfl) rfl)) (ma_cons (me_tup (ma_cons me_str (ma_cons me_int ma_nil rfl) rfl)) ma_nil rfl) rfl)) ma_nil rfl)) (ma_cons (me_lst (ma_cons (me_tup (ma_cons me_str ma_nil rfl)) ma_nil rfl)) (ma_cons (me_fz (me_var rfl (by first | exact .inl rfl | exact .inr (.inl rfl) | exact .inr (.inr rfl)) rfl rfl)) ma_nil rfl) rfl) rfl) rfl) rfl) rfl rfl rfl)) ms_nil)))))
end K35

end
section
namespace K35
open PySem PySem.Spec PyProof.Rows L2 Mi
theorem nd_check_shelf : (["shelf"] : List Str).Nodup := by decide +kernel
theorem sc_check_shelf : FnScope ["shelf"] ["shelf"] (defScope (top 31)) := ⟨rfl, rfl, rfl, by decide +kernel, rfl, by decide +kernel, by decide +kernel⟩
theorem k_check_shelf {P : Program} {w : World} {K : PySem.W.Frag} {mg : Str → Option Value} {base : Heap} (Z : Hd K mg) : Cal P w K mg base (adr K) (He.ga K "check_shelf") 1 m_check_shelf [] := by
  obtain ⟨fd, F⟩ := Z.c.def_ 13 (d := dd_check_shelf) rfl
  refine ⟨⟨fd, ["shelf"], [], fn_m F sc_check_shelf rfl rfl (fun cdv A outer s H E hr => ?_), (F.bindsN (ps := ["shelf"]) (fun _ _ _ _ _ _ us hl => match us, hl with | [_], _ => rfl)), Dfl.nil⟩, F.kp⟩
  exact (ms_cons (ms_if (mt_not (mt_val (me_bi (mc_isi (isf Z)) rfl (f_isinstance Z) rfl (ma_cons (me_var rfl (by first | exact .inl rfl | exact .inr (.inl rfl) | exact .inr (.inr rfl)) rfl rfl) (ma_cons (me_cls (c := 1) rfl (g_Shelf Z)) ma_nil rfl) rfl)) (fun _ => rfl))) (ms_cons ms_never ms_nil) ms_nil) ms_nil)
end K35

end
section
namespace K35
open PySem PySem.Spec PyProof.Rows L2 Mi
theorem nd_all_sets : (["shelf", "layer", "names", "found", "later", "some", "begin", "name"] : List Str).Nodup := by decide +kernel
theorem sc_all_sets : FnScope ["shelf", "layer", "names", "found", "later", "some", "begin", "name"] ["shelf"] (defScope (top 66)) := ⟨rfl, rfl, rfl, by decide +kernel, rfl, by decide +kernel, by decide +kernel⟩
theorem k_all_sets {P : Program} {w : World} {K : PySem.W.Frag} {mg : Str → Option Value} {base : Heap} (Z : Hd K mg) : Cal P w K mg base (adr K) (He.ga K "all_sets") 1 m_all_sets [] := by
  obtain ⟨fd, F⟩ := Z.c.def_ 14 (d := dd_all_sets) rfl
  refine ⟨⟨fd, ["shelf"], [], fn_m F sc_all_sets rfl rfl (fun cdv A outer s H E hr => ?_), (F.bindsN (ps := ["shelf"]) (fun _ _ _ _ _ _ us hl => match us, hl with | [_], _ => rfl)), Dfl.nil⟩, F.kp⟩
  exact (ms_cons (ms_par2 (i := 2) (j := 3) rfl nd_all_sets rfl rfl (by decide) rfl rfl (ma_cons (me_bt (mc_list rfl) rfl (f_list Z) rfl (ma_cons (me_fld (me_var rfl (by first | exact .inl rfl | exact .inr (.inl rfl) | exact .inr (.inr rfl)) rfl rfl) (a_lines Z) rfl) ma_nil rfl)) (ma_cons (me_box (ma_cons (me_tup ma_nil) ma_nil rfl)) ma_nil rfl) rfl) rfl rfl) (ms_cons (ms_set nd_all_sets (i := 1) rfl (by first | exact .inl rfl | exact .inr rfl) (me_lst (ma_cons (me_tup ma_nil) ma_nil rfl)) rfl (.inl rfl)) (ms_cons (ms_while (passes_of rfl) (mt_cmpW (mo_neB hr.hu) (me_var rfl (by first | exact .inl rfl | exact .inr (.inl rfl) | exact .inr (.inr rfl)) rfl rfl) (me_lst ma_nil) rfl) (ms_cons (ms_set nd_all_sets (i := 4) rfl (by first | exact .inl rfl | exact .inr rfl) (me_box ma_nil) rfl (.inl rfl)) (ms_cons (ms_for (passes_of rfl) rfl (mi_any (me_var rfl (by first | exact .inl rfl | exact .inr (.inl rfl) | exact .inr (.inr rfl)) rfl rfl)) (mg_name nd_all_sets rfl (by first | exact .inl rfl | exact .inr rfl) (.inl rfl) (sl := [5]) (by decide)) (ms_cons (ms_set nd_all_sets (i := 6) rfl (by first | exact .inl rfl | exact .inr rfl) (me_ifExp (mt_cmpW (mo_neB hr.hu) (me_var rfl (by first | exact .inl rfl | exact .inr (.inl rfl) | exact .inr (.inr rfl)) rfl rfl) (me_tup ma_nil) rfl) (me_binW mo_add (me_bm PySem.F.plainAttrs_list PySem.F.slot_list_index PySem.F.type_list_index (mt_indexW hr.hu) ty_list (me_var rfl (by first | exact .inl rfl | exact .inr (.inl rfl) | exact .inr (.inr rfl)) rfl rfl) (ma_cons (me_ix hr.hu (me_var rfl (by first | exact .inl rfl | exact .inr (.inl rfl) | exact .inr (.inr rfl)) rfl rfl) (me_neg me_int) (fun _ _ => rfl)) ma_nil rfl)) me_int) me_int) rfl (.inl rfl)) (ms_cons (ms_expr (me_bm PySem.F.plainAttrs_list PySem.F.slot_list_extend PySem.F.type_list_extend mt_extendW ty_list (me_var rfl (by first | exact .inl rfl | exact .inr (.inl rfl) | exact .inr (.inr rfl)) rfl rfl) (ma_cons (me_lc (own := [("name", 7)]) rfl nd_all_sets (mi_any (me_slice (me_var rfl (by first | exact .inl rfl | exact .inr (.inl rfl) | exact .inr (.inr rfl)) rfl rfl) (mo_some (me_var rfl (by first | exact .inl rfl | exact .inr (.inl rfl) | exact .inr (.inr rfl)) rfl rfl)) mo_none)) (blk_mk rfl (by rfl)) rfl (fun _ _ _ _ _ => (mg_name nd_all_sets rfl (by first | exact .inl rfl | exact .inr rfl) (by first | exact .inl rfl | exact .inr rfl) (sl := [7]) (by decide))) (fun _ _ _ _ _ => mts_nil) (fun _ _ _ _ _ => (me_tup (ma_star (me_var rfl (by first | exact .inl rfl | exact .inr (.inl rfl) | exact .inr (.inr rfl)) rfl rfl) (ma_cons (me_var rfl (by first | exact .inl rfl | exact .inr (.inl rfl) | exact .inr (.inr rfl)) rfl rfl) ma_nil rfl)))) (fun _ => rfl)) ma_nil rfl)) rfl) ms_nil)) (fun _ => rfl)) (ms_cons (ms_expr (me_bm PySem.F.plainAttrs_list PySem.F.slot_list_extend PySem.F.type_list_extend mt_extendW ty_list (me_var rfl (by first | exact .inl rfl | exact .inr (.inl rfl) | exact .inr (.inr rfl)) rfl rfl) (ma_cons (me_var rfl (by first | exact .inl rfl | exact .inr (.inl rfl) | exact .inr (.inr rfl)) rfl rfl) ma_nil rfl)) rfl) (ms_cons (ms_set nd_all_sets (i := 1) rfl (by first | exact .inl rfl | exact .inr rfl) (me_fz (me_var rfl (by first | exact .inl rfl | exact .inr (.inl rfl) | exact .inr (.inr rfl)) rfl rfl)) rfl (.inl rfl)) ms_nil))))) (ms_cons (ms_ret (me_fz (me_var rfl (by first | exact .inl rfl | exact .inr (.inl rfl) | exact .inr (.inr rfl)) rfl rfl))) ms_nil))))
end K35

end
section
namespace K35
open PySem PySem.Spec PyProof.Rows L2 Mi
theorem nd_empty_plan : (["shelf"] : List Str).Nodup := by decide +kernel
theorem sc_empty_plan : FnScope ["shelf"] ["shelf"] (defScope (top 41)) := ⟨rfl, rfl, rfl, by decide +kernel, rfl, by decide +kernel, by decide +kernel⟩
theorem k_empty_plan {P : Program} {w : World} {K : PySem.W.Frag} {mg : Str → Option Value} {base : Heap} (Z : Hd K mg) : Cal P w K mg base (adr K) (He.ga K "empty_plan") 1 m_empty_plan [] := by
  obtain ⟨fd, F⟩ := Z.c.def_ 15 (d := dd_empty_plan) rfl
  refine ⟨⟨fd, ["shelf"], [], fn_m F sc_empty_plan rfl rfl (fun cdv A outer s H E hr => ?_), (F.bindsN (ps := ["shelf"]) (fun _ _ _ _ _ _ us hl => match us, hl with | [_], _ => rfl)), Dfl.nil⟩, F.kp⟩
  exact (ms_cons (ms_ret (me_binW mo_mul (me_tup (ma_cons me_int ma_nil rfl)) (me_bi mc_len rfl (f_len Z) rfl (ma_cons (me_fld (me_var rfl (by first | exact .inl rfl | exact .inr (.inl rfl) | exact .inr (.inr rfl)) rfl rfl) (a_most Z) rfl) ma_nil rfl)))) ms_nil)
end K35

end
section
namespace K35
open PySem PySem.Spec PyProof.Rows L2 Mi
theorem nd_items_of : (["shelf", "plan", "name", "version"] : List Str).Nodup := by decide +kernel
theorem sc_items_of : FnScope ["shelf", "plan", "name", "version"] ["shelf", "plan"] (defScope (top 38)) := ⟨rfl, rfl, rfl, by decide +kernel, rfl, by decide +kernel, by decide +kernel⟩
theorem k_items_of {P : Program} {w : World} {K : PySem.W.Frag} {mg : Str → Option Value} {base : Heap} (Z : Hd K mg) : Cal P w K mg base (adr K) (He.ga K "items_of") 1 m_items_of [] := by
  obtain ⟨fd, F⟩ := Z.c.def_ 16 (d := dd_items_of) rfl
  refine ⟨⟨fd, ["shelf", "plan"], [], fn_m F sc_items_of rfl rfl (fun cdv A outer s H E hr => ?_), (F.bindsN (ps := ["shelf", "plan"]) (fun _ _ _ _ _ _ us hl => match us, hl with | [_, _], _ => rfl)), Dfl.nil⟩, F.kp⟩
  exact (ms_cons (ms_ret (me_lc (own := [("name", 2), ("version", 3)]) rfl nd_items_of (mi_zip rfl (f_zip Z) (ma_cons (me_fld (me_var rfl (by first | exact .inl rfl | exact .inr (.inl rfl) | exact .inr (.inr rfl)) rfl rfl) (a_most Z) rfl) (ma_cons (me_var rfl (by first | exact .inl rfl | exact .inr (.inl rfl) | exact .inr (.inr rfl)) rfl rfl) ma_nil rfl) rfl)) (blk_mk rfl (by rfl)) rfl (fun _ _ _ _ _ => (mg_tup rfl (mgs_cons (mg_name nd_items_of rfl (by first | exact .inl rfl | exact .inr rfl) (by first | exact .inl rfl | exact .inr rfl) (sl := [2, 3]) (by decide)) (mgs_cons (mg_name nd_items_of rfl (by first | exact .inl rfl | exact .inr rfl) (by first | exact .inl rfl | exact .inr rfl) (sl := [2, 3]) (by decide)) mgs_nil rfl) rfl) rfl rfl)) (fun _ _ _ _ _ => (mts_one (mt_cmpW (mo_neB hr.hu) (me_var rfl (by first | exact .inl rfl | exact .inr (.inl rfl) | exact .inr (.inr rfl)) rfl rfl) me_int rfl))) (fun _ _ _ _ _ => (me_tup (ma_cons (me_var rfl (by first | exact .inl rfl | exact .inr (.inl rfl) | exact .inr (.inr rfl)) rfl rfl) (ma_cons (me_var rfl (by first | exact .inl rfl | exact .inr (.inl rfl) | exact .inr (.inr rfl)) rfl rfl) ma_nil rfl) rfl))) (fun _ => rfl))) ms_nil)
end K35

end
section
namespace K35
open PySem PySem.Spec PyProof.Rows L2 Mi
theorem nd_needed : (["shelf", "item"] : List Str).Nodup := by decide +kernel
theorem sc_needed : FnScope ["shelf", "item"] ["shelf", "item"] (defScope (top 30)) := ⟨rfl, rfl, rfl, by decide +kernel, rfl, by decide +kernel, by decide +kernel⟩
theorem k_needed {P : Program} {w : World} {K : PySem.W.Frag} {mg : Str → Option Value} {base : Heap} (Z : Hd K mg) : Cal P w K mg base (adr K) (He.ga K "needed") 1 m_needed [] := by
  obtain ⟨fd, F⟩ := Z.c.def_ 17 (d := dd_needed) rfl
  refine ⟨⟨fd, ["shelf", "item"], [], fn_m F sc_needed rfl rfl (fun cdv A outer s H E hr => ?_), (F.bindsN (ps := ["shelf", "item"]) (fun _ _ _ _ _ _ us hl => match us, hl with | [_, _], _ => rfl)), Dfl.nil⟩, F.kp⟩
  exact (ms_cons (ms_ret (me_bm PySem.F.plainAttrs_dict PySem.F.slot_dict_get PySem.F.type_dict_get (mt_getW hr.hu) ty_dict (me_fld (me_var rfl (by first | exact .inl rfl | exact .inr (.inl rfl) | exact .inr (.inr rfl)) rfl rfl) (a_wants Z) rfl) (ma_cons (me_var rfl (by first | exact .inl rfl | exact .inr (.inl rfl) | exact .inr (.inr rfl)) rfl rfl) (ma_cons (me_tup ma_nil) ma_nil rfl) rfl))) ms_nil)
end K35

end
section
namespace K35
open PySem PySem.Spec PyProof.Rows L2 Mi
theorem nd_next_of : (["shelf", "request", "plan", "items", "name", "version", "item"] : List Str).Nodup := by decide +kernel
theorem sc_next_of : FnScope ["shelf", "request", "plan", "items", "name", "version", "item"] ["shelf", "request", "plan"] (defScope (top 39)) := ⟨rfl, rfl, rfl, by decide +kernel, rfl, by decide +kernel, by decide +kernel⟩
theorem k_next_of {P : Program} {w : World} {K : PySem.W.Frag} {mg : Str → Option Value} {base : Heap} (Z : Hd K mg) : Cal P w K mg base (adr K) (He.ga K "next_of") 2 m_next_of [] := by
  obtain ⟨fd, F⟩ := Z.c.def_ 18 (d := dd_next_of) rfl
  refine ⟨⟨fd, ["shelf", "request", "plan"], [], fn_m F sc_next_of rfl rfl (fun cdv A outer s H E hr => ?_), (F.bindsN (ps := ["shelf", "request", "plan"]) (fun _ _ _ _ _ _ us hl => match us, hl with | [_, _, _], _ => rfl)), Dfl.nil⟩, F.kp⟩
  exact (ms_cons (ms_set nd_next_of (i := 3) rfl (by first | exact .inl rfl | exact .inr rfl) (me_cal (k_items_of Z) (hr.mono (by omega)) rfl (g_items_of Z) (takes_of rfl rfl rfl rfl) (ma_cons (me_var rfl (by first | exact .inl rfl | exact .inr (.inl rfl) | exact .inr (.inr rfl)) rfl rfl) (ma_cons (me_var rfl (by first | exact .inl rfl | exact .inr (.inl rfl) | exact .inr (.inr rfl)) rfl rfl) ma_nil rfl) rfl) rfl rfl rfl) rfl (.inl rfl)) (ms_cons (ms_for (passes_of rfl) rfl (mi_zip rfl (f_zip Z) (ma_cons (me_fld (me_var rfl (by first | exact .inl rfl | exact .inr (.inl rfl) | exact .inr (.inr rfl)) rfl rfl) (a_most Z) rfl) (ma_cons (me_var rfl (by first | exact .inl rfl | exact .inr (.inl rfl) | exact .inr (.inr rfl)) rfl rfl) ma_nil rfl) rfl)) (mg_tup rfl (mgs_cons (mg_name nd_next_of rfl (by first | exact .inl rfl | exact .inr rfl) (.inl rfl) (sl := [4, 5]) (by decide)) (mgs_cons (mg_name nd_next_of rfl (by first | exact .inl rfl | exact .inr rfl) (.inl rfl) (sl := [4, 5]) (by decide)) mgs_nil rfl) rfl) rfl rfl) (ms_cons (ms_if (mt_cmpW (mo_eqB hr.hu) (me_var rfl (by first | exact .inl rfl | exact .inr (.inl rfl) | exact .inr (.inr rfl)) rfl rfl) me_int rfl) (ms_cons (ms_if (MW.mt (mw_or (mt_cmpW (mo_in hr.hu) (me_var rfl (by first | exact .inl rfl | exact .inr (.inl rfl) | exact .inr (.inr rfl)) rfl rfl) (me_ix hr.hu (me_fld (me_var rfl (by first | exact .inl rfl | exact .inr (.inl rfl) | exact .inr (.inr rfl)) rfl rfl) (a_asked Z) rfl) (me_var rfl (by first | exact .inl rfl | exact .inr (.inl rfl) | exact .inr (.inr rfl)) rfl rfl) (fun _ _ => rfl)) rfl) (mw_or1 (mt_val (me_bi (mc_any rfl) rfl (f_any Z) rfl (ma_cons (me_lc (own := [("item", 6)]) rfl nd_next_of (mi_any (me_var rfl (by first | exact .inl rfl | exact .inr (.inl rfl) | exact .inr (.inr rfl)) rfl rfl)) (blk_mk rfl (by rfl)) rfl (fun _ _ _ _ _ => (mg_name nd_next_of rfl (by first | exact .inl rfl | exact .inr rfl) (by first | exact .inl rfl | exact .inr rfl) (sl := [6]) (by decide))) (fun _ _ _ _ _ => mts_nil) (fun _ _ _ _ _ => (me_cmpW (mo_in hr.hu) (me_var rfl (by first | exact .inl rfl | exact .inr (.inl rfl) | exact .inr (.inr rfl)) rfl rfl) (me_cal (k_needed Z) (hr.mono (by omega)) rfl (g_needed Z) (takes0 rfl) (ma_cons (me_var rfl (by first | exact .inl rfl | exact .inr (.inl rfl) | exact .inr (.inr rfl)) rfl rfl) (ma_cons (me_var rfl (by first | exact .inl rfl | exact .inr (.inl rfl) | exact .inr (.inr rfl)) rfl rfl) ma_nil rfl) rfl) rfl rfl rfl) rfl)) (fun _ => rfl)) ma_nil rfl)) (fun _ => rfl))))) (ms_cons (ms_ret (me_var rfl (by first | exact .inl rfl | exact .inr (.inl rfl) | exact .inr (.inr rfl)) rfl rfl)) ms_nil) ms_nil) ms_nil) ms_nil) ms_nil) (fun _ => rfl)) (ms_cons (ms_ret me_non) ms_nil)))
end K35

end
section
namespace K35
open PySem PySem.Spec PyProof.Rows L2 Mi
theorem nd_choices_of : (["shelf", "plan", "name", "at", "version"] : List Str).Nodup := by decide +kernel
theorem sc_choices_of : FnScope ["shelf", "plan", "name", "at", "version"] ["shelf", "plan", "name"] (defScope (top 40)) := ⟨rfl, rfl, rfl, by decide +kernel, rfl, by decide +kernel, by decide +kernel⟩
theorem k_choices_of {P : Program} {w : World} {K : PySem.W.Frag} {mg : Str → Option Value} {base : Heap} (Z : Hd K mg) : Cal P w K mg base (adr K) (He.ga K "choices_of") 1 m_choices_of [] := by
  obtain ⟨fd, F⟩ := Z.c.def_ 19 (d := dd_choices_of) rfl
  refine ⟨⟨fd, ["shelf", "plan", "name"], [], fn_m F sc_choices_of rfl rfl (fun cdv A outer s H E hr => ?_), (F.bindsN (ps := ["shelf", "plan", "name"]) (fun _ _ _ _ _ _ us hl => match us, hl with | [_, _, _], _ => rfl)), Dfl.nil⟩, F.kp⟩
  exact (ms_cons (ms_set nd_choices_of (i := 3) rfl (by first | exact .inl rfl | exact .inr rfl) (me_bm PySem.F.plainAttrs_list PySem.F.slot_list_index PySem.F.type_list_index (mt_indexW hr.hu) ty_list (me_bt (mc_list rfl) rfl (f_list Z) rfl (ma_cons (me_fld (me_var rfl (by first | exact .inl rfl | exact .inr (.inl rfl) | exact .inr (.inr rfl)) rfl rfl) (a_most Z) rfl) ma_nil rfl)) (ma_cons (me_var rfl (by first | exact .inl rfl | exact .inr (.inl rfl) | exact .inr (.inr rfl)) rfl rfl) ma_nil rfl)) rfl (.inl rfl)) (ms_cons (ms_ret (me_lc (own := [("version", 4)]) rfl nd_choices_of (mi_range2 rfl (f_range Z) (ma_cons me_int (ma_cons (me_binW mo_add (me_ix hr.hu (me_fld (me_var rfl (by first | exact .inl rfl | exact .inr (.inl rfl) | exact .inr (.inr rfl)) rfl rfl) (a_most Z) rfl) (me_var rfl (by first | exact .inl rfl | exact .inr (.inl rfl) | exact .inr (.inr rfl)) rfl rfl) (fun _ _ => rfl)) me_int) ma_nil rfl) rfl)) (blk_mk rfl (by rfl)) rfl (fun _ _ _ _ _ => (mg_name nd_choices_of rfl (by first | exact .inl rfl | exact .inr rfl) (by first | exact .inl rfl | exact .inr rfl) (sl := [4]) (by decide))) (fun _ _ _ _ _ => mts_nil) (fun _ _ _ _ _ => (me_tup (ma_star (me_slice (me_var rfl (by first | exact .inl rfl | exact .inr (.inl rfl) | exact .inr (.inr rfl)) rfl rfl) mo_none (mo_some (me_var rfl (by first | exact .inl rfl | exact .inr (.inl rfl) | exact .inr (.inr rfl)) rfl rfl))) (ma_cons (me_var rfl (by first | exact .inl rfl | exact .inr (.inl rfl) | exact .inr (.inr rfl)) rfl rfl) (ma_star (me_slice (me_var rfl (by first | exact .inl rfl | exact .inr (.inl rfl) | exact .inr (.inr rfl)) rfl rfl) (mo_some (me_binW mo_add (me_var rfl (by first | exact .inl rfl | exact .inr (.inl rfl) | exact .inr (.inr rfl)) rfl rfl) me_int)) mo_none) ma_nil) rfl)))) (fun _ => rfl))) ms_nil))
end K35

end
section
namespace K35
open PySem PySem.Spec PyProof.Rows L2 Mi
theorem nd_all_plans : (["shelf", "request", "found", "waiting", "plan", "name"] : List Str).Nodup := by decide +kernel
theorem sc_all_plans : FnScope ["shelf", "request", "found", "waiting", "plan", "name"] ["shelf", "request"] (defScope (top 45)) := ⟨rfl, rfl, rfl, by decide +kernel, rfl, by decide +kernel, by decide +kernel⟩
theorem k_all_plans {P : Program} {w : World} {K : PySem.W.Frag} {mg : Str → Option Value} {base : Heap} (Z : Hd K mg) : Cal P w K mg base (adr K) (He.ga K "all_plans") 3 m_all_plans [] := by
  obtain ⟨fd, F⟩ := Z.c.def_ 20 (d := dd_all_plans) rfl
  refine ⟨⟨fd, ["shelf", "request"], [], fn_m F sc_all_plans rfl rfl (fun cdv A outer s H E hr => ?_), (F.bindsN (ps := ["shelf", "request"]) (fun _ _ _ _ _ _ us hl => match us, hl with | [_, _], _ => rfl)), Dfl.nil⟩, F.kp⟩
  exact (ms_cons (ms_par2 (i := 2) (j := 3) rfl nd_all_plans rfl rfl (by decide) rfl rfl (ma_cons (me_box ma_nil) (ma_cons (me_box (ma_cons (me_cal (k_empty_plan Z) (hr.mono (by omega)) rfl (g_empty_plan Z) (takes_of rfl rfl rfl rfl) (ma_cons (me_var rfl (by first | exact .inl rfl | exact .inr (.inl rfl) | exact .inr (.inr rfl)) rfl rfl) ma_nil rfl) rfl rfl rfl) ma_nil rfl)) ma_nil rfl) rfl) rfl rfl) (ms_cons (ms_while (passes_of rfl) (mt_cmpW (mo_neB hr.hu) (me_var rfl (by first | exact .inl rfl | exact .inr (.inl rfl) | exact .inr (.inr rfl)) rfl rfl) (me_lst ma_nil) rfl) (ms_cons (ms_set nd_all_plans (i := 4) rfl (by first | exact .inl rfl | exact .inr rfl) (me_bm PySem.F.plainAttrs_list PySem.F.slot_list_pop PySem.F.type_list_pop mt_popW ty_list (me_var rfl (by first | exact .inl rfl | exact .inr (.inl rfl) | exact .inr (.inr rfl)) rfl rfl) (ma_cons me_int ma_nil rfl)) rfl (.inl rfl)) (ms_cons (ms_set nd_all_plans (i := 5) rfl (by first | exact .inl rfl | exact .inr rfl) (me_cal (k_next_of Z) (hr.mono (by omega)) rfl (g_next_of Z) (takes_of rfl rfl rfl rfl) (ma_cons (me_var rfl (by first | exact .inl rfl | exact .inr (.inl rfl) | exact .inr (.inr rfl)) rfl rfl) (ma_cons (me_var rfl (by first | exact .inl rfl | exact .inr (.inl rfl) | exact .inr (.inr rfl)) rfl rfl) (ma_cons (me_var rfl (by first | exact .inl rfl | exact .inr (.inl rfl) | exact .inr (.inr rfl)) rfl rfl) ma_nil rfl) rfl) rfl) rfl rfl rfl) rfl (.inl rfl)) (ms_cons (ms_if (mt_cmpW mo_is (me_var rfl (by first | exact .inl rfl | exact .inr (.inl rfl) | exact .inr (.inr rfl)) rfl rfl) me_non rfl) (ms_cons (ms_expr (me_bm PySem.F.plainAttrs_list PySem.F.slot_list_append PySem.F.type_list_append mt_appendW ty_list (me_var rfl (by first | exact .inl rfl | exact .inr (.inl rfl) | exact .inr (.inr rfl)) rfl rfl) (ma_cons (me_var rfl (by first | exact .inl rfl | exact .inr (.inl rfl) | exact .inr (.inr rfl)) rfl rfl) ma_nil rfl)) rfl) ms_nil) (ms_cons (ms_expr (me_bm PySem.F.plainAttrs_list PySem.F.slot_list_extend PySem.F.type_list_extend mt_extendW ty_list (me_var rfl (by first | exact .inl rfl | exact .inr (.inl rfl) | exact .inr (.inr rfl)) rfl rfl) (ma_cons (me_cal (k_choices_of Z) (hr.mono (by omega)) rfl (g_choices_of Z) (takes_of rfl rfl rfl rfl) (ma_cons (me_var rfl (by first | exact .inl rfl | exact .inr (.inl rfl) | exact .inr (.inr rfl)) rfl rfl) (ma_cons (me_var rfl (by first | exact .inl rfl | exact .inr (.inl rfl) | exact .inr (.inr rfl)) rfl rfl) (ma_cons (me_var rfl (by first | exact .inl rfl | exact .inr (.inl rfl) | exact .inr (.inr rfl)) rfl rfl) ma_nil rfl) rfl) rfl) rfl rfl rfl) ma_nil rfl)) rfl) ms_nil)) ms_nil)))) (ms_cons (ms_ret (me_bi (mc_sorted hr.hu) rfl (f_sorted Z) rfl (ma_cons (me_fz (me_var rfl (by first | exact .inl rfl | exact .inr (.inl rfl) | exact .inr (.inr rfl)) rfl rfl)) ma_nil rfl))) ms_nil)))
end K35

end
section
namespace K35
open PySem PySem.Spec PyProof.Rows L2 Mi
theorem nd_violates : (["shelf", "plan", "name", "items", "package", "versions", "version"] : List Str).Nodup := by decide +kernel
theorem sc_violates : FnScope ["shelf", "plan", "name", "items", "package", "versions", "version"] ["shelf", "plan", "name"] (defScope (top 43)) := ⟨rfl, rfl, rfl, by decide +kernel, rfl, by decide +kernel, by decide +kernel⟩
theorem k_violates {P : Program} {w : World} {K : PySem.W.Frag} {mg : Str → Option Value} {base : Heap} (Z : Hd K mg) : Cal P w K mg base (adr K) (He.ga K "violates") 2 m_violates [] := by
  obtain ⟨fd, F⟩ := Z.c.def_ 21 (d := dd_violates) rfl
  refine ⟨⟨fd, ["shelf", "plan", "name"], [], fn_m F sc_violates rfl rfl (fun cdv A outer s H E hr => ?_), (F.bindsN (ps := ["shelf", "plan", "name"]) (fun _ _ _ _ _ _ us hl => match us, hl with | [_, _, _], _ => rfl)), Dfl.nil⟩, F.kp⟩
  exact (ms_cons (ms_set nd_violates (i := 3) rfl (by first | exact .inl rfl | exact .inr rfl) (me_cal (k_items_of Z) (hr.mono (by omega)) rfl (g_items_of Z) (takes_of rfl rfl rfl rfl) (ma_cons (me_var rfl (by first | exact .inl rfl | exact .inr (.inl rfl) | exact .inr (.inr rfl)) rfl rfl) (ma_cons (me_var rfl (by first | exact .inl rfl | exact .inr (.inl rfl) | exact .inr (.inr rfl)) rfl rfl) ma_nil rfl) rfl) rfl rfl rfl) rfl (.inl rfl)) (ms_cons (ms_for (passes_of rfl) rfl (mi_any (me_fld (me_ix hr.hu (me_fld (me_var rfl (by first | exact .inl rfl | exact .inr (.inl rfl) | exact .inr (.inr rfl)) rfl rfl) (a_lines Z) rfl) (me_var rfl (by first | exact .inl rfl | exact .inr (.inl rfl) | exact .inr (.inr rfl)) rfl rfl) (fun _ _ => rfl)) (a_sides Z) rfl)) (mg_tup rfl (mgs_cons (mg_name nd_violates rfl (by first | exact .inl rfl | exact .inr rfl) (.inl rfl) (sl := [4, 5]) (by decide)) (mgs_cons (mg_name nd_violates rfl (by first | exact .inl rfl | exact .inr rfl) (.inl rfl) (sl := [4, 5]) (by decide)) mgs_nil rfl) rfl) rfl rfl) (ms_cons (ms_if (mt_not (mt_val (me_bi (mc_any rfl) rfl (f_any Z) rfl (ma_cons (me_lc (own := [("version", 6)]) rfl nd_violates (mi_any (me_var rfl (by first | exact .inl rfl | exact .inr (.inl rfl) | exact .inr (.inr rfl)) rfl rfl)) (blk_mk rfl (by rfl)) rfl (fun _ _ _ _ _ => (mg_name nd_violates rfl (by first | exact .inl rfl | exact .inr rfl) (by first | exact .inl rfl | exact .inr rfl) (sl := [6]) (by decide))) (fun _ _ _ _ _ => mts_nil) (fun _ _ _ _ _ => (me_cmpW (mo_in hr.hu) (me_tup (ma_cons (me_var rfl (by first | exact .inl rfl | exact .inr (.inl rfl) | exact .inr (.inr rfl)) rfl rfl) (ma_cons (me_var rfl (by first | exact .inl rfl | exact .inr (.inl rfl) | exact .inr (.inr rfl)) rfl rfl) ma_nil rfl) rfl)) (me_var rfl (by first | exact .inl rfl | exact .inr (.inl rfl) | exact .inr (.inr rfl)) rfl rfl) rfl)) (fun _ => rfl)) ma_nil rfl)) (fun _ => rfl))) (ms_cons (ms_ret me_bl) ms_nil) ms_nil) ms_nil) (fun _ => rfl)) (ms_cons (ms_ret me_bl) ms_nil)))
end K35

end
section
namespace K35
open PySem PySem.Spec PyProof.Rows L2 Mi
theorem nd_is_allowed : (["shelf", "bounds", "plan", "name"] : List Str).Nodup := by decide +kernel
theorem sc_is_allowed : FnScope ["shelf", "bounds", "plan", "name"] ["shelf", "bounds", "plan"] (defScope (top 44)) := ⟨rfl, rfl, rfl, by decide +kernel, rfl, by decide +kernel, by decide +kernel⟩
theorem k_is_allowed {P : Program} {w : World} {K : PySem.W.Frag} {mg : Str → Option Value} {base : Heap} (Z : Hd K mg) : Cal P w K mg base (adr K) (He.ga K "is_allowed") 3 m_is_allowed [] := by
  obtain ⟨fd, F⟩ := Z.c.def_ 22 (d := dd_is_allowed) rfl
  refine ⟨⟨fd, ["shelf", "bounds", "plan"], [], fn_m F sc_is_allowed rfl rfl (fun cdv A outer s H E hr => ?_), (F.bindsN (ps := ["shelf", "bounds", "plan"]) (fun _ _ _ _ _ _ us hl => match us, hl with | [_, _, _], _ => rfl)), Dfl.nil⟩, F.kp⟩
  exact (ms_cons (ms_ret (me_not (me_bi (mc_any rfl) rfl (f_any Z) rfl (ma_cons (me_lc (own := [("name", 3)]) rfl nd_is_allowed (mi_any (me_var rfl (by first | exact .inl rfl | exact .inr (.inl rfl) | exact .inr (.inr rfl)) rfl rfl)) (blk_mk rfl (by rfl)) rfl (fun _ _ _ _ _ => (mg_name nd_is_allowed rfl (by first | exact .inl rfl | exact .inr rfl) (by first | exact .inl rfl | exact .inr rfl) (sl := [3]) (by decide))) (fun _ _ _ _ _ => mts_nil) (fun _ _ _ _ _ => (me_cal (k_violates Z) (hr.mono (by omega)) rfl (g_violates Z) (takes0 rfl) (ma_cons (me_var rfl (by first | exact .inl rfl | exact .inr (.inl rfl) | exact .inr (.inr rfl)) rfl rfl) (ma_cons (me_var rfl (by first | exact .inl rfl | exact .inr (.inl rfl) | exact .inr (.inr rfl)) rfl rfl) (ma_cons (me_var rfl (by first | exact .inl rfl | exact .inr (.inl rfl) | exact .inr (.inr rfl)) rfl rfl) ma_nil rfl) rfl) rfl) rfl rfl rfl)) (fun _ => rfl)) ma_nil rfl)))) ms_nil)
end K35

end
section
namespace K35
open PySem PySem.Spec PyProof.Rows L2 Mi
theorem nd_allowed_plans : (["shelf", "request", "bounds", "plan"] : List Str).Nodup := by decide +kernel
theorem sc_allowed_plans : FnScope ["shelf", "request", "bounds", "plan"] ["shelf", "request", "bounds"] (defScope (top 50)) := ⟨rfl, rfl, rfl, by decide +kernel, rfl, by decide +kernel, by decide +kernel⟩
theorem k_allowed_plans {P : Program} {w : World} {K : PySem.W.Frag} {mg : Str → Option Value} {base : Heap} (Z : Hd K mg) : Cal P w K mg base (adr K) (He.ga K "allowed_plans") 4 m_allowed_plans [] := by
  obtain ⟨fd, F⟩ := Z.c.def_ 23 (d := dd_allowed_plans) rfl
  refine ⟨⟨fd, ["shelf", "request", "bounds"], [], fn_m F sc_allowed_plans rfl rfl (fun cdv A outer s H E hr => ?_), (F.bindsN (ps := ["shelf", "request", "bounds"]) (fun _ _ _ _ _ _ us hl => match us, hl with | [_, _, _], _ => rfl)), Dfl.nil⟩, F.kp⟩
  exact (ms_cons (ms_ret (me_lc (own := [("plan", 3)]) rfl nd_allowed_plans (mi_any (me_cal (k_all_plans Z) (hr.mono (by omega)) rfl (g_all_plans Z) (takes_of rfl rfl rfl rfl) (ma_cons (me_var rfl (by first | exact .inl rfl | exact .inr (.inl rfl) | exact .inr (.inr rfl)) rfl rfl) (ma_cons (me_var rfl (by first | exact .inl rfl | exact .inr (.inl rfl) | exact .inr (.inr rfl)) rfl rfl) ma_nil rfl) rfl) rfl rfl rfl)) (blk_mk rfl (by rfl)) rfl (fun _ _ _ _ _ => (mg_name nd_allowed_plans rfl (by first | exact .inl rfl | exact .inr rfl) (by first | exact .inl rfl | exact .inr rfl) (sl := [3]) (by decide))) (fun _ _ _ _ _ => (mts_one (mt_val (me_cal (k_is_allowed Z) (hr.mono (by omega)) rfl (g_is_allowed Z) (takes0 rfl) (ma_cons (me_var rfl (by first | exact .inl rfl | exact .inr (.inl rfl) | exact .inr (.inr rfl)) rfl rfl) (ma_cons (me_var rfl (by first | exact .inl rfl | exact .inr (.inl rfl) | exact .inr (.inr rfl)) rfl rfl) (ma_cons (me_var rfl (by first | exact .inl rfl | exact .inr (.inl rfl) | exact .inr (.inr rfl)) rfl rfl) ma_nil rfl) rfl) rfl) rfl rfl rfl) (fun _ => rfl)))) (fun _ _ _ _ _ => (me_var rfl (by first | exact .inl rfl | exact .inr (.inl rfl) | exact .inr (.inr rfl)) rfl rfl)) (fun _ => rfl))) ms_nil)
end K35

end
section
namespace K35
open PySem PySem.Spec PyProof.Rows L2 Mi
theorem nd_clashing : (["shelf", "plan", "items", "one", "other"] : List Str).Nodup := by decide +kernel
theorem sc_clashing : FnScope ["shelf", "plan", "items", "one", "other"] ["shelf", "plan"] (defScope (top 42)) := ⟨rfl, rfl, rfl, by decide +kernel, rfl, by decide +kernel, by decide +kernel⟩
theorem k_clashing {P : Program} {w : World} {K : PySem.W.Frag} {mg : Str → Option Value} {base : Heap} (Z : Hd K mg) : Cal P w K mg base (adr K) (He.ga K "clashing") 2 m_clashing [] := by
  obtain ⟨fd, F⟩ := Z.c.def_ 24 (d := dd_clashing) rfl
  refine ⟨⟨fd, ["shelf", "plan"], [], fn_m F sc_clashing rfl rfl (fun cdv A outer s H E hr => ?_), (F.bindsN (ps := ["shelf", "plan"]) (fun _ _ _ _ _ _ us hl => match us, hl with | [_, _], _ => rfl)), Dfl.nil⟩, F.kp⟩
  exact (ms_cons (ms_set nd_clashing (i := 2) rfl (by first | exact .inl rfl | exact .inr rfl) (me_cal (k_items_of Z) (hr.mono (by omega)) rfl (g_items_of Z) (takes_of rfl rfl rfl rfl) (ma_cons (me_var rfl (by first | exact .inl rfl | exact .inr (.inl rfl) | exact .inr (.inr rfl)) rfl rfl) (ma_cons (me_var rfl (by first | exact .inl rfl | exact .inr (.inl rfl) | exact .inr (.inr rfl)) rfl rfl) ma_nil rfl) rfl) rfl rfl rfl) rfl (.inl rfl)) (ms_cons (ms_ret (me_bi (mc_any rfl) rfl (f_any Z) rfl (ma_cons (me_lc (own := [("one", 3), ("other", 4)]) rfl nd_clashing (mi_any (me_fld (me_var rfl (by first | exact .inl rfl | exact .inr (.inl rfl) | exact .inr (.inr rfl)) rfl rfl) (a_clashes Z) rfl)) (blk_mk rfl (by rfl)) rfl (fun _ _ _ _ _ => (mg_tup rfl (mgs_cons (mg_name nd_clashing rfl (by first | exact .inl rfl | exact .inr rfl) (by first | exact .inl rfl | exact .inr rfl) (sl := [3, 4]) (by decide)) (mgs_cons (mg_name nd_clashing rfl (by first | exact .inl rfl | exact .inr rfl) (by first | exact .inl rfl | exact .inr rfl) (sl := [3, 4]) (by decide)) mgs_nil rfl) rfl) rfl rfl)) (fun _ _ _ _ _ => mts_nil) (fun _ _ _ _ _ => (me_and (me_cmpW (mo_in hr.hu) (me_var rfl (by first | exact .inl rfl | exact .inr (.inl rfl) | exact .inr (.inr rfl)) rfl rfl) (me_var rfl (by first | exact .inl rfl | exact .inr (.inl rfl) | exact .inr (.inr rfl)) rfl rfl) rfl) (me_one (me_cmpW (mo_in hr.hu) (me_var rfl (by first | exact .inl rfl | exact .inr (.inl rfl) | exact .inr (.inr rfl)) rfl rfl) (me_var rfl (by first | exact .inl rfl | exact .inr (.inl rfl) | exact .inr (.inr rfl)) rfl rfl) rfl)))) (fun _ => rfl)) ma_nil rfl))) ms_nil))
end K35

end
section
namespace K35
open PySem PySem.Spec PyProof.Rows L2 Mi
theorem nd_tree_of : (["shelf", "request", "bounds", "plan", "name", "one"] : List Str).Nodup := by decide +kernel
theorem sc_tree_of : FnScope ["shelf", "request", "bounds", "plan", "name", "one"] ["shelf", "request", "bounds", "plan"] (defScope (top 65)) := ⟨rfl, rfl, rfl, by decide +kernel, rfl, by decide +kernel, by decide +kernel⟩
theorem k_tree_of {P : Program} {w : World} {K : PySem.W.Frag} {mg : Str → Option Value} {base : Heap} : ∀ (n : Nat) (Z : Hd K mg), Cal P w K mg base (adr K) (He.ga K "tree_of") (3 + n) (m_tree_of n) []
  | 0, Z => by
    obtain ⟨fd, F⟩ := Z.c.def_ 25 (d := dd_tree_of) rfl
    exact cal_stuck (F.bindsN (ps := ["shelf", "request", "bounds", "plan"]) (fun _ _ _ _ _ _ us hl => match us, hl with | [_, _, _, _], _ => rfl)) Dfl.nil F.kp
  | n + 1, Z => by
    have ih := fun Z => k_tree_of (P := P) (w := w) (K := K) (mg := mg) (base := base) n Z
    obtain ⟨fd, F⟩ := Z.c.def_ 25 (d := dd_tree_of) rfl
    refine ⟨⟨fd, ["shelf", "request", "bounds", "plan"], [], fn_m (k := 3 + n) F sc_tree_of rfl rfl (fun cdv A outer s H E hr => ?_), (F.bindsN (ps := ["shelf", "request", "bounds", "plan"]) (fun _ _ _ _ _ _ us hl => match us, hl with | [_, _, _, _], _ => rfl)), Dfl.nil⟩, F.kp⟩
    exact (ms_cons (ms_for (passes_of rfl) rfl (mi_any (me_var rfl (by first | exact .inl rfl | exact .inr (.inl rfl) | exact .inr (.inr rfl)) rfl rfl)) (mg_name nd_tree_of rfl (by first | exact .inl rfl | exact .inr rfl) (.inl rfl) (sl := [4]) (by decide)) (ms_cons (ms_if (mt_val (me_cal (k_violates Z) (hr.mono (by omega)) rfl (g_violates Z) (takes_of rfl rfl rfl rfl) (ma_cons (me_var rfl (by first | exact .inl rfl | exact .inr (.inl rfl) | exact .inr (.inr rfl)) rfl rfl) (ma_cons (me_var rfl (by first | exact .inl rfl | exact .inr (.inl rfl) | exact .inr (.inr rfl)) rfl rfl) (ma_cons (me_var rfl (by first | exact .inl rfl | exact .inr (.inl rfl) | exact .inr (.inr rfl)) rfl rfl) ma_nil rfl) rfl) rfl) rfl rfl rfl) (fun _ => rfl)) (ms_cons (ms_ret (me_tup (ma_cons me_str (ma_cons (me_var rfl (by first | exact .inl rfl | exact .inr (.inl rfl) | exact .inr (.inr rfl)) rfl rfl) ma_nil rfl) rfl))) ms_nil) ms_nil) ms_nil) (fun _ => rfl)) (ms_cons (ms_set nd_tree_of (i := 4) rfl (by first | exact .inl rfl | exact .inr rfl) (me_cal (k_next_of Z) (hr.mono (by omega)) rfl (g_next_of Z) (takes_of rfl rfl rfl rfl) (ma_cons (me_var rfl (by first | exact .inl rfl | exact .inr (.inl rfl) | exact .inr (.inr rfl)) rfl rfl) (ma_cons (me_var rfl (by first | exact .inl rfl | exact .inr (.inl rfl) | exact .inr (.inr rfl)) rfl rfl) (ma_cons (me_var rfl (by first | exact .inl rfl | exact .inr (.inl rfl) | exact .inr (.inr rfl)) rfl rfl) ma_nil rfl) rfl) rfl) rfl rfl rfl) rfl (.inl rfl)) (ms_cons (ms_if (mt_cmpW mo_is (me_var rfl (by first | exact .inl rfl | exact .inr (.inl rfl) | exact .inr (.inr rfl)) rfl rfl) me_non rfl) (ms_cons (ms_ret (me_tup (ma_cons me_str ma_nil rfl))) ms_nil) ms_nil) (ms_cons (ms_ret (me_tup (ma_cons me_str (ma_cons (me_bt mc_tuple rfl (f_tuple Z) rfl (ma_cons (me_lc (own := [("one", 5)]) rfl nd_tree_of (mi_any (me_cal (k_choices_of Z) (hr.mono (by omega)) rfl (g_choices_of Z) (takes_of rfl rfl rfl rfl) (ma_cons (me_var rfl (by first | exact .inl rfl | exact .inr (.inl rfl) | exact .inr (.inr rfl)) rfl rfl) (ma_cons (me_var rfl (by first | exact .inl rfl | exact .inr (.inl rfl) | exact .inr (.inr rfl)) rfl rfl) (ma_cons (me_var rfl (by first | exact .inl rfl | exact .inr (.inl rfl) | exact .inr (.inr rfl)) rfl rfl) ma_nil rfl) rfl) rfl) rfl rfl rfl)) (blk_mk rfl (by rfl)) rfl (fun _ _ _ _ _ => (mg_name nd_tree_of rfl (by first | exact .inl rfl | exact .inr rfl) (by first | exact .inl rfl | exact .inr rfl) (sl := [5]) (by decide))) (fun _ _ _ _ _ => mts_nil) (fun _ _ _ _ _ => (me_cal (ih Z) (hr.mono (by omega)) rfl (g_tree_of Z) (takes0 rfl) (ma_cons (me_var rfl (by first | exact .inl rfl | exact .inr (.inl rfl) | exact .inr (.inr rfl)) rfl rfl) (ma_cons (me_var rfl (by first | exact .inl rfl | exact .inr (.inl rfl) | exact .inr (.inr rfl)) rfl rfl) (ma_cons (me_var rfl (by first | exact .inl rfl | exact .inr (.inl rfl) | exact .inr (.inr rfl)) rfl rfl) (ma_cons (me_var rfl (by first | exact .inl rfl | exact .inr (.inl rfl) | exact .inr (.inr rfl)) rfl rfl) ma_nil rfl) rfl) rfl) rfl) rfl rfl rfl)) (fun _ => rfl)) ma_nil rfl)) ma_nil rfl) rfl))) ms_nil))))
end K35

end
section
namespace K35
open PySem PySem.Spec PyProof.Rows L2 Mi
theorem nd_doubt_of : (["shelf", "bounds", "request", "found", "plan"] : List Str).Nodup := by decide +kernel
theorem sc_doubt_of : FnScope ["shelf", "bounds", "request", "found", "plan"] ["shelf", "bounds"] (defScope (top 67)) := ⟨rfl, rfl, rfl, by decide +kernel, rfl, by decide +kernel, by decide +kernel⟩
theorem k_doubt_of {P : Program} {w : World} {K : PySem.W.Frag} {mg : Str → Option Value} {base : Heap} (Z : Hd K mg) : Cal P w K mg base (adr K) (He.ga K "doubt_of") 13 m_doubt_of [] := by
  obtain ⟨fd, F⟩ := Z.c.def_ 26 (d := dd_doubt_of) rfl
  refine ⟨⟨fd, ["shelf", "bounds"], [], fn_m F sc_doubt_of rfl rfl (fun cdv A outer s H E hr => ?_), (F.bindsN (ps := ["shelf", "bounds"]) (fun _ _ _ _ _ _ us hl => match us, hl with | [_, _], _ => rfl)), Dfl.nil⟩, F.kp⟩
  exact (ms_cons (ms_for (passes_of rfl) rfl (mi_range1 rfl (f_range Z) (ma_cons (me_bi mc_len rfl (f_len Z) rfl (ma_cons (me_fld (me_var rfl (by first | exact .inl rfl | exact .inr (.inl rfl) | exact .inr (.inr rfl)) rfl rfl) (a_asked Z) rfl) ma_nil rfl)) ma_nil rfl)) (mg_name nd_doubt_of rfl (by first | exact .inl rfl | exact .inr rfl) (.inl rfl) (sl := [2]) (by decide)) (ms_cons (ms_set nd_doubt_of (i := 3) rfl (by first | exact .inl rfl | exact .inr rfl) (me_cal (k_allowed_plans Z) (hr.mono (by omega)) rfl (g_allowed_plans Z) (takes_of rfl rfl rfl rfl) (ma_cons (me_var rfl (by first | exact .inl rfl | exact .inr (.inl rfl) | exact .inr (.inr rfl)) rfl rfl) (ma_cons (me_var rfl (by first | exact .inl rfl | exact .inr (.inl rfl) | exact .inr (.inr rfl)) rfl rfl) (ma_cons (me_var rfl (by first | exact .inl rfl | exact .inr (.inl rfl) | exact .inr (.inr rfl)) rfl rfl) ma_nil rfl) rfl) rfl) rfl rfl rfl) rfl (.inl rfl)) (ms_cons (ms_for (passes_of rfl) rfl (mi_any (me_var rfl (by first | exact .inl rfl | exact .inr (.inl rfl) | exact .inr (.inr rfl)) rfl rfl)) (mg_name nd_doubt_of rfl (by first | exact .inl rfl | exact .inr rfl) (.inl rfl) (sl := [4]) (by decide)) (ms_cons (ms_if (mt_val (me_cal (k_clashing Z) (hr.mono (by omega)) rfl (g_clashing Z) (takes_of rfl rfl rfl rfl) (ma_cons (me_var rfl (by first | exact .inl rfl | exact .inr (.inl rfl) | exact .inr (.inr rfl)) rfl rfl) (ma_cons (me_var rfl (by first | exact .inl rfl | exact .inr (.inl rfl) | exact .inr (.inr rfl)) rfl rfl) ma_nil rfl) rfl) rfl rfl rfl) (fun _ => rfl)) (ms_cons (ms_ret (me_tup (ma_cons me_str (ma_cons (me_var rfl (by first | exact .inl rfl | exact .inr (.inl rfl) | exact .inr (.inr rfl)) rfl rfl) (ma_cons (me_var rfl (by first | exact .inl rfl | exact .inr (.inl rfl) | exact .inr (.inr rfl)) rfl rfl) ma_nil rfl) rfl) rfl))) ms_nil) ms_nil) ms_nil) (fun _ => rfl)) (ms_cons (ms_if (mt_cmpW (mo_eqB hr.hu) (me_var rfl (by first | exact .inl rfl | exact .inr (.inl rfl) | exact .inr (.inr rfl)) rfl rfl) (me_lst ma_nil) rfl) (ms_cons (ms_ret (me_tup (ma_cons me_str (ma_cons (me_var rfl (by first | exact .inl rfl | exact .inr (.inl rfl) | exact .inr (.inr rfl)) rfl rfl) (ma_cons (me_cal (k_tree_of 9 Z) (hr.mono (by omega)) rfl (g_tree_of Z) (takes_of rfl rfl rfl rfl) (ma_cons (me_var rfl (by first | exact .inl rfl | exact .inr (.inl rfl) | exact .inr (.inr rfl)) rfl rfl) (ma_cons (me_var rfl (by first | exact .inl rfl | exact .inr (.inl rfl) | exact .inr (.inr rfl)) rfl rfl) (ma_cons (me_var rfl (by first | exact .inl rfl | exact .inr (.inl rfl) | exact .inr (.inr rfl)) rfl rfl) (ma_cons (me_cal (k_empty_plan Z) (hr.mono (by omega)) rfl (g_empty_plan Z) (takes_of rfl rfl rfl rfl) (ma_cons (me_var rfl (by first | exact .inl rfl | exact .inr (.inl rfl) | exact .inr (.inr rfl)) rfl rfl) ma_nil rfl) rfl rfl rfl) ma_nil rfl) rfl) rfl) rfl) rfl rfl rfl) ma_nil rfl) rfl) rfl))) ms_nil) ms_nil) ms_nil))) (fun _ => rfl)) (ms_cons (ms_ret me_non) ms_nil))
end K35

end
section
namespace K35
open PySem PySem.Spec PyProof.Rows L2 Mi
theorem nd_cost_of : (["shelf", "bounds", "name"] : List Str).Nodup := by decide +kernel
theorem sc_cost_of : FnScope ["shelf", "bounds", "name"] ["shelf", "bounds"] (defScope (top 53)) := ⟨rfl, rfl, rfl, by decide +kernel, rfl, by decide +kernel, by decide +kernel⟩
theorem k_cost_of {P : Program} {w : World} {K : PySem.W.Frag} {mg : Str → Option Value} {base : Heap} (Z : Hd K mg) : Cal P w K mg base (adr K) (He.ga K "cost_of") 1 m_cost_of [] := by
  obtain ⟨fd, F⟩ := Z.c.def_ 27 (d := dd_cost_of) rfl
  refine ⟨⟨fd, ["shelf", "bounds"], [], fn_m F sc_cost_of rfl rfl (fun cdv A outer s H E hr => ?_), (F.bindsN (ps := ["shelf", "bounds"]) (fun _ _ _ _ _ _ us hl => match us, hl with | [_, _], _ => rfl)), Dfl.nil⟩, F.kp⟩
  exact (ms_cons (ms_ret (me_bi (mc_sum rfl) rfl (f_sum Z) rfl (ma_cons (me_lc (own := [("name", 2)]) rfl nd_cost_of (mi_any (me_var rfl (by first | exact .inl rfl | exact .inr (.inl rfl) | exact .inr (.inr rfl)) rfl rfl)) (blk_mk rfl (by rfl)) rfl (fun _ _ _ _ _ => (mg_name nd_cost_of rfl (by first | exact .inl rfl | exact .inr rfl) (by first | exact .inl rfl | exact .inr rfl) (sl := [2]) (by decide))) (fun _ _ _ _ _ => mts_nil) (fun _ _ _ _ _ => (me_fld (me_ix hr.hu (me_fld (me_var rfl (by first | exact .inl rfl | exact .inr (.inl rfl) | exact .inr (.inr rfl)) rfl rfl) (a_lines Z) rfl) (me_var rfl (by first | exact .inl rfl | exact .inr (.inl rfl) | exact .inr (.inr rfl)) rfl rfl) (fun _ _ => rfl)) (a_charge Z) rfl)) (fun _ => rfl)) ma_nil rfl))) ms_nil)
end K35

end
section
namespace K35
open PySem PySem.Spec PyProof.Rows L2 Mi
theorem nd_NoBounding_init : (["self", "doubts", "some", "doubt"] : List Str).Nodup := by decide +kernel
theorem sc_NoBounding_init : FnScope ["self", "doubts", "some", "doubt"] ["self", "doubts"] (defScope (mth 69 0)) := ⟨rfl, rfl, rfl, by decide +kernel, rfl, by decide +kernel, by decide +kernel⟩
theorem k_NoBounding_init {P : Program} {w : World} {K : PySem.W.Frag} {mg : Str → Option Value} {base : Heap} (Z : Hd K mg) : Cal P w K mg base (adr K) (He.ma K (He.ga K "NoBounding") "__init__") 1 m_NoBounding_init [] := by
  obtain ⟨fd, F⟩ := Z.c.def_ 28 (d := dd_NoBounding_init) rfl
  refine ⟨⟨fd, ["self", "doubts"], [], fn_m F sc_NoBounding_init rfl rfl (fun cdv A outer s H E hr => ?_), (F.bindsN (ps := ["self", "doubts"]) (fun _ _ _ _ _ _ us hl => match us, hl with | [_, _], _ => rfl)), Dfl.nil⟩, F.kp⟩
  exact (ms_cons (ms_fld (me_var rfl (by first | exact .inl rfl | exact .inr (.inl rfl) | exact .inr (.inr rfl)) rfl rfl) (me_dc (own := [("some", 2), ("doubt", 3)]) hr.hu rfl nd_NoBounding_init (mi_items (me_var rfl (by first | exact .inl rfl | exact .inr (.inl rfl) | exact .inr (.inr rfl)) rfl rfl)) (blk_mk rfl (by rfl)) rfl (fun _ _ _ _ _ => (mg_tup rfl (mgs_cons (mg_name nd_NoBounding_init rfl (by first | exact .inl rfl | exact .inr rfl) (by first | exact .inl rfl | exact .inr rfl) (sl := [2, 3]) (by decide)) (mgs_cons (mg_name nd_NoBounding_init rfl (by first | exact .inl rfl | exact .inr rfl) (by first | exact .inl rfl | exact .inr rfl) (sl := [2, 3]) (by decide)) mgs_nil rfl) rfl) rfl rfl)) (fun _ _ _ _ _ => mts_nil) (fun _ _ _ _ _ => (me_var rfl (by first | exact .inl rfl | exact .inr (.inl rfl) | exact .inr (.inr rfl)) rfl rfl)) (fun _ _ _ _ _ => (me_var rfl (by first | exact .inl rfl | exact .inr (.inl rfl) | exact .inr (.inr rfl)) rfl rfl)) (fun _ => rfl)) (a_doubts Z) rfl) ms_nil)
end K35

end
section
namespace K35
open PySem PySem.Spec PyProof.Rows L2 Mi
theorem nd_Bounding_init : (["self", "bounds", "plans", "trees", "doubts", "some", "doubt"] : List Str).Nodup := by decide +kernel
theorem sc_Bounding_init : FnScope ["self", "bounds", "plans", "trees", "doubts", "some", "doubt"] ["self", "bounds", "plans", "trees", "doubts"] (defScope (mth 68 0)) := ⟨rfl, rfl, rfl, by decide +kernel, rfl, by decide +kernel, by decide +kernel⟩
theorem k_Bounding_init {P : Program} {w : World} {K : PySem.W.Frag} {mg : Str → Option Value} {base : Heap} (Z : Hd K mg) : Cal P w K mg base (adr K) (He.ma K (He.ga K "Bounding") "__init__") 1 m_Bounding_init [] := by
  obtain ⟨fd, F⟩ := Z.c.def_ 29 (d := dd_Bounding_init) rfl
  refine ⟨⟨fd, ["self", "bounds", "plans", "trees", "doubts"], [], fn_m F sc_Bounding_init rfl rfl (fun cdv A outer s H E hr => ?_), (F.bindsN (ps := ["self", "bounds", "plans", "trees", "doubts"]) (fun _ _ _ _ _ _ us hl => match us, hl with | [_, _, _, _, _], _ => rfl)), Dfl.nil⟩, F.kp⟩
  exact (ms_cons (ms_fld (me_var rfl (by first | exact .inl rfl | exact .inr (.inl rfl) | exact .inr (.inr rfl)) rfl rfl) (me_var rfl (by first | exact .inl rfl | exact .inr (.inl rfl) | exact .inr (.inr rfl)) rfl rfl) (a_bounds Z) rfl) (ms_cons (ms_fld (me_var rfl (by first | exact .inl rfl | exact .inr (.inl rfl) | exact .inr (.inr rfl)) rfl rfl) (me_bt (mc_list rfl) rfl (f_list Z) rfl (ma_cons (me_var rfl (by first | exact .inl rfl | exact .inr (.inl rfl) | exact .inr (.inr rfl)) rfl rfl) ma_nil rfl)) (a_plans Z) rfl) (ms_cons (ms_fld (me_var rfl (by first | exact .inl rfl | exact .inr (.inl rfl) | exact .inr (.inr rfl)) rfl rfl) (me_bt (mc_list rfl) rfl (f_list Z) rfl (ma_cons (me_var rfl (by first | exact .inl rfl | exact .inr (.inl rfl) | exact .inr (.inr rfl)) rfl rfl) ma_nil rfl)) (a_trees Z) rfl) (ms_cons (ms_fld (me_var rfl (by first | exact .inl rfl | exact .inr (.inl rfl) | exact .inr (.inr rfl)) rfl rfl) (me_dc (own := [("some", 5), ("doubt", 6)]) hr.hu rfl nd_Bounding_init (mi_items (me_var rfl (by first | exact .inl rfl | exact .inr (.inl rfl) | exact .inr (.inr rfl)) rfl rfl)) (blk_mk rfl (by rfl)) rfl (fun _ _ _ _ _ => (mg_tup rfl (mgs_cons (mg_name nd_Bounding_init rfl (by first | exact .inl rfl | exact .inr rfl) (by first | exact .inl rfl | exact .inr rfl) (sl := [5, 6]) (by decide)) (mgs_cons (mg_name nd_Bounding_init rfl (by first | exact .inl rfl | exact .inr rfl) (by first | exact .inl rfl | exact .inr rfl) (sl := [5, 6]) (by decide)) mgs_nil rfl) rfl) rfl rfl)) (fun _ _ _ _ _ => mts_nil) (fun _ _ _ _ _ => (me_var rfl (by first | exact .inl rfl | exact .inr (.inl rfl) | exact .inr (.inr rfl)) rfl rfl)) (fun _ _ _ _ _ => (me_var rfl (by first | exact .inl rfl | exact .inr (.inl rfl) | exact .inr (.inr rfl)) rfl rfl)) (fun _ => rfl)) (a_doubts Z) rfl) ms_nil))))
end K35

end
section
namespace K35
open PySem PySem.Spec PyProof.Rows L2 Mi
theorem nd_cheapest : (["shelf", "found", "best", "doubts", "some", "plans", "doubt", "request"] : List Str).Nodup := by decide +kernel
theorem sc_cheapest : FnScope ["shelf", "found", "best", "doubts", "some", "plans", "doubt", "request"] ["shelf"] (defScope (top 71)) := ⟨rfl, rfl, rfl, by decide +kernel, rfl, by decide +kernel, by decide +kernel⟩
theorem k_cheapest {P : Program} {w : World} {K : PySem.W.Frag} {mg : Str → Option Value} {base : Heap} (Z : Hd K mg) : Cal P w K mg base (adr K) (He.ga K "cheapest") 15 m_cheapest [] := by
  obtain ⟨fd, F⟩ := Z.c.def_ 30 (d := dd_cheapest) rfl
  refine ⟨⟨fd, ["shelf"], [], fn_m F sc_cheapest rfl rfl (fun cdv A outer s H E hr => ?_), (F.bindsN (ps := ["shelf"]) (fun _ _ _ _ _ _ us hl => match us, hl with | [_], _ => rfl)), Dfl.nil⟩, F.kp⟩
  exact (ms_cons (ms_expr (me_cal (k_check_shelf Z) (hr.mono (by omega)) rfl (g_check_shelf Z) (takes_of rfl rfl rfl rfl) (ma_cons (me_var rfl (by first | exact .inl rfl | exact .inr (.inl rfl) | exact .inr (.inr rfl)) rfl rfl) ma_nil rfl) rfl rfl rfl) rfl) (ms_cons (ms_set nd_cheapest (i := 1) rfl (by first | exact .inl rfl | exact .inr rfl) (me_dc (own := [("some", 4)]) hr.hu rfl nd_cheapest (mi_any (me_cal (k_all_sets Z) (hr.mono (by omega)) rfl (g_all_sets Z) (takes_of rfl rfl rfl rfl) (ma_cons (me_var rfl (by first | exact .inl rfl | exact .inr (.inl rfl) | exact .inr (.inr rfl)) rfl rfl) ma_nil rfl) rfl rfl rfl)) (blk_mk rfl (by rfl)) rfl (fun _ _ _ _ _ => (mg_name nd_cheapest rfl (by first | exact .inl rfl | exact .inr rfl) (by first | exact .inl rfl | exact .inr rfl) (sl := [4]) (by decide))) (fun _ _ _ _ _ => mts_nil) (fun _ _ _ _ _ => (me_var rfl (by first | exact .inl rfl | exact .inr (.inl rfl) | exact .inr (.inr rfl)) rfl rfl)) (fun _ _ _ _ _ => (me_cal (k_doubt_of Z) (hr.mono (by omega)) rfl (g_doubt_of Z) (takes0 rfl) (ma_cons (me_var rfl (by first | exact .inl rfl | exact .inr (.inl rfl) | exact .inr (.inr rfl)) rfl rfl) (ma_cons (me_var rfl (by first | exact .inl rfl | exact .inr (.inl rfl) | exact .inr (.inr rfl)) rfl rfl) ma_nil rfl) rfl) rfl rfl rfl)) (fun _ => rfl)) rfl (.inl rfl)) (ms_cons (ms_set nd_cheapest (i := 2) rfl (by first | exact .inl rfl | exact .inr rfl) me_non rfl (.inl rfl)) (ms_cons (ms_for (passes_of rfl) rfl (mi_items (me_var rfl (by first | exact .inl rfl | exact .inr (.inl rfl) | exact .inr (.inr rfl)) rfl rfl)) (mg_tup rfl (mgs_cons (mg_name nd_cheapest rfl (by first | exact .inl rfl | exact .inr rfl) (.inl rfl) (sl := [4, 6]) (by decide)) (mgs_cons (mg_name nd_cheapest rfl (by first | exact .inl rfl | exact .inr rfl) (.inl rfl) (sl := [4, 6]) (by decide)) mgs_nil rfl) rfl) rfl rfl) (ms_cons (ms_if (MW.mt (mw_and (mt_cmpW mo_is (me_var rfl (by first | exact .inl rfl | exact .inr (.inl rfl) | exact .inr (.inr rfl)) rfl rfl) me_non rfl) (mw_and1 (MW.mt (mw_or (mt_cmpW mo_is (me_var rfl (by first | exact .inl rfl | exact .inr (.inl rfl) | exact .inr (.inr rfl)) rfl rfl) me_non rfl) (mw_or1 (mt_cmpW mo_lt (me_cal (k_cost_of Z) (hr.mono (by omega)) rfl (g_cost_of Z) (takes_of rfl rfl rfl rfl) (ma_cons (me_var rfl (by first | exact .inl rfl | exact .inr (.inl rfl) | exact .inr (.inr rfl)) rfl rfl) (ma_cons (me_var rfl (by first | exact .inl rfl | exact .inr (.inl rfl) | exact .inr (.inr rfl)) rfl rfl) ma_nil rfl) rfl) rfl rfl rfl) (me_cal (k_cost_of Z) (hr.mono (by omega)) rfl (g_cost_of Z) (takes_of rfl rfl rfl rfl) (ma_cons (me_var rfl (by first | exact .inl rfl | exact .inr (.inl rfl) | exact .inr (.inr rfl)) rfl rfl) (ma_cons (me_var rfl (by first | exact .inl rfl | exact .inr (.inl rfl) | exact .inr (.inr rfl)) rfl rfl) ma_nil rfl) rfl) rfl rfl rfl) rfl))))))) (ms_cons (ms_set nd_cheapest (i := 2) rfl (by first | exact .inl rfl | exact .inr rfl) (me_var rfl (by first | exact .inl rfl | exact .inr (.inl rfl) | exact .inr (.inr rfl)) rfl rfl) rfl (.inl rfl)) ms_nil) ms_nil) ms_nil) (fun _ => rfl)) (ms_cons (ms_if (mt_cmpW mo_is (me_var rfl (by first | exact .inl rfl | exact .inr (.inl rfl) | exact .inr (.inr rfl)) rfl rfl) me_non rfl) (ms_cons (ms_ret (me_mk (fr := true) (mk_NoBounding Z) (k_NoBounding_init Z) (hr.mono (by omega)) rfl (g_NoBounding Z) (takes_of rfl rfl rfl rfl) (ma_cons (me_var rfl (by first | exact .inl rfl | exact .inr (.inl rfl) | exact .inr (.inr rfl)) rfl rfl) ma_nil rfl) rfl rfl rfl)) ms_nil) ms_nil) (ms_cons (ms_setDc (i := 3) (own := [("some", 4)]) rfl rfl hr.hu rfl nd_cheapest (mi_any (me_var rfl (by first | exact .inl rfl | exact .inr (.inl rfl) | exact .inr (.inr rfl)) rfl rfl)) (blk_mk rfl (by rfl)) rfl (fun _ _ _ _ _ => (mg_name nd_cheapest rfl (by first | exact .inl rfl | exact .inr rfl) (by first | exact .inl rfl | exact .inr rfl) (sl := [4]) (by decide))) (fun _ _ _ _ _ => (mts_one (mt_cmpW mo_lt (me_cal (k_cost_of Z) (hr.mono (by omega)) rfl (g_cost_of Z) (takes0 rfl) (ma_cons (me_var rfl (by first | exact .inl rfl | exact .inr (.inl rfl) | exact .inr (.inr rfl)) rfl rfl) (ma_cons (me_var rfl (by first | exact .inl rfl | exact .inr (.inl rfl) | exact .inr (.inr rfl)) rfl rfl) ma_nil rfl) rfl) rfl rfl rfl) (me_cal (k_cost_of Z) (hr.mono (by omega)) rfl (g_cost_of Z) (takes0 rfl) (ma_cons (me_var rfl (by first | exact .inl rfl | exact .inr (.inl rfl) | exact .inr (.inr rfl)) rfl rfl) (ma_cons (me_var rfl (by first | exact .inl rfl | exact .inr (.inl rfl) | exact .inr (.inr rfl)) rfl rfl) ma_nil rfl) rfl) rfl rfl rfl) rfl))) (fun _ _ _ _ _ => (me_var rfl (by first | exact .inl rfl | exact .inr (.inl rfl) | exact .inr (.inr rfl)) rfl rfl)) (fun _ _ _ _ _ => (me_ix hr.hu (me_var rfl (by first | exact .inl rfl | exact .inr (.inl rfl) | exact .inr (.inr rfl)) rfl rfl) (me_var rfl (by first | exact .inl rfl | exact .inr (.inl rfl) | exact .inr (.inr rfl)) rfl rfl) (fun _ _ => rfl))) (fun _ => rfl) (swd_true rfl rfl rfl (by decide +kernel))) (ms_cons (ms_set nd_cheapest (i := 4) rfl (by first | exact .inl rfl | exact .inr rfl) (me_listRg rfl rfl (f_list Z) rfl (f_range Z) (me_bi mc_len rfl (f_len Z) rfl (ma_cons (me_fld (me_var rfl (by first | exact .inl rfl | exact .inr (.inl rfl) | exact .inr (.inr rfl)) rfl rfl) (a_asked Z) rfl) ma_nil rfl))) rfl (.inl rfl)) (ms_cons (ms_setLc (i := 5) (own := [("request", 7)]) rfl rfl (sw_true rfl rfl rfl (by decide +kernel)) rfl nd_cheapest (mi_any (me_var rfl (by first | exact .inl rfl | exact .inr (.inl rfl) | exact .inr (.inr rfl)) rfl rfl)) (blk_mk rfl (by rfl)) rfl (fun _ _ _ _ _ => (mg_name nd_cheapest rfl (by first | exact .inl rfl | exact .inr rfl) (by first | exact .inl rfl | exact .inr rfl) (sl := [7]) (by decide))) (fun _ _ _ _ _ => mts_nil) (fun _ _ _ _ _ => (me_ix hr.hu (me_cal (k_allowed_plans Z) (hr.mono (by omega)) rfl (g_allowed_plans Z) (takes0 rfl) (ma_cons (me_var rfl (by first | exact .inl rfl | exact .inr (.inl rfl) | exact .inr (.inr rfl)) rfl rfl) (ma_cons (me_var rfl (by first | exact .inl rfl | exact .inr (.inl rfl) | exact .inr (.inr rfl)) rfl rfl) (ma_cons (me_var rfl (by first | exact .inl rfl | exact .inr (.inl rfl) | exact .inr (.inr rfl)) rfl rfl) ma_nil rfl) rfl) rfl) rfl rfl rfl) me_int (fun _ _ => rfl))) (fun _ => rfl)) (ms_cons (ms_ret (me_mk (fr := true) (mk_Bounding Z) (k_Bounding_init Z) (hr.mono (by omega)) rfl (g_Bounding Z) (takes_of rfl rfl rfl rfl) (ma_cons (me_var rfl (by first | exact .inl rfl | exact .inr (.inl rfl) | exact .inr (.inr rfl)) rfl rfl) (ma_cons (me_var rfl (by first | exact .inl rfl | exact .inr (.inl rfl) | exact .inr (.inr rfl)) rfl rfl) (ma_cons (me_lc (own := [("request", 7)]) rfl nd_cheapest (mi_any (me_var rfl (by first | exact .inl rfl | exact .inr (.inl rfl) | exact .inr (.inr rfl)) rfl rfl)) (blk_mk rfl (by rfl)) rfl (fun _ _ _ _ _ => (mg_name nd_cheapest rfl (by first | exact .inl rfl | exact .inr rfl) (by first | exact .inl rfl | exact .inr rfl) (sl := [7]) (by decide))) (fun _ _ _ _ _ => mts_nil) (fun _ _ _ _ _ => (me_cal (k_tree_of 9 Z) (hr.mono (by omega)) rfl (g_tree_of Z) (takes0 rfl) (ma_cons (me_var rfl (by first | exact .inl rfl | exact .inr (.inl rfl) | exact .inr (.inr rfl)) rfl rfl) (ma_cons (me_var rfl (by first | exact .inl rfl | exact .inr (.inl rfl) | exact .inr (.inr rfl)) rfl rfl) (ma_cons (me_var rfl (by first | exact .inl rfl | exact .inr (.inl rfl) | exact .inr (.inr rfl)) rfl rfl) (ma_cons (me_cal (k_empty_plan Z) (hr.mono (by omega)) rfl (g_empty_plan Z) (takes0 rfl) (ma_cons (me_var rfl (by first | exact .inl rfl | exact .inr (.inl rfl) | exact .inr (.inr rfl)) rfl rfl) ma_nil rfl) rfl rfl rfl) ma_nil rfl) rfl) rfl) rfl) rfl rfl rfl)) (fun _ => rfl)) (ma_cons (me_var rfl (by first | exact .inl rfl | exact .inr (.inl rfl) | exact .inr (.inr rfl)) rfl rfl) ma_nil rfl) rfl) rfl) rfl) rfl rfl rfl)) ms_nil)))))))))
end K35

end
section
namespace K35
open PySem PySem.Spec PyProof.Rows L2 Mi
theorem nd_is_sound : (["shelf", "request", "bounds", "plan", "tree", "name", "some", "one", "inner"] : List Str).Nodup := by decide +kernel
theorem sc_is_sound : FnScope ["shelf", "request", "bounds", "plan", "tree", "name", "some", "one", "inner"] ["shelf", "request", "bounds", "plan", "tree"] (defScope (top 58)) := ⟨rfl, rfl, rfl, by decide +kernel, rfl, by decide +kernel, by decide +kernel⟩
theorem k_is_sound {P : Program} {w : World} {K : PySem.W.Frag} {mg : Str → Option Value} {base : Heap} : ∀ (n : Nat) (Z : Hd K mg), Cal P w K mg base (adr K) (He.ga K "is_sound") (3 + n) (m_is_sound n) []
  | 0, Z => by
    obtain ⟨fd, F⟩ := Z.c.def_ 31 (d := dd_is_sound) rfl
    exact cal_stuck (F.bindsN (ps := ["shelf", "request", "bounds", "plan", "tree"]) (fun _ _ _ _ _ _ us hl => match us, hl with | [_, _, _, _, _], _ => rfl)) Dfl.nil F.kp
  | n + 1, Z => by
    have ih := fun Z => k_is_sound (P := P) (w := w) (K := K) (mg := mg) (base := base) n Z
    obtain ⟨fd, F⟩ := Z.c.def_ 31 (d := dd_is_sound) rfl
    refine ⟨⟨fd, ["shelf", "request", "bounds", "plan", "tree"], [], fn_m (k := 3 + n) F sc_is_sound rfl rfl (fun cdv A outer s H E hr => ?_), (F.bindsN (ps := ["shelf", "request", "bounds", "plan", "tree"]) (fun _ _ _ _ _ _ us hl => match us, hl with | [_, _, _, _, _], _ => rfl)), Dfl.nil⟩, F.kp⟩
    exact (ms_cons (ms_if (mt_cmpW (mo_eqB hr.hu) (me_ix hr.hu (me_var rfl (by first | exact .inl rfl | exact .inr (.inl rfl) | exact .inr (.inr rfl)) rfl rfl) me_int (fun _ _ => rfl)) me_str rfl) (ms_cons (ms_ret (me_and (me_cmpW (mo_in hr.hu) (me_ix hr.hu (me_var rfl (by first | exact .inl rfl | exact .inr (.inl rfl) | exact .inr (.inr rfl)) rfl rfl) me_int (fun _ _ => rfl)) (me_var rfl (by first | exact .inl rfl | exact .inr (.inl rfl) | exact .inr (.inr rfl)) rfl rfl) rfl) (me_one (me_cal (k_violates Z) (hr.mono (by omega)) rfl (g_violates Z) (takes_of rfl rfl rfl rfl) (ma_cons (me_var rfl (by first | exact .inl rfl | exact .inr (.inl rfl) | exact .inr (.inr rfl)) rfl rfl) (ma_cons (me_var rfl (by first | exact .inl rfl | exact .inr (.inl rfl) | exact .inr (.inr rfl)) rfl rfl) (ma_cons (me_ix hr.hu (me_var rfl (by first | exact .inl rfl | exact .inr (.inl rfl) | exact .inr (.inr rfl)) rfl rfl) me_int (fun _ _ => rfl)) ma_nil rfl) rfl) rfl) rfl rfl rfl)))) ms_nil) ms_nil) (ms_cons (ms_set nd_is_sound (i := 5) rfl (by first | exact .inl rfl | exact .inr rfl) (me_cal (k_next_of Z) (hr.mono (by omega)) rfl (g_next_of Z) (takes_of rfl rfl rfl rfl) (ma_cons (me_var rfl (by first | exact .inl rfl | exact .inr (.inl rfl) | exact .inr (.inr rfl)) rfl rfl) (ma_cons (me_var rfl (by first | exact .inl rfl | exact .inr (.inl rfl) | exact .inr (.inr rfl)) rfl rfl) (ma_cons (me_var rfl (by first | exact .inl rfl | exact .inr (.inl rfl) | exact .inr (.inr rfl)) rfl rfl) ma_nil rfl) rfl) rfl) rfl rfl rfl) rfl (.inl rfl)) (ms_cons (ms_if (mt_cmpW (mo_eqB hr.hu) (me_ix hr.hu (me_var rfl (by first | exact .inl rfl | exact .inr (.inl rfl) | exact .inr (.inr rfl)) rfl rfl) me_int (fun _ _ => rfl)) me_str rfl) (ms_cons (ms_ret (me_and (me_cmpW mo_is (me_var rfl (by first | exact .inl rfl | exact .inr (.inl rfl) | exact .inr (.inr rfl)) rfl rfl) me_non rfl) (me_one (me_not (me_cal (k_clashing Z) (hr.mono (by omega)) rfl (g_clashing Z) (takes_of rfl rfl rfl rfl) (ma_cons (me_var rfl (by first | exact .inl rfl | exact .inr (.inl rfl) | exact .inr (.inr rfl)) rfl rfl) (ma_cons (me_var rfl (by first | exact .inl rfl | exact .inr (.inl rfl) | exact .inr (.inr rfl)) rfl rfl) ma_nil rfl) rfl) rfl rfl rfl))))) ms_nil) ms_nil) (ms_cons (ms_if (mt_cmpW mo_is (me_var rfl (by first | exact .inl rfl | exact .inr (.inl rfl) | exact .inr (.inr rfl)) rfl rfl) me_non rfl) (ms_cons (ms_ret me_bl) ms_nil) ms_nil) (ms_cons (ms_set nd_is_sound (i := 6) rfl (by first | exact .inl rfl | exact .inr rfl) (me_cal (k_choices_of Z) (hr.mono (by omega)) rfl (g_choices_of Z) (takes_of rfl rfl rfl rfl) (ma_cons (me_var rfl (by first | exact .inl rfl | exact .inr (.inl rfl) | exact .inr (.inr rfl)) rfl rfl) (ma_cons (me_var rfl (by first | exact .inl rfl | exact .inr (.inl rfl) | exact .inr (.inr rfl)) rfl rfl) (ma_cons (me_var rfl (by first | exact .inl rfl | exact .inr (.inl rfl) | exact .inr (.inr rfl)) rfl rfl) ma_nil rfl) rfl) rfl) rfl rfl rfl) rfl (.inl rfl)) (ms_cons (ms_if (mt_cmpW (mo_neB hr.hu) (me_bi mc_len rfl (f_len Z) rfl (ma_cons (me_var rfl (by first | exact .inl rfl | exact .inr (.inl rfl) | exact .inr (.inr rfl)) rfl rfl) ma_nil rfl)) (me_bi mc_len rfl (f_len Z) rfl (ma_cons (me_ix hr.hu (me_var rfl (by first | exact .inl rfl | exact .inr (.inl rfl) | exact .inr (.inr rfl)) rfl rfl) me_int (fun _ _ => rfl)) ma_nil rfl)) rfl) (ms_cons (ms_ret me_bl) ms_nil) ms_nil) (ms_cons (ms_ret (me_bi (mc_all rfl) rfl (f_all Z) rfl (ma_cons (me_lc (own := [("one", 7), ("inner", 8)]) rfl nd_is_sound (mi_zip rfl (f_zip Z) (ma_cons (me_var rfl (by first | exact .inl rfl | exact .inr (.inl rfl) | exact .inr (.inr rfl)) rfl rfl) (ma_cons (me_ix hr.hu (me_var rfl (by first | exact .inl rfl | exact .inr (.inl rfl) | exact .inr (.inr rfl)) rfl rfl) me_int (fun _ _ => rfl)) ma_nil rfl) rfl)) (blk_mk rfl (by rfl)) rfl (fun _ _ _ _ _ => (mg_tup rfl (mgs_cons (mg_name nd_is_sound rfl (by first | exact .inl rfl | exact .inr rfl) (by first | exact .inl rfl | exact .inr rfl) (sl := [7, 8]) (by decide)) (mgs_cons (mg_name nd_is_sound rfl (by first | exact .inl rfl | exact .inr rfl) (by first | exact .inl rfl | exact .inr rfl) (sl := [7, 8]) (by decide)) mgs_nil rfl) rfl) rfl rfl)) (fun _ _ _ _ _ => mts_nil) (fun _ _ _ _ _ => (me_cal (ih Z) (hr.mono (by omega)) rfl (g_is_sound Z) (takes0 rfl) (ma_cons (me_var rfl (by first | exact .inl rfl | exact .inr (.inl rfl) | exact .inr (.inr rfl)) rfl rfl) (ma_cons (me_var rfl (by first | exact .inl rfl | exact .inr (.inl rfl) | exact .inr (.inr rfl)) rfl rfl) (ma_cons (me_var rfl (by first | exact .inl rfl | exact .inr (.inl rfl) | exact .inr (.inr rfl)) rfl rfl) (ma_cons (me_var rfl (by first | exact .inl rfl | exact .inr (.inl rfl) | exact .inr (.inr rfl)) rfl rfl) (ma_cons (me_var rfl (by first | exact .inl rfl | exact .inr (.inl rfl) | exact .inr (.inr rfl)) rfl rfl) ma_nil rfl) rfl) rfl) rfl) rfl) rfl rfl rfl)) (fun _ => rfl)) ma_nil rfl))) ms_nil)))))))
end K35

end
section
namespace K35
open PySem PySem.Spec PyProof.Rows L2 Mi
theorem nd_is_closed : (["tree", "waiting", "one"] : List Str).Nodup := by decide +kernel
theorem sc_is_closed : FnScope ["tree", "waiting", "one"] ["tree"] (defScope (top 59)) := ⟨rfl, rfl, rfl, by decide +kernel, rfl, by decide +kernel, by decide +kernel⟩
theorem k_is_closed {P : Program} {w : World} {K : PySem.W.Frag} {mg : Str → Option Value} {base : Heap} (Z : Hd K mg) : Cal P w K mg base (adr K) (He.ga K "is_closed") 1 m_is_closed [] := by
  obtain ⟨fd, F⟩ := Z.c.def_ 32 (d := dd_is_closed) rfl
  refine ⟨⟨fd, ["tree"], [], fn_m F sc_is_closed rfl rfl (fun cdv A outer s H E hr => ?_), (F.bindsN (ps := ["tree"]) (fun _ _ _ _ _ _ us hl => match us, hl with | [_], _ => rfl)), Dfl.nil⟩, F.kp⟩
  exact (ms_cons (ms_set nd_is_closed (i := 1) rfl (by first | exact .inl rfl | exact .inr rfl) (me_box (ma_cons (me_var rfl (by first | exact .inl rfl | exact .inr (.inl rfl) | exact .inr (.inr rfl)) rfl rfl) ma_nil rfl)) rfl (.inl rfl)) (ms_cons (ms_while (passes_of rfl) (mt_cmpW (mo_neB hr.hu) (me_var rfl (by first | exact .inl rfl | exact .inr (.inl rfl) | exact .inr (.inr rfl)) rfl rfl) (me_lst ma_nil) rfl) (ms_cons (ms_set nd_is_closed (i := 2) rfl (by first | exact .inl rfl | exact .inr rfl) (me_bm0 PySem.F.plainAttrs_list PySem.F.slot_list_pop PySem.F.type_list_pop mt_popW ty_list (me_var rfl (by first | exact .inl rfl | exact .inr (.inl rfl) | exact .inr (.inr rfl)) rfl rfl)) rfl (.inl rfl)) (ms_cons (ms_if (mt_cmpW (mo_eqB hr.hu) (me_ix hr.hu (me_var rfl (by first | exact .inl rfl | exact .inr (.inl rfl) | exact .inr (.inr rfl)) rfl rfl) me_int (fun _ _ => rfl)) me_str rfl) (ms_cons (ms_ret me_bl) ms_nil) ms_nil) (ms_cons (ms_if (mt_cmpW (mo_eqB hr.hu) (me_ix hr.hu (me_var rfl (by first | exact .inl rfl | exact .inr (.inl rfl) | exact .inr (.inr rfl)) rfl rfl) me_int (fun _ _ => rfl)) me_str rfl) (ms_cons (ms_expr (me_bm PySem.F.plainAttrs_list PySem.F.slot_list_extend PySem.F.type_list_extend mt_extendW ty_list (me_var rfl (by first | exact .inl rfl | exact .inr (.inl rfl) | exact .inr (.inr rfl)) rfl rfl) (ma_cons (me_ix hr.hu (me_var rfl (by first | exact .inl rfl | exact .inr (.inl rfl) | exact .inr (.inr rfl)) rfl rfl) me_int (fun _ _ => rfl)) ma_nil rfl)) rfl) ms_nil) ms_nil) ms_nil)))) (ms_cons (ms_ret me_bl) ms_nil)))
end K35

end
section
namespace K35
open PySem PySem.Spec PyProof.Rows L2 Mi
theorem nd_is_against : (["shelf", "bounds", "doubt", "word", "request", "content"] : List Str).Nodup := by decide +kernel
theorem sc_is_against : FnScope ["shelf", "bounds", "doubt", "word", "request", "content"] ["shelf", "bounds", "doubt"] (defScope (top 63)) := ⟨rfl, rfl, rfl, by decide +kernel, rfl, by decide +kernel, by decide +kernel⟩
theorem k_is_against {P : Program} {w : World} {K : PySem.W.Frag} {mg : Str → Option Value} {base : Heap} (Z : Hd K mg) : Cal P w K mg base (adr K) (He.ga K "is_against") 13 m_is_against [] := by
  obtain ⟨fd, F⟩ := Z.c.def_ 33 (d := dd_is_against) rfl
  refine ⟨⟨fd, ["shelf", "bounds", "doubt"], [], fn_m F sc_is_against rfl rfl (fun cdv A outer s H E hr => ?_), (F.bindsN (ps := ["shelf", "bounds", "doubt"]) (fun _ _ _ _ _ _ us hl => match us, hl with | [_, _, _], _ => rfl)), Dfl.nil⟩, F.kp⟩
  exact (ms_cons (ms_asg (me_var rfl (by first | exact .inl rfl | exact .inr (.inl rfl) | exact .inr (.inr rfl)) rfl rfl) (mg_tup rfl (mgs_cons (mg_name nd_is_against rfl (by first | exact .inl rfl | exact .inr rfl) (.inl rfl) (sl := [3, 4, 5]) (by decide)) (mgs_cons (mg_name nd_is_against rfl (by first | exact .inl rfl | exact .inr rfl) (.inl rfl) (sl := [3, 4, 5]) (by decide)) (mgs_cons (mg_name nd_is_against rfl (by first | exact .inl rfl | exact .inr rfl) (.inl rfl) (sl := [3, 4, 5]) (by decide)) mgs_nil rfl) rfl) rfl) rfl rfl) rfl rfl rfl) (ms_cons (ms_if (mt_cmpW (mo_eqB hr.hu) (me_var rfl (by first | exact .inl rfl | exact .inr (.inl rfl) | exact .inr (.inr rfl)) rfl rfl) me_str rfl) (ms_cons (ms_ret (me_and (me_cal (k_is_closed Z) (hr.mono (by omega)) rfl (g_is_closed Z) (takes_of rfl rfl rfl rfl) (ma_cons (me_var rfl (by first | exact .inl rfl | exact .inr (.inl rfl) | exact .inr (.inr rfl)) rfl rfl) ma_nil rfl) rfl rfl rfl) (me_one (me_cal (k_is_sound 9 Z) (hr.mono (by omega)) rfl (g_is_sound Z) (takes_of rfl rfl rfl rfl) (ma_cons (me_var rfl (by first | exact .inl rfl | exact .inr (.inl rfl) | exact .inr (.inr rfl)) rfl rfl) (ma_cons (me_var rfl (by first | exact .inl rfl | exact .inr (.inl rfl) | exact .inr (.inr rfl)) rfl rfl) (ma_cons (me_var rfl (by first | exact .inl rfl | exact .inr (.inl rfl) | exact .inr (.inr rfl)) rfl rfl) (ma_cons (me_cal (k_empty_plan Z) (hr.mono (by omega)) rfl (g_empty_plan Z) (takes_of rfl rfl rfl rfl) (ma_cons (me_var rfl (by first | exact .inl rfl | exact .inr (.inl rfl) | exact .inr (.inr rfl)) rfl rfl) ma_nil rfl) rfl rfl rfl) (ma_cons (me_var rfl (by first | exact .inl rfl | exact .inr (.inl rfl) | exact .inr (.inr rfl)) rfl rfl) ma_nil rfl) rfl) rfl) rfl) rfl) rfl rfl rfl)))) ms_nil) ms_nil) (ms_cons (ms_if (MW.mt (mw_or (mt_cmpW (mo_notIn hr.hu) (me_var rfl (by first | exact .inl rfl | exact .inr (.inl rfl) | exact .inr (.inr rfl)) rfl rfl) (me_cal (k_all_plans Z) (hr.mono (by omega)) rfl (g_all_plans Z) (takes_of rfl rfl rfl rfl) (ma_cons (me_var rfl (by first | exact .inl rfl | exact .inr (.inl rfl) | exact .inr (.inr rfl)) rfl rfl) (ma_cons (me_var rfl (by first | exact .inl rfl | exact .inr (.inl rfl) | exact .inr (.inr rfl)) rfl rfl) ma_nil rfl) rfl) rfl rfl rfl) rfl) (mw_or1 (mt_not (mt_val (me_cal (k_clashing Z) (hr.mono (by omega)) rfl (g_clashing Z) (takes_of rfl rfl rfl rfl) (ma_cons (me_var rfl (by first | exact .inl rfl | exact .inr (.inl rfl) | exact .inr (.inr rfl)) rfl rfl) (ma_cons (me_var rfl (by first | exact .inl rfl | exact .inr (.inl rfl) | exact .inr (.inr rfl)) rfl rfl) ma_nil rfl) rfl) rfl rfl rfl) (fun _ => rfl)))))) (ms_cons (ms_ret me_bl) ms_nil) ms_nil) (ms_cons (ms_ret (me_cal (k_is_allowed Z) (hr.mono (by omega)) rfl (g_is_allowed Z) (takes_of rfl rfl rfl rfl) (ma_cons (me_var rfl (by first | exact .inl rfl | exact .inr (.inl rfl) | exact .inr (.inr rfl)) rfl rfl) (ma_cons (me_var rfl (by first | exact .inl rfl | exact .inr (.inl rfl) | exact .inr (.inr rfl)) rfl rfl) (ma_cons (me_var rfl (by first | exact .inl rfl | exact .inr (.inl rfl) | exact .inr (.inr rfl)) rfl rfl) ma_nil rfl) rfl) rfl) rfl rfl rfl)) ms_nil))))
end K35

end
section
namespace K35
open PySem PySem.Spec PyProof.Rows L2 Mi
theorem nd_are_doubts : (["shelf", "doubts", "sets", "some"] : List Str).Nodup := by decide +kernel
theorem sc_are_doubts : FnScope ["shelf", "doubts", "sets", "some"] ["shelf", "doubts", "sets"] (defScope (top 70)) := ⟨rfl, rfl, rfl, by decide +kernel, rfl, by decide +kernel, by decide +kernel⟩
theorem k_are_doubts {P : Program} {w : World} {K : PySem.W.Frag} {mg : Str → Option Value} {base : Heap} (Z : Hd K mg) : Cal P w K mg base (adr K) (He.ga K "are_doubts") 14 m_are_doubts [] := by
  obtain ⟨fd, F⟩ := Z.c.def_ 34 (d := dd_are_doubts) rfl
  refine ⟨⟨fd, ["shelf", "doubts", "sets"], [], fn_m F sc_are_doubts rfl rfl (fun cdv A outer s H E hr => ?_), (F.bindsN (ps := ["shelf", "doubts", "sets"]) (fun _ _ _ _ _ _ us hl => match us, hl with | [_, _, _], _ => rfl)), Dfl.nil⟩, F.kp⟩
  exact (ms_cons (ms_if (MW.mt (mw_or (mt_cmpW (mo_neB hr.hu) (me_bi mc_len rfl (f_len Z) rfl (ma_cons (me_var rfl (by first | exact .inl rfl | exact .inr (.inl rfl) | exact .inr (.inr rfl)) rfl rfl) ma_nil rfl)) (me_bi mc_len rfl (f_len Z) rfl (ma_cons (me_var rfl (by first | exact .inl rfl | exact .inr (.inl rfl) | exact .inr (.inr rfl)) rfl rfl) ma_nil rfl)) rfl) (mw_or1 (mt_not (mt_val (me_bi (mc_all rfl) rfl (f_all Z) rfl (ma_cons (me_lc (own := [("some", 3)]) rfl nd_are_doubts (mi_any (me_var rfl (by first | exact .inl rfl | exact .inr (.inl rfl) | exact .inr (.inr rfl)) rfl rfl)) (blk_mk rfl (by rfl)) rfl (fun _ _ _ _ _ => (mg_name nd_are_doubts rfl (by first | exact .inl rfl | exact .inr rfl) (by first | exact .inl rfl | exact .inr rfl) (sl := [3]) (by decide))) (fun _ _ _ _ _ => mts_nil) (fun _ _ _ _ _ => (me_cmpW (mo_in hr.hu) (me_var rfl (by first | exact .inl rfl | exact .inr (.inl rfl) | exact .inr (.inr rfl)) rfl rfl) (me_var rfl (by first | exact .inl rfl | exact .inr (.inl rfl) | exact .inr (.inr rfl)) rfl rfl) rfl)) (fun _ => rfl)) ma_nil rfl)) (fun _ => rfl)))))) (ms_cons (ms_ret me_bl) ms_nil) ms_nil) (ms_cons (ms_ret (me_bi (mc_all rfl) rfl (f_all Z) rfl (ma_cons (me_lc (own := [("some", 3)]) rfl nd_are_doubts (mi_any (me_var rfl (by first | exact .inl rfl | exact .inr (.inl rfl) | exact .inr (.inr rfl)) rfl rfl)) (blk_mk rfl (by rfl)) rfl (fun _ _ _ _ _ => (mg_name nd_are_doubts rfl (by first | exact .inl rfl | exact .inr rfl) (by first | exact .inl rfl | exact .inr rfl) (sl := [3]) (by decide))) (fun _ _ _ _ _ => mts_nil) (fun _ _ _ _ _ => (me_cal (k_is_against Z) (hr.mono (by omega)) rfl (g_is_against Z) (takes0 rfl) (ma_cons (me_var rfl (by first | exact .inl rfl | exact .inr (.inl rfl) | exact .inr (.inr rfl)) rfl rfl) (ma_cons (me_var rfl (by first | exact .inl rfl | exact .inr (.inl rfl) | exact .inr (.inr rfl)) rfl rfl) (ma_cons (me_ix hr.hu (me_var rfl (by first | exact .inl rfl | exact .inr (.inl rfl) | exact .inr (.inr rfl)) rfl rfl) (me_var rfl (by first | exact .inl rfl | exact .inr (.inl rfl) | exact .inr (.inr rfl)) rfl rfl) (fun _ _ => rfl)) ma_nil rfl) rfl) rfl) rfl rfl rfl)) (fun _ => rfl)) ma_nil rfl))) ms_nil))
end K35

end
section
namespace K35
open PySem PySem.Spec PyProof.Rows L2 Mi
theorem nd_Bounding_shows : (["self", "shelf", "most", "request", "plan", "tree", "one"] : List Str).Nodup := by decide +kernel
theorem sc_Bounding_shows : FnScope ["self", "shelf", "most", "request", "plan", "tree", "one"] ["self", "shelf"] (defScope (mth 68 2)) := ⟨rfl, rfl, rfl, by decide +kernel, rfl, by decide +kernel, by decide +kernel⟩
theorem k_Bounding_shows {P : Program} {w : World} {K : PySem.W.Frag} {mg : Str → Option Value} {base : Heap} (Z : Hd K mg) : Cal P w K mg base (adr K) (He.ma K (He.ga K "Bounding") "shows") 15 m_Bounding_shows [] := by
  obtain ⟨fd, F⟩ := Z.c.def_ 35 (d := dd_Bounding_shows) rfl
  refine ⟨⟨fd, ["self", "shelf"], [], fn_m F sc_Bounding_shows rfl rfl (fun cdv A outer s H E hr => ?_), (F.bindsN (ps := ["self", "shelf"]) (fun _ _ _ _ _ _ us hl => match us, hl with | [_, _], _ => rfl)), Dfl.nil⟩, F.kp⟩
  exact (ms_cons (ms_expr (me_cal (k_check_shelf Z) (hr.mono (by omega)) rfl (g_check_shelf Z) (takes_of rfl rfl rfl rfl) (ma_cons (me_var rfl (by first | exact .inl rfl | exact .inr (.inl rfl) | exact .inr (.inr rfl)) rfl rfl) ma_nil rfl) rfl rfl rfl) rfl) (ms_cons (ms_for (passes_of rfl) rfl (mi_ez rfl (f_zip Z) rfl (f_enumerate Z) (ma_cons (me_fld (me_var rfl (by first | exact .inl rfl | exact .inr (.inl rfl) | exact .inr (.inr rfl)) rfl rfl) (a_plans Z) rfl) (ma_cons (me_fld (me_var rfl (by first | exact .inl rfl | exact .inr (.inl rfl) | exact .inr (.inr rfl)) rfl rfl) (a_trees Z) rfl) ma_nil rfl) rfl)) (mg_tup rfl (mgs_cons (mg_name nd_Bounding_shows rfl (by first | exact .inl rfl | exact .inr rfl) (.inl rfl) (sl := [3, 4, 5]) (by decide)) (mgs_cons (mg_tup rfl (mgs_cons (mg_name nd_Bounding_shows rfl (by first | exact .inl rfl | exact .inr rfl) (.inl rfl) (sl := [3, 4, 5]) (by decide)) (mgs_cons (mg_name nd_Bounding_shows rfl (by first | exact .inl rfl | exact .inr rfl) (.inl rfl) (sl := [3, 4, 5]) (by decide)) mgs_nil rfl) rfl) rfl rfl) mgs_nil rfl) rfl) rfl rfl) (ms_cons (ms_if (MW.mt (mw_or (mt_cmpW (mo_notIn hr.hu) (me_var rfl (by first | exact .inl rfl | exact .inr (.inl rfl) | exact .inr (.inr rfl)) rfl rfl) (me_cal (k_all_plans Z) (hr.mono (by omega)) rfl (g_all_plans Z) (takes_of rfl rfl rfl rfl) (ma_cons (me_var rfl (by first | exact .inl rfl | exact .inr (.inl rfl) | exact .inr (.inr rfl)) rfl rfl) (ma_cons (me_var rfl (by first | exact .inl rfl | exact .inr (.inl rfl) | exact .inr (.inr rfl)) rfl rfl) ma_nil rfl) rfl) rfl rfl rfl) rfl) (mw_or1 (mt_not (mt_val (me_cal (k_is_allowed Z) (hr.mono (by omega)) rfl (g_is_allowed Z) (takes_of rfl rfl rfl rfl) (ma_cons (me_var rfl (by first | exact .inl rfl | exact .inr (.inl rfl) | exact .inr (.inr rfl)) rfl rfl) (ma_cons (me_fld (me_var rfl (by first | exact .inl rfl | exact .inr (.inl rfl) | exact .inr (.inr rfl)) rfl rfl) (a_bounds Z) rfl) (ma_cons (me_var rfl (by first | exact .inl rfl | exact .inr (.inl rfl) | exact .inr (.inr rfl)) rfl rfl) ma_nil rfl) rfl) rfl) rfl rfl rfl) (fun _ => rfl)))))) (ms_cons (ms_ret me_bl) ms_nil) ms_nil) (ms_cons (ms_if (mt_not (mt_val (me_cal (k_is_sound 9 Z) (hr.mono (by omega)) rfl (g_is_sound Z) (takes_of rfl rfl rfl rfl) (ma_cons (me_var rfl (by first | exact .inl rfl | exact .inr (.inl rfl) | exact .inr (.inr rfl)) rfl rfl) (ma_cons (me_var rfl (by first | exact .inl rfl | exact .inr (.inl rfl) | exact .inr (.inr rfl)) rfl rfl) (ma_cons (me_fld (me_var rfl (by first | exact .inl rfl | exact .inr (.inl rfl) | exact .inr (.inr rfl)) rfl rfl) (a_bounds Z) rfl) (ma_cons (me_cal (k_empty_plan Z) (hr.mono (by omega)) rfl (g_empty_plan Z) (takes_of rfl rfl rfl rfl) (ma_cons (me_var rfl (by first | exact .inl rfl | exact .inr (.inl rfl) | exact .inr (.inr rfl)) rfl rfl) ma_nil rfl) rfl rfl rfl) (ma_cons (me_var rfl (by first | exact .inl rfl | exact .inr (.inl rfl) | exact .inr (.inr rfl)) rfl rfl) ma_nil rfl) rfl) rfl) rfl) rfl) rfl rfl rfl) (fun _ => rfl))) (ms_cons (ms_ret me_bl) ms_nil) ms_nil) ms_nil)) (fun _ => rfl)) (ms_cons (ms_set nd_Bounding_shows (i := 2) rfl (by first | exact .inl rfl | exact .inr rfl) (me_cal (k_cost_of Z) (hr.mono (by omega)) rfl (g_cost_of Z) (takes_of rfl rfl rfl rfl) (ma_cons (me_var rfl (by first | exact .inl rfl | exact .inr (.inl rfl) | exact .inr (.inr rfl)) rfl rfl) (ma_cons (me_fld (me_var rfl (by first | exact .inl rfl | exact .inr (.inl rfl) | exact .inr (.inr rfl)) rfl rfl) (a_bounds Z) rfl) ma_nil rfl) rfl) rfl rfl rfl) rfl (.inl rfl)) (ms_cons (ms_ret (me_cal (k_are_doubts Z) (hr.mono (by omega)) rfl (g_are_doubts Z) (takes_of rfl rfl rfl rfl) (ma_cons (me_var rfl (by first | exact .inl rfl | exact .inr (.inl rfl) | exact .inr (.inr rfl)) rfl rfl) (ma_cons (me_fld (me_var rfl (by first | exact .inl rfl | exact .inr (.inl rfl) | exact .inr (.inr rfl)) rfl rfl) (a_doubts Z) rfl) (ma_cons (me_lc (own := [("one", 6)]) rfl nd_Bounding_shows (mi_any (me_cal (k_all_sets Z) (hr.mono (by omega)) rfl (g_all_sets Z) (takes_of rfl rfl rfl rfl) (ma_cons (me_var rfl (by first | exact .inl rfl | exact .inr (.inl rfl) | exact .inr (.inr rfl)) rfl rfl) ma_nil rfl) rfl rfl rfl)) (blk_mk rfl (by rfl)) rfl (fun _ _ _ _ _ => (mg_name nd_Bounding_shows rfl (by first | exact .inl rfl | exact .inr rfl) (by first | exact .inl rfl | exact .inr rfl) (sl := [6]) (by decide))) (fun _ _ _ _ _ => (mts_one (mt_cmpW mo_lt (me_cal (k_cost_of Z) (hr.mono (by omega)) rfl (g_cost_of Z) (takes0 rfl) (ma_cons (me_var rfl (by first | exact .inl rfl | exact .inr (.inl rfl) | exact .inr (.inr rfl)) rfl rfl) (ma_cons (me_var rfl (by first | exact .inl rfl | exact .inr (.inl rfl) | exact .inr (.inr rfl)) rfl rfl) ma_nil rfl) rfl) rfl rfl rfl) (me_var rfl (by first | exact .inl rfl | exact .inr (.inl rfl) | exact .inr (.inr rfl)) rfl rfl) rfl))) (fun _ _ _ _ _ => (me_var rfl (by first | exact .inl rfl | exact .inr (.inl rfl) | exact .inr (.inr rfl)) rfl rfl)) (fun _ => rfl)) ma_nil rfl) rfl) rfl) rfl rfl rfl)) ms_nil))))
end K35

end
section
namespace K35
open PySem PySem.Spec PyProof.Rows L2 Mi
theorem nd_NoBounding_shows : (["self", "shelf"] : List Str).Nodup := by decide +kernel
theorem sc_NoBounding_shows : FnScope ["self", "shelf"] ["self", "shelf"] (defScope (mth 69 2)) := ⟨rfl, rfl, rfl, by decide +kernel, rfl, by decide +kernel, by decide +kernel⟩
theorem k_NoBounding_shows {P : Program} {w : World} {K : PySem.W.Frag} {mg : Str → Option Value} {base : Heap} (Z : Hd K mg) : Cal P w K mg base (adr K) (He.ma K (He.ga K "NoBounding") "shows") 15 m_NoBounding_shows [] := by
  obtain ⟨fd, F⟩ := Z.c.def_ 36 (d := dd_NoBounding_shows) rfl
  refine ⟨⟨fd, ["self", "shelf"], [], fn_m F sc_NoBounding_shows rfl rfl (fun cdv A outer s H E hr => ?_), (F.bindsN (ps := ["self", "shelf"]) (fun _ _ _ _ _ _ us hl => match us, hl with | [_, _], _ => rfl)), Dfl.nil⟩, F.kp⟩
  exact (ms_cons (ms_expr (me_cal (k_check_shelf Z) (hr.mono (by omega)) rfl (g_check_shelf Z) (takes_of rfl rfl rfl rfl) (ma_cons (me_var rfl (by first | exact .inl rfl | exact .inr (.inl rfl) | exact .inr (.inr rfl)) rfl rfl) ma_nil rfl) rfl rfl rfl) rfl) (ms_cons (ms_ret (me_cal (k_are_doubts Z) (hr.mono (by omega)) rfl (g_are_doubts Z) (takes_of rfl rfl rfl rfl) (ma_cons (me_var rfl (by first | exact .inl rfl | exact .inr (.inl rfl) | exact .inr (.inr rfl)) rfl rfl) (ma_cons (me_fld (me_var rfl (by first | exact .inl rfl | exact .inr (.inl rfl) | exact .inr (.inr rfl)) rfl rfl) (a_doubts Z) rfl) (ma_cons (me_cal (k_all_sets Z) (hr.mono (by omega)) rfl (g_all_sets Z) (takes_of rfl rfl rfl rfl) (ma_cons (me_var rfl (by first | exact .inl rfl | exact .inr (.inl rfl) | exact .inr (.inr rfl)) rfl rfl) ma_nil rfl) rfl rfl rfl) ma_nil rfl) rfl) rfl) rfl rfl rfl)) ms_nil))
end K35

end
section
namespace K35
open PySem PySem.Spec PyProof.Rows L2 Mi
theorem nd__law_cheapest_right : (["_law_worth", "_law_shelf", "_law_found", "_law_two", "_law_place", "_law_free", "_law_line", "_law_torn", "_law_shut", "_law_due"] : List Str).Nodup := by decide +kernel
theorem sc__law_cheapest_right : FnScope ["_law_worth", "_law_shelf", "_law_found", "_law_two", "_law_place", "_law_free", "_law_line", "_law_torn", "_law_shut", "_law_due"] ["_law_worth"] (defScope (top 76)) := ⟨rfl, rfl, rfl, by decide +kernel, rfl, by decide +kernel, by decide +kernel⟩
theorem k__law_cheapest_right {P : Program} {w : World} {K : PySem.W.Frag} {mg : Str → Option Value} {base : Heap} (Z : Hd K mg) : Cal P w K mg base (adr K) (He.ga K "_law_cheapest_right") 17 m__law_cheapest_right [] := by
  obtain ⟨fd, F⟩ := Z.c.def_ 37 (d := dd__law_cheapest_right) rfl
  refine ⟨⟨fd, ["_law_worth"], [], fn_m F sc__law_cheapest_right rfl rfl (fun cdv A outer s H E hr => ?_), (F.bindsN (ps := ["_law_worth"]) (fun _ _ _ _ _ _ us hl => match us, hl with | [_], _ => rfl)), Dfl.nil⟩, F.kp⟩
  exact (ms_cons (ms_set nd__law_cheapest_right (i := 1) rfl (by first | exact .inl rfl | exact .inr rfl) (me_cal (k__law_small Z) (hr.mono (by omega)) rfl (g__law_small Z) (takes_of rfl rfl rfl rfl) (ma_cons (me_var rfl (by first | exact .inl rfl | exact .inr (.inl rfl) | exact .inr (.inr rfl)) rfl rfl) ma_nil rfl) rfl rfl rfl) rfl (.inl rfl)) (ms_cons (ms_set nd__law_cheapest_right (i := 2) rfl (by first | exact .inl rfl | exact .inr rfl) (me_cal (k_cheapest Z) (hr.mono (by omega)) rfl (g_cheapest Z) (takes_of rfl rfl rfl rfl) (ma_cons (me_var rfl (by first | exact .inl rfl | exact .inr (.inl rfl) | exact .inr (.inr rfl)) rfl rfl) ma_nil rfl) rfl rfl rfl) rfl (.inl rfl)) (ms_cons (ms_if (MW.mt (mw_or (mt_cmpW (mo_neB hr.hu) (me_fld (me_var rfl (by first | exact .inl rfl | exact .inr (.inl rfl) | exact .inr (.inr rfl)) rfl rfl) (a_bounds Z) rfl) (me_tup (ma_cons me_str ma_nil rfl)) rfl) (mw_or1 (mt_cmpW mo_isNot (me_mt (me_var rfl (by first | exact .inl rfl | exact .inr (.inl rfl) | exact .inr (.inr rfl)) rfl rfl) (l_Bounding Z) (t_Bounding_shows Z) (k_Bounding_shows Z) (hr.mono (by omega)) (takes_of rfl rfl rfl rfl) (ma_cons (me_var rfl (by first | exact .inl rfl | exact .inr (.inl rfl) | exact .inr (.inr rfl)) rfl rfl) ma_nil rfl) rfl rfl rfl) me_bl rfl)))) (ms_cons (ms_ret me_bl) ms_nil) ms_nil) (ms_cons (ms_if (mt_cmpW (mo_neB hr.hu) (me_bt (mc_list rfl) rfl (f_list Z) rfl (ma_cons (me_fld (me_var rfl (by first | exact .inl rfl | exact .inr (.inl rfl) | exact .inr (.inr rfl)) rfl rfl) (a_doubts Z) rfl) ma_nil rfl)) (me_binW mo_add (me_lst (ma_cons (me_tup ma_nil) ma_nil rfl)) (me_ifExp (mt_cmpW mo_gt (me_var rfl (by first | exact .inl rfl | exact .inr (.inl rfl) | exact .inr (.inr rfl)) rfl rfl) me_int rfl) (me_lst (ma_cons (me_tup (ma_cons me_str ma_nil rfl)) ma_nil rfl)) (me_lst ma_nil))) rfl) (ms_cons (ms_ret me_bl) ms_nil) ms_nil) (ms_cons (ms_set nd__law_cheapest_right (i := 3) rfl (by first | exact .inl rfl | exact .inr rfl) (me_dictB hr.hu (mps_cons me_str (me_mkK (fr := true) (mk_Bound Z) (kk_Bound_init Z) (hr.mono (by omega)) rfl (g_Bound Z) (takes_of rfl rfl rfl rfl) (ma_cons me_str (ma_cons (me_tup (ma_cons me_int ma_nil rfl)) (ma_cons me_str (ma_cons (me_tup (ma_cons me_int ma_nil rfl)) ma_nil rfl) rfl) rfl) rfl) (mk_cons me_int mk_nil) rfl rfl rfl rfl rfl) (mps_cons me_str (me_mk (fr := true) (mk_Bound Z) (k_Bound_init Z) (hr.mono (by omega)) rfl (g_Bound Z) (takes_of rfl rfl rfl rfl) (ma_cons me_str (ma_cons (me_tup (ma_cons me_int ma_nil rfl)) (ma_cons me_str (ma_cons (me_tup (ma_cons me_int ma_nil rfl)) ma_nil rfl) rfl) rfl) rfl) rfl rfl rfl) mps_nil)) rfl rfl (by simp) (by decide)) rfl (.inl rfl)) (ms_cons (ms_put hr.hu (me_var rfl (by first | exact .inl rfl | exact .inr (.inl rfl) | exact .inr (.inr rfl)) rfl rfl) me_str (me_mk (fr := true) (mk_Bound Z) (k_Bound_init Z) (hr.mono (by omega)) rfl (g_Bound Z) (takes_of rfl rfl rfl rfl) (ma_cons me_str (ma_cons (me_tup (ma_cons me_int (ma_cons me_int ma_nil rfl) rfl)) (ma_cons me_str (ma_cons (me_tup (ma_cons me_int ma_nil rfl)) ma_nil rfl) rfl) rfl) rfl) rfl rfl rfl) rfl) (ms_cons (ms_set nd__law_cheapest_right (i := 4) rfl (by first | exact .inl rfl | exact .inr rfl) (me_mk (fr := true) (mk_Shelf Z) (k_Shelf_init Z) (hr.mono (by omega)) rfl (g_Shelf Z) (takes_of rfl rfl rfl rfl) (ma_cons (me_dict hr.hu (mps_cons me_str me_int (mps_cons me_str me_int mps_nil)) rfl rfl (by simp) (by decide)) (ma_cons me_dict0 (ma_cons (me_lst (ma_cons (me_tup (ma_cons (me_tup (ma_cons me_str (ma_cons me_int ma_nil rfl) rfl)) (ma_cons (me_tup (ma_cons me_str (ma_cons me_int ma_nil rfl) rfl)) ma_nil rfl) rfl)) ma_nil rfl)) (ma_cons (me_lst (ma_cons (me_tup (ma_cons me_str (ma_cons me_str ma_nil rfl) rfl)) ma_nil rfl)) (ma_cons (me_fz (me_var rfl (by first | exact .inl rfl | exact .inr (.inl rfl) | exact .inr (.inr rfl)) rfl rfl)) ma_nil rfl) rfl) rfl) rfl) rfl) rfl rfl rfl) rfl (.inl rfl)) (ms_cons (ms_if (mt_cmpW (mo_neB hr.hu) (me_fld (me_cal (k_cheapest Z) (hr.mono (by omega)) rfl (g_cheapest Z) (takes_of rfl rfl rfl rfl) (ma_cons (me_var rfl (by first | exact .inl rfl | exact .inr (.inl rfl) | exact .inr (.inr rfl)) rfl rfl) ma_nil rfl) rfl rfl rfl) (a_bounds Z) rfl) (me_tup (ma_cons me_str ma_nil rfl)) rfl) (ms_cons (ms_ret me_bl) ms_nil) ms_nil) (ms_cons (ms_if (mt_cmpW (mo_neB hr.hu) (me_bt (mc_list rfl) rfl (f_list Z) rfl (ma_cons (me_fld (me_cal (k_cheapest Z) (hr.mono (by omega)) rfl (g_cheapest Z) (takes_of rfl rfl rfl rfl) (ma_cons (me_var rfl (by first | exact .inl rfl | exact .inr (.inl rfl) | exact .inr (.inr rfl)) rfl rfl) ma_nil rfl) rfl rfl rfl) (a_doubts Z) rfl) ma_nil rfl)) (me_lst (ma_cons (me_tup ma_nil) ma_nil rfl)) rfl) (ms_cons (ms_ret me_bl) ms_nil) ms_nil) (ms_cons (ms_if (mt_cmpW mo_isNot (me_mt (me_cal (k_cheapest Z) (hr.mono (by omega)) rfl (g_cheapest Z) (takes_of rfl rfl rfl rfl) (ma_cons (me_var rfl (by first | exact .inl rfl | exact .inr (.inl rfl) | exact .inr (.inr rfl)) rfl rfl) ma_nil rfl) rfl rfl rfl) (l_Bounding Z) (t_Bounding_shows Z) (k_Bounding_shows Z) (hr.mono (by omega)) (takes_of rfl rfl rfl rfl) (ma_cons (me_var rfl (by first | exact .inl rfl | exact .inr (.inl rfl) | exact .inr (.inr rfl)) rfl rfl) ma_nil rfl) rfl rfl rfl) me_bl rfl) (ms_cons (ms_ret me_bl) ms_nil) ms_nil) (ms_cons (ms_set nd__law_cheapest_right (i := 5) rfl (by first | exact .inl rfl | exact .inr rfl) (me_mk (fr := true) (mk_Shelf Z) (k_Shelf_init Z) (hr.mono (by omega)) rfl (g_Shelf Z) (takes_of rfl rfl rfl rfl) (ma_cons (me_dict hr.hu (mps_cons me_str me_int (mps_cons me_str me_int mps_nil)) rfl rfl (by simp) (by decide)) (ma_cons me_dict0 (ma_cons (me_lst ma_nil) (ma_cons (me_lst (ma_cons (me_tup (ma_cons me_str ma_nil rfl)) (ma_cons (me_tup (ma_cons me_str ma_nil rfl)) ma_nil rfl) rfl)) (ma_cons me_dict0 ma_nil rfl) rfl) rfl) rfl) rfl) rfl rfl rfl) rfl (.inl rfl)) (ms_cons (ms_if (mt_cmpW (mo_neB hr.hu) (me_fld (me_cal (k_cheapest Z) (hr.mono (by omega)) rfl (g_cheapest Z) (takes_of rfl rfl rfl rfl) (ma_cons (me_var rfl (by first | exact .inl rfl | exact .inr (.inl rfl) | exact .inr (.inr rfl)) rfl rfl) ma_nil rfl) rfl rfl rfl) (a_bounds Z) rfl) (me_tup ma_nil) rfl) (ms_cons (ms_ret me_bl) ms_nil) ms_nil) (ms_cons (ms_if (mt_cmpW (mo_neB hr.hu) (me_fld (me_cal (k_cheapest Z) (hr.mono (by omega)) rfl (g_cheapest Z) (takes_of rfl rfl rfl rfl) (ma_cons (me_var rfl (by first | exact .inl rfl | exact .inr (.inl rfl) | exact .inr (.inr rfl)) rfl rfl) ma_nil rfl) rfl rfl rfl) (a_doubts Z) rfl) me_dict0 rfl) (ms_cons (ms_ret me_bl) ms_nil) ms_nil) (ms_cons (ms_if (mt_cmpW mo_isNot (me_mt (me_cal (k_cheapest Z) (hr.mono (by omega)) rfl (g_cheapest Z) (takes_of rfl rfl rfl rfl) (ma_cons (me_var rfl (by first | exact .inl rfl | exact .inr (.inl rfl) | exact .inr (.inr rfl)) rfl rfl) ma_nil rfl) rfl rfl rfl) (l_Bounding Z) (t_Bounding_shows Z) (k_Bounding_shows Z) (hr.mono (by omega)) (takes_of rfl rfl rfl rfl) (ma_cons (me_var rfl (by first | exact .inl rfl | exact .inr (.inl rfl) | exact .inr (.inr rfl)) rfl rfl) ma_nil rfl) rfl rfl rfl) me_bl rfl) (ms_cons (ms_ret me_bl) ms_nil) ms_nil) (ms_cons (ms_set nd__law_cheapest_right (i := 6) rfl (by first | exact .inl rfl | exact .inr rfl) (me_dict hr.hu (mps_cons me_str (me_mkK (fr := true) (mk_Bound Z) (kk_Bound_init Z) (hr.mono (by omega)) rfl (g_Bound Z) (takes_of rfl rfl rfl rfl) (ma_cons me_str (ma_cons (me_tup (ma_cons me_int ma_nil rfl)) (ma_cons me_str (ma_cons (me_tup (ma_cons me_int ma_nil rfl)) ma_nil rfl) rfl) rfl) rfl) (mk_cons (me_var rfl (by first | exact .inl rfl | exact .inr (.inl rfl) | exact .inr (.inr rfl)) rfl rfl) mk_nil) rfl rfl rfl rfl rfl) mps_nil) rfl rfl (by simp) (by decide)) rfl (.inl rfl)) (ms_cons (ms_set nd__law_cheapest_right (i := 7) rfl (by first | exact .inl rfl | exact .inr rfl) (me_mk (fr := true) (mk_Shelf Z) (k_Shelf_init Z) (hr.mono (by omega)) rfl (g_Shelf Z) (takes_of rfl rfl rfl rfl) (ma_cons (me_dict hr.hu (mps_cons me_str me_int (mps_cons me_str me_int mps_nil)) rfl rfl (by simp) (by decide)) (ma_cons (me_dict hr.hu (mps_cons (me_tup (ma_cons me_str (ma_cons me_int ma_nil rfl) rfl)) (me_tup (ma_cons me_str ma_nil rfl)) mps_nil) rfl rfl (by simp) (by decide)) (ma_cons (me_lst (ma_cons (me_tup (ma_cons (me_tup (ma_cons me_str (ma_cons me_int ma_nil rfl) rfl)) (ma_cons (me_tup (ma_cons me_str (ma_cons me_int ma_nil rfl) rfl)) ma_nil rfl) rfl)) ma_nil rfl)) (ma_cons (me_lst (ma_cons (me_tup (ma_cons me_str ma_nil rfl)) ma_nil rfl)) (ma_cons (me_var rfl (by first | exact .inl rfl | exact .inr (.inl rfl) | exact .inr (.inr rfl)) rfl rfl) ma_nil rfl) rfl) rfl) rfl) rfl) rfl rfl rfl) rfl (.inl rfl)) (ms_cons (ms_set nd__law_cheapest_right (i := 2) rfl (by first | exact .inl rfl | exact .inr rfl) (me_cal (k_cheapest Z) (hr.mono (by omega)) rfl (g_cheapest Z) (takes_of rfl rfl rfl rfl) (ma_cons (me_var rfl (by first | exact .inl rfl | exact .inr (.inl rfl) | exact .inr (.inr rfl)) rfl rfl) ma_nil rfl) rfl rfl rfl) rfl (.inl rfl)) (ms_cons (ms_if (mt_not (mt_val (me_bi (mc_isi (isf Z)) rfl (f_isinstance Z) rfl (ma_cons (me_var rfl (by first | exact .inl rfl | exact .inr (.inl rfl) | exact .inr (.inr rfl)) rfl rfl) (ma_cons (me_cls (c := 3) rfl (g_NoBounding Z)) ma_nil rfl) rfl)) (fun _ => rfl))) (ms_cons (ms_ret me_bl) ms_nil) ms_nil) (ms_cons (ms_if (mt_cmpW mo_isNot (me_mt (me_var rfl (by first | exact .inl rfl | exact .inr (.inl rfl) | exact .inr (.inr rfl)) rfl rfl) (l_NoBounding Z) (t_NoBounding_shows Z) (k_NoBounding_shows Z) (hr.mono (by omega)) (takes_of rfl rfl rfl rfl) (ma_cons (me_var rfl (by first | exact .inl rfl | exact .inr (.inl rfl) | exact .inr (.inr rfl)) rfl rfl) ma_nil rfl) rfl rfl rfl) me_bl rfl) (ms_cons (ms_ret me_bl) ms_nil) ms_nil) (ms_cons (ms_if (mt_cmpW (mo_neB hr.hu) (me_bt (mc_list rfl) rfl (f_list Z) rfl (ma_cons (me_fld (me_var rfl (by first | exact .inl rfl | exact .inr (.inl rfl) | exact .inr (.inr rfl)) rfl rfl) (a_doubts Z) rfl) ma_nil rfl)) (me_lst (ma_cons (me_tup ma_nil) (ma_cons (me_tup (ma_cons me_str ma_nil rfl)) ma_nil rfl) rfl)) rfl) (ms_cons (ms_ret me_bl) ms_nil) ms_nil) (ms_cons (ms_set nd__law_cheapest_right (i := 8) rfl (by first | exact .inl rfl | exact .inr rfl) (me_tup (ma_cons me_str (ma_cons (me_tup (ma_cons (me_tup (ma_cons me_str (ma_cons (me_tup (ma_cons (me_tup (ma_cons me_str (ma_cons me_str ma_nil rfl) rfl)) ma_nil rfl)) ma_nil rfl) rfl)) ma_nil rfl)) ma_nil rfl) rfl)) rfl (.inl rfl)) (ms_cons (ms_set nd__law_cheapest_right (i := 9) rfl (by first | exact .inl rfl | exact .inr rfl) (me_dict hr.hu (mps_cons (me_tup (ma_cons me_str ma_nil rfl)) (me_tup (ma_cons me_str (ma_cons me_int (ma_cons (me_var rfl (by first | exact .inl rfl | exact .inr (.inl rfl) | exact .inr (.inr rfl)) rfl rfl) ma_nil rfl) rfl) rfl)) (mps_cons (me_tup ma_nil) (me_tup (ma_cons me_str (ma_cons me_int (ma_cons (me_tup (ma_cons me_int (ma_cons me_int ma_nil rfl) rfl)) ma_nil rfl) rfl) rfl)) mps_nil)) rfl rfl (by simp) (by decide)) rfl (.inl rfl)) (ms_cons (ms_if (MW.mt (mw_or (mt_cmpW (mo_neB hr.hu) (me_fld (me_var rfl (by first | exact .inl rfl | exact .inr (.inl rfl) | exact .inr (.inr rfl)) rfl rfl) (a_doubts Z) rfl) (me_var rfl (by first | exact .inl rfl | exact .inr (.inl rfl) | exact .inr (.inr rfl)) rfl rfl) rfl) (mw_or1 (mt_cmpW mo_isNot (me_mt (me_mk (fr := true) (mk_NoBounding Z) (k_NoBounding_init Z) (hr.mono (by omega)) rfl (g_NoBounding Z) (takes_of rfl rfl rfl rfl) (ma_cons (me_var rfl (by first | exact .inl rfl | exact .inr (.inl rfl) | exact .inr (.inr rfl)) rfl rfl) ma_nil rfl) rfl rfl rfl) (l_NoBounding Z) (t_NoBounding_shows Z) (k_NoBounding_shows Z) (hr.mono (by omega)) (takes_of rfl rfl rfl rfl) (ma_cons (me_var rfl (by first | exact .inl rfl | exact .inr (.inl rfl) | exact .inr (.inr rfl)) rfl rfl) ma_nil rfl) rfl rfl rfl) me_bl rfl)))) (ms_cons (ms_ret me_bl) ms_nil) ms_nil) (ms_cons (ms_if (mt_val (me_mt (me_mk (fr := true) (mk_NoBounding Z) (k_NoBounding_init Z) (hr.mono (by omega)) rfl (g_NoBounding Z) (takes_of rfl rfl rfl rfl) (ma_cons (me_dict hr.hu (mps_cons (me_tup ma_nil) (me_ix hr.hu (me_var rfl (by first | exact .inl rfl | exact .inr (.inl rfl) | exact .inr (.inr rfl)) rfl rfl) (me_tup ma_nil) (fun _ _ => rfl)) mps_nil) rfl rfl (by simp) (by decide)) ma_nil rfl) rfl rfl rfl) (l_NoBounding Z) (t_NoBounding_shows Z) (k_NoBounding_shows Z) (hr.mono (by omega)) (takes_of rfl rfl rfl rfl) (ma_cons (me_var rfl (by first | exact .inl rfl | exact .inr (.inl rfl) | exact .inr (.inr rfl)) rfl rfl) ma_nil rfl) rfl rfl rfl) (fun _ => rfl)) (ms_cons (ms_ret me_bl) ms_nil) ms_nil) (ms_cons (ms_ret (me_cmpW mo_is (me_mt (me_mk (fr := true) (mk_NoBounding Z) (k_NoBounding_init Z) (hr.mono (by omega)) rfl (g_NoBounding Z) (takes_of rfl rfl rfl rfl) (ma_cons (me_dict hr.hu (mps_cons (me_tup ma_nil) (me_ix hr.hu (me_var rfl (by first | exact .inl rfl | exact .inr (.inl rfl) | exact .inr (.inr rfl)) rfl rfl) (me_tup ma_nil) (fun _ _ => rfl)) (mps_cons (me_tup (ma_cons me_str ma_nil rfl)) (me_ix hr.hu (me_var rfl (by first | exact .inl rfl | exact .inr (.inl rfl) | exact .inr (.inr rfl)) rfl rfl) (me_tup ma_nil) (fun _ _ => rfl)) mps_nil)) rfl rfl (by simp) (by decide)) ma_nil rfl) rfl rfl rfl) (l_NoBounding Z) (t_NoBounding_shows Z) (k_NoBounding_shows Z) (hr.mono (by omega)) (takes_of rfl rfl rfl rfl) (ma_cons (me_var rfl (by first | exact .inl rfl | exact .inr (.inl rfl) | exact .inr (.inr rfl)) rfl rfl) ma_nil rfl) rfl rfl rfl) me_bl rfl)) ms_nil)))))))))))))))))))))))))
end K35

end
section
namespace K35
open PySem PySem.Spec PyProof.Rows L2 Mi
theorem nd_check_set : (["shelf", "bounds", "name", "one"] : List Str).Nodup := by decide +kernel
theorem sc_check_set : FnScope ["shelf", "bounds", "name", "one"] ["shelf", "bounds"] (defScope (top 35)) := ⟨rfl, rfl, rfl, by decide +kernel, rfl, by decide +kernel, by decide +kernel⟩
theorem k_check_set {P : Program} {w : World} {K : PySem.W.Frag} {mg : Str → Option Value} {base : Heap} (Z : Hd K mg) : Cal P w K mg base (adr K) (He.ga K "check_set") 1 m_check_set [] := by
  obtain ⟨fd, F⟩ := Z.c.def_ 38 (d := dd_check_set) rfl
  refine ⟨⟨fd, ["shelf", "bounds"], [], fn_m F sc_check_set rfl rfl (fun cdv A outer s H E hr => ?_), (F.bindsN (ps := ["shelf", "bounds"]) (fun _ _ _ _ _ _ us hl => match us, hl with | [_, _], _ => rfl)), Dfl.nil⟩, F.kp⟩
  exact (ms_cons (ms_if (MW.mt (mw_or (mt_not (mt_val (me_bi (mc_isi (isf Z)) rfl (f_isinstance Z) rfl (ma_cons (me_var rfl (by first | exact .inl rfl | exact .inr (.inl rfl) | exact .inr (.inr rfl)) rfl rfl) (ma_cons (me_ty (n := 3) rfl (f_tuple Z) rfl) ma_nil rfl) rfl)) (fun _ => rfl))) (mw_or1 (mt_not (mt_val (me_bi (mc_all rfl) rfl (f_all Z) rfl (ma_cons (me_lc (own := [("one", 3)]) rfl nd_check_set (mi_any (me_var rfl (by first | exact .inl rfl | exact .inr (.inl rfl) | exact .inr (.inr rfl)) rfl rfl)) (blk_mk rfl (by rfl)) rfl (fun _ _ _ _ _ => (mg_name nd_check_set rfl (by first | exact .inl rfl | exact .inr rfl) (by first | exact .inl rfl | exact .inr rfl) (sl := [3]) (by decide))) (fun _ _ _ _ _ => mts_nil) (fun _ _ _ _ _ => (me_bi (mc_isi (isf Z)) rfl (f_isinstance Z) rfl (ma_cons (me_var rfl (by first | exact .inl rfl | exact .inr (.inl rfl) | exact .inr (.inr rfl)) rfl rfl) (ma_cons (me_ty (n := 1) rfl (f_str Z) rfl) ma_nil rfl) rfl))) (fun _ => rfl)) ma_nil rfl)) (fun _ => rfl)))))) (ms_cons ms_never ms_nil) ms_nil) (ms_cons (ms_if (mt_cmpW (mo_neB hr.hu) (me_bt (mc_list rfl) rfl (f_list Z) rfl (ma_cons (me_var rfl (by first | exact .inl rfl | exact .inr (.inl rfl) | exact .inr (.inr rfl)) rfl rfl) ma_nil rfl)) (me_lc (own := [("name", 2)]) rfl nd_check_set (mi_any (me_fld (me_var rfl (by first | exact .inl rfl | exact .inr (.inl rfl) | exact .inr (.inr rfl)) rfl rfl) (a_lines Z) rfl)) (blk_mk rfl (by rfl)) rfl (fun _ _ _ _ _ => (mg_name nd_check_set rfl (by first | exact .inl rfl | exact .inr rfl) (by first | exact .inl rfl | exact .inr rfl) (sl := [2]) (by decide))) (fun _ _ _ _ _ => (mts_one (mt_cmpW (mo_in hr.hu) (me_var rfl (by first | exact .inl rfl | exact .inr (.inl rfl) | exact .inr (.inr rfl)) rfl rfl) (me_var rfl (by first | exact .inl rfl | exact .inr (.inl rfl) | exact .inr (.inr rfl)) rfl rfl) rfl))) (fun _ _ _ _ _ => (me_var rfl (by first | exact .inl rfl | exact .inr (.inl rfl) | exact .inr (.inr rfl)) rfl rfl)) (fun _ => rfl)) rfl) (ms_cons ms_never ms_nil) ms_nil) ms_nil))
end K35

end
section
namespace K35
open PySem PySem.Spec PyProof.Rows L2 Mi
theorem nd_serves : (["shelf", "request", "bounds", "found", "plan"] : List Str).Nodup := by decide +kernel
theorem sc_serves : FnScope ["shelf", "request", "bounds", "found", "plan"] ["shelf", "request", "bounds"] (defScope (top 51)) := ⟨rfl, rfl, rfl, by decide +kernel, rfl, by decide +kernel, by decide +kernel⟩
theorem k_serves {P : Program} {w : World} {K : PySem.W.Frag} {mg : Str → Option Value} {base : Heap} (Z : Hd K mg) : Cal P w K mg base (adr K) (He.ga K "serves") 5 m_serves [] := by
  obtain ⟨fd, F⟩ := Z.c.def_ 39 (d := dd_serves) rfl
  refine ⟨⟨fd, ["shelf", "request", "bounds"], [], fn_m F sc_serves rfl rfl (fun cdv A outer s H E hr => ?_), (F.bindsN (ps := ["shelf", "request", "bounds"]) (fun _ _ _ _ _ _ us hl => match us, hl with | [_, _, _], _ => rfl)), Dfl.nil⟩, F.kp⟩
  exact (ms_cons (ms_set nd_serves (i := 3) rfl (by first | exact .inl rfl | exact .inr rfl) (me_cal (k_allowed_plans Z) (hr.mono (by omega)) rfl (g_allowed_plans Z) (takes_of rfl rfl rfl rfl) (ma_cons (me_var rfl (by first | exact .inl rfl | exact .inr (.inl rfl) | exact .inr (.inr rfl)) rfl rfl) (ma_cons (me_var rfl (by first | exact .inl rfl | exact .inr (.inl rfl) | exact .inr (.inr rfl)) rfl rfl) (ma_cons (me_var rfl (by first | exact .inl rfl | exact .inr (.inl rfl) | exact .inr (.inr rfl)) rfl rfl) ma_nil rfl) rfl) rfl) rfl rfl rfl) rfl (.inl rfl)) (ms_cons (ms_ret (me_and (me_cmpW (mo_neB hr.hu) (me_var rfl (by first | exact .inl rfl | exact .inr (.inl rfl) | exact .inr (.inr rfl)) rfl rfl) (me_lst ma_nil) rfl) (me_one (me_not (me_bi (mc_any rfl) rfl (f_any Z) rfl (ma_cons (me_lc (own := [("plan", 4)]) rfl nd_serves (mi_any (me_var rfl (by first | exact .inl rfl | exact .inr (.inl rfl) | exact .inr (.inr rfl)) rfl rfl)) (blk_mk rfl (by rfl)) rfl (fun _ _ _ _ _ => (mg_name nd_serves rfl (by first | exact .inl rfl | exact .inr rfl) (by first | exact .inl rfl | exact .inr rfl) (sl := [4]) (by decide))) (fun _ _ _ _ _ => mts_nil) (fun _ _ _ _ _ => (me_cal (k_clashing Z) (hr.mono (by omega)) rfl (g_clashing Z) (takes0 rfl) (ma_cons (me_var rfl (by first | exact .inl rfl | exact .inr (.inl rfl) | exact .inr (.inr rfl)) rfl rfl) (ma_cons (me_var rfl (by first | exact .inl rfl | exact .inr (.inl rfl) | exact .inr (.inr rfl)) rfl rfl) ma_nil rfl) rfl) rfl rfl rfl)) (fun _ => rfl)) ma_nil rfl)))))) ms_nil))
end K35

end
section
namespace K35
open PySem PySem.Spec PyProof.Rows L2 Mi
theorem nd_is_right : (["shelf", "bounds", "request"] : List Str).Nodup := by decide +kernel
theorem sc_is_right : FnScope ["shelf", "bounds", "request"] ["shelf", "bounds"] (defScope (top 52)) := ⟨rfl, rfl, rfl, by decide +kernel, rfl, by decide +kernel, by decide +kernel⟩
theorem k_is_right {P : Program} {w : World} {K : PySem.W.Frag} {mg : Str → Option Value} {base : Heap} (Z : Hd K mg) : Cal P w K mg base (adr K) (He.ga K "is_right") 6 m_is_right [] := by
  obtain ⟨fd, F⟩ := Z.c.def_ 40 (d := dd_is_right) rfl
  refine ⟨⟨fd, ["shelf", "bounds"], [], fn_m F sc_is_right rfl rfl (fun cdv A outer s H E hr => ?_), (F.bindsN (ps := ["shelf", "bounds"]) (fun _ _ _ _ _ _ us hl => match us, hl with | [_, _], _ => rfl)), Dfl.nil⟩, F.kp⟩
  exact (ms_cons (ms_expr (me_cal (k_check_shelf Z) (hr.mono (by omega)) rfl (g_check_shelf Z) (takes_of rfl rfl rfl rfl) (ma_cons (me_var rfl (by first | exact .inl rfl | exact .inr (.inl rfl) | exact .inr (.inr rfl)) rfl rfl) ma_nil rfl) rfl rfl rfl) rfl) (ms_cons (ms_expr (me_cal (k_check_set Z) (hr.mono (by omega)) rfl (g_check_set Z) (takes_of rfl rfl rfl rfl) (ma_cons (me_var rfl (by first | exact .inl rfl | exact .inr (.inl rfl) | exact .inr (.inr rfl)) rfl rfl) (ma_cons (me_var rfl (by first | exact .inl rfl | exact .inr (.inl rfl) | exact .inr (.inr rfl)) rfl rfl) ma_nil rfl) rfl) rfl rfl rfl) rfl) (ms_cons (ms_ret (me_bi (mc_all rfl) rfl (f_all Z) rfl (ma_cons (me_lc (own := [("request", 2)]) rfl nd_is_right (mi_range1 rfl (f_range Z) (ma_cons (me_bi mc_len rfl (f_len Z) rfl (ma_cons (me_fld (me_var rfl (by first | exact .inl rfl | exact .inr (.inl rfl) | exact .inr (.inr rfl)) rfl rfl) (a_asked Z) rfl) ma_nil rfl)) ma_nil rfl)) (blk_mk rfl (by rfl)) rfl (fun _ _ _ _ _ => (mg_name nd_is_right rfl (by first | exact .inl rfl | exact .inr rfl) (by first | exact .inl rfl | exact .inr rfl) (sl := [2]) (by decide))) (fun _ _ _ _ _ => mts_nil) (fun _ _ _ _ _ => (me_cal (k_serves Z) (hr.mono (by omega)) rfl (g_serves Z) (takes0 rfl) (ma_cons (me_var rfl (by first | exact .inl rfl | exact .inr (.inl rfl) | exact .inr (.inr rfl)) rfl rfl) (ma_cons (me_var rfl (by first | exact .inl rfl | exact .inr (.inl rfl) | exact .inr (.inr rfl)) rfl rfl) (ma_cons (me_var rfl (by first | exact .inl rfl | exact .inr (.inl rfl) | exact .inr (.inr rfl)) rfl rfl) ma_nil rfl) rfl) rfl) rfl rfl rfl)) (fun _ => rfl)) ma_nil rfl))) ms_nil)))
end K35

end
section
namespace K35
open PySem PySem.Spec PyProof.Rows L2 Mi
theorem nd_is_index : (["shelf", "value"] : List Str).Nodup := by decide +kernel
theorem sc_is_index : FnScope ["shelf", "value"] ["shelf", "value"] (defScope (top 33)) := ⟨rfl, rfl, rfl, by decide +kernel, rfl, by decide +kernel, by decide +kernel⟩
theorem k_is_index {P : Program} {w : World} {K : PySem.W.Frag} {mg : Str → Option Value} {base : Heap} (Z : Hd K mg) : Cal P w K mg base (adr K) (He.ga K "is_index") 2 m_is_index [] := by
  obtain ⟨fd, F⟩ := Z.c.def_ 41 (d := dd_is_index) rfl
  refine ⟨⟨fd, ["shelf", "value"], [], fn_m F sc_is_index rfl rfl (fun cdv A outer s H E hr => ?_), (F.bindsN (ps := ["shelf", "value"]) (fun _ _ _ _ _ _ us hl => match us, hl with | [_, _], _ => rfl)), Dfl.nil⟩, F.kp⟩
  exact (ms_cons (ms_ret (me_cal (k_is_integer Z) (hr.mono (by omega)) rfl (g_is_integer Z) (takes_of rfl rfl rfl rfl) (ma_cons (me_var rfl (by first | exact .inl rfl | exact .inr (.inl rfl) | exact .inr (.inr rfl)) rfl rfl) (ma_cons me_int (ma_cons (me_binW mo_sub (me_bi mc_len rfl (f_len Z) rfl (ma_cons (me_fld (me_var rfl (by first | exact .inl rfl | exact .inr (.inl rfl) | exact .inr (.inr rfl)) rfl rfl) (a_asked Z) rfl) ma_nil rfl)) me_int) ma_nil rfl) rfl) rfl) rfl rfl rfl)) ms_nil)
end K35

end
section
namespace K35
open PySem PySem.Spec PyProof.Rows L2 Mi
theorem nd_check_request : (["shelf", "request"] : List Str).Nodup := by decide +kernel
theorem sc_check_request : FnScope ["shelf", "request"] ["shelf", "request"] (defScope (top 34)) := ⟨rfl, rfl, rfl, by decide +kernel, rfl, by decide +kernel, by decide +kernel⟩
theorem k_check_request {P : Program} {w : World} {K : PySem.W.Frag} {mg : Str → Option Value} {base : Heap} (Z : Hd K mg) : Cal P w K mg base (adr K) (He.ga K "check_request") 3 m_check_request [] := by
  obtain ⟨fd, F⟩ := Z.c.def_ 42 (d := dd_check_request) rfl
  refine ⟨⟨fd, ["shelf", "request"], [], fn_m F sc_check_request rfl rfl (fun cdv A outer s H E hr => ?_), (F.bindsN (ps := ["shelf", "request"]) (fun _ _ _ _ _ _ us hl => match us, hl with | [_, _], _ => rfl)), Dfl.nil⟩, F.kp⟩
  exact (ms_cons (ms_expr (me_cal (k_check_shelf Z) (hr.mono (by omega)) rfl (g_check_shelf Z) (takes_of rfl rfl rfl rfl) (ma_cons (me_var rfl (by first | exact .inl rfl | exact .inr (.inl rfl) | exact .inr (.inr rfl)) rfl rfl) ma_nil rfl) rfl rfl rfl) rfl) (ms_cons (ms_if (mt_not (mt_val (me_cal (k_is_index Z) (hr.mono (by omega)) rfl (g_is_index Z) (takes_of rfl rfl rfl rfl) (ma_cons (me_var rfl (by first | exact .inl rfl | exact .inr (.inl rfl) | exact .inr (.inr rfl)) rfl rfl) (ma_cons (me_var rfl (by first | exact .inl rfl | exact .inr (.inl rfl) | exact .inr (.inr rfl)) rfl rfl) ma_nil rfl) rfl) rfl rfl rfl) (fun _ => rfl))) (ms_cons ms_never ms_nil) ms_nil) ms_nil))
end K35

end
section
namespace K35
open PySem PySem.Spec PyProof.Rows L2 Mi
theorem nd_plans : (["shelf", "request", "bounds", "plan"] : List Str).Nodup := by decide +kernel
theorem sc_plans : GScope ["shelf", "request", "bounds", "plan"] ["shelf", "request", "bounds"] (defScope (top 46)) := ⟨rfl, rfl, rfl, by decide +kernel, rfl, by decide +kernel, by decide +kernel⟩
theorem g0_plans {P : Program} {w : World} {K : PySem.W.Frag} {mg : Str → Option Value} {base : Heap} (Z : Hd K mg) {fd : FuncData} (F : FunD K dd_plans.name dd_plans.qual dd_plans.params dd_plans.body dd_plans.scope (dd_plans.dvs K) (dd_plans.kws K) (He.fAd K dd_plans.at_) fd) : GFn P w K mg base 4 (He.ga K "plans") fd ["shelf", "request", "bounds"] (spGM ⟨P, w, K, adr K⟩ m_plans) := by
  refine gfn_m F sc_plans rfl rfl fun cdv A outer s H E pn hr => ?_
  exact (mgn_cons (ms_expr (me_cal (k_check_request Z) (hr.mono (by omega)) rfl (g_check_request Z) takes_gcx (ma_cons (me_var rfl (by first | exact .inl rfl | exact .inr (.inl rfl) | exact .inr (.inr rfl)) rfl rfl) (ma_cons (me_var rfl (by first | exact .inl rfl | exact .inr (.inl rfl) | exact .inr (.inr rfl)) rfl rfl) ma_nil rfl) rfl) rfl rfl rfl) rfl) (mgn_cons (ms_expr (me_cal (k_check_set Z) (hr.mono (by omega)) rfl (g_check_set Z) takes_gcx (ma_cons (me_var rfl (by first | exact .inl rfl | exact .inr (.inl rfl) | exact .inr (.inr rfl)) rfl rfl) (ma_cons (me_var rfl (by first | exact .inl rfl | exact .inr (.inl rfl) | exact .inr (.inr rfl)) rfl rfl) ma_nil rfl) rfl) rfl rfl rfl) rfl) (mgn_from (me_lc (own := [("plan", 3)]) rfl nd_plans (mi_any (me_cal (k_all_plans Z) (hr.mono (by omega)) rfl (g_all_plans Z) takes_gcx (ma_cons (me_var rfl (by first | exact .inl rfl | exact .inr (.inl rfl) | exact .inr (.inr rfl)) rfl rfl) (ma_cons (me_var rfl (by first | exact .inl rfl | exact .inr (.inl rfl) | exact .inr (.inr rfl)) rfl rfl) ma_nil rfl) rfl) rfl rfl rfl)) (blk_mk rfl (by rfl)) rfl (fun _ _ _ _ _ => (mg_name nd_plans rfl (by first | exact .inl rfl | exact .inr rfl) (by first | exact .inl rfl | exact .inr rfl) (sl := [3]) (by decide))) (fun _ _ _ _ _ => (mts_one (mt_val (me_cal (k_is_allowed Z) (hr.mono (by omega)) rfl (g_is_allowed Z) (takes0 rfl) (ma_cons (me_var rfl (by first | exact .inl rfl | exact .inr (.inl rfl) | exact .inr (.inr rfl)) rfl rfl) (ma_cons (me_var rfl (by first | exact .inl rfl | exact .inr (.inl rfl) | exact .inr (.inr rfl)) rfl rfl) (ma_cons (me_var rfl (by first | exact .inl rfl | exact .inr (.inl rfl) | exact .inr (.inr rfl)) rfl rfl) ma_nil rfl) rfl) rfl) rfl rfl rfl) (fun _ => rfl)))) (fun _ _ _ _ _ => (me_var rfl (by first | exact .inl rfl | exact .inr (.inl rfl) | exact .inr (.inr rfl)) rfl rfl)) (fun _ => rfl)) hr.hd)))
theorem k_plans {P : Program} {w : World} {K : PySem.W.Frag} {mg : Str → Option Value} {base : Heap} (Z : Hd K mg) : CalG P w K mg base (adr K) (He.ga K "plans") 4 m_plans [] := by
  obtain ⟨fd, F⟩ := Z.c.def_ 43 (d := dd_plans) rfl
  obtain ⟨ds, hv, hb⟩ := F.binds1 (ps := ["shelf", "request", "bounds"]) 3 1 (by simp [He.DefD.dvs]) rfl (fun T kV doc pm an cdv ct us its h1 h2 => match us, its, h1, h2 with | [_, _, _], [_], _, _ => ⟨_, rfl, rfl⟩)
  exact ⟨⟨fd, _, ds, g0_plans Z F, hb, dfl_nil hv⟩, F.kp⟩
theorem k_plans_d {P : Program} {w : World} {K : PySem.W.Frag} {mg : Str → Option Value} {base : Heap} (Z : Hd K mg) : CalG P w K mg base (adr K) (He.ga K "plans") 4 m_plans [.kt0] := by
  obtain ⟨fd, F⟩ := Z.c.def_ 43 (d := dd_plans) rfl
  obtain ⟨ds, hv, hb⟩ := F.binds1 (ps := ["shelf", "request", "bounds"]) 2 0 (by simp [He.DefD.dvs]) rfl (fun T kV doc pm an cdv ct us its h1 h2 => match us, its, h1, h2 with | [_, _], [_], _, _ => ⟨_, rfl, rfl⟩)
  exact ⟨⟨fd, _, ds, g0_plans Z F, hb, dfl_kt0 (k0B_ok (Bool.and_eq_true_iff.mp Z.ex).2) hv⟩, F.kp⟩
end K35

end
section
namespace K35
open PySem PySem.Spec PyProof.Rows L2 Mi
theorem nd_is_plan : (["shelf", "value", "one", "most"] : List Str).Nodup := by decide +kernel
theorem sc_is_plan : FnScope ["shelf", "value", "one", "most"] ["shelf", "value"] (defScope (top 36)) := ⟨rfl, rfl, rfl, by decide +kernel, rfl, by decide +kernel, by decide +kernel⟩
theorem k_is_plan {P : Program} {w : World} {K : PySem.W.Frag} {mg : Str → Option Value} {base : Heap} (Z : Hd K mg) : Cal P w K mg base (adr K) (He.ga K "is_plan") 2 m_is_plan [] := by
  obtain ⟨fd, F⟩ := Z.c.def_ 44 (d := dd_is_plan) rfl
  refine ⟨⟨fd, ["shelf", "value"], [], fn_m F sc_is_plan rfl rfl (fun cdv A outer s H E hr => ?_), (F.bindsN (ps := ["shelf", "value"]) (fun _ _ _ _ _ _ us hl => match us, hl with | [_, _], _ => rfl)), Dfl.nil⟩, F.kp⟩
  exact (ms_cons (ms_if (MW.mt (mw_or (mt_not (mt_val (me_bi (mc_isi (isf Z)) rfl (f_isinstance Z) rfl (ma_cons (me_var rfl (by first | exact .inl rfl | exact .inr (.inl rfl) | exact .inr (.inr rfl)) rfl rfl) (ma_cons (me_ty (n := 3) rfl (f_tuple Z) rfl) ma_nil rfl) rfl)) (fun _ => rfl))) (mw_or1 (mt_cmpW (mo_neB hr.hu) (me_bi mc_len rfl (f_len Z) rfl (ma_cons (me_var rfl (by first | exact .inl rfl | exact .inr (.inl rfl) | exact .inr (.inr rfl)) rfl rfl) ma_nil rfl)) (me_bi mc_len rfl (f_len Z) rfl (ma_cons (me_fld (me_var rfl (by first | exact .inl rfl | exact .inr (.inl rfl) | exact .inr (.inr rfl)) rfl rfl) (a_most Z) rfl) ma_nil rfl)) rfl)))) (ms_cons (ms_ret me_bl) ms_nil) ms_nil) (ms_cons (ms_ret (me_bi (mc_all rfl) rfl (f_all Z) rfl (ma_cons (me_lc (own := [("one", 2), ("most", 3)]) rfl nd_is_plan (mi_zip rfl (f_zip Z) (ma_cons (me_var rfl (by first | exact .inl rfl | exact .inr (.inl rfl) | exact .inr (.inr rfl)) rfl rfl) (ma_cons (me_bm0 PySem.F.plainAttrs_dict PySem.F.slot_dict_values PySem.F.type_dict_values mt_valuesW ty_dict (me_fld (me_var rfl (by first | exact .inl rfl | exact .inr (.inl rfl) | exact .inr (.inr rfl)) rfl rfl) (a_most Z) rfl)) ma_nil rfl) rfl)) (blk_mk rfl (by rfl)) rfl (fun _ _ _ _ _ => (mg_tup rfl (mgs_cons (mg_name nd_is_plan rfl (by first | exact .inl rfl | exact .inr rfl) (by first | exact .inl rfl | exact .inr rfl) (sl := [2, 3]) (by decide)) (mgs_cons (mg_name nd_is_plan rfl (by first | exact .inl rfl | exact .inr rfl) (by first | exact .inl rfl | exact .inr rfl) (sl := [2, 3]) (by decide)) mgs_nil rfl) rfl) rfl rfl)) (fun _ _ _ _ _ => mts_nil) (fun _ _ _ _ _ => (me_cal (k_is_integer Z) (hr.mono (by omega)) rfl (g_is_integer Z) (takes0 rfl) (ma_cons (me_var rfl (by first | exact .inl rfl | exact .inr (.inl rfl) | exact .inr (.inr rfl)) rfl rfl) (ma_cons me_int (ma_cons (me_var rfl (by first | exact .inl rfl | exact .inr (.inl rfl) | exact .inr (.inr rfl)) rfl rfl) ma_nil rfl) rfl) rfl) rfl rfl rfl)) (fun _ => rfl)) ma_nil rfl))) ms_nil))
end K35

end
section
namespace K35
open PySem PySem.Spec PyProof.Rows L2 Mi
theorem nd_check_plan : (["shelf", "plan"] : List Str).Nodup := by decide +kernel
theorem sc_check_plan : FnScope ["shelf", "plan"] ["shelf", "plan"] (defScope (top 37)) := ⟨rfl, rfl, rfl, by decide +kernel, rfl, by decide +kernel, by decide +kernel⟩
theorem k_check_plan {P : Program} {w : World} {K : PySem.W.Frag} {mg : Str → Option Value} {base : Heap} (Z : Hd K mg) : Cal P w K mg base (adr K) (He.ga K "check_plan") 3 m_check_plan [] := by
  obtain ⟨fd, F⟩ := Z.c.def_ 45 (d := dd_check_plan) rfl
  refine ⟨⟨fd, ["shelf", "plan"], [], fn_m F sc_check_plan rfl rfl (fun cdv A outer s H E hr => ?_), (F.bindsN (ps := ["shelf", "plan"]) (fun _ _ _ _ _ _ us hl => match us, hl with | [_, _], _ => rfl)), Dfl.nil⟩, F.kp⟩
  exact (ms_cons (ms_if (mt_not (mt_val (me_cal (k_is_plan Z) (hr.mono (by omega)) rfl (g_is_plan Z) (takes_of rfl rfl rfl rfl) (ma_cons (me_var rfl (by first | exact .inl rfl | exact .inr (.inl rfl) | exact .inr (.inr rfl)) rfl rfl) (ma_cons (me_var rfl (by first | exact .inl rfl | exact .inr (.inl rfl) | exact .inr (.inr rfl)) rfl rfl) ma_nil rfl) rfl) rfl rfl rfl) (fun _ => rfl))) (ms_cons ms_never ms_nil) ms_nil) ms_nil)
end K35

end
section
namespace K35
open PySem PySem.Spec PyProof.Rows L2 Mi
theorem nd_next_package : (["shelf", "request", "plan"] : List Str).Nodup := by decide +kernel
theorem sc_next_package : FnScope ["shelf", "request", "plan"] ["shelf", "request", "plan"] (defScope (top 47)) := ⟨rfl, rfl, rfl, by decide +kernel, rfl, by decide +kernel, by decide +kernel⟩
theorem k_next_package {P : Program} {w : World} {K : PySem.W.Frag} {mg : Str → Option Value} {base : Heap} (Z : Hd K mg) : Cal P w K mg base (adr K) (He.ga K "next_package") 4 m_next_package [] := by
  obtain ⟨fd, F⟩ := Z.c.def_ 46 (d := dd_next_package) rfl
  refine ⟨⟨fd, ["shelf", "request", "plan"], [], fn_m F sc_next_package rfl rfl (fun cdv A outer s H E hr => ?_), (F.bindsN (ps := ["shelf", "request", "plan"]) (fun _ _ _ _ _ _ us hl => match us, hl with | [_, _, _], _ => rfl)), Dfl.nil⟩, F.kp⟩
  exact (ms_cons (ms_expr (me_cal (k_check_request Z) (hr.mono (by omega)) rfl (g_check_request Z) (takes_of rfl rfl rfl rfl) (ma_cons (me_var rfl (by first | exact .inl rfl | exact .inr (.inl rfl) | exact .inr (.inr rfl)) rfl rfl) (ma_cons (me_var rfl (by first | exact .inl rfl | exact .inr (.inl rfl) | exact .inr (.inr rfl)) rfl rfl) ma_nil rfl) rfl) rfl rfl rfl) rfl) (ms_cons (ms_expr (me_cal (k_check_plan Z) (hr.mono (by omega)) rfl (g_check_plan Z) (takes_of rfl rfl rfl rfl) (ma_cons (me_var rfl (by first | exact .inl rfl | exact .inr (.inl rfl) | exact .inr (.inr rfl)) rfl rfl) (ma_cons (me_var rfl (by first | exact .inl rfl | exact .inr (.inl rfl) | exact .inr (.inr rfl)) rfl rfl) ma_nil rfl) rfl) rfl rfl rfl) rfl) (ms_cons (ms_ret (me_cal (k_next_of Z) (hr.mono (by omega)) rfl (g_next_of Z) (takes_of rfl rfl rfl rfl) (ma_cons (me_var rfl (by first | exact .inl rfl | exact .inr (.inl rfl) | exact .inr (.inr rfl)) rfl rfl) (ma_cons (me_var rfl (by first | exact .inl rfl | exact .inr (.inl rfl) | exact .inr (.inr rfl)) rfl rfl) (ma_cons (me_var rfl (by first | exact .inl rfl | exact .inr (.inl rfl) | exact .inr (.inr rfl)) rfl rfl) ma_nil rfl) rfl) rfl) rfl rfl rfl)) ms_nil)))
end K35

end
section
namespace K35
open PySem PySem.Spec PyProof.Rows L2 Mi
theorem nd_set_cost : (["shelf", "bounds"] : List Str).Nodup := by decide +kernel
theorem sc_set_cost : FnScope ["shelf", "bounds"] ["shelf", "bounds"] (defScope (top 54)) := ⟨rfl, rfl, rfl, by decide +kernel, rfl, by decide +kernel, by decide +kernel⟩
theorem k_set_cost {P : Program} {w : World} {K : PySem.W.Frag} {mg : Str → Option Value} {base : Heap} (Z : Hd K mg) : Cal P w K mg base (adr K) (He.ga K "set_cost") 2 m_set_cost [] := by
  obtain ⟨fd, F⟩ := Z.c.def_ 47 (d := dd_set_cost) rfl
  refine ⟨⟨fd, ["shelf", "bounds"], [], fn_m F sc_set_cost rfl rfl (fun cdv A outer s H E hr => ?_), (F.bindsN (ps := ["shelf", "bounds"]) (fun _ _ _ _ _ _ us hl => match us, hl with | [_, _], _ => rfl)), Dfl.nil⟩, F.kp⟩
  exact (ms_cons (ms_expr (me_cal (k_check_shelf Z) (hr.mono (by omega)) rfl (g_check_shelf Z) (takes_of rfl rfl rfl rfl) (ma_cons (me_var rfl (by first | exact .inl rfl | exact .inr (.inl rfl) | exact .inr (.inr rfl)) rfl rfl) ma_nil rfl) rfl rfl rfl) rfl) (ms_cons (ms_expr (me_cal (k_check_set Z) (hr.mono (by omega)) rfl (g_check_set Z) (takes_of rfl rfl rfl rfl) (ma_cons (me_var rfl (by first | exact .inl rfl | exact .inr (.inl rfl) | exact .inr (.inr rfl)) rfl rfl) (ma_cons (me_var rfl (by first | exact .inl rfl | exact .inr (.inl rfl) | exact .inr (.inr rfl)) rfl rfl) ma_nil rfl) rfl) rfl rfl rfl) rfl) (ms_cons (ms_ret (me_cal (k_cost_of Z) (hr.mono (by omega)) rfl (g_cost_of Z) (takes_of rfl rfl rfl rfl) (ma_cons (me_var rfl (by first | exact .inl rfl | exact .inr (.inl rfl) | exact .inr (.inr rfl)) rfl rfl) (ma_cons (me_var rfl (by first | exact .inl rfl | exact .inr (.inl rfl) | exact .inr (.inr rfl)) rfl rfl) ma_nil rfl) rfl) rfl rfl rfl)) ms_nil)))
end K35

end
section
namespace K35
open PySem PySem.Spec PyProof.Rows L2 Mi
theorem nd_is_broken : (["shelf", "plan"] : List Str).Nodup := by decide +kernel
theorem sc_is_broken : FnScope ["shelf", "plan"] ["shelf", "plan"] (defScope (top 48)) := ⟨rfl, rfl, rfl, by decide +kernel, rfl, by decide +kernel, by decide +kernel⟩
theorem k_is_broken {P : Program} {w : World} {K : PySem.W.Frag} {mg : Str → Option Value} {base : Heap} (Z : Hd K mg) : Cal P w K mg base (adr K) (He.ga K "is_broken") 4 m_is_broken [] := by
  obtain ⟨fd, F⟩ := Z.c.def_ 48 (d := dd_is_broken) rfl
  refine ⟨⟨fd, ["shelf", "plan"], [], fn_m F sc_is_broken rfl rfl (fun cdv A outer s H E hr => ?_), (F.bindsN (ps := ["shelf", "plan"]) (fun _ _ _ _ _ _ us hl => match us, hl with | [_, _], _ => rfl)), Dfl.nil⟩, F.kp⟩
  exact (ms_cons (ms_expr (me_cal (k_check_shelf Z) (hr.mono (by omega)) rfl (g_check_shelf Z) (takes_of rfl rfl rfl rfl) (ma_cons (me_var rfl (by first | exact .inl rfl | exact .inr (.inl rfl) | exact .inr (.inr rfl)) rfl rfl) ma_nil rfl) rfl rfl rfl) rfl) (ms_cons (ms_expr (me_cal (k_check_plan Z) (hr.mono (by omega)) rfl (g_check_plan Z) (takes_of rfl rfl rfl rfl) (ma_cons (me_var rfl (by first | exact .inl rfl | exact .inr (.inl rfl) | exact .inr (.inr rfl)) rfl rfl) (ma_cons (me_var rfl (by first | exact .inl rfl | exact .inr (.inl rfl) | exact .inr (.inr rfl)) rfl rfl) ma_nil rfl) rfl) rfl rfl rfl) rfl) (ms_cons (ms_ret (me_cal (k_clashing Z) (hr.mono (by omega)) rfl (g_clashing Z) (takes_of rfl rfl rfl rfl) (ma_cons (me_var rfl (by first | exact .inl rfl | exact .inr (.inl rfl) | exact .inr (.inr rfl)) rfl rfl) (ma_cons (me_var rfl (by first | exact .inl rfl | exact .inr (.inl rfl) | exact .inr (.inr rfl)) rfl rfl) ma_nil rfl) rfl) rfl rfl rfl)) ms_nil)))
end K35

end
section
namespace K35
open PySem PySem.Spec PyProof.Rows L2 Mi
theorem nd_allows : (["shelf", "bounds", "plan"] : List Str).Nodup := by decide +kernel
theorem sc_allows : FnScope ["shelf", "bounds", "plan"] ["shelf", "bounds", "plan"] (defScope (top 49)) := ⟨rfl, rfl, rfl, by decide +kernel, rfl, by decide +kernel, by decide +kernel⟩
theorem k_allows {P : Program} {w : World} {K : PySem.W.Frag} {mg : Str → Option Value} {base : Heap} (Z : Hd K mg) : Cal P w K mg base (adr K) (He.ga K "allows") 4 m_allows [] := by
  obtain ⟨fd, F⟩ := Z.c.def_ 49 (d := dd_allows) rfl
  refine ⟨⟨fd, ["shelf", "bounds", "plan"], [], fn_m F sc_allows rfl rfl (fun cdv A outer s H E hr => ?_), (F.bindsN (ps := ["shelf", "bounds", "plan"]) (fun _ _ _ _ _ _ us hl => match us, hl with | [_, _, _], _ => rfl)), Dfl.nil⟩, F.kp⟩
  exact (ms_cons (ms_expr (me_cal (k_check_shelf Z) (hr.mono (by omega)) rfl (g_check_shelf Z) (takes_of rfl rfl rfl rfl) (ma_cons (me_var rfl (by first | exact .inl rfl | exact .inr (.inl rfl) | exact .inr (.inr rfl)) rfl rfl) ma_nil rfl) rfl rfl rfl) rfl) (ms_cons (ms_expr (me_cal (k_check_set Z) (hr.mono (by omega)) rfl (g_check_set Z) (takes_of rfl rfl rfl rfl) (ma_cons (me_var rfl (by first | exact .inl rfl | exact .inr (.inl rfl) | exact .inr (.inr rfl)) rfl rfl) (ma_cons (me_var rfl (by first | exact .inl rfl | exact .inr (.inl rfl) | exact .inr (.inr rfl)) rfl rfl) ma_nil rfl) rfl) rfl rfl rfl) rfl) (ms_cons (ms_expr (me_cal (k_check_plan Z) (hr.mono (by omega)) rfl (g_check_plan Z) (takes_of rfl rfl rfl rfl) (ma_cons (me_var rfl (by first | exact .inl rfl | exact .inr (.inl rfl) | exact .inr (.inr rfl)) rfl rfl) (ma_cons (me_var rfl (by first | exact .inl rfl | exact .inr (.inl rfl) | exact .inr (.inr rfl)) rfl rfl) ma_nil rfl) rfl) rfl rfl rfl) rfl) (ms_cons (ms_ret (me_cal (k_is_allowed Z) (hr.mono (by omega)) rfl (g_is_allowed Z) (takes_of rfl rfl rfl rfl) (ma_cons (me_var rfl (by first | exact .inl rfl | exact .inr (.inl rfl) | exact .inr (.inr rfl)) rfl rfl) (ma_cons (me_var rfl (by first | exact .inl rfl | exact .inr (.inl rfl) | exact .inr (.inr rfl)) rfl rfl) (ma_cons (me_var rfl (by first | exact .inl rfl | exact .inr (.inl rfl) | exact .inr (.inr rfl)) rfl rfl) ma_nil rfl) rfl) rfl) rfl rfl rfl)) ms_nil))))
end K35

end
section
namespace K35
open PySem PySem.Spec PyProof.Rows L2 Mi
theorem nd__law_plans_right : (["_law_worth", "_law_shelf", "_law_rows", "_law_chain", "_law_row", "_law_due", "_law_names", "_law_right", "_law_at", "_law_plan"] : List Str).Nodup := by decide +kernel
theorem sc__law_plans_right : FnScope ["_law_worth", "_law_shelf", "_law_rows", "_law_chain", "_law_row", "_law_due", "_law_names", "_law_right", "_law_at", "_law_plan"] ["_law_worth"] (defScope (top 74)) := ⟨rfl, rfl, rfl, by decide +kernel, rfl, by decide +kernel, by decide +kernel⟩
theorem k__law_plans_right {P : Program} {w : World} {K : PySem.W.Frag} {mg : Str → Option Value} {base : Heap} (Z : Hd K mg) : Cal P w K mg base (adr K) (He.ga K "_law_plans_right") 11 m__law_plans_right [] := by
  obtain ⟨fd, F⟩ := Z.c.def_ 50 (d := dd__law_plans_right) rfl
  refine ⟨⟨fd, ["_law_worth"], [], fn_m F sc__law_plans_right rfl rfl (fun cdv A outer s H E hr => ?_), (F.bindsN (ps := ["_law_worth"]) (fun _ _ _ _ _ _ us hl => match us, hl with | [_], _ => rfl)), Dfl.nil⟩, F.kp⟩
  exact (ms_cons (ms_set nd__law_plans_right (i := 1) rfl (by first | exact .inl rfl | exact .inr rfl) (me_cal (k__law_small Z) (hr.mono (by omega)) rfl (g__law_small Z) (takes_of rfl rfl rfl rfl) (ma_cons (me_var rfl (by first | exact .inl rfl | exact .inr (.inl rfl) | exact .inr (.inr rfl)) rfl rfl) ma_nil rfl) rfl rfl rfl) rfl (.inl rfl)) (ms_cons (ms_set nd__law_plans_right (i := 2) rfl (by first | exact .inl rfl | exact .inr rfl) (me_lst (ma_cons (me_tup (ma_cons (me_tup ma_nil) (ma_cons (me_lst (ma_cons (me_tup (ma_cons me_int (ma_cons me_int ma_nil rfl) rfl)) (ma_cons (me_tup (ma_cons me_int (ma_cons me_int ma_nil rfl) rfl)) (ma_cons (me_tup (ma_cons me_int (ma_cons me_int ma_nil rfl) rfl)) (ma_cons (me_tup (ma_cons me_int (ma_cons me_int ma_nil rfl) rfl)) ma_nil rfl) rfl) rfl) rfl)) (ma_cons me_bl ma_nil rfl) rfl) rfl)) ma_nil rfl)) rfl (.inl rfl)) (ms_cons (ms_set nd__law_plans_right (i := 2) rfl (by first | exact .inl rfl | exact .inr rfl) (me_binW mo_add (me_var rfl (by first | exact .inl rfl | exact .inr (.inl rfl) | exact .inr (.inr rfl)) rfl rfl) (me_lst (ma_cons (me_tup (ma_cons (me_tup (ma_cons me_str ma_nil rfl)) (ma_cons (me_lst (ma_cons (me_tup (ma_cons me_int (ma_cons me_int ma_nil rfl) rfl)) (ma_cons (me_tup (ma_cons me_int (ma_cons me_int ma_nil rfl) rfl)) (ma_cons (me_tup (ma_cons me_int (ma_cons me_int ma_nil rfl) rfl)) ma_nil rfl) rfl) rfl)) (ma_cons me_bl ma_nil rfl) rfl) rfl)) ma_nil rfl))) rfl (.inl rfl)) (ms_cons (ms_set nd__law_plans_right (i := 2) rfl (by first | exact .inl rfl | exact .inr rfl) (me_binW mo_add (me_var rfl (by first | exact .inl rfl | exact .inr (.inl rfl) | exact .inr (.inr rfl)) rfl rfl) (me_lst (ma_cons (me_tup (ma_cons (me_tup (ma_cons me_str ma_nil rfl)) (ma_cons (me_lst (ma_cons (me_tup (ma_cons me_int (ma_cons me_int ma_nil rfl) rfl)) (ma_cons (me_tup (ma_cons me_int (ma_cons me_int ma_nil rfl) rfl)) (ma_cons (me_tup (ma_cons me_int (ma_cons me_int ma_nil rfl) rfl)) ma_nil rfl) rfl) rfl)) (ma_cons me_bl ma_nil rfl) rfl) rfl)) ma_nil rfl))) rfl (.inl rfl)) (ms_cons (ms_set nd__law_plans_right (i := 2) rfl (by first | exact .inl rfl | exact .inr rfl) (me_binW mo_add (me_var rfl (by first | exact .inl rfl | exact .inr (.inl rfl) | exact .inr (.inr rfl)) rfl rfl) (me_lst (ma_cons (me_tup (ma_cons (me_tup (ma_cons me_str (ma_cons me_str ma_nil rfl) rfl)) (ma_cons (me_lst (ma_cons (me_tup (ma_cons me_int (ma_cons me_int ma_nil rfl) rfl)) (ma_cons (me_tup (ma_cons me_int (ma_cons me_int ma_nil rfl) rfl)) ma_nil rfl) rfl)) (ma_cons me_bl ma_nil rfl) rfl) rfl)) (ma_cons (me_tup (ma_cons (me_tup (ma_cons me_str ma_nil rfl)) (ma_cons (me_lst ma_nil) (ma_cons me_bl ma_nil rfl) rfl) rfl)) ma_nil rfl) rfl))) rfl (.inl rfl)) (ms_cons (ms_for (passes_of rfl) rfl (mi_any (me_var rfl (by first | exact .inl rfl | exact .inr (.inl rfl) | exact .inr (.inr rfl)) rfl rfl)) (mg_tup rfl (mgs_cons (mg_name nd__law_plans_right rfl (by first | exact .inl rfl | exact .inr rfl) (.inl rfl) (sl := [5, 6, 7]) (by decide)) (mgs_cons (mg_name nd__law_plans_right rfl (by first | exact .inl rfl | exact .inr rfl) (.inl rfl) (sl := [5, 6, 7]) (by decide)) (mgs_cons (mg_name nd__law_plans_right rfl (by first | exact .inl rfl | exact .inr rfl) (.inl rfl) (sl := [5, 6, 7]) (by decide)) mgs_nil rfl) rfl) rfl) rfl rfl) (ms_cons (ms_if (MW.mt (mw_or (mt_cmpW (mo_neB hr.hu) (me_calG (k_plans Z) (hr.mono (by omega)) rfl (g_plans Z) (ma_cons (me_var rfl (by first | exact .inl rfl | exact .inr (.inl rfl) | exact .inr (.inr rfl)) rfl rfl) (ma_cons me_int (ma_cons (me_var rfl (by first | exact .inl rfl | exact .inr (.inl rfl) | exact .inr (.inr rfl)) rfl rfl) ma_nil rfl) rfl) rfl) rfl (f_list Z)) (me_var rfl (by first | exact .inl rfl | exact .inr (.inl rfl) | exact .inr (.inr rfl)) rfl rfl) rfl) (mw_or1 (mt_cmpW (mo_neB hr.hu) (me_cal (k_is_right Z) (hr.mono (by omega)) rfl (g_is_right Z) (takes_of rfl rfl rfl rfl) (ma_cons (me_var rfl (by first | exact .inl rfl | exact .inr (.inl rfl) | exact .inr (.inr rfl)) rfl rfl) (ma_cons (me_var rfl (by first | exact .inl rfl | exact .inr (.inl rfl) | exact .inr (.inr rfl)) rfl rfl) ma_nil rfl) rfl) rfl rfl rfl) (me_var rfl (by first | exact .inl rfl | exact .inr (.inl rfl) | exact .inr (.inr rfl)) rfl rfl) rfl)))) (ms_cons (ms_ret me_bl) ms_nil) ms_nil) ms_nil) (fun _ => rfl)) (ms_cons (ms_set nd__law_plans_right (i := 2) rfl (by first | exact .inl rfl | exact .inr rfl) (me_lst (ma_cons (me_tup (ma_cons (me_tup (ma_cons me_int (ma_cons me_int ma_nil rfl) rfl)) (ma_cons me_str ma_nil rfl) rfl)) (ma_cons (me_tup (ma_cons (me_tup (ma_cons me_int (ma_cons me_int ma_nil rfl) rfl)) (ma_cons me_str ma_nil rfl) rfl)) (ma_cons (me_tup (ma_cons (me_tup (ma_cons me_int (ma_cons me_int ma_nil rfl) rfl)) (ma_cons me_str ma_nil rfl) rfl)) (ma_cons (me_tup (ma_cons (me_tup (ma_cons me_int (ma_cons me_int ma_nil rfl) rfl)) (ma_cons me_non ma_nil rfl) rfl)) ma_nil rfl) rfl) rfl) rfl)) rfl (.inl rfl)) (ms_cons (ms_if (mt_not (mt_val (me_bi (mc_all rfl) rfl (f_all Z) rfl (ma_cons (me_lc (own := [("_law_due", 5), ("_law_plan", 9)]) rfl nd__law_plans_right (mi_any (me_var rfl (by first | exact .inl rfl | exact .inr (.inl rfl) | exact .inr (.inr rfl)) rfl rfl)) (blk_mk rfl (by rfl)) rfl (fun _ _ _ _ _ => (mg_tup rfl (mgs_cons (mg_name nd__law_plans_right rfl (by first | exact .inl rfl | exact .inr rfl) (by first | exact .inl rfl | exact .inr rfl) (sl := [5, 9]) (by decide)) (mgs_cons (mg_name nd__law_plans_right rfl (by first | exact .inl rfl | exact .inr rfl) (by first | exact .inl rfl | exact .inr rfl) (sl := [5, 9]) (by decide)) mgs_nil rfl) rfl) rfl rfl)) (fun _ _ _ _ _ => mts_nil) (fun _ _ _ _ _ => (me_cmpW (mo_eqB hr.hu) (me_cal (k_next_package Z) (hr.mono (by omega)) rfl (g_next_package Z) (takes0 rfl) (ma_cons (me_var rfl (by first | exact .inl rfl | exact .inr (.inl rfl) | exact .inr (.inr rfl)) rfl rfl) (ma_cons me_int (ma_cons (me_var rfl (by first | exact .inl rfl | exact .inr (.inl rfl) | exact .inr (.inr rfl)) rfl rfl) ma_nil rfl) rfl) rfl) rfl rfl rfl) (me_var rfl (by first | exact .inl rfl | exact .inr (.inl rfl) | exact .inr (.inr rfl)) rfl rfl) rfl)) (fun _ => rfl)) ma_nil rfl)) (fun _ => rfl))) (ms_cons (ms_ret me_bl) ms_nil) ms_nil) (ms_cons (ms_if (mt_cmpW (mo_neB hr.hu) (me_cal (k_set_cost Z) (hr.mono (by omega)) rfl (g_set_cost Z) (takes_of rfl rfl rfl rfl) (ma_cons (me_var rfl (by first | exact .inl rfl | exact .inr (.inl rfl) | exact .inr (.inr rfl)) rfl rfl) (ma_cons (me_tup (ma_cons me_str (ma_cons me_str (ma_cons me_str ma_nil rfl) rfl) rfl)) ma_nil rfl) rfl) rfl rfl rfl) (me_binW mo_add (me_binW mo_mul me_int (me_var rfl (by first | exact .inl rfl | exact .inr (.inl rfl) | exact .inr (.inr rfl)) rfl rfl)) me_int) rfl) (ms_cons (ms_ret me_bl) ms_nil) ms_nil) (ms_cons (ms_if (mt_cmpW mo_isNot (me_cal (k_is_broken Z) (hr.mono (by omega)) rfl (g_is_broken Z) (takes_of rfl rfl rfl rfl) (ma_cons (me_var rfl (by first | exact .inl rfl | exact .inr (.inl rfl) | exact .inr (.inr rfl)) rfl rfl) (ma_cons (me_tup (ma_cons me_int (ma_cons me_int ma_nil rfl) rfl)) ma_nil rfl) rfl) rfl rfl rfl) me_bl rfl) (ms_cons (ms_ret me_bl) ms_nil) ms_nil) (ms_cons (ms_if (mt_val (me_cal (k_is_broken Z) (hr.mono (by omega)) rfl (g_is_broken Z) (takes_of rfl rfl rfl rfl) (ma_cons (me_var rfl (by first | exact .inl rfl | exact .inr (.inl rfl) | exact .inr (.inr rfl)) rfl rfl) (ma_cons (me_tup (ma_cons me_int (ma_cons me_int ma_nil rfl) rfl)) ma_nil rfl) rfl) rfl rfl rfl) (fun _ => rfl)) (ms_cons (ms_ret me_bl) ms_nil) ms_nil) (ms_cons (ms_if (mt_cmpW mo_isNot (me_cal (k_allows Z) (hr.mono (by omega)) rfl (g_allows Z) (takes_of rfl rfl rfl rfl) (ma_cons (me_var rfl (by first | exact .inl rfl | exact .inr (.inl rfl) | exact .inr (.inr rfl)) rfl rfl) (ma_cons (me_tup (ma_cons me_str ma_nil rfl)) (ma_cons (me_tup (ma_cons me_int (ma_cons me_int ma_nil rfl) rfl)) ma_nil rfl) rfl) rfl) rfl rfl rfl) me_bl rfl) (ms_cons (ms_ret me_bl) ms_nil) ms_nil) (ms_cons (ms_if (mt_val (me_cal (k_allows Z) (hr.mono (by omega)) rfl (g_allows Z) (takes_of rfl rfl rfl rfl) (ma_cons (me_var rfl (by first | exact .inl rfl | exact .inr (.inl rfl) | exact .inr (.inr rfl)) rfl rfl) (ma_cons (me_tup (ma_cons me_str ma_nil rfl)) (ma_cons (me_tup (ma_cons me_int (ma_cons me_int ma_nil rfl) rfl)) ma_nil rfl) rfl) rfl) rfl rfl rfl) (fun _ => rfl)) (ms_cons (ms_ret me_bl) ms_nil) ms_nil) (ms_cons (ms_if (mt_val (me_cal (k_allows Z) (hr.mono (by omega)) rfl (g_allows Z) (takes_of rfl rfl rfl rfl) (ma_cons (me_var rfl (by first | exact .inl rfl | exact .inr (.inl rfl) | exact .inr (.inr rfl)) rfl rfl) (ma_cons (me_tup (ma_cons me_str ma_nil rfl)) (ma_cons (me_tup (ma_cons me_int (ma_cons me_int ma_nil rfl) rfl)) ma_nil rfl) rfl) rfl) rfl rfl rfl) (fun _ => rfl)) (ms_cons (ms_ret me_bl) ms_nil) ms_nil) (ms_cons (ms_set nd__law_plans_right (i := 3) rfl (by first | exact .inl rfl | exact .inr rfl) (me_dict hr.hu (mps_cons (me_tup (ma_cons me_str (ma_cons me_int ma_nil rfl) rfl)) (me_tup (ma_cons me_str ma_nil rfl)) (mps_cons (me_tup (ma_cons me_str (ma_cons me_int ma_nil rfl) rfl)) (me_tup (ma_cons me_str ma_nil rfl)) (mps_cons (me_tup (ma_cons me_str (ma_cons me_int ma_nil rfl) rfl)) (me_tup (ma_cons me_str ma_nil rfl)) (mps_cons (me_tup (ma_cons me_str (ma_cons me_int ma_nil rfl) rfl)) (me_tup (ma_cons me_str ma_nil rfl)) mps_nil)))) rfl rfl (by simp) (by decide)) rfl (.inl rfl)) (ms_cons (ms_set nd__law_plans_right (i := 4) rfl (by first | exact .inl rfl | exact .inr rfl) (me_mk (fr := true) (mk_Shelf Z) (k_Shelf_init Z) (hr.mono (by omega)) rfl (g_Shelf Z) (takes_of rfl rfl rfl rfl) (ma_cons (me_dict hr.hu (mps_cons me_str me_int (mps_cons me_str me_int (mps_cons me_str me_int (mps_cons me_str me_int mps_nil)))) rfl rfl (by simp) (by decide)) (ma_cons (me_var rfl (by first | exact .inl rfl | exact .inr (.inl rfl) | exact .inr (.inr rfl)) rfl rfl) (ma_cons (me_lst ma_nil) (ma_cons (me_lst (ma_cons (me_tup (ma_cons me_str ma_nil rfl)) (ma_cons (me_tup (ma_cons me_str (ma_cons me_str ma_nil rfl) rfl)) (ma_cons (me_tup (ma_cons me_str ma_nil rfl)) ma_nil rfl) rfl) rfl)) (ma_cons me_dict0 ma_nil rfl) rfl) rfl) rfl) rfl) rfl rfl rfl) rfl (.inl rfl)) (ms_cons (ms_set nd__law_plans_right (i := 5) rfl (by first | exact .inl rfl | exact .inr rfl) (me_lst (ma_cons (me_lst (ma_cons (me_tup (ma_cons me_int (ma_cons me_int (ma_cons me_int (ma_cons me_int ma_nil rfl) rfl) rfl) rfl)) (ma_cons (me_tup (ma_cons me_int (ma_cons me_int (ma_cons me_int (ma_cons me_int ma_nil rfl) rfl) rfl) rfl)) (ma_cons (me_tup (ma_cons me_int (ma_cons me_int (ma_cons me_int (ma_cons me_int ma_nil rfl) rfl) rfl) rfl)) ma_nil rfl) rfl) rfl)) ma_nil rfl)) rfl (.inl rfl)) (ms_cons (ms_set nd__law_plans_right (i := 5) rfl (by first | exact .inl rfl | exact .inr rfl) (me_binW mo_add (me_var rfl (by first | exact .inl rfl | exact .inr (.inl rfl) | exact .inr (.inr rfl)) rfl rfl) (me_lst (ma_cons (me_lst (ma_cons (me_tup (ma_cons me_int (ma_cons me_int (ma_cons me_int (ma_cons me_int ma_nil rfl) rfl) rfl) rfl)) (ma_cons (me_tup (ma_cons me_int (ma_cons me_int (ma_cons me_int (ma_cons me_int ma_nil rfl) rfl) rfl) rfl)) (ma_cons (me_tup (ma_cons me_int (ma_cons me_int (ma_cons me_int (ma_cons me_int ma_nil rfl) rfl) rfl) rfl)) ma_nil rfl) rfl) rfl)) ma_nil rfl))) rfl (.inl rfl)) (ms_cons (ms_set nd__law_plans_right (i := 5) rfl (by first | exact .inl rfl | exact .inr rfl) (me_binW mo_add (me_var rfl (by first | exact .inl rfl | exact .inr (.inl rfl) | exact .inr (.inr rfl)) rfl rfl) (me_lst (ma_cons (me_lst (ma_cons (me_tup (ma_cons me_int (ma_cons me_int (ma_cons me_int (ma_cons me_int ma_nil rfl) rfl) rfl) rfl)) (ma_cons (me_tup (ma_cons me_int (ma_cons me_int (ma_cons me_int (ma_cons me_int ma_nil rfl) rfl) rfl) rfl)) (ma_cons (me_tup (ma_cons me_int (ma_cons me_int (ma_cons me_int (ma_cons me_int ma_nil rfl) rfl) rfl) rfl)) ma_nil rfl) rfl) rfl)) ma_nil rfl))) rfl (.inl rfl)) (ms_cons (ms_ret (me_and (me_cmpW (mo_eqB hr.hu) (me_lc (own := [("_law_at", 8)]) rfl nd__law_plans_right (mi_range1 rfl (f_range Z) (ma_cons me_int ma_nil rfl)) (blk_mk rfl (by rfl)) rfl (fun _ _ _ _ _ => (mg_name nd__law_plans_right rfl (by first | exact .inl rfl | exact .inr rfl) (by first | exact .inl rfl | exact .inr rfl) (sl := [8]) (by decide))) (fun _ _ _ _ _ => mts_nil) (fun _ _ _ _ _ => (me_calG (k_plans_d Z) (hr.mono (by omega)) rfl (g_plans Z) (ma_cons (me_var rfl (by first | exact .inl rfl | exact .inr (.inl rfl) | exact .inr (.inr rfl)) rfl rfl) (ma_cons (me_var rfl (by first | exact .inl rfl | exact .inr (.inl rfl) | exact .inr (.inr rfl)) rfl rfl) ma_nil rfl) rfl) rfl (f_list Z))) (fun _ => rfl)) (me_var rfl (by first | exact .inl rfl | exact .inr (.inl rfl) | exact .inr (.inr rfl)) rfl rfl) rfl) (me_one (me_cmpW (mo_eqB hr.hu) (me_cal (k_next_package Z) (hr.mono (by omega)) rfl (g_next_package Z) (takes_of rfl rfl rfl rfl) (ma_cons (me_var rfl (by first | exact .inl rfl | exact .inr (.inl rfl) | exact .inr (.inr rfl)) rfl rfl) (ma_cons me_int (ma_cons (me_tup (ma_cons me_int (ma_cons me_int (ma_cons me_int (ma_cons me_int ma_nil rfl) rfl) rfl) rfl)) ma_nil rfl) rfl) rfl) rfl rfl rfl) me_str rfl)))) ms_nil))))))))))))))))))))
end K35

end
section
namespace K35
open PySem PySem.Spec PyProof.Rows L2 Mi
theorem nd__law_answers_right : (["_law_tree", "_law_shut", "_law_rows", "_law_odd", "_law_done", "_law_old", "_law_first", "_law_second", "_law_worth", "_law_plan", "_law_one", "_law_doubts", "_law_due"] : List Str).Nodup := by decide +kernel
theorem sc__law_answers_right : FnScope ["_law_tree", "_law_shut", "_law_rows", "_law_odd", "_law_done", "_law_old", "_law_first", "_law_second", "_law_worth", "_law_plan", "_law_one", "_law_doubts", "_law_due"] [] (defScope (top 77)) := ⟨rfl, rfl, rfl, by decide +kernel, rfl, by decide +kernel, by decide +kernel⟩
theorem k__law_answers_right {P : Program} {w : World} {K : PySem.W.Frag} {mg : Str → Option Value} {base : Heap} (Z : Hd K mg) : Cal P w K mg base (adr K) (He.ga K "_law_answers_right") 17 m__law_answers_right [] := by
  obtain ⟨fd, F⟩ := Z.c.def_ 51 (d := dd__law_answers_right) rfl
  refine ⟨⟨fd, [], [], fn_m F sc__law_answers_right rfl rfl (fun cdv A outer s H E hr => ?_), (F.bindsN (ps := []) (fun _ _ _ _ _ _ us hl => match us, hl with | [], _ => rfl)), Dfl.nil⟩, F.kp⟩
  exact (ms_cons (ms_asg (me_tup (ma_cons (me_tup (ma_cons me_str ma_nil rfl)) (ma_cons (me_tup (ma_cons me_str (ma_cons me_str ma_nil rfl) rfl)) ma_nil rfl) rfl)) (mg_tup rfl (mgs_cons (mg_name nd__law_answers_right rfl (by first | exact .inl rfl | exact .inr rfl) (.inl rfl) (sl := [4, 5]) (by decide)) (mgs_cons (mg_name nd__law_answers_right rfl (by first | exact .inl rfl | exact .inr rfl) (.inl rfl) (sl := [4, 5]) (by decide)) mgs_nil rfl) rfl) rfl rfl) rfl rfl rfl) (ms_cons (ms_set nd__law_answers_right (i := 0) rfl (by first | exact .inl rfl | exact .inr rfl) (me_tup (ma_cons me_str (ma_cons (me_tup (ma_cons (me_tup (ma_cons me_str (ma_cons (me_tup (ma_cons (me_var rfl (by first | exact .inl rfl | exact .inr (.inl rfl) | exact .inr (.inr rfl)) rfl rfl) (ma_cons (me_var rfl (by first | exact .inl rfl | exact .inr (.inl rfl) | exact .inr (.inr rfl)) rfl rfl) ma_nil rfl) rfl)) ma_nil rfl) rfl)) (ma_cons (me_tup (ma_cons me_str (ma_cons (me_tup (ma_cons (me_var rfl (by first | exact .inl rfl | exact .inr (.inl rfl) | exact .inr (.inr rfl)) rfl rfl) (ma_cons (me_var rfl (by first | exact .inl rfl | exact .inr (.inl rfl) | exact .inr (.inr rfl)) rfl rfl) ma_nil rfl) rfl)) ma_nil rfl) rfl)) ma_nil rfl) rfl)) ma_nil rfl) rfl)) rfl (.inl rfl)) (ms_cons (ms_set nd__law_answers_right (i := 1) rfl (by first | exact .inl rfl | exact .inr rfl) (me_tup (ma_cons me_str (ma_cons (me_binW mo_mul (me_tup (ma_cons (me_tup (ma_cons me_str (ma_cons (me_binW mo_mul (me_tup (ma_cons (me_tup (ma_cons me_str (ma_cons me_str ma_nil rfl) rfl)) ma_nil rfl)) me_int) ma_nil rfl) rfl)) ma_nil rfl)) me_int) ma_nil rfl) rfl)) rfl (.inl rfl)) (ms_cons (ms_par2 (i := 6) (j := 7) rfl nd__law_answers_right rfl rfl (by decide) rfl rfl (ma_cons (me_tup (ma_cons me_str (ma_cons me_int (ma_cons (me_tup (ma_cons me_int (ma_cons me_int ma_nil rfl) rfl)) ma_nil rfl) rfl) rfl)) (ma_cons (me_tup (ma_cons me_str (ma_cons me_int (ma_cons (me_var rfl (by first | exact .inl rfl | exact .inr (.inl rfl) | exact .inr (.inr rfl)) rfl rfl) ma_nil rfl) rfl) rfl)) ma_nil rfl) rfl) rfl rfl) (ms_cons (ms_set nd__law_answers_right (i := 2) rfl (by first | exact .inl rfl | exact .inr rfl) (me_lst (ma_cons (me_tup (ma_cons me_int (ma_cons (me_tup (ma_cons me_int (ma_cons me_int ma_nil rfl) rfl)) (ma_cons (me_var rfl (by first | exact .inl rfl | exact .inr (.inl rfl) | exact .inr (.inr rfl)) rfl rfl) (ma_cons (me_dict hr.hu (mps_cons (me_tup ma_nil) (me_var rfl (by first | exact .inl rfl | exact .inr (.inl rfl) | exact .inr (.inr rfl)) rfl rfl) mps_nil) rfl rfl (by simp) (by decide)) (ma_cons me_bl ma_nil rfl) rfl) rfl) rfl) rfl)) (ma_cons (me_tup (ma_cons me_int (ma_cons (me_tup (ma_cons me_int (ma_cons me_int ma_nil rfl) rfl)) (ma_cons (me_var rfl (by first | exact .inl rfl | exact .inr (.inl rfl) | exact .inr (.inr rfl)) rfl rfl) (ma_cons (me_dict hr.hu (mps_cons (me_tup ma_nil) (me_var rfl (by first | exact .inl rfl | exact .inr (.inl rfl) | exact .inr (.inr rfl)) rfl rfl) mps_nil) rfl rfl (by simp) (by decide)) (ma_cons me_bl ma_nil rfl) rfl) rfl) rfl) rfl)) ma_nil rfl) rfl)) rfl (.inl rfl)) (ms_cons (ms_set nd__law_answers_right (i := 2) rfl (by first | exact .inl rfl | exact .inr rfl) (me_binW mo_add (me_var rfl (by first | exact .inl rfl | exact .inr (.inl rfl) | exact .inr (.inr rfl)) rfl rfl) (me_lst (ma_cons (me_tup (ma_cons me_int (ma_cons (me_tup (ma_cons me_int (ma_cons me_int ma_nil rfl) rfl)) (ma_cons (me_var rfl (by first | exact .inl rfl | exact .inr (.inl rfl) | exact .inr (.inr rfl)) rfl rfl) (ma_cons (me_dict hr.hu (mps_cons (me_tup ma_nil) (me_var rfl (by first | exact .inl rfl | exact .inr (.inl rfl) | exact .inr (.inr rfl)) rfl rfl) mps_nil) rfl rfl (by simp) (by decide)) (ma_cons me_bl ma_nil rfl) rfl) rfl) rfl) rfl)) ma_nil rfl))) rfl (.inl rfl)) (ms_cons (ms_set nd__law_answers_right (i := 2) rfl (by first | exact .inl rfl | exact .inr rfl) (me_binW mo_add (me_var rfl (by first | exact .inl rfl | exact .inr (.inl rfl) | exact .inr (.inr rfl)) rfl rfl) (me_lst (ma_cons (me_tup (ma_cons me_int (ma_cons (me_tup (ma_cons me_int (ma_cons me_int ma_nil rfl) rfl)) (ma_cons (me_var rfl (by first | exact .inl rfl | exact .inr (.inl rfl) | exact .inr (.inr rfl)) rfl rfl) (ma_cons (me_dict hr.hu (mps_cons (me_tup ma_nil) (me_var rfl (by first | exact .inl rfl | exact .inr (.inl rfl) | exact .inr (.inr rfl)) rfl rfl) mps_nil) rfl rfl (by simp) (by decide)) (ma_cons me_bl ma_nil rfl) rfl) rfl) rfl) rfl)) (ma_cons (me_tup (ma_cons me_int (ma_cons (me_tup (ma_cons me_int (ma_cons me_int ma_nil rfl) rfl)) (ma_cons (me_var rfl (by first | exact .inl rfl | exact .inr (.inl rfl) | exact .inr (.inr rfl)) rfl rfl) (ma_cons me_dict0 (ma_cons me_bl ma_nil rfl) rfl) rfl) rfl) rfl)) ma_nil rfl) rfl))) rfl (.inl rfl)) (ms_cons (ms_set nd__law_answers_right (i := 2) rfl (by first | exact .inl rfl | exact .inr rfl) (me_binW mo_add (me_var rfl (by first | exact .inl rfl | exact .inr (.inl rfl) | exact .inr (.inr rfl)) rfl rfl) (me_lst (ma_cons (me_tup (ma_cons me_int (ma_cons (me_tup (ma_cons me_int (ma_cons me_int ma_nil rfl) rfl)) (ma_cons (me_var rfl (by first | exact .inl rfl | exact .inr (.inl rfl) | exact .inr (.inr rfl)) rfl rfl) (ma_cons (me_dict hr.hu (mps_cons (me_tup ma_nil) (me_var rfl (by first | exact .inl rfl | exact .inr (.inl rfl) | exact .inr (.inr rfl)) rfl rfl) mps_nil) rfl rfl (by simp) (by decide)) (ma_cons me_bl ma_nil rfl) rfl) rfl) rfl) rfl)) ma_nil rfl))) rfl (.inl rfl)) (ms_cons (ms_set nd__law_answers_right (i := 2) rfl (by first | exact .inl rfl | exact .inr rfl) (me_binW mo_add (me_var rfl (by first | exact .inl rfl | exact .inr (.inl rfl) | exact .inr (.inr rfl)) rfl rfl) (me_lst (ma_cons (me_tup (ma_cons me_int (ma_cons (me_tup (ma_cons me_int (ma_cons me_int ma_nil rfl) rfl)) (ma_cons (me_var rfl (by first | exact .inl rfl | exact .inr (.inl rfl) | exact .inr (.inr rfl)) rfl rfl) (ma_cons (me_dict hr.hu (mps_cons (me_tup (ma_cons me_str ma_nil rfl)) (me_var rfl (by first | exact .inl rfl | exact .inr (.inl rfl) | exact .inr (.inr rfl)) rfl rfl) (mps_cons (me_tup ma_nil) (me_var rfl (by first | exact .inl rfl | exact .inr (.inl rfl) | exact .inr (.inr rfl)) rfl rfl) mps_nil)) rfl rfl (by simp) (by decide)) (ma_cons me_bl ma_nil rfl) rfl) rfl) rfl) rfl)) ma_nil rfl))) rfl (.inl rfl)) (ms_cons (ms_set nd__law_answers_right (i := 2) rfl (by first | exact .inl rfl | exact .inr rfl) (me_binW mo_add (me_var rfl (by first | exact .inl rfl | exact .inr (.inl rfl) | exact .inr (.inr rfl)) rfl rfl) (me_lst (ma_cons (me_tup (ma_cons me_int (ma_cons (me_tup (ma_cons me_int (ma_cons me_int ma_nil rfl) rfl)) (ma_cons (me_var rfl (by first | exact .inl rfl | exact .inr (.inl rfl) | exact .inr (.inr rfl)) rfl rfl) (ma_cons (me_dict hr.hu (mps_cons (me_tup ma_nil) (me_var rfl (by first | exact .inl rfl | exact .inr (.inl rfl) | exact .inr (.inr rfl)) rfl rfl) mps_nil) rfl rfl (by simp) (by decide)) (ma_cons me_bl ma_nil rfl) rfl) rfl) rfl) rfl)) ma_nil rfl))) rfl (.inl rfl)) (ms_cons (ms_set nd__law_answers_right (i := 2) rfl (by first | exact .inl rfl | exact .inr rfl) (me_binW mo_add (me_var rfl (by first | exact .inl rfl | exact .inr (.inl rfl) | exact .inr (.inr rfl)) rfl rfl) (me_lst (ma_cons (me_tup (ma_cons me_int (ma_cons (me_tup (ma_cons me_int (ma_cons me_int ma_nil rfl) rfl)) (ma_cons (me_var rfl (by first | exact .inl rfl | exact .inr (.inl rfl) | exact .inr (.inr rfl)) rfl rfl) (ma_cons (me_dict hr.hu (mps_cons (me_tup (ma_cons me_str ma_nil rfl)) (me_var rfl (by first | exact .inl rfl | exact .inr (.inl rfl) | exact .inr (.inr rfl)) rfl rfl) (mps_cons (me_tup ma_nil) (me_var rfl (by first | exact .inl rfl | exact .inr (.inl rfl) | exact .inr (.inr rfl)) rfl rfl) mps_nil)) rfl rfl (by simp) (by decide)) (ma_cons me_bl ma_nil rfl) rfl) rfl) rfl) rfl)) ma_nil rfl))) rfl (.inl rfl)) (ms_cons (ms_set nd__law_answers_right (i := 2) rfl (by first | exact .inl rfl | exact .inr rfl) (me_binW mo_add (me_var rfl (by first | exact .inl rfl | exact .inr (.inl rfl) | exact .inr (.inr rfl)) rfl rfl) (me_lst (ma_cons (me_tup (ma_cons me_int (ma_cons (me_tup (ma_cons me_int (ma_cons me_int ma_nil rfl) rfl)) (ma_cons (me_var rfl (by first | exact .inl rfl | exact .inr (.inl rfl) | exact .inr (.inr rfl)) rfl rfl) (ma_cons (me_dict hr.hu (mps_cons (me_tup ma_nil) (me_var rfl (by first | exact .inl rfl | exact .inr (.inl rfl) | exact .inr (.inr rfl)) rfl rfl) (mps_cons (me_tup (ma_cons me_str ma_nil rfl)) (me_var rfl (by first | exact .inl rfl | exact .inr (.inl rfl) | exact .inr (.inr rfl)) rfl rfl) mps_nil)) rfl rfl (by simp) (by decide)) (ma_cons me_bl ma_nil rfl) rfl) rfl) rfl) rfl)) ma_nil rfl))) rfl (.inl rfl)) (ms_cons (ms_set nd__law_answers_right (i := 2) rfl (by first | exact .inl rfl | exact .inr rfl) (me_binW mo_add (me_var rfl (by first | exact .inl rfl | exact .inr (.inl rfl) | exact .inr (.inr rfl)) rfl rfl) (me_lst (ma_cons (me_tup (ma_cons me_int (ma_cons (me_tup (ma_cons me_int (ma_cons me_int ma_nil rfl) rfl)) (ma_cons (me_var rfl (by first | exact .inl rfl | exact .inr (.inl rfl) | exact .inr (.inr rfl)) rfl rfl) (ma_cons (me_dict hr.hu (mps_cons (me_tup ma_nil) (me_var rfl (by first | exact .inl rfl | exact .inr (.inl rfl) | exact .inr (.inr rfl)) rfl rfl) (mps_cons (me_tup (ma_cons me_str ma_nil rfl)) (me_var rfl (by first | exact .inl rfl | exact .inr (.inl rfl) | exact .inr (.inr rfl)) rfl rfl) mps_nil)) rfl rfl (by simp) (by decide)) (ma_cons me_bl ma_nil rfl) rfl) rfl) rfl) rfl)) ma_nil rfl))) rfl (.inl rfl)) (ms_cons (ms_for (passes_of rfl) rfl (mi_any (me_var rfl (by first | exact .inl rfl | exact .inr (.inl rfl) | exact .inr (.inr rfl)) rfl rfl)) (mg_tup rfl (mgs_cons (mg_name nd__law_answers_right rfl (by first | exact .inl rfl | exact .inr rfl) (.inl rfl) (sl := [8, 9, 10, 11, 12]) (by decide)) (mgs_cons (mg_name nd__law_answers_right rfl (by first | exact .inl rfl | exact .inr rfl) (.inl rfl) (sl := [8, 9, 10, 11, 12]) (by decide)) (mgs_cons (mg_name nd__law_answers_right rfl (by first | exact .inl rfl | exact .inr rfl) (.inl rfl) (sl := [8, 9, 10, 11, 12]) (by decide)) (mgs_cons (mg_name nd__law_answers_right rfl (by first | exact .inl rfl | exact .inr rfl) (.inl rfl) (sl := [8, 9, 10, 11, 12]) (by decide)) (mgs_cons (mg_name nd__law_answers_right rfl (by first | exact .inl rfl | exact .inr rfl) (.inl rfl) (sl := [8, 9, 10, 11, 12]) (by decide)) mgs_nil rfl) rfl) rfl) rfl) rfl) rfl rfl) (ms_cons (ms_if (mt_cmpW (mo_neB hr.hu) (me_mt (me_mk (fr := true) (mk_Bounding Z) (k_Bounding_init Z) (hr.mono (by omega)) rfl (g_Bounding Z) (takes_of rfl rfl rfl rfl) (ma_cons (me_tup (ma_cons me_str ma_nil rfl)) (ma_cons (me_lst (ma_cons (me_var rfl (by first | exact .inl rfl | exact .inr (.inl rfl) | exact .inr (.inr rfl)) rfl rfl) ma_nil rfl)) (ma_cons (me_lst (ma_cons (me_var rfl (by first | exact .inl rfl | exact .inr (.inl rfl) | exact .inr (.inr rfl)) rfl rfl) ma_nil rfl)) (ma_cons (me_var rfl (by first | exact .inl rfl | exact .inr (.inl rfl) | exact .inr (.inr rfl)) rfl rfl) ma_nil rfl) rfl) rfl) rfl) rfl rfl rfl) (l_Bounding Z) (t_Bounding_shows Z) (k_Bounding_shows Z) (hr.mono (by omega)) (takes_of rfl rfl rfl rfl) (ma_cons (me_cal (k__law_small Z) (hr.mono (by omega)) rfl (g__law_small Z) (takes_of rfl rfl rfl rfl) (ma_cons (me_var rfl (by first | exact .inl rfl | exact .inr (.inl rfl) | exact .inr (.inr rfl)) rfl rfl) ma_nil rfl) rfl rfl rfl) ma_nil rfl) rfl rfl rfl) (me_var rfl (by first | exact .inl rfl | exact .inr (.inl rfl) | exact .inr (.inr rfl)) rfl rfl) rfl) (ms_cons (ms_ret me_bl) ms_nil) ms_nil) ms_nil) (fun _ => rfl)) (ms_cons (ms_set nd__law_answers_right (i := 3) rfl (by first | exact .inl rfl | exact .inr rfl) (me_tup (ma_cons me_str (ma_cons (me_tup (ma_cons (me_tup (ma_cons me_str (ma_cons (me_tup (ma_cons (me_var rfl (by first | exact .inl rfl | exact .inr (.inl rfl) | exact .inr (.inr rfl)) rfl rfl) (ma_cons (me_var rfl (by first | exact .inl rfl | exact .inr (.inl rfl) | exact .inr (.inr rfl)) rfl rfl) ma_nil rfl) rfl)) ma_nil rfl) rfl)) (ma_cons (me_tup (ma_cons me_str (ma_cons (me_tup (ma_cons (me_var rfl (by first | exact .inl rfl | exact .inr (.inl rfl) | exact .inr (.inr rfl)) rfl rfl) (ma_cons (me_var rfl (by first | exact .inl rfl | exact .inr (.inl rfl) | exact .inr (.inr rfl)) rfl rfl) ma_nil rfl) rfl)) ma_nil rfl) rfl)) ma_nil rfl) rfl)) ma_nil rfl) rfl)) rfl (.inl rfl)) (ms_cons (ms_ret (me_cmpW mo_is (me_mt (me_mk (fr := true) (mk_Bounding Z) (k_Bounding_init Z) (hr.mono (by omega)) rfl (g_Bounding Z) (takes_of rfl rfl rfl rfl) (ma_cons (me_tup ma_nil) (ma_cons (me_lst (ma_cons (me_tup (ma_cons me_int (ma_cons me_int ma_nil rfl) rfl)) ma_nil rfl)) (ma_cons (me_lst (ma_cons (me_var rfl (by first | exact .inl rfl | exact .inr (.inl rfl) | exact .inr (.inr rfl)) rfl rfl) ma_nil rfl)) (ma_cons me_dict0 ma_nil rfl) rfl) rfl) rfl) rfl rfl rfl) (l_Bounding Z) (t_Bounding_shows Z) (k_Bounding_shows Z) (hr.mono (by omega)) (takes_of rfl rfl rfl rfl) (ma_cons (me_cal (k__law_small Z) (hr.mono (by omega)) rfl (g__law_small Z) (takes_of rfl rfl rfl rfl) (ma_cons me_int ma_nil rfl) rfl rfl rfl) ma_nil rfl) rfl rfl rfl) me_bl rfl)) ms_nil))))))))))))))))
end K35

end
section
namespace K35
open PySem PySem.Spec PyProof.Rows L2 Mi
theorem nd_is_form : (["value", "waiting", "tree", "depth", "inner"] : List Str).Nodup := by decide +kernel
theorem sc_is_form : FnScope ["value", "waiting", "tree", "depth", "inner"] ["value"] (defScope (top 57)) := ⟨rfl, rfl, rfl, by decide +kernel, rfl, by decide +kernel, by decide +kernel⟩
theorem k_is_form {P : Program} {w : World} {K : PySem.W.Frag} {mg : Str → Option Value} {base : Heap} (Z : Hd K mg) : Cal P w K mg base (adr K) (He.ga K "is_form") 1 m_is_form [] := by
  obtain ⟨fd, F⟩ := Z.c.def_ 52 (d := dd_is_form) rfl
  refine ⟨⟨fd, ["value"], [], fn_m F sc_is_form rfl rfl (fun cdv A outer s H E hr => ?_), (F.bindsN (ps := ["value"]) (fun _ _ _ _ _ _ us hl => match us, hl with | [_], _ => rfl)), Dfl.nil⟩, F.kp⟩
  exact (ms_cons (ms_set nd_is_form (i := 1) rfl (by first | exact .inl rfl | exact .inr rfl) (me_box (ma_cons (me_tup (ma_cons (me_var rfl (by first | exact .inl rfl | exact .inr (.inl rfl) | exact .inr (.inr rfl)) rfl rfl) (ma_cons me_int ma_nil rfl) rfl)) ma_nil rfl)) rfl (.inl rfl)) (ms_cons (ms_while (passes_of rfl) (mt_cmpW (mo_neB hr.hu) (me_var rfl (by first | exact .inl rfl | exact .inr (.inl rfl) | exact .inr (.inr rfl)) rfl rfl) (me_lst ma_nil) rfl) (ms_cons (ms_asg (me_bm0 PySem.F.plainAttrs_list PySem.F.slot_list_pop PySem.F.type_list_pop mt_popW ty_list (me_var rfl (by first | exact .inl rfl | exact .inr (.inl rfl) | exact .inr (.inr rfl)) rfl rfl)) (mg_tup rfl (mgs_cons (mg_name nd_is_form rfl (by first | exact .inl rfl | exact .inr rfl) (.inl rfl) (sl := [2, 3]) (by decide)) (mgs_cons (mg_name nd_is_form rfl (by first | exact .inl rfl | exact .inr rfl) (.inl rfl) (sl := [2, 3]) (by decide)) mgs_nil rfl) rfl) rfl rfl) rfl rfl rfl) (ms_cons (ms_if (MW.mt (mw_or (mt_cmpW mo_gt (me_var rfl (by first | exact .inl rfl | exact .inr (.inl rfl) | exact .inr (.inr rfl)) rfl rfl) (me_globI rfl (c_MAX_DEPTH Z) rfl) rfl) (mw_or (mt_not (mt_val (me_bi (mc_isi (isf Z)) rfl (f_isinstance Z) rfl (ma_cons (me_var rfl (by first | exact .inl rfl | exact .inr (.inl rfl) | exact .inr (.inr rfl)) rfl rfl) (ma_cons (me_ty (n := 3) rfl (f_tuple Z) rfl) ma_nil rfl) rfl)) (fun _ => rfl))) (mw_or (mt_cmpW (mo_eqB hr.hu) (me_var rfl (by first | exact .inl rfl | exact .inr (.inl rfl) | exact .inr (.inr rfl)) rfl rfl) (me_tup ma_nil) rfl) (mw_or1 (mt_not (mt_val (me_bi (mc_isi (isf Z)) rfl (f_isinstance Z) rfl (ma_cons (me_ix hr.hu (me_var rfl (by first | exact .inl rfl | exact .inr (.inl rfl) | exact .inr (.inr rfl)) rfl rfl) me_int (fun _ _ => rfl)) (ma_cons (me_ty (n := 1) rfl (f_str Z) rfl) ma_nil rfl) rfl)) (fun _ => rfl)))))))) (ms_cons (ms_ret me_bl) ms_nil) ms_nil) (ms_cons (ms_if (MW.mt (mw_and (mt_cmpW (mo_eqB hr.hu) (me_ix hr.hu (me_var rfl (by first | exact .inl rfl | exact .inr (.inl rfl) | exact .inr (.inr rfl)) rfl rfl) me_int (fun _ _ => rfl)) me_str rfl) (mw_and (mt_cmpW (mo_eqB hr.hu) (me_bi mc_len rfl (f_len Z) rfl (ma_cons (me_var rfl (by first | exact .inl rfl | exact .inr (.inl rfl) | exact .inr (.inr rfl)) rfl rfl) ma_nil rfl)) me_int rfl) (mw_and1 (mt_val (me_bi (mc_isi (isf Z)) rfl (f_isinstance Z) rfl (ma_cons (me_ix hr.hu (me_var rfl (by first | exact .inl rfl | exact .inr (.inl rfl) | exact .inr (.inr rfl)) rfl rfl) me_int (fun _ _ => rfl)) (ma_cons (me_ty (n := 3) rfl (f_tuple Z) rfl) ma_nil rfl) rfl)) (fun _ => rfl)))))) (ms_cons (ms_expr (me_bm PySem.F.plainAttrs_list PySem.F.slot_list_extend PySem.F.type_list_extend mt_extendW ty_list (me_var rfl (by first | exact .inl rfl | exact .inr (.inl rfl) | exact .inr (.inr rfl)) rfl rfl) (ma_cons (me_lc (own := [("inner", 4)]) rfl nd_is_form (mi_any (me_ix hr.hu (me_var rfl (by first | exact .inl rfl | exact .inr (.inl rfl) | exact .inr (.inr rfl)) rfl rfl) me_int (fun _ _ => rfl))) (blk_mk rfl (by rfl)) rfl (fun _ _ _ _ _ => (mg_name nd_is_form rfl (by first | exact .inl rfl | exact .inr rfl) (by first | exact .inl rfl | exact .inr rfl) (sl := [4]) (by decide))) (fun _ _ _ _ _ => mts_nil) (fun _ _ _ _ _ => (me_tup (ma_cons (me_var rfl (by first | exact .inl rfl | exact .inr (.inl rfl) | exact .inr (.inr rfl)) rfl rfl) (ma_cons (me_binW mo_add (me_var rfl (by first | exact .inl rfl | exact .inr (.inl rfl) | exact .inr (.inr rfl)) rfl rfl) me_int) ma_nil rfl) rfl))) (fun _ => rfl)) ma_nil rfl)) rfl) ms_nil) (ms_cons (ms_if (MW.mt (mw_and (mt_cmpW (mo_neB hr.hu) (me_var rfl (by first | exact .inl rfl | exact .inr (.inl rfl) | exact .inr (.inr rfl)) rfl rfl) (me_tup (ma_cons me_str ma_nil rfl)) rfl) (mw_and1 (MW.mt (mw_or (mt_cmpW (mo_neB hr.hu) (me_ix hr.hu (me_var rfl (by first | exact .inl rfl | exact .inr (.inl rfl) | exact .inr (.inr rfl)) rfl rfl) me_int (fun _ _ => rfl)) me_str rfl) (mw_or (mt_cmpW (mo_neB hr.hu) (me_bi mc_len rfl (f_len Z) rfl (ma_cons (me_var rfl (by first | exact .inl rfl | exact .inr (.inl rfl) | exact .inr (.inr rfl)) rfl rfl) ma_nil rfl)) me_int rfl) (mw_or1 (mt_not (mt_val (me_bi (mc_isi (isf Z)) rfl (f_isinstance Z) rfl (ma_cons (me_ix hr.hu (me_var rfl (by first | exact .inl rfl | exact .inr (.inl rfl) | exact .inr (.inr rfl)) rfl rfl) me_int (fun _ _ => rfl)) (ma_cons (me_ty (n := 1) rfl (f_str Z) rfl) ma_nil rfl) rfl)) (fun _ => rfl)))))))))) (ms_cons (ms_ret me_bl) ms_nil) ms_nil) ms_nil)) ms_nil)))) (ms_cons (ms_ret me_bl) ms_nil)))
end K35

end
section
namespace K35
open PySem PySem.Spec PyProof.Rows L2 Mi
theorem nd_is_tree : (["shelf", "request", "bounds", "tree"] : List Str).Nodup := by decide +kernel
theorem sc_is_tree : FnScope ["shelf", "request", "bounds", "tree"] ["shelf", "request", "bounds", "tree"] (defScope (top 60)) := ⟨rfl, rfl, rfl, by decide +kernel, rfl, by decide +kernel, by decide +kernel⟩
theorem k_is_tree {P : Program} {w : World} {K : PySem.W.Frag} {mg : Str → Option Value} {base : Heap} (Z : Hd K mg) : Cal P w K mg base (adr K) (He.ga K "is_tree") 13 m_is_tree [] := by
  obtain ⟨fd, F⟩ := Z.c.def_ 53 (d := dd_is_tree) rfl
  refine ⟨⟨fd, ["shelf", "request", "bounds", "tree"], [], fn_m F sc_is_tree rfl rfl (fun cdv A outer s H E hr => ?_), (F.bindsN (ps := ["shelf", "request", "bounds", "tree"]) (fun _ _ _ _ _ _ us hl => match us, hl with | [_, _, _, _], _ => rfl)), Dfl.nil⟩, F.kp⟩
  exact (ms_cons (ms_expr (me_cal (k_check_request Z) (hr.mono (by omega)) rfl (g_check_request Z) (takes_of rfl rfl rfl rfl) (ma_cons (me_var rfl (by first | exact .inl rfl | exact .inr (.inl rfl) | exact .inr (.inr rfl)) rfl rfl) (ma_cons (me_var rfl (by first | exact .inl rfl | exact .inr (.inl rfl) | exact .inr (.inr rfl)) rfl rfl) ma_nil rfl) rfl) rfl rfl rfl) rfl) (ms_cons (ms_expr (me_cal (k_check_set Z) (hr.mono (by omega)) rfl (g_check_set Z) (takes_of rfl rfl rfl rfl) (ma_cons (me_var rfl (by first | exact .inl rfl | exact .inr (.inl rfl) | exact .inr (.inr rfl)) rfl rfl) (ma_cons (me_var rfl (by first | exact .inl rfl | exact .inr (.inl rfl) | exact .inr (.inr rfl)) rfl rfl) ma_nil rfl) rfl) rfl rfl rfl) rfl) (ms_cons (ms_if (mt_not (mt_val (me_cal (k_is_form Z) (hr.mono (by omega)) rfl (g_is_form Z) (takes_of rfl rfl rfl rfl) (ma_cons (me_var rfl (by first | exact .inl rfl | exact .inr (.inl rfl) | exact .inr (.inr rfl)) rfl rfl) ma_nil rfl) rfl rfl rfl) (fun _ => rfl))) (ms_cons ms_never ms_nil) ms_nil) (ms_cons (ms_ret (me_cal (k_is_sound 9 Z) (hr.mono (by omega)) rfl (g_is_sound Z) (takes_of rfl rfl rfl rfl) (ma_cons (me_var rfl (by first | exact .inl rfl | exact .inr (.inl rfl) | exact .inr (.inr rfl)) rfl rfl) (ma_cons (me_var rfl (by first | exact .inl rfl | exact .inr (.inl rfl) | exact .inr (.inr rfl)) rfl rfl) (ma_cons (me_var rfl (by first | exact .inl rfl | exact .inr (.inl rfl) | exact .inr (.inr rfl)) rfl rfl) (ma_cons (me_cal (k_empty_plan Z) (hr.mono (by omega)) rfl (g_empty_plan Z) (takes_of rfl rfl rfl rfl) (ma_cons (me_var rfl (by first | exact .inl rfl | exact .inr (.inl rfl) | exact .inr (.inr rfl)) rfl rfl) ma_nil rfl) rfl rfl rfl) (ma_cons (me_var rfl (by first | exact .inl rfl | exact .inr (.inl rfl) | exact .inr (.inr rfl)) rfl rfl) ma_nil rfl) rfl) rfl) rfl) rfl) rfl rfl rfl)) ms_nil))))
end K35

end
section
namespace K35
open PySem PySem.Spec PyProof.Rows L2 Mi
theorem nd_is_shut : (["tree"] : List Str).Nodup := by decide +kernel
theorem sc_is_shut : FnScope ["tree"] ["tree"] (defScope (top 61)) := ⟨rfl, rfl, rfl, by decide +kernel, rfl, by decide +kernel, by decide +kernel⟩
theorem k_is_shut {P : Program} {w : World} {K : PySem.W.Frag} {mg : Str → Option Value} {base : Heap} (Z : Hd K mg) : Cal P w K mg base (adr K) (He.ga K "is_shut") 2 m_is_shut [] := by
  obtain ⟨fd, F⟩ := Z.c.def_ 54 (d := dd_is_shut) rfl
  refine ⟨⟨fd, ["tree"], [], fn_m F sc_is_shut rfl rfl (fun cdv A outer s H E hr => ?_), (F.bindsN (ps := ["tree"]) (fun _ _ _ _ _ _ us hl => match us, hl with | [_], _ => rfl)), Dfl.nil⟩, F.kp⟩
  exact (ms_cons (ms_if (mt_not (mt_val (me_cal (k_is_form Z) (hr.mono (by omega)) rfl (g_is_form Z) (takes_of rfl rfl rfl rfl) (ma_cons (me_var rfl (by first | exact .inl rfl | exact .inr (.inl rfl) | exact .inr (.inr rfl)) rfl rfl) ma_nil rfl) rfl rfl rfl) (fun _ => rfl))) (ms_cons ms_never ms_nil) ms_nil) (ms_cons (ms_ret (me_cal (k_is_closed Z) (hr.mono (by omega)) rfl (g_is_closed Z) (takes_of rfl rfl rfl rfl) (ma_cons (me_var rfl (by first | exact .inl rfl | exact .inr (.inl rfl) | exact .inr (.inr rfl)) rfl rfl) ma_nil rfl) rfl rfl rfl)) ms_nil))
end K35

end
section
namespace K35
open PySem PySem.Spec PyProof.Rows L2 Mi
theorem nd_check_doubt : (["shelf", "doubt"] : List Str).Nodup := by decide +kernel
theorem sc_check_doubt : FnScope ["shelf", "doubt"] ["shelf", "doubt"] (defScope (top 62)) := ⟨rfl, rfl, rfl, by decide +kernel, rfl, by decide +kernel, by decide +kernel⟩
theorem k_check_doubt {P : Program} {w : World} {K : PySem.W.Frag} {mg : Str → Option Value} {base : Heap} (Z : Hd K mg) : Cal P w K mg base (adr K) (He.ga K "check_doubt") 3 m_check_doubt [] := by
  obtain ⟨fd, F⟩ := Z.c.def_ 55 (d := dd_check_doubt) rfl
  refine ⟨⟨fd, ["shelf", "doubt"], [], fn_m F sc_check_doubt rfl rfl (fun cdv A outer s H E hr => ?_), (F.bindsN (ps := ["shelf", "doubt"]) (fun _ _ _ _ _ _ us hl => match us, hl with | [_, _], _ => rfl)), Dfl.nil⟩, F.kp⟩
  exact (ms_cons (ms_if (MW.mt (mw_or (mt_not (mt_val (me_bi (mc_isi (isf Z)) rfl (f_isinstance Z) rfl (ma_cons (me_var rfl (by first | exact .inl rfl | exact .inr (.inl rfl) | exact .inr (.inr rfl)) rfl rfl) (ma_cons (me_ty (n := 3) rfl (f_tuple Z) rfl) ma_nil rfl) rfl)) (fun _ => rfl))) (mw_or (mt_cmpW (mo_neB hr.hu) (me_bi mc_len rfl (f_len Z) rfl (ma_cons (me_var rfl (by first | exact .inl rfl | exact .inr (.inl rfl) | exact .inr (.inr rfl)) rfl rfl) ma_nil rfl)) me_int rfl) (mw_or1 (mt_not (mt_val (me_cal (k_is_index Z) (hr.mono (by omega)) rfl (g_is_index Z) (takes_of rfl rfl rfl rfl) (ma_cons (me_var rfl (by first | exact .inl rfl | exact .inr (.inl rfl) | exact .inr (.inr rfl)) rfl rfl) (ma_cons (me_ix hr.hu (me_var rfl (by first | exact .inl rfl | exact .inr (.inl rfl) | exact .inr (.inr rfl)) rfl rfl) me_int (fun _ _ => rfl)) ma_nil rfl) rfl) rfl rfl rfl) (fun _ => rfl))))))) (ms_cons ms_never ms_nil) ms_nil) (ms_cons (ms_if (MW.mt (mw_or (mt_not (mt_val (me_bi (mc_isi (isf Z)) rfl (f_isinstance Z) rfl (ma_cons (me_ix hr.hu (me_var rfl (by first | exact .inl rfl | exact .inr (.inl rfl) | exact .inr (.inr rfl)) rfl rfl) me_int (fun _ _ => rfl)) (ma_cons (me_ty (n := 1) rfl (f_str Z) rfl) ma_nil rfl) rfl)) (fun _ => rfl))) (mw_or1 (mt_cmpW (mo_notIn hr.hu) (me_ix hr.hu (me_var rfl (by first | exact .inl rfl | exact .inr (.inl rfl) | exact .inr (.inr rfl)) rfl rfl) me_int (fun _ _ => rfl)) (me_tup (ma_cons me_str (ma_cons me_str ma_nil rfl) rfl)) rfl)))) (ms_cons ms_never ms_nil) ms_nil) (ms_cons (ms_if (mt_not (mt_ifExp (mt_cmpW (mo_eqB hr.hu) (me_ix hr.hu (me_var rfl (by first | exact .inl rfl | exact .inr (.inl rfl) | exact .inr (.inr rfl)) rfl rfl) me_int (fun _ _ => rfl)) me_str rfl) (mt_val (me_cal (k_is_plan Z) (hr.mono (by omega)) rfl (g_is_plan Z) (takes_of rfl rfl rfl rfl) (ma_cons (me_var rfl (by first | exact .inl rfl | exact .inr (.inl rfl) | exact .inr (.inr rfl)) rfl rfl) (ma_cons (me_ix hr.hu (me_var rfl (by first | exact .inl rfl | exact .inr (.inl rfl) | exact .inr (.inr rfl)) rfl rfl) me_int (fun _ _ => rfl)) ma_nil rfl) rfl) rfl rfl rfl) (fun _ => rfl)) (mt_val (me_cal (k_is_form Z) (hr.mono (by omega)) rfl (g_is_form Z) (takes_of rfl rfl rfl rfl) (ma_cons (me_ix hr.hu (me_var rfl (by first | exact .inl rfl | exact .inr (.inl rfl) | exact .inr (.inr rfl)) rfl rfl) me_int (fun _ _ => rfl)) ma_nil rfl) rfl rfl rfl) (fun _ => rfl)))) (ms_cons ms_never ms_nil) ms_nil) ms_nil)))
end K35

end
section
namespace K35
open PySem PySem.Spec PyProof.Rows L2 Mi
theorem nd_is_doubt : (["shelf", "bounds", "doubt"] : List Str).Nodup := by decide +kernel
theorem sc_is_doubt : FnScope ["shelf", "bounds", "doubt"] ["shelf", "bounds", "doubt"] (defScope (top 64)) := ⟨rfl, rfl, rfl, by decide +kernel, rfl, by decide +kernel, by decide +kernel⟩
theorem k_is_doubt {P : Program} {w : World} {K : PySem.W.Frag} {mg : Str → Option Value} {base : Heap} (Z : Hd K mg) : Cal P w K mg base (adr K) (He.ga K "is_doubt") 14 m_is_doubt [] := by
  obtain ⟨fd, F⟩ := Z.c.def_ 56 (d := dd_is_doubt) rfl
  refine ⟨⟨fd, ["shelf", "bounds", "doubt"], [], fn_m F sc_is_doubt rfl rfl (fun cdv A outer s H E hr => ?_), (F.bindsN (ps := ["shelf", "bounds", "doubt"]) (fun _ _ _ _ _ _ us hl => match us, hl with | [_, _, _], _ => rfl)), Dfl.nil⟩, F.kp⟩
  exact (ms_cons (ms_expr (me_cal (k_check_shelf Z) (hr.mono (by omega)) rfl (g_check_shelf Z) (takes_of rfl rfl rfl rfl) (ma_cons (me_var rfl (by first | exact .inl rfl | exact .inr (.inl rfl) | exact .inr (.inr rfl)) rfl rfl) ma_nil rfl) rfl rfl rfl) rfl) (ms_cons (ms_expr (me_cal (k_check_set Z) (hr.mono (by omega)) rfl (g_check_set Z) (takes_of rfl rfl rfl rfl) (ma_cons (me_var rfl (by first | exact .inl rfl | exact .inr (.inl rfl) | exact .inr (.inr rfl)) rfl rfl) (ma_cons (me_var rfl (by first | exact .inl rfl | exact .inr (.inl rfl) | exact .inr (.inr rfl)) rfl rfl) ma_nil rfl) rfl) rfl rfl rfl) rfl) (ms_cons (ms_expr (me_cal (k_check_doubt Z) (hr.mono (by omega)) rfl (g_check_doubt Z) (takes_of rfl rfl rfl rfl) (ma_cons (me_var rfl (by first | exact .inl rfl | exact .inr (.inl rfl) | exact .inr (.inr rfl)) rfl rfl) (ma_cons (me_var rfl (by first | exact .inl rfl | exact .inr (.inl rfl) | exact .inr (.inr rfl)) rfl rfl) ma_nil rfl) rfl) rfl rfl rfl) rfl) (ms_cons (ms_ret (me_cal (k_is_against Z) (hr.mono (by omega)) rfl (g_is_against Z) (takes_of rfl rfl rfl rfl) (ma_cons (me_var rfl (by first | exact .inl rfl | exact .inr (.inl rfl) | exact .inr (.inr rfl)) rfl rfl) (ma_cons (me_var rfl (by first | exact .inl rfl | exact .inr (.inl rfl) | exact .inr (.inr rfl)) rfl rfl) (ma_cons (me_var rfl (by first | exact .inl rfl | exact .inr (.inl rfl) | exact .inr (.inr rfl)) rfl rfl) ma_nil rfl) rfl) rfl) rfl rfl rfl)) ms_nil))))
end K35

end
section
namespace K35
open PySem PySem.Spec PyProof.Rows L2 Mi
theorem nd__law_trees_right : (["_law_shelf", "_law_first", "_law_shut", "_law_late", "_law_odd", "_law_rows", "_law_done", "_law_old", "_law_new", "_law_every", "_law_names", "_law_tree", "_law_due", "_law_doubt"] : List Str).Nodup := by decide +kernel
theorem sc__law_trees_right : FnScope ["_law_shelf", "_law_first", "_law_shut", "_law_late", "_law_odd", "_law_rows", "_law_done", "_law_old", "_law_new", "_law_every", "_law_names", "_law_tree", "_law_due", "_law_doubt"] [] (defScope (top 75)) := ⟨rfl, rfl, rfl, by decide +kernel, rfl, by decide +kernel, by decide +kernel⟩
theorem k__law_trees_right {P : Program} {w : World} {K : PySem.W.Frag} {mg : Str → Option Value} {base : Heap} (Z : Hd K mg) : Cal P w K mg base (adr K) (He.ga K "_law_trees_right") 15 m__law_trees_right [] := by
  obtain ⟨fd, F⟩ := Z.c.def_ 57 (d := dd__law_trees_right) rfl
  refine ⟨⟨fd, [], [], fn_m F sc__law_trees_right rfl rfl (fun cdv A outer s H E hr => ?_), (F.bindsN (ps := []) (fun _ _ _ _ _ _ us hl => match us, hl with | [], _ => rfl)), Dfl.nil⟩, F.kp⟩
  exact (ms_cons (ms_set nd__law_trees_right (i := 0) rfl (by first | exact .inl rfl | exact .inr rfl) (me_cal (k__law_small Z) (hr.mono (by omega)) rfl (g__law_small Z) (takes_of rfl rfl rfl rfl) (ma_cons me_int ma_nil rfl) rfl rfl rfl) rfl (.inl rfl)) (ms_cons (ms_asg (me_tup (ma_cons (me_tup (ma_cons me_str ma_nil rfl)) (ma_cons (me_tup (ma_cons me_str (ma_cons me_str ma_nil rfl) rfl)) (ma_cons (me_tup (ma_cons me_str (ma_cons me_str ma_nil rfl) rfl)) (ma_cons (me_tup (ma_cons me_str (ma_cons me_str ma_nil rfl) rfl)) ma_nil rfl) rfl) rfl) rfl)) (mg_tup rfl (mgs_cons (mg_name nd__law_trees_right rfl (by first | exact .inl rfl | exact .inr rfl) (.inl rfl) (sl := [6, 7, 8, 9]) (by decide)) (mgs_cons (mg_name nd__law_trees_right rfl (by first | exact .inl rfl | exact .inr rfl) (.inl rfl) (sl := [6, 7, 8, 9]) (by decide)) (mgs_cons (mg_name nd__law_trees_right rfl (by first | exact .inl rfl | exact .inr rfl) (.inl rfl) (sl := [6, 7, 8, 9]) (by decide)) (mgs_cons (mg_name nd__law_trees_right rfl (by first | exact .inl rfl | exact .inr rfl) (.inl rfl) (sl := [6, 7, 8, 9]) (by decide)) mgs_nil rfl) rfl) rfl) rfl) rfl rfl) rfl rfl rfl) (ms_cons (ms_set nd__law_trees_right (i := 1) rfl (by first | exact .inl rfl | exact .inr rfl) (me_tup (ma_cons me_str (ma_cons (me_tup (ma_cons (me_tup (ma_cons me_str (ma_cons (me_tup (ma_cons (me_var rfl (by first | exact .inl rfl | exact .inr (.inl rfl) | exact .inr (.inr rfl)) rfl rfl) (ma_cons (me_var rfl (by first | exact .inl rfl | exact .inr (.inl rfl) | exact .inr (.inr rfl)) rfl rfl) ma_nil rfl) rfl)) ma_nil rfl) rfl)) (ma_cons (me_tup (ma_cons me_str (ma_cons (me_tup (ma_cons (me_var rfl (by first | exact .inl rfl | exact .inr (.inl rfl) | exact .inr (.inr rfl)) rfl rfl) (ma_cons (me_var rfl (by first | exact .inl rfl | exact .inr (.inl rfl) | exact .inr (.inr rfl)) rfl rfl) ma_nil rfl) rfl)) ma_nil rfl) rfl)) ma_nil rfl) rfl)) ma_nil rfl) rfl)) rfl (.inl rfl)) (ms_cons (ms_set nd__law_trees_right (i := 2) rfl (by first | exact .inl rfl | exact .inr rfl) (me_tup (ma_cons me_str (ma_cons (me_tup (ma_cons (me_tup (ma_cons me_str (ma_cons (me_tup (ma_cons (me_var rfl (by first | exact .inl rfl | exact .inr (.inl rfl) | exact .inr (.inr rfl)) rfl rfl) (ma_cons (me_var rfl (by first | exact .inl rfl | exact .inr (.inl rfl) | exact .inr (.inr rfl)) rfl rfl) ma_nil rfl) rfl)) ma_nil rfl) rfl)) (ma_cons (me_tup (ma_cons me_str (ma_cons (me_tup (ma_cons (me_var rfl (by first | exact .inl rfl | exact .inr (.inl rfl) | exact .inr (.inr rfl)) rfl rfl) (ma_cons (me_var rfl (by first | exact .inl rfl | exact .inr (.inl rfl) | exact .inr (.inr rfl)) rfl rfl) ma_nil rfl) rfl)) ma_nil rfl) rfl)) ma_nil rfl) rfl)) ma_nil rfl) rfl)) rfl (.inl rfl)) (ms_cons (ms_set nd__law_trees_right (i := 3) rfl (by first | exact .inl rfl | exact .inr rfl) (me_tup (ma_cons me_str (ma_cons (me_tup (ma_cons (me_tup (ma_cons me_str (ma_cons (me_tup (ma_cons (me_var rfl (by first | exact .inl rfl | exact .inr (.inl rfl) | exact .inr (.inr rfl)) rfl rfl) (ma_cons (me_var rfl (by first | exact .inl rfl | exact .inr (.inl rfl) | exact .inr (.inr rfl)) rfl rfl) ma_nil rfl) rfl)) ma_nil rfl) rfl)) (ma_cons (me_tup (ma_cons me_str (ma_cons (me_tup (ma_cons (me_var rfl (by first | exact .inl rfl | exact .inr (.inl rfl) | exact .inr (.inr rfl)) rfl rfl) (ma_cons (me_var rfl (by first | exact .inl rfl | exact .inr (.inl rfl) | exact .inr (.inr rfl)) rfl rfl) ma_nil rfl) rfl)) ma_nil rfl) rfl)) ma_nil rfl) rfl)) ma_nil rfl) rfl)) rfl (.inl rfl)) (ms_cons (ms_set nd__law_trees_right (i := 4) rfl (by first | exact .inl rfl | exact .inr rfl) (me_tup (ma_cons me_str (ma_cons (me_tup (ma_cons (me_tup (ma_cons me_str (ma_cons (me_tup (ma_cons (me_var rfl (by first | exact .inl rfl | exact .inr (.inl rfl) | exact .inr (.inr rfl)) rfl rfl) (ma_cons (me_tup (ma_cons me_str (ma_cons (me_tup ma_nil) ma_nil rfl) rfl)) ma_nil rfl) rfl)) ma_nil rfl) rfl)) (ma_cons (me_tup (ma_cons me_str (ma_cons (me_tup (ma_cons (me_var rfl (by first | exact .inl rfl | exact .inr (.inl rfl) | exact .inr (.inr rfl)) rfl rfl) (ma_cons (me_var rfl (by first | exact .inl rfl | exact .inr (.inl rfl) | exact .inr (.inr rfl)) rfl rfl) ma_nil rfl) rfl)) ma_nil rfl) rfl)) ma_nil rfl) rfl)) ma_nil rfl) rfl)) rfl (.inl rfl)) (ms_cons (ms_set nd__law_trees_right (i := 5) rfl (by first | exact .inl rfl | exact .inr rfl) (me_lst (ma_cons (me_tup (ma_cons (me_tup (ma_cons me_str ma_nil rfl)) (ma_cons (me_var rfl (by first | exact .inl rfl | exact .inr (.inl rfl) | exact .inr (.inr rfl)) rfl rfl) (ma_cons me_bl ma_nil rfl) rfl) rfl)) (ma_cons (me_tup (ma_cons (me_tup (ma_cons me_str (ma_cons me_str ma_nil rfl) rfl)) (ma_cons (me_var rfl (by first | exact .inl rfl | exact .inr (.inl rfl) | exact .inr (.inr rfl)) rfl rfl) (ma_cons me_bl ma_nil rfl) rfl) rfl)) (ma_cons (me_tup (ma_cons (me_tup ma_nil) (ma_cons (me_var rfl (by first | exact .inl rfl | exact .inr (.inl rfl) | exact .inr (.inr rfl)) rfl rfl) (ma_cons me_bl ma_nil rfl) rfl) rfl)) ma_nil rfl) rfl) rfl)) rfl (.inl rfl)) (ms_cons (ms_set nd__law_trees_right (i := 5) rfl (by first | exact .inl rfl | exact .inr rfl) (me_binW mo_add (me_var rfl (by first | exact .inl rfl | exact .inr (.inl rfl) | exact .inr (.inr rfl)) rfl rfl) (me_lst (ma_cons (me_tup (ma_cons (me_tup (ma_cons me_str (ma_cons me_str ma_nil rfl) rfl)) (ma_cons (me_var rfl (by first | exact .inl rfl | exact .inr (.inl rfl) | exact .inr (.inr rfl)) rfl rfl) (ma_cons me_bl ma_nil rfl) rfl) rfl)) (ma_cons (me_tup (ma_cons (me_tup (ma_cons me_str ma_nil rfl)) (ma_cons (me_var rfl (by first | exact .inl rfl | exact .inr (.inl rfl) | exact .inr (.inr rfl)) rfl rfl) (ma_cons me_bl ma_nil rfl) rfl) rfl)) ma_nil rfl) rfl))) rfl (.inl rfl)) (ms_cons (ms_set nd__law_trees_right (i := 5) rfl (by first | exact .inl rfl | exact .inr rfl) (me_binW mo_add (me_var rfl (by first | exact .inl rfl | exact .inr (.inl rfl) | exact .inr (.inr rfl)) rfl rfl) (me_lst (ma_cons (me_tup (ma_cons (me_tup (ma_cons me_str (ma_cons me_str ma_nil rfl) rfl)) (ma_cons (me_var rfl (by first | exact .inl rfl | exact .inr (.inl rfl) | exact .inr (.inr rfl)) rfl rfl) (ma_cons me_bl ma_nil rfl) rfl) rfl)) (ma_cons (me_tup (ma_cons (me_tup (ma_cons me_str ma_nil rfl)) (ma_cons (me_var rfl (by first | exact .inl rfl | exact .inr (.inl rfl) | exact .inr (.inr rfl)) rfl rfl) (ma_cons me_bl ma_nil rfl) rfl) rfl)) ma_nil rfl) rfl))) rfl (.inl rfl)) (ms_cons (ms_set nd__law_trees_right (i := 5) rfl (by first | exact .inl rfl | exact .inr rfl) (me_binW mo_add (me_var rfl (by first | exact .inl rfl | exact .inr (.inl rfl) | exact .inr (.inr rfl)) rfl rfl) (me_lst (ma_cons (me_tup (ma_cons (me_tup ma_nil) (ma_cons (me_tup (ma_cons me_str (ma_cons (me_tup (ma_cons (me_tup (ma_cons me_str (ma_cons (me_tup (ma_cons (me_var rfl (by first | exact .inl rfl | exact .inr (.inl rfl) | exact .inr (.inr rfl)) rfl rfl) (ma_cons (me_var rfl (by first | exact .inl rfl | exact .inr (.inl rfl) | exact .inr (.inr rfl)) rfl rfl) ma_nil rfl) rfl)) ma_nil rfl) rfl)) (ma_cons (me_tup (ma_cons me_str (ma_cons (me_tup (ma_cons (me_var rfl (by first | exact .inl rfl | exact .inr (.inl rfl) | exact .inr (.inr rfl)) rfl rfl) (ma_cons (me_var rfl (by first | exact .inl rfl | exact .inr (.inl rfl) | exact .inr (.inr rfl)) rfl rfl) ma_nil rfl) rfl)) ma_nil rfl) rfl)) ma_nil rfl) rfl)) ma_nil rfl) rfl)) (ma_cons me_bl ma_nil rfl) rfl) rfl)) ma_nil rfl))) rfl (.inl rfl)) (ms_cons (ms_set nd__law_trees_right (i := 5) rfl (by first | exact .inl rfl | exact .inr rfl) (me_binW mo_add (me_var rfl (by first | exact .inl rfl | exact .inr (.inl rfl) | exact .inr (.inr rfl)) rfl rfl) (me_lst (ma_cons (me_tup (ma_cons (me_tup (ma_cons me_str ma_nil rfl)) (ma_cons (me_tup (ma_cons me_str (ma_cons (me_tup (ma_cons (me_tup (ma_cons me_str (ma_cons (me_tup (ma_cons (me_var rfl (by first | exact .inl rfl | exact .inr (.inl rfl) | exact .inr (.inr rfl)) rfl rfl) (ma_cons (me_var rfl (by first | exact .inl rfl | exact .inr (.inl rfl) | exact .inr (.inr rfl)) rfl rfl) ma_nil rfl) rfl)) ma_nil rfl) rfl)) ma_nil rfl)) ma_nil rfl) rfl)) (ma_cons me_bl ma_nil rfl) rfl) rfl)) ma_nil rfl))) rfl (.inl rfl)) (ms_cons (ms_set nd__law_trees_right (i := 5) rfl (by first | exact .inl rfl | exact .inr rfl) (me_binW mo_add (me_var rfl (by first | exact .inl rfl | exact .inr (.inl rfl) | exact .inr (.inr rfl)) rfl rfl) (me_lst (ma_cons (me_tup (ma_cons (me_tup (ma_cons me_str ma_nil rfl)) (ma_cons (me_var rfl (by first | exact .inl rfl | exact .inr (.inl rfl) | exact .inr (.inr rfl)) rfl rfl) (ma_cons me_bl ma_nil rfl) rfl) rfl)) (ma_cons (me_tup (ma_cons (me_tup (ma_cons me_str ma_nil rfl)) (ma_cons (me_var rfl (by first | exact .inl rfl | exact .inr (.inl rfl) | exact .inr (.inr rfl)) rfl rfl) (ma_cons me_bl ma_nil rfl) rfl) rfl)) ma_nil rfl) rfl))) rfl (.inl rfl)) (ms_cons (ms_set nd__law_trees_right (i := 5) rfl (by first | exact .inl rfl | exact .inr rfl) (me_binW mo_add (me_var rfl (by first | exact .inl rfl | exact .inr (.inl rfl) | exact .inr (.inr rfl)) rfl rfl) (me_lst (ma_cons (me_tup (ma_cons (me_tup (ma_cons me_str ma_nil rfl)) (ma_cons (me_tup (ma_cons me_str (ma_cons (me_tup ma_nil) ma_nil rfl) rfl)) (ma_cons me_bl ma_nil rfl) rfl) rfl)) ma_nil rfl))) rfl (.inl rfl)) (ms_cons (ms_set nd__law_trees_right (i := 5) rfl (by first | exact .inl rfl | exact .inr rfl) (me_binW mo_add (me_var rfl (by first | exact .inl rfl | exact .inr (.inl rfl) | exact .inr (.inr rfl)) rfl rfl) (me_lst (ma_cons (me_tup (ma_cons (me_tup (ma_cons me_str (ma_cons me_str ma_nil rfl) rfl)) (ma_cons (me_var rfl (by first | exact .inl rfl | exact .inr (.inl rfl) | exact .inr (.inr rfl)) rfl rfl) (ma_cons me_bl ma_nil rfl) rfl) rfl)) ma_nil rfl))) rfl (.inl rfl)) (ms_cons (ms_set nd__law_trees_right (i := 5) rfl (by first | exact .inl rfl | exact .inr rfl) (me_binW mo_add (me_var rfl (by first | exact .inl rfl | exact .inr (.inl rfl) | exact .inr (.inr rfl)) rfl rfl) (me_lst (ma_cons (me_tup (ma_cons (me_tup (ma_cons me_str ma_nil rfl)) (ma_cons (me_var rfl (by first | exact .inl rfl | exact .inr (.inl rfl) | exact .inr (.inr rfl)) rfl rfl) (ma_cons me_bl ma_nil rfl) rfl) rfl)) ma_nil rfl))) rfl (.inl rfl)) (ms_cons (ms_set nd__law_trees_right (i := 5) rfl (by first | exact .inl rfl | exact .inr rfl) (me_binW mo_add (me_var rfl (by first | exact .inl rfl | exact .inr (.inl rfl) | exact .inr (.inr rfl)) rfl rfl) (me_lst (ma_cons (me_tup (ma_cons (me_tup (ma_cons me_str ma_nil rfl)) (ma_cons (me_var rfl (by first | exact .inl rfl | exact .inr (.inl rfl) | exact .inr (.inr rfl)) rfl rfl) (ma_cons me_bl ma_nil rfl) rfl) rfl)) ma_nil rfl))) rfl (.inl rfl)) (ms_cons (ms_for (passes_of rfl) rfl (mi_any (me_var rfl (by first | exact .inl rfl | exact .inr (.inl rfl) | exact .inr (.inr rfl)) rfl rfl)) (mg_tup rfl (mgs_cons (mg_name nd__law_trees_right rfl (by first | exact .inl rfl | exact .inr rfl) (.inl rfl) (sl := [10, 11, 12]) (by decide)) (mgs_cons (mg_name nd__law_trees_right rfl (by first | exact .inl rfl | exact .inr rfl) (.inl rfl) (sl := [10, 11, 12]) (by decide)) (mgs_cons (mg_name nd__law_trees_right rfl (by first | exact .inl rfl | exact .inr rfl) (.inl rfl) (sl := [10, 11, 12]) (by decide)) mgs_nil rfl) rfl) rfl) rfl rfl) (ms_cons (ms_if (mt_cmpW (mo_neB hr.hu) (me_cal (k_is_tree Z) (hr.mono (by omega)) rfl (g_is_tree Z) (takes_of rfl rfl rfl rfl) (ma_cons (me_var rfl (by first | exact .inl rfl | exact .inr (.inl rfl) | exact .inr (.inr rfl)) rfl rfl) (ma_cons me_int (ma_cons (me_var rfl (by first | exact .inl rfl | exact .inr (.inl rfl) | exact .inr (.inr rfl)) rfl rfl) (ma_cons (me_var rfl (by first | exact .inl rfl | exact .inr (.inl rfl) | exact .inr (.inr rfl)) rfl rfl) ma_nil rfl) rfl) rfl) rfl) rfl rfl rfl) (me_var rfl (by first | exact .inl rfl | exact .inr (.inl rfl) | exact .inr (.inr rfl)) rfl rfl) rfl) (ms_cons (ms_ret me_bl) ms_nil) ms_nil) ms_nil) (fun _ => rfl)) (ms_cons (ms_set nd__law_trees_right (i := 5) rfl (by first | exact .inl rfl | exact .inr rfl) (me_lst (ma_cons (me_tup (ma_cons (me_var rfl (by first | exact .inl rfl | exact .inr (.inl rfl) | exact .inr (.inr rfl)) rfl rfl) (ma_cons me_bl ma_nil rfl) rfl)) (ma_cons (me_tup (ma_cons (me_var rfl (by first | exact .inl rfl | exact .inr (.inl rfl) | exact .inr (.inr rfl)) rfl rfl) (ma_cons me_bl ma_nil rfl) rfl)) (ma_cons (me_tup (ma_cons (me_var rfl (by first | exact .inl rfl | exact .inr (.inl rfl) | exact .inr (.inr rfl)) rfl rfl) (ma_cons me_bl ma_nil rfl) rfl)) (ma_cons (me_tup (ma_cons (me_var rfl (by first | exact .inl rfl | exact .inr (.inl rfl) | exact .inr (.inr rfl)) rfl rfl) (ma_cons me_bl ma_nil rfl) rfl)) ma_nil rfl) rfl) rfl) rfl)) rfl (.inl rfl)) (ms_cons (ms_set nd__law_trees_right (i := 5) rfl (by first | exact .inl rfl | exact .inr rfl) (me_binW mo_add (me_var rfl (by first | exact .inl rfl | exact .inr (.inl rfl) | exact .inr (.inr rfl)) rfl rfl) (me_lst (ma_cons (me_tup (ma_cons (me_tup (ma_cons me_str (ma_cons (me_tup ma_nil) ma_nil rfl) rfl)) (ma_cons me_bl ma_nil rfl) rfl)) (ma_cons (me_tup (ma_cons (me_tup (ma_cons me_str (ma_cons (me_tup (ma_cons (me_tup (ma_cons me_str (ma_cons (me_tup (ma_cons (me_var rfl (by first | exact .inl rfl | exact .inr (.inl rfl) | exact .inr (.inr rfl)) rfl rfl) (ma_cons (me_var rfl (by first | exact .inl rfl | exact .inr (.inl rfl) | exact .inr (.inr rfl)) rfl rfl) ma_nil rfl) rfl)) ma_nil rfl) rfl)) ma_nil rfl)) ma_nil rfl) rfl)) (ma_cons me_bl ma_nil rfl) rfl)) ma_nil rfl) rfl))) rfl (.inl rfl)) (ms_cons (ms_if (mt_not (mt_val (me_bi (mc_all rfl) rfl (f_all Z) rfl (ma_cons (me_lc (own := [("_law_tree", 11), ("_law_due", 12)]) rfl nd__law_trees_right (mi_any (me_var rfl (by first | exact .inl rfl | exact .inr (.inl rfl) | exact .inr (.inr rfl)) rfl rfl)) (blk_mk rfl (by rfl)) rfl (fun _ _ _ _ _ => (mg_tup rfl (mgs_cons (mg_name nd__law_trees_right rfl (by first | exact .inl rfl | exact .inr rfl) (by first | exact .inl rfl | exact .inr rfl) (sl := [11, 12]) (by decide)) (mgs_cons (mg_name nd__law_trees_right rfl (by first | exact .inl rfl | exact .inr rfl) (by first | exact .inl rfl | exact .inr rfl) (sl := [11, 12]) (by decide)) mgs_nil rfl) rfl) rfl rfl)) (fun _ _ _ _ _ => mts_nil) (fun _ _ _ _ _ => (me_cmpW (mo_eqB hr.hu) (me_cal (k_is_shut Z) (hr.mono (by omega)) rfl (g_is_shut Z) (takes0 rfl) (ma_cons (me_var rfl (by first | exact .inl rfl | exact .inr (.inl rfl) | exact .inr (.inr rfl)) rfl rfl) ma_nil rfl) rfl rfl rfl) (me_var rfl (by first | exact .inl rfl | exact .inr (.inl rfl) | exact .inr (.inr rfl)) rfl rfl) rfl)) (fun _ => rfl)) ma_nil rfl)) (fun _ => rfl))) (ms_cons (ms_ret me_bl) ms_nil) ms_nil) (ms_cons (ms_set nd__law_trees_right (i := 5) rfl (by first | exact .inl rfl | exact .inr rfl) (me_lst (ma_cons (me_tup (ma_cons (me_tup ma_nil) (ma_cons (me_tup (ma_cons me_str (ma_cons me_int (ma_cons (me_tup (ma_cons me_int (ma_cons me_int ma_nil rfl) rfl)) ma_nil rfl) rfl) rfl)) (ma_cons me_bl ma_nil rfl) rfl) rfl)) (ma_cons (me_tup (ma_cons (me_tup (ma_cons me_str ma_nil rfl)) (ma_cons (me_tup (ma_cons me_str (ma_cons me_int (ma_cons (me_tup (ma_cons me_int (ma_cons me_int ma_nil rfl) rfl)) ma_nil rfl) rfl) rfl)) (ma_cons me_bl ma_nil rfl) rfl) rfl)) ma_nil rfl) rfl)) rfl (.inl rfl)) (ms_cons (ms_set nd__law_trees_right (i := 5) rfl (by first | exact .inl rfl | exact .inr rfl) (me_binW mo_add (me_var rfl (by first | exact .inl rfl | exact .inr (.inl rfl) | exact .inr (.inr rfl)) rfl rfl) (me_lst (ma_cons (me_tup (ma_cons (me_tup (ma_cons me_str ma_nil rfl)) (ma_cons (me_tup (ma_cons me_str (ma_cons me_int (ma_cons (me_tup (ma_cons me_int (ma_cons me_int ma_nil rfl) rfl)) ma_nil rfl) rfl) rfl)) (ma_cons me_bl ma_nil rfl) rfl) rfl)) ma_nil rfl))) rfl (.inl rfl)) (ms_cons (ms_set nd__law_trees_right (i := 5) rfl (by first | exact .inl rfl | exact .inr rfl) (me_binW mo_add (me_var rfl (by first | exact .inl rfl | exact .inr (.inl rfl) | exact .inr (.inr rfl)) rfl rfl) (me_lst (ma_cons (me_tup (ma_cons (me_tup ma_nil) (ma_cons (me_tup (ma_cons me_str (ma_cons me_int (ma_cons (me_tup (ma_cons me_int (ma_cons me_int ma_nil rfl) rfl)) ma_nil rfl) rfl) rfl)) (ma_cons me_bl ma_nil rfl) rfl) rfl)) (ma_cons (me_tup (ma_cons (me_tup ma_nil) (ma_cons (me_tup (ma_cons me_str (ma_cons me_int (ma_cons (me_tup (ma_cons me_int (ma_cons me_int ma_nil rfl) rfl)) ma_nil rfl) rfl) rfl)) (ma_cons me_bl ma_nil rfl) rfl) rfl)) ma_nil rfl) rfl))) rfl (.inl rfl)) (ms_cons (ms_set nd__law_trees_right (i := 5) rfl (by first | exact .inl rfl | exact .inr rfl) (me_binW mo_add (me_var rfl (by first | exact .inl rfl | exact .inr (.inl rfl) | exact .inr (.inr rfl)) rfl rfl) (me_lst (ma_cons (me_tup (ma_cons (me_tup (ma_cons me_str ma_nil rfl)) (ma_cons (me_tup (ma_cons me_str (ma_cons me_int (ma_cons (me_var rfl (by first | exact .inl rfl | exact .inr (.inl rfl) | exact .inr (.inr rfl)) rfl rfl) ma_nil rfl) rfl) rfl)) (ma_cons me_bl ma_nil rfl) rfl) rfl)) ma_nil rfl))) rfl (.inl rfl)) (ms_cons (ms_set nd__law_trees_right (i := 5) rfl (by first | exact .inl rfl | exact .inr rfl) (me_binW mo_add (me_var rfl (by first | exact .inl rfl | exact .inr (.inl rfl) | exact .inr (.inr rfl)) rfl rfl) (me_lst (ma_cons (me_tup (ma_cons (me_tup (ma_cons me_str ma_nil rfl)) (ma_cons (me_tup (ma_cons me_str (ma_cons me_int (ma_cons (me_var rfl (by first | exact .inl rfl | exact .inr (.inl rfl) | exact .inr (.inr rfl)) rfl rfl) ma_nil rfl) rfl) rfl)) (ma_cons me_bl ma_nil rfl) rfl) rfl)) (ma_cons (me_tup (ma_cons (me_tup ma_nil) (ma_cons (me_tup (ma_cons me_str (ma_cons me_int (ma_cons (me_var rfl (by first | exact .inl rfl | exact .inr (.inl rfl) | exact .inr (.inr rfl)) rfl rfl) ma_nil rfl) rfl) rfl)) (ma_cons me_bl ma_nil rfl) rfl) rfl)) ma_nil rfl) rfl))) rfl (.inl rfl)) (ms_cons (ms_set nd__law_trees_right (i := 5) rfl (by first | exact .inl rfl | exact .inr rfl) (me_binW mo_add (me_var rfl (by first | exact .inl rfl | exact .inr (.inl rfl) | exact .inr (.inr rfl)) rfl rfl) (me_lst (ma_cons (me_tup (ma_cons (me_tup (ma_cons me_str ma_nil rfl)) (ma_cons (me_tup (ma_cons me_str (ma_cons me_int (ma_cons (me_tup (ma_cons me_int (ma_cons me_int ma_nil rfl) rfl)) ma_nil rfl) rfl) rfl)) (ma_cons me_bl ma_nil rfl) rfl) rfl)) ma_nil rfl))) rfl (.inl rfl)) (ms_cons (ms_set nd__law_trees_right (i := 5) rfl (by first | exact .inl rfl | exact .inr rfl) (me_binW mo_add (me_var rfl (by first | exact .inl rfl | exact .inr (.inl rfl) | exact .inr (.inr rfl)) rfl rfl) (me_lst (ma_cons (me_tup (ma_cons (me_tup (ma_cons me_str ma_nil rfl)) (ma_cons (me_tup (ma_cons me_str (ma_cons me_int (ma_cons (me_var rfl (by first | exact .inl rfl | exact .inr (.inl rfl) | exact .inr (.inr rfl)) rfl rfl) ma_nil rfl) rfl) rfl)) (ma_cons me_bl ma_nil rfl) rfl) rfl)) ma_nil rfl))) rfl (.inl rfl)) (ms_cons (ms_ret (me_bi (mc_all rfl) rfl (f_all Z) rfl (ma_cons (me_lc (own := [("_law_names", 10), ("_law_due", 12), ("_law_doubt", 13)]) rfl nd__law_trees_right (mi_any (me_var rfl (by first | exact .inl rfl | exact .inr (.inl rfl) | exact .inr (.inr rfl)) rfl rfl)) (blk_mk rfl (by rfl)) rfl (fun _ _ _ _ _ => (mg_tup rfl (mgs_cons (mg_name nd__law_trees_right rfl (by first | exact .inl rfl | exact .inr rfl) (by first | exact .inl rfl | exact .inr rfl) (sl := [10, 12, 13]) (by decide)) (mgs_cons (mg_name nd__law_trees_right rfl (by first | exact .inl rfl | exact .inr rfl) (by first | exact .inl rfl | exact .inr rfl) (sl := [10, 12, 13]) (by decide)) (mgs_cons (mg_name nd__law_trees_right rfl (by first | exact .inl rfl | exact .inr rfl) (by first | exact .inl rfl | exact .inr rfl) (sl := [10, 12, 13]) (by decide)) mgs_nil rfl) rfl) rfl) rfl rfl)) (fun _ _ _ _ _ => mts_nil) (fun _ _ _ _ _ => (me_cmpW (mo_eqB hr.hu) (me_cal (k_is_doubt Z) (hr.mono (by omega)) rfl (g_is_doubt Z) (takes0 rfl) (ma_cons (me_var rfl (by first | exact .inl rfl | exact .inr (.inl rfl) | exact .inr (.inr rfl)) rfl rfl) (ma_cons (me_var rfl (by first | exact .inl rfl | exact .inr (.inl rfl) | exact .inr (.inr rfl)) rfl rfl) (ma_cons (me_var rfl (by first | exact .inl rfl | exact .inr (.inl rfl) | exact .inr (.inr rfl)) rfl rfl) ma_nil rfl) rfl) rfl) rfl rfl rfl) (me_var rfl (by first | exact .inl rfl | exact .inr (.inl rfl) | exact .inr (.inr rfl)) rfl rfl) rfl)) (fun _ => rfl)) ma_nil rfl))) ms_nil))))))))))))))))))))))))))))
end K35

end
section
namespace K35
open PySem PySem.Spec PyProof.Rows L2 Mi
theorem nd_law : (["_law_script", "_law_cell", "_law_worth"] : List Str).Nodup := by decide +kernel
theorem sc_law : FnScope ["_law_script", "_law_cell", "_law_worth"] ["_law_script"] (defScope (top 78)) := ⟨rfl, rfl, rfl, by decide +kernel, rfl, by decide +kernel, by decide +kernel⟩
theorem b_law {K : PySem.W.Frag} {fd : FuncData} (F : FunD K dd_law.name dd_law.qual dd_law.params dd_law.body dd_law.scope (dd_law.dvs K) (dd_law.kws K) (He.fAd K dd_law.at_) fd) : ∀ (s : Shared) (u : Value), BindsTo s fd ⟨[u], []⟩ [("_law_script", u)] := fun s u => FunD.bindsA (ps := ["_law_script"]) F (fun _ _ _ _ _ _ us hl => match us, hl with | [_], _ => rfl) s [u] rfl
theorem k_law {P : Program} {w : World} {K : PySem.W.Frag} {mg : Str → Option Value} {base : Heap} (Z : Hd K mg) {fd : FuncData} (F : FunD K dd_law.name dd_law.qual dd_law.params dd_law.body dd_law.scope (dd_law.dvs K) (dd_law.kws K) (He.fAd K dd_law.at_) fd) : FnOk P w K mg base (L2.CX P w) 18 (He.ga K "law") fd ["_law_script"] (spM ⟨P, w, K, adr K⟩ m_law) := by
  refine fn_m F sc_law rfl rfl fun cdv A outer s H E hr => ?_
  exact (ms_cons (ms_try0 (ms_cons (ms_for (owns0 rfl) rfl (mi_any (me_binW mo_add (me_lst (ma_cons me_int ma_nil rfl)) (me_slice (me_var rfl (by first | exact .inl rfl | exact .inr (.inl rfl) | exact .inr (.inr rfl)) rfl rfl) mo_none (mo_some me_int)))) (mg_name nd_law rfl (by first | exact .inl rfl | exact .inr rfl) (.inl rfl) (sl := [1]) (by decide)) (ms_cons (ms_set nd_law (i := 2) rfl (by first | exact .inl rfl | exact .inr rfl) (me_binW mo_add me_int (me_binW mo_mod (me_bi mc_abs rfl (f_abs Z) rfl (ma_cons (me_var rfl (by first | exact .inl rfl | exact .inr (.inl rfl) | exact .inr (.inr rfl)) rfl rfl) ma_nil rfl)) me_int)) rfl (.inl rfl)) (ms_cons (ms_if (MW.mt (mw_or (mt_not (mt_val (me_rst (me_cal (k__law_plans_right Z) (hr.mono (by omega)) rfl (g__law_plans_right Z) (takes0 rfl) (ma_cons (me_var rfl (by first | exact .inl rfl | exact .inr (.inl rfl) | exact .inr (.inr rfl)) rfl rfl) ma_nil rfl) rfl rfl rfl)) (fun _ => rfl))) (mw_or1 (mt_not (mt_val (me_rst (me_cal (k__law_cheapest_right Z) (hr.mono (by omega)) rfl (g__law_cheapest_right Z) (takes0 rfl) (ma_cons (me_var rfl (by first | exact .inl rfl | exact .inr (.inl rfl) | exact .inr (.inr rfl)) rfl rfl) ma_nil rfl) rfl rfl rfl)) (fun _ => rfl)))))) (ms_cons (ms_ret me_bl) ms_nil) ms_nil) ms_nil)) (fun _ => rfl)) (ms_cons (ms_ret (me_and (me_rst (me_cal0 (k__law_trees_right Z) (hr.mono (by omega)) rfl (g__law_trees_right Z) (takes0 rfl) rfl)) (me_one (me_rst (me_cal0 (k__law_answers_right Z) (hr.mono (by omega)) rfl (g__law_answers_right Z) (takes0 rfl) rfl))))) ms_nil))) ms_nil)
end K35

end
section
namespace K35
open PySem PySem.Spec PyProof.Rows L2 Mi
theorem facts {P : Program} {w : World} {K : PySem.W.Frag} {h : Heap} {mg : Str → Option Value} {f : Addr} (X : K.In h) (G : h.Ns mainGlobals mg) (hfa : mg ("law" : Str) = some (.ref f)) (c : He.SaysD faL fnL K) (x : exB K = true) :
    ∃ fd : FuncData, (∀ (s : Shared) (u : Value), BindsTo s fd ⟨[u], []⟩ [("_law_script", u)]) ∧ ∀ base : Heap, K.In base → base.Ns mainGlobals mg → FnOk P w K mg base (L2.CX P w) 18 f fd ["_law_script"] (spM ⟨P, w, K, adr K⟩ m_law) := by
  obtain ⟨fd, F⟩ := c.def_ 58 (d := dd_law) rfl
  have Z : Hd K mg := ⟨⟨h, X, G⟩, c, x⟩
  have e := hfa.symm.trans (He.glo_ok X G (c.fact 56 (f := .glo "law") rfl))
  cases e
  exact ⟨fd, b_law F, fun base _ _ => k_law Z F⟩
end K35
open PySem PySem.W PySem.Calls PyProof.Rows
theorem PySem.Challenge.cw_fewbounds_k35_by_hand_holds : PySem.Challenge.rw_fewbounds_k35_by_hand.Holds := by
  w_on; o_law
  refine HandSHeadRun.head_any (r := K35.RR) (q := view K35.RR.prog [78]) (H := K35.hk) (ob := K35.ob) (M := 20000) (loose := K35.names) (d := HandSHeadRun.topDef K35.RR.prog 78) (kwd := []) K35.ob_eq
    (by kernel_rfl) (fun s => by kernel_rfl) K35.run (by kernel_rfl) (by kernel_rfl) (by kernel_rfl) (by rfl) (by first | assumption | decide +kernel) (by decide +kernel) ⟨rfl, rfl, rfl, rfl, rfl, by decide +kernel⟩ ?hw ?hc
  case hw => w_witness2
  case hc =>
    refine Mi.end_ofW (l := PySem.Challenge.rw_fewbounds_k35_by_hand) (n := 63) (k := 18) (x := "_law_script") (CX := fun w => L2.CX (PySem.Challenge.rw_fewbounds_k35_by_hand).prog w) rfl (by decide) (by kernel_rfl) ⟨rfl, by decide, by decide⟩ ?F (fun w => Mi.out_no (PySem.Challenge.rw_fewbounds_k35_by_hand).prog w)
    intro w mg fa h Y G hmg0
    obtain ⟨K, KX, c, x⟩ := Y
    have hmg : mg ("law" : PySem.Str) = some (.ref fa) := by
      have e : (HandSHeadRun.topDef K35.RR.prog 78).name = ("law" : PySem.Str) := by kernel_rfl
      rw [← e]
      exact hmg0
    obtain ⟨fd, hb, hF⟩ := K35.facts (P := (PySem.Challenge.rw_fewbounds_k35_by_hand).prog) (w := w) KX G hmg c x
    exact ⟨K, fd, _, KX, hb, fun H a ns hl hO hS => Mi.start_ok (n := 63) K35.ev hl hO hS, hF⟩

end
