import PyProof.Rows.All
import Wide.All
import OpenK.AllK
import Wide.FinOn
import PySem.Challenge.RW_xw0108_01
set_option autoImplicit false
set_option linter.unusedVariables false
open PySem PySem.W PyProof.Rows PySem.Calls PySem.Spec
set_option Elab.async false
set_option maxRecDepth 100000
set_option genSizeOf false
set_option genInjectivity false
namespace Mine

/-! ## data, and how a heap bears them -/
inductive D where
  | int (i : Int)
  | bool (b : Bool)
  | fn (a : Addr)
  | seq (t : Bool) (l : List D)

abbrev sqO (t : Bool) (vs : List Value) (n : Nat) : Obj := { cls := .type (cond t "tuple" "list"), data := .seq vs.toArray n }

mutual
inductive IsD (X : Addr → Prop) (h : Heap) : Value → D → Prop
  | int (i : Int) (t : Tok) : IsD X h (.int i t) (.int i)
  | bool (b : Bool) : IsD X h (.bool b) (.bool b)
  | fn (a : Addr) : IsD X h (.ref a) (.fn a)
  | seq {t : Bool} {a : Addr} {vs : List Value} {n : Nat} {ds : List D} : ¬ X a → h.get? a = some (sqO t vs n) → AllD X h vs ds → IsD X h (.ref a) (.seq t ds)
inductive AllD (X : Addr → Prop) (h : Heap) : List Value → List D → Prop
  | nil : AllD X h [] []
  | cons {v : Value} {vs : List Value} {d : D} {ds : List D} : IsD X h v d → AllD X h vs ds → AllD X h (v :: vs) (d :: ds)
end

abbrev Kp (h h' : Heap) : Prop := ∀ b o, h.get? b = some o → h'.get? b = some o
theorem Kp.rfl' (h : Heap) : Kp h h := fun _ _ e => e
theorem Kp.tr {a b c : Heap} (x : Kp a b) (y : Kp b c) : Kp a c := fun q o e => y q o (x q o e)

section
variable {X X' : Addr → Prop} {h h' : Heap}
mutual
theorem IsD.imp (H : ∀ a t vs n, ¬ X a → h.get? a = some (sqO t vs n) → ¬ X' a ∧ h'.get? a = some (sqO t vs n)) : ∀ {v : Value} {d : D}, IsD X h v d → IsD X' h' v d
  | _, _, .int i t => .int i t
  | _, _, .bool b => .bool b
  | _, _, .fn a => .fn a
  | _, _, .seq hx hg ha => .seq (H _ _ _ _ hx hg).1 (H _ _ _ _ hx hg).2 (AllD.imp H ha)
theorem AllD.imp (H : ∀ a t vs n, ¬ X a → h.get? a = some (sqO t vs n) → ¬ X' a ∧ h'.get? a = some (sqO t vs n)) : ∀ {vs : List Value} {ds : List D}, AllD X h vs ds → AllD X' h' vs ds
  | _, _, .nil => .nil
  | _, _, .cons a b => .cons (IsD.imp H a) (AllD.imp H b)
end
theorem IsD.kp {v : Value} {d : D} (k : Kp h h') (x : IsD X h v d) : IsD X h' v d := x.imp fun _ _ _ _ hx e => ⟨hx, k _ _ e⟩
theorem AllD.kp {v : List Value} {d : List D} (k : Kp h h') (x : AllD X h v d) : AllD X h' v d := x.imp fun _ _ _ _ hx e => ⟨hx, k _ _ e⟩
theorem AllD.length {vs : List Value} {ds : List D} (x : AllD X h vs ds) : vs.length = ds.length := by
  induction vs generalizing ds with
  | nil => cases x; rfl
  | cons v vs ih => cases x with | cons _ r => rw [List.length_cons, List.length_cons, ih r]
theorem AllD.app {vs ws : List Value} {ds es : List D} (x : AllD X h vs ds) (y : AllD X h ws es) : AllD X h (vs ++ ws) (ds ++ es) := by
  induction vs generalizing ds with
  | nil => cases x; exact y
  | cons v vs ih => cases x with | cons q r => exact .cons q (ih r)
theorem AllD.one {v : Value} {d : D} (x : IsD X h v d) : AllD X h [v] [d] := .cons x .nil
theorem AllD.at {vs : List Value} {ds : List D} (x : AllD X h vs ds) {k : Nat} {d : D} (e : ds[k]? = some d) : ∃ v, vs[k]? = some v ∧ IsD X h v d := by
  induction vs generalizing ds k with
  | nil => cases x; cases e
  | cons v vs ih =>
    cases x with
    | cons q r =>
      cases k with
      | zero => cases e; exact ⟨v, rfl, q⟩
      | succ k => exact ih r e
theorem AllD.at' {vs : List Value} {ds : List D} (x : AllD X h vs ds) {k : Nat} {v : Value} (e : vs[k]? = some v) : ∃ d, ds[k]? = some d ∧ IsD X h v d := by
  induction vs generalizing ds k with
  | nil => cases e
  | cons w vs ih =>
    cases x with
    | cons q r =>
      cases k with
      | zero => cases e; exact ⟨_, rfl, q⟩
      | succ k => exact ih r e
theorem AllD.take {vs : List Value} {ds : List D} (x : AllD X h vs ds) (k : Nat) : AllD X h (vs.take k) (ds.take k) := by
  induction vs generalizing ds k with
  | nil => cases x; simp; exact .nil
  | cons v vs ih =>
    cases x with
    | cons q r =>
      cases k with
      | zero => exact .nil
      | succ k => exact .cons q (ih r k)
theorem AllD.set {vs : List Value} {ds : List D} (x : AllD X h vs ds) (k : Nat) {v : Value} {d : D} (y : IsD X h v d) : AllD X h (vs.set k v) (ds.set k d) := by
  induction vs generalizing ds k with
  | nil => cases x; exact .nil
  | cons w vs ih =>
    cases x with
    | cons q r =>
      cases k with
      | zero => exact .cons y r
      | succ k => exact .cons q (ih r k)
theorem AllD.rep (n : Nat) {v : Value} {d : D} (y : IsD X h v d) : AllD X h (List.replicate n v) (List.replicate n d) := by
  induction n with
  | zero => exact .nil
  | succ n ih => exact .cons y ih
end

/-! ## the parts of the machine that stay -/
structure Top' (K : Frag) (mg mb : Str → Option Value) (h : Heap) : Prop where
  k : K.In h
  g : h.Ns mainGlobals mg
  b : h.Ns builtinsNs mb
  lim : h.NoLimit
theorem Top'.kp {K : Frag} {mg mb : Str → Option Value} {h h' : Heap} (T : Top' K mg mb h) (k : Kp h h') : Top' K mg mb h' :=
  ⟨fun a o e => k a o (T.k a o e), T.g.keeps k, T.b.keeps k, T.lim.keeps k⟩

/-- the addresses that are somebody's to write stand already, and are none of the written part -/
noncomputable def XOk (K : Frag) (X : Addr → Prop) (h : Heap) : Prop := ∀ a, X a → (∃ o, h.get? a = some o) ∧ K.lookup a = none
theorem XOk.kp {K : Frag} {X : Addr → Prop} {h h' : Heap} (x : XOk K X h) (k : Kp h h') : XOk K X h' := fun a ha => ⟨let ⟨o, e⟩ := (x a ha).1; ⟨o, k _ _ e⟩, (x a ha).2⟩
theorem fresh_none (h : Heap) : h.get? h.objs.size = none := by
  cases e : h.get? h.objs.size with
  | none => rfl
  | some o => exact absurd (Heap.lt_size e) (Nat.lt_irrefl _)
theorem none_ge {h : Heap} {a : Addr} (q : h.objs.size ≤ a) : h.get? a = none := by
  cases e : h.get? a with
  | none => rfl
  | some o => exact absurd (Heap.lt_size e) (Nat.not_lt.mpr q)
theorem XOk.fresh {K : Frag} {X : Addr → Prop} {h : Heap} (x : XOk K X h) {a : Addr} (e : h.get? a = none) : ¬ X a := fun q => by
  obtain ⟨o, h1⟩ := (x a q).1
  rw [e] at h1; cases h1

noncomputable def Sees (env : Env) (h : Heap) (x : Str) (v : Value) : Prop :=
  (env.kindOf x = some .local ∧ ∃ m, h.Ns env.locals m ∧ m x = some v) ∨
  ((env.kindOf x = some .cell ∨ env.kindOf x = some .free) ∧ ∃ c, env.cells.lookup x = some c ∧ h.IsCell c (some v))
theorem Sees.kp {env : Env} {h h' : Heap} {x : Str} {v : Value} (s : Sees env h x v) (k : Kp h h') : Sees env h' x v :=
  s.imp (fun ⟨a, m, b, c⟩ => ⟨a, m, b.keeps k, c⟩) fun ⟨a, c, b, d⟩ => ⟨a, c, b, d.keeps k⟩
noncomputable def okName (x : Str) : Bool := !(x == ("__debug__" : Str)) && !(x == ("__classdict__" : Str))
section
variable {M : Model} {A : Around} {E : Value → Shared → Prop} {s : Shared} {env : Env}
theorem Sees.load {x : Str} {v : Value} {Q : Value → Shared → Prop} (hk : env.scope.kind = .function) (S : Sees env s.heap x v) (ok : okName x = true) (h : Q v s) : wpAny M A (loadName env x) Q E s := by
  have h2 : (x == ("__classdict__" : Str)) = false := by
    have := (Bool.and_eq_true_iff.mp ok).2
    simpa using this
  rcases S with ⟨a, m, b, c⟩ | ⟨a | a, c, b, d⟩
  · exact wpAny_loadName_local hk a b c h
  · exact wpAny_loadName_cell hk a b d h
  · exact wpAny_loadName_free hk a b d h h2
theorem Sees.name {x : Str} {pos : Pos} {v : Value} {Q : Value → Shared → Prop} (hk : env.scope.kind = .function) (S : Sees env s.heap x v) (ok : okName x = true) (h : Q v s) : wpAny M A (eval (.Name x pos) env) Q E s := by
  have h1 : (x == ("__debug__" : Str)) = false := by
    have := (Bool.and_eq_true_iff.mp ok).1
    simpa using this
  exact wpAny_Name (S.load hk ok h) h1
end

/-! ## equality of data -/
mutual
noncomputable def D.toP : D → PyData
  | .int i => .int i
  | .bool b => .bool b
  | .fn _ => .none
  | .seq t l => cond t (.tuple (D.toPs l)) (.list (D.toPs l))
noncomputable def D.toPs : List D → List PyData
  | [] => []
  | d :: ds => d.toP :: D.toPs ds
end

/-- no def in it, at most n deep -/
noncomputable def D.okF : Nat → D → Bool
  | _, .int _ => true
  | _, .bool _ => true
  | _, .fn _ => false
  | 0, .seq _ _ => false
  | n + 1, .seq _ l => l.all (D.okF n)

section
variable {X : Addr → Prop} {h : Heap}
mutual
theorem IsD.reads : ∀ {v : Value} {d : D} (n : Nat), IsD X h v d → d.okF n = true → ∃ as, Reads h v d.toP as
  | _, _, _, .int i t, _ => ⟨_, Reads.int i t⟩
  | _, _, _, .bool b, _ => ⟨_, Reads.bool b⟩
  | _, _, n, .fn a, e => by cases n <;> simp [D.okF] at e
  | _, _, 0, .seq _ _ _, e => by simp [D.okF] at e
  | _, .seq t _, n + 1, .seq _ hg ha, e => by
    obtain ⟨as, q⟩ := AllD.reads n ha (by simpa [D.okF] using e)
    cases t with
    | true => exact ⟨as, by rw [D.toP]; exact Reads.tuple hg rfl rfl (by simpa using q)⟩
    | false => exact ⟨_, by rw [D.toP]; exact Reads.list hg rfl rfl (by simpa using q)⟩
theorem AllD.reads : ∀ {vs : List Value} {ds : List D} (n : Nat), AllD X h vs ds → (∀ d ∈ ds, d.okF n = true) → ∃ as, ReadsAll h vs (D.toPs ds) as
  | _, _, _, .nil, _ => ⟨_, ReadsAll.nil⟩
  | _, _, n, .cons a b, e => by
    obtain ⟨as, q⟩ := IsD.reads n a (e _ (.head _))
    obtain ⟨bs, r⟩ := AllD.reads n b fun d hm => e d (.tail _ hm)
    exact ⟨_, by rw [D.toPs]; exact ReadsAll.cons q r⟩
end
end
theorem D.lay : ∀ (n : Nat) (d : D), d.okF n = true → d.toP.canLay0 = true ∧ d.toP.depth ≤ n := by
  have all : ∀ (n : Nat), (∀ d : D, d.okF n = true → d.toP.canLay0 = true ∧ d.toP.depth ≤ n) → ∀ ds : List D, (∀ d ∈ ds, d.okF n = true) → PyData.canLayAll0 (D.toPs ds) = true ∧ PyData.depthAll (D.toPs ds) ≤ n := by
    intro n ih ds
    induction ds with
    | nil => intro _; simp [D.toPs, PyData.canLayAll0, PyData.depthAll]
    | cons d ds hi =>
      intro h
      have h1 := ih d (h d (.head _))
      have h2 := hi fun e he => h e (.tail _ he)
      simp only [D.toPs, PyData.canLayAll0, PyData.depthAll, h1.1, h2.1, Bool.and_self, true_and]
      have a1 := h1.2
      have a2 := h2.2
      omega
  intro n
  induction n with
  | zero =>
    intro d h
    cases d <;> simp_all [D.okF, D.toP, PyData.canLay0, PyData.depth]
  | succ n ih =>
    intro d h
    cases d with
    | int i => simp [D.toP, PyData.canLay0, PyData.depth]
    | bool b => simp [D.toP, PyData.canLay0, PyData.depth]
    | fn a => simp [D.okF] at h
    | seq t ds =>
      have q := all n ih ds (by simpa [D.okF] using h)
      have q2 := q.2
      cases t <;> simp only [D.toP, cond, PyData.canLay0, PyData.depth, q.1, true_and] <;> omega
theorem D.shaped {n : Nat} (hn : n ≤ 64) {d : D} (h : d.okF n = true) : SeqAt.shaped d.toP = true := by
  have l := D.lay n d h
  unfold SeqAt.shaped
  rw [l.1, Bool.true_and]
  exact decide_eq_true (Nat.le_trans l.2 hn)

/-- == of data of like kinds; none where it is not said -/
noncomputable def eqL (f : D → D → Option Bool) : List D → List D → Option Bool
  | [], [] => some true
  | [], _ :: _ => some false
  | _ :: _, [] => some false
  | a :: as, b :: bs => match f a b with
    | some true => eqL f as bs
    | some false => some false
    | none => none
noncomputable def eqD : Nat → D → D → Option Bool
  | _, .int i, .int j => some (decide (i = j))
  | _, .bool a, .bool b => some (a == b)
  | n + 1, .seq t l, .seq u m => match t == u with
    | true => match (D.seq t l).okF (n + 1) && (D.seq u m).okF (n + 1) with
      | true => eqL (eqD n) l m
      | false => none
    | false => none
  | _, _, _ => none
theorem eqD_ok : ∀ (n : Nat) (a b : D) (r : Bool), eqD n a b = some r → a.okF n = true ∧ b.okF n = true := by
  intro n a b r h
  unfold eqD at h
  split at h
  · cases n <;> simp [D.okF]
  · cases n <;> simp [D.okF]
  · split at h
    · split at h
      · rename_i e; exact Bool.and_eq_true_iff.mp e
      · cases h
    · cases h
  · cases h
theorem eqD_eqv : ∀ (n : Nat) (a b : D) (r : Bool), eqD n a b = some r → PyData.eqv a.toP b.toP = r := by
  have base : ∀ (n : Nat), (∀ a b r, eqD n a b = some r → PyData.eqv a.toP b.toP = r) → ∀ (l m : List D) (r : Bool), eqL (eqD n) l m = some r → PyData.eqvAll (D.toPs l) (D.toPs m) = r := by
    intro n ih l
    induction l with
    | nil => intro m r h; cases m <;> simp_all [eqL, D.toPs, PyData.eqvAll]
    | cons a as hi =>
      intro m r h
      cases m with
      | nil => simp_all [eqL, D.toPs, PyData.eqvAll]
      | cons b bs =>
        rw [eqL] at h
        split at h
        · rename_i e
          simp only [D.toPs, PyData.eqvAll, ih _ _ _ e, Bool.true_and]
          exact hi _ _ h
        · rename_i e
          simp only [D.toPs, PyData.eqvAll, ih _ _ _ e, Bool.false_and]
          exact Option.some.inj h
        · cases h
  intro n
  induction n with
  | zero =>
    intro a b r h
    cases a <;> cases b <;> simp_all [eqD, D.toP, PyData.eqv]
    all_goals (subst h; first | rfl | (rename_i x y; by_cases q : x = y <;> simp [q]))
  | succ n ih =>
    intro a b r h
    cases a with
    | seq t l =>
      cases b with
      | seq u m =>
        rw [eqD] at h
        split at h
        · rename_i e
          split at h
          · have e' : t = u := by simpa using e
            subst e'
            cases t <;> simp only [D.toP, cond, PyData.eqv] <;> exact base n ih _ _ _ h
          · cases h
        · cases h
      | _ => simp [eqD] at h
    | _ =>
      cases b <;> simp_all [eqD, D.toP, PyData.eqv]
      all_goals (subst h; first | rfl | (rename_i x y; by_cases q : x = y <;> simp [q]))

/-! ## the small language and what it yields -/
inductive T where
  | int (i : Int)
  | bool (b : Bool)
  | var (x : Nat)
  | glob (g : Nat)
  | bin (op : Operator) (l r : T)
  | cmp (op : CmpOp) (l r : T)
  | and2 (l r : T)
  | or2 (l r : T)
  | ite (c a b : T)
  | sub (v i : T)
  | upto (v i : T)
  | disp (t : Bool) (es : List T)
  | call (f : T) (as : List T)
  | len (e : T)
  | max (e : T)
  | comp (elt : T) (x : Nat) (rng : Bool) (as : List T) (ct : Option T) (mask : List Bool)

inductive Ent where
  | no
  | val (d : D)
  | own (l : List D)

noncomputable def small (a : Int) : Bool := decide (a.natAbs < 1073741824)
noncomputable def binI : Operator → Int → Int → Option Int
  | .Add, a, b => some (a + b)
  | .Sub, a, b => some (a - b)
  | .Mult, a, b => cond (small a) (some (a * b)) none
  | .FloorDiv, a, b => cond (!decide (b = 0) && small b) (some (a.fdiv b)) none
  | .Mod, a, b => cond (!decide (b = 0)) (some (a.fmod b)) none
  | .Pow, a, b => cond (decide (0 ≤ b) && decide (b ≤ 64) && small a) (some (a ^ b.toNat)) none
  | .LShift, a, b => cond (decide (0 ≤ b) && decide (b ≤ 64) && small a) (some (a * 2 ^ b.toNat)) none
  | .RShift, a, b => cond (decide (0 ≤ b)) (some (a.fdiv (2 ^ b.toNat))) none
  | .BitAnd, a, b => some (Builtin.bitAnd a b)
  | _, _, _ => none
noncomputable def repL (l : List D) : Nat → List D
  | 0 => []
  | n + 1 => l ++ repL l n
noncomputable def binD : Operator → D → D → Option D
  | op, .int a, .int b => match binI op a b with
    | some c => some (.int c)
    | none => none
  | .Add, .seq false l, .seq false m => cond (decide (l.length + m.length ≤ 10000)) (some (.seq false (l ++ m))) none
  | .Mult, .seq false l, .int n => cond (small n && decide (l.length * n.toNat ≤ 10000)) (some (.seq false (repL l n.toNat))) none
  | _, _, _ => none
noncomputable def memL (d : D) : List D → Option Bool
  | [] => some false
  | y :: ys => match eqD 8 y d with
    | some true => match memL d ys with
      | some _ => some true
      | none => none
    | some false => memL d ys
    | none => none
noncomputable def ordD (f : Int → Int → Bool) : D → D → Option Bool
  | .int a, .int b => some (f a b)
  | _, _ => none
noncomputable def notO : Option Bool → Option Bool
  | some r => some (!r)
  | none => none
noncomputable def inD (a : D) : D → Option Bool
  | .seq false l => cond (a.okF 8) (memL a l) none
  | _ => none
noncomputable def cmpD (op : CmpOp) (a b : D) : Option Bool := match op with
  | .Lt => ordD (fun a b => decide (a < b)) a b
  | .LtE => ordD (fun a b => decide (a ≤ b)) a b
  | .Gt => ordD (fun a b => decide (b < a)) a b
  | .GtE => ordD (fun a b => decide (b ≤ a)) a b
  | .Eq => eqD 8 a b
  | .NotEq => notO (eqD 8 a b)
  | .In => inD a b
  | .NotIn => notO (inD a b)
  | _ => none
theorem ordD_some {f : Int → Int → Bool} {a b : D} {c : Bool} (h : ordD f a b = some c) : ∃ i j, a = .int i ∧ b = .int j ∧ c = f i j := by
  cases a with
  | int i =>
    cases b with
    | int j => cases h; exact ⟨i, j, rfl, rfl, rfl⟩
    | _ => cases h
  | _ => cases h
theorem notO_some {o : Option Bool} {c : Bool} (h : notO o = some c) : ∃ r, o = some r ∧ c = !r := by
  cases o with
  | none => cases h
  | some r => cases h; exact ⟨r, rfl, rfl⟩
theorem inD_some {a b : D} {c : Bool} (h : inD a b = some c) : ∃ l, b = .seq false l ∧ a.okF 8 = true ∧ memL a l = some c := by
  cases b with
  | seq t l =>
    cases t with
    | true => cases h
    | false =>
      have h : cond (a.okF 8) (memL a l) none = some c := h
      cases q : a.okF 8 with
      | true => rw [q] at h; exact ⟨l, rfl, rfl, h⟩
      | false => rw [q] at h; cases h
  | _ => cases h
noncomputable def intsOf : List D → Option (List Int)
  | [] => some []
  | .int i :: r => match intsOf r with
    | some l => some (i :: l)
    | none => none
  | _ :: _ => none
noncomputable def maxI (a : Int) : List Int → Int
  | [] => a
  | b :: r => maxI (cond (decide (b > a)) b a) r
noncomputable def rgo : Nat → Int → Int → List D
  | 0, _, _ => []
  | n + 1, a, c => .int a :: rgo n (a + c) c
noncomputable def rangeL (a b c : Int) : Option (List D) :=
  cond (!decide (c = 0) && small c && Builtin.Range.small a b c && decide ((Builtin.Range.rangeSize a b c).toNat ≤ 10000)) (some (rgo (Builtin.Range.rangeSize a b c).toNat a c)) none
noncomputable def mapO {α β : Type} (f : α → Option β) : List α → Option (List β)
  | [] => some []
  | a :: r => match f a with
    | some b => match mapO f r with
      | some l => some (b :: l)
      | none => none
    | none => none
noncomputable def asB : Option D → Option Bool
  | some (.bool b) => some b
  | _ => none
noncomputable def compGo (f : D → Option Bool) (g : D → Option D) : List D → Option (List D)
  | [] => some []
  | d :: r => match f d with
    | some true => match g d with
      | some y => match compGo f g r with
        | some ys => some (y :: ys)
        | none => none
      | none => none
    | some false => compGo f g r
    | none => none
noncomputable def restr : List Bool → List Ent → List Ent
  | b :: bs, e :: es => (cond b (match e with | .val d => .val d | _ => .no) .no) :: restr bs es
  | _, _ => []
noncomputable def setE : List Ent → Nat → Ent → List Ent
  | [], _, _ => []
  | _ :: r, 0, e => e :: r
  | a :: r, n + 1, e => a :: setE r n e
noncomputable def getE : List Ent → Nat → Option Ent
  | [], _ => none
  | a :: _, 0 => some a
  | _ :: r, n + 1 => getE r n
noncomputable def getL {α : Type} : List α → Nat → Option α
  | [], _ => none
  | a :: _, 0 => some a
  | _ :: r, n + 1 => getL r n
/-- an item of a list or a tuple, or of a list that is still one's own -/
noncomputable def evR (ih : T → Option D) (ρ : List Ent) : T → Option D
  | .var x => match getE ρ x with
    | some (.val d) => some d
    | some (.own l) => some (.seq false l)
    | _ => none
  | t => ih t
noncomputable def itemsOf (ih : T → Option D) : Bool → List T → Option (List D)
  | false, [t] => match ih t with
    | some (.seq false l) => cond (decide (l.length ≤ 10000)) (some l) none
    | _ => none
  | true, [a] => match ih a with
    | some (.int b) => rangeL 0 b 1
    | _ => none
  | true, [a, b] => match ih a with
    | some (.int i) => match ih b with
      | some (.int j) => rangeL i j 1
      | _ => none
    | _ => none
  | true, [a, b, c] => match ih a with
    | some (.int i) => match ih b with
      | some (.int j) => match ih c with
        | some (.int k) => rangeL i j k
        | _ => none
      | _ => none
    | _ => none
  | _, _ => none
noncomputable def evStep (Φ : Addr → List D → Option D) (gl : List D) (ih : List Ent → T → Option D) (ρ : List Ent) : T → Option D
  | .int i => some (.int i)
  | .bool b => some (.bool b)
  | .var x => match getE ρ x with
    | some (.val d) => some d
    | _ => none
  | .glob g => getL gl g
  | .bin op l r => match ih ρ l with
    | some a => match ih ρ r with
      | some b => binD op a b
      | none => none
    | none => none
  | .cmp op l r => match ih ρ l with
    | some a => match evR (ih ρ) ρ r with
      | some b => match cmpD op a b with
        | some c => some (.bool c)
        | none => none
      | none => none
    | none => none
  | .and2 l r => match ih ρ l with
    | some (.bool true) => match ih ρ r with
      | some (.bool b) => some (.bool b)
      | _ => none
    | some (.bool false) => some (.bool false)
    | _ => none
  | .or2 l r => match ih ρ l with
    | some (.bool true) => some (.bool true)
    | some (.bool false) => match ih ρ r with
      | some (.bool b) => some (.bool b)
      | _ => none
    | _ => none
  | .ite c a b => match ih ρ c with
    | some (.bool true) => ih ρ a
    | some (.bool false) => ih ρ b
    | _ => none
  | .sub v i => match evR (ih ρ) ρ v with
    | some (.seq _ l) => match ih ρ i with
      | some (.int k) => cond (decide (0 ≤ k) && small k) (getL l k.toNat) none
      | _ => none
    | _ => none
  | .upto v i => match ih ρ v with
    | some (.seq false l) => match ih ρ i with
      | some (.int k) => cond (decide (0 ≤ k) && decide (k ≤ (l.length : Int)) && decide (l.length ≤ 10000)) (some (.seq false (l.take k.toNat))) none
      | _ => none
    | _ => none
  | .disp t es => match mapO (ih ρ) es with
    | some ds => cond (decide (ds.length ≤ 10000)) (some (.seq t ds)) none
    | none => none
  | .call f as => match ih ρ f with
    | some (.fn a) => match mapO (ih ρ) as with
      | some ds => Φ a ds
      | none => none
    | _ => none
  | .len e => match evR (ih ρ) ρ e with
    | some (.seq false l) => cond (decide (l.length ≤ 10000)) (some (.int l.length)) none
    | _ => none
  | .max e => match ih ρ e with
    | some (.seq false l) => match intsOf l with
      | some (a :: r) => some (.int (maxI a r))
      | _ => none
    | _ => none
  | .comp elt x rng as ct mask => match itemsOf (ih ρ) rng as with
    | some ds => match compGo (match ct with
        | some c => fun d => asB (ih (setE (restr mask ρ) x (.val d)) c)
        | none => fun _ => some true) (fun d => ih (setE (restr mask ρ) x (.val d)) elt) ds with
      | some ys => some (.seq false ys)
      | none => none
    | none => none
noncomputable def ev (Φ : Addr → List D → Option D) (gl : List D) (n : Nat) : List Ent → T → Option D :=
  Nat.rec (fun _ _ => none) (fun _ ih => evStep Φ gl ih) n
theorem ev_zero (Φ : Addr → List D → Option D) (gl : List D) (ρ : List Ent) (t : T) : ev Φ gl 0 ρ t = none := rfl
theorem ev_succ (Φ : Addr → List D → Option D) (gl : List D) (n : Nat) (ρ : List Ent) (t : T) : ev Φ gl (n + 1) ρ t = evStep Φ gl (ev Φ gl n) ρ t := rfl

/-! ## what text a term stands for -/
structure Kx where
  names : List Str
  sc : List (Str × NameKind)
  cells : List Str

/-- the block's own names: what it reads by cells -/
noncomputable def capsOf (ns : List (Str × NameKind)) : List Str := (ns.filter fun y => y.2 == .free || y.2 == .cell).map (·.1)
noncomputable def freesOf (ns : List (Str × NameKind)) : List Str := (ns.filter fun y => y.2 == .free).map (·.1)
noncomputable def maskOk (names : List Str) (sc : List (Str × NameKind)) : Nat → List Bool → Bool
  | _, [] => true
  | i, b :: bs => (!b || (match names[i]? with | some n => sc.lookup n == some .free | none => false)) && maskOk names sc (i + 1) bs
noncomputable def scOk (sc : Scope) : Bool :=
  (sc.kind == .function) && (sc.names.all fun y => y.2 != .local || sc.names.lookup y.1 == some .local) && (sc.names.all fun y => y.2 != .free || sc.names.lookup y.1 == some .free)
    && (sc.names.all fun y => y.2 != .cell || sc.names.lookup y.1 == some .cell)
noncomputable def tgtOk (sc : Scope) (n : Str) : Bool := sc.names.lookup n == some .local || sc.names.lookup n == some .cell

mutual
inductive IsE (gn : List Str) : Kx → T → Expr → Prop
  | int {κ : Kx} {i : Int} {k : Nat} {p : Pos} : IsE gn κ (.int i) (.Constant (.int i) k p)
  | neg {κ : Kx} {i : Int} {k : Nat} {p q : Pos} : IsE gn κ (.int (-i)) (.UnaryOp .USub (.Constant (.int i) k p) q)
  | bool {κ : Kx} {b : Bool} {k : Nat} {p : Pos} : IsE gn κ (.bool b) (.Constant (.bool b) k p)
  | var {κ : Kx} {x : Nat} {n : Str} {p : Pos} : κ.names[x]? = some n → IsE gn κ (.var x) (.Name n p)
  | glob {κ : Kx} {g : Nat} {n : Str} {p : Pos} : gn[g]? = some n → κ.sc.lookup n = some .globalImplicit → IsE gn κ (.glob g) (.Name n p)
  | bin {κ : Kx} {op : Operator} {l r : T} {l' r' : Expr} {p : Pos} : IsE gn κ l l' → IsE gn κ r r' → IsE gn κ (.bin op l r) (.BinOp l' op r' p)
  | cmp {κ : Kx} {op : CmpOp} {l r : T} {l' r' : Expr} {p : Pos} : IsE gn κ l l' → IsE gn κ r r' → IsE gn κ (.cmp op l r) (.Compare l' [op] [r'] p)
  | and2 {κ : Kx} {l r : T} {l' r' : Expr} {p : Pos} : IsE gn κ l l' → IsE gn κ r r' → IsE gn κ (.and2 l r) (.BoolOp .And [l', r'] p)
  | or2 {κ : Kx} {l r : T} {l' r' : Expr} {p : Pos} : IsE gn κ l l' → IsE gn κ r r' → IsE gn κ (.or2 l r) (.BoolOp .Or [l', r'] p)
  | ite {κ : Kx} {c a b : T} {c' a' b' : Expr} {p : Pos} : IsE gn κ c c' → IsE gn κ a a' → IsE gn κ b b' → IsE gn κ (.ite c a b) (.IfExp c' a' b' p)
  | sub {κ : Kx} {v i : T} {v' i' : Expr} {p : Pos} : IsE gn κ v v' → IsE gn κ i i' → IsE gn κ (.sub v i) (.Subscript v' i' p)
  | upto {κ : Kx} {v i : T} {n : Str} {i' : Expr} {pv ps p : Pos} : IsE gn κ v (.Name n pv) → IsE gn κ i i' → IsE gn κ (.upto v i) (.Subscript (.Name n pv) (.Slice none (some i') none ps) p)
  | tup {κ : Kx} {es : List T} {es' : List Expr} {k : Nat} {p : Pos} : IsEs gn κ es es' → IsE gn κ (.disp true es) (.Tuple es' k p)
  | lst {κ : Kx} {es : List T} {es' : List Expr} {p : Pos} : IsEs gn κ es es' → IsE gn κ (.disp false es) (.List es' p)
  | call {κ : Kx} {f a : T} {as : List T} {n : Str} {a' : Expr} {as' : List Expr} {pf p : Pos} : IsE gn κ f (.Name n pf) → IsE gn κ a a' → IsEs gn κ as as' → IsE gn κ (.call f (a :: as)) (.Call (.Name n pf) (a' :: as') [] p)
  | len {κ : Kx} {e : T} {e' : Expr} {pf p : Pos} : κ.sc.lookup (Str.ofString "len") = some .globalImplicit → IsE gn κ e e' → IsE gn κ (.len e) (.Call (.Name (Str.ofString "len") pf) [e'] [] p)
  | max {κ : Kx} {e : T} {e' : Expr} {pf p : Pos} : κ.sc.lookup (Str.ofString "max") = some .globalImplicit → IsE gn κ e e' → IsE gn κ (.max e) (.Call (.Name (Str.ofString "max") pf) [e'] [] p)
  | comp {κ : Kx} {elt : T} {x : Nat} {rng : Bool} {as : List T} {mask : List Bool} {n : Str} {elt' it' : Expr} {px p : Pos} {sc : Scope} :
      κ.names[x]? = some n → IsI gn κ rng as it' → scOk sc = true → tgtOk sc n = true → maskOk κ.names sc.names 0 mask = true → (freesOf sc.names).all (fun y => κ.cells.contains y) = true →
      IsE gn ⟨κ.names, sc.names, capsOf sc.names⟩ elt elt' → IsE gn κ (.comp elt x rng as none mask) (.ListComp elt' [⟨.Name n px, it', [], 0⟩] sc p)
  | compIf {κ : Kx} {elt c : T} {x : Nat} {rng : Bool} {as : List T} {mask : List Bool} {n : Str} {elt' it' c' : Expr} {px p : Pos} {sc : Scope} :
      κ.names[x]? = some n → IsI gn κ rng as it' → scOk sc = true → tgtOk sc n = true → maskOk κ.names sc.names 0 mask = true → (freesOf sc.names).all (fun y => κ.cells.contains y) = true →
      IsE gn ⟨κ.names, sc.names, capsOf sc.names⟩ elt elt' → IsE gn ⟨κ.names, sc.names, capsOf sc.names⟩ c c' →
      IsE gn κ (.comp elt x rng as (some c) mask) (.ListComp elt' [⟨.Name n px, it', [c'], 0⟩] sc p)
inductive IsEs (gn : List Str) : Kx → List T → List Expr → Prop
  | nil {κ : Kx} : IsEs gn κ [] []
  | cons {κ : Kx} {e : T} {es : List T} {e' : Expr} {es' : List Expr} : IsE gn κ e e' → IsEs gn κ es es' → IsEs gn κ (e :: es) (e' :: es')
inductive IsI (gn : List Str) : Kx → Bool → List T → Expr → Prop
  | list {κ : Kx} {t : T} {e : Expr} : IsE gn κ t e → IsI gn κ false [t] e
  | range {κ : Kx} {a : T} {as : List T} {a' : Expr} {as' : List Expr} {pf p : Pos} : κ.sc.lookup (Str.ofString "range") = some .globalImplicit → IsE gn κ a a' → IsEs gn κ as as' → IsI gn κ true (a :: as) (.Call (.Name (Str.ofString "range") pf) (a' :: as') [] p)
end

noncomputable def notComp : Expr → Bool
  | .ListComp .. => false
  | _ => true
theorem IsE.shape {gn : List Str} {κ : Kx} {t : T} {e : Expr} (h : IsE gn κ t e) : (∀ (rest : List Expr) (env : Env), starEach (e :: rest) env = (false, eval e env) :: starEach rest env) ∧ (∀ op : CmpOp, behindInMarks op e = false) ∧ (∀ o i : Value, subscripted e false o i = operate [o, i] (getItem o i)) ∧
    (∀ (env : Env) (x : Value), foldedSetIterable e env x = pure x) ∧ (∀ (o i : Expr) (p : Pos) (l : Nat) (env : Env), swapsWith e (some (.Subscript o i p)) l env = pure false) ∧ (notComp e = true → ∀ (x : Option Expr) (l : Nat) (env : Env), swapsWith e x l env = pure false) := by
  cases h <;> exact ⟨fun _ _ => rfl, fun _ => rfl, fun _ _ => rfl, fun _ _ => rfl, fun _ _ _ _ _ => rfl, fun hc _ _ _ => by first | rfl | (cases hc)⟩
theorem IsE.star {gn : List Str} {κ : Kx} {t : T} {e : Expr} (h : IsE gn κ t e) (rest : List Expr) (env : Env) : starEach (e :: rest) env = (false, eval e env) :: starEach rest env := h.shape.1 rest env
theorem IsE.marks {gn : List Str} {κ : Kx} {t : T} {e : Expr} (h : IsE gn κ t e) (op : CmpOp) : behindInMarks op e = false := h.shape.2.1 op
theorem IsE.noSlice {gn : List Str} {κ : Kx} {t : T} {e : Expr} (h : IsE gn κ t e) (o i : Value) : subscripted e false o i = operate [o, i] (getItem o i) := h.shape.2.2.1 o i
theorem IsE.folded {gn : List Str} {κ : Kx} {t : T} {e : Expr} (h : IsE gn κ t e) (env : Env) (x : Value) : foldedSetIterable e env x = pure x := h.shape.2.2.2.1 env x
theorem IsE.noSwapS {gn : List Str} {κ : Kx} {t : T} {e : Expr} (h : IsE gn κ t e) (o i : Expr) (p : Pos) (l : Nat) (env : Env) : swapsWith e (some (.Subscript o i p)) l env = pure false := h.shape.2.2.2.2.1 o i p l env
theorem IsE.noSwap {gn : List Str} {κ : Kx} {t : T} {e : Expr} (h : IsE gn κ t e) (hc : notComp e = true) (x : Option Expr) (l : Nat) (env : Env) : swapsWith e x l env = pure false := h.shape.2.2.2.2.2 hc x l env
theorem IsI.folded {gn : List Str} {κ : Kx} {r : Bool} {t : List T} {e : Expr} (h : IsI gn κ r t e) (env : Env) (x : Value) : foldedSetIterable e env x = pure x := by
  cases h with
  | list h => exact h.folded env x
  | range => rfl

/-! ## the operations -/
abbrev Pst (X : Addr → Prop) (s : Shared) (d : D) (Q : Value → Shared → Prop) : Prop := ∀ v h' tk, Kp s.heap h' → IsD X h' v d → Q v { s with heap := h', toks := tk }
abbrev PstB (s : Shared) (b : Bool) (Q : Bool → Shared → Prop) : Prop := ∀ h' tk, Kp s.heap h' → Q b { s with heap := h', toks := tk }
structure IsR (X : Addr → Prop) (h : Heap) (v : Value) (t : Bool) (l : List D) : Prop where
  ex : ∃ a vs k, v = .ref a ∧ h.get? a = some (sqO t vs k) ∧ AllD X h vs l
theorem IsD.isR {X : Addr → Prop} {h : Heap} {v : Value} {t : Bool} {l : List D} (x : IsD X h v (.seq t l)) : IsR X h v t l := by
  cases x with
  | seq _ hg ha => exact ⟨_, _, _, rfl, hg, ha⟩
theorem IsR.kp {X : Addr → Prop} {h h' : Heap} {v : Value} {t : Bool} {l : List D} (x : IsR X h v t l) (k : Kp h h') : IsR X h' v t l := by
  obtain ⟨a, vs, n, e, hg, ha⟩ := x.ex
  exact ⟨a, vs, n, e, k _ _ hg, ha.kp k⟩
theorem isList_of {h : Heap} {a : Addr} {vs : List Value} {n : Nat} (e : h.get? a = some (sqO false vs n)) : h.IsList a vs.toArray := ⟨_, e, rfl, n, rfl⟩
theorem isTup_of {h : Heap} {a : Addr} {vs : List Value} {n : Nat} (e : h.get? a = some (sqO true vs n)) : IsTup h a vs.toArray := ⟨_, e, rfl, n, rfl⟩
theorem kp_push (h : Heap) (o : Obj) : Kp h (h.push o) := fun _ _ e => Heap.get?_push_of_some _ e

theorem len_of {n : Nat} (h : n ≤ 10000) : n ≤ sizeLine := Nat.le_trans h (by decide)
theorem intBits_small {a : Int} (h : small a = true) : Builtin.Int.intBits a ≤ 64 := by
  have h1 : a.natAbs < 1073741824 := of_decide_eq_true h
  unfold Builtin.Int.intBits
  split
  · omega
  · rename_i h0
    have h2 : a.natAbs ≠ 0 := by intro q; simp at h0; omega
    have h3 : a.natAbs.log2 < 30 := (Nat.log2_lt h2).mpr h1
    omega

section
variable {prog : Program} {w : World} {A : Around} {E : Value → Shared → Prop} {s : Shared} {X : Addr → Prop} {K : Frag}

theorem binI_ok {op : Operator} {a b c : Int} {t u : Tok} {Q : Value → Shared → Prop} (e : binI op a b = some c) (h : ∀ t' tk, Q (.int c t') { s with toks := tk }) :
    wpAny (model prog w) A (binaryOp op (.int a t) (.int b u)) Q E s := by
  cases op <;> simp only [binI, cond_eq_ite] at e
  case Add => cases e; exact add_int (h _ _)
  case Sub => cases e; exact PyProof.Rows.sub_int (h _ _)
  case Mult =>
    split at e
    · rename_i hs; cases e; exact PyProof.Rows.mul_int (h _ _) (IntMulOk.of_left (intBits_small hs))
    · cases e
  case Mod =>
    split at e
    · rename_i hs; cases e
      exact PyProof.Rows.mod_int (by simpa using hs) (h _ _)
    · cases e
  case FloorDiv =>
    split at e
    · rename_i hs; cases e
      have h1 := Bool.and_eq_true_iff.mp hs
      exact PyProof.Rows.floordiv_int (by simpa using h1.1) (h _ _) (Or.inl (PyProof.noPylong_small (of_decide_eq_true h1.2)))
    · cases e
  case Pow =>
    split at e
    · rename_i hs; cases e
      have h1 := Bool.and_eq_true_iff.mp hs
      have h2 := Bool.and_eq_true_iff.mp h1.1
      have h3 : 0 ≤ b := of_decide_eq_true h2.1
      have h4 : b ≤ 64 := of_decide_eq_true h2.2
      have h5 := intBits_small h1.2
      refine PyProof.Rows.pow_int h3 ?_ (h _ _)
      have h6 : ((Builtin.Int.intBits a : Nat) : Int) ≤ 64 := by omega
      have h7 : ((Builtin.Int.intBits a : Nat) : Int) * b ≤ 64 * 64 := Int.mul_le_mul h6 h4 h3 (by decide)
      exact Int.le_trans h7 (by decide)
    · cases e
  case LShift =>
    split at e
    · rename_i hs; cases e
      have h1 := Bool.and_eq_true_iff.mp hs
      have h2 := Bool.and_eq_true_iff.mp h1.1
      have h3 : 0 ≤ b := of_decide_eq_true h2.1
      have h4 : b ≤ 64 := of_decide_eq_true h2.2
      have h5 : a.natAbs < 1073741824 := of_decide_eq_true h1.2
      exact PyProof.Rows.lshift_int_small h3 (by omega) (by omega) (h _ _)
    · cases e
  case RShift =>
    split at e
    · rename_i hs; cases e
      exact PyProof.Rows.rshift_int (of_decide_eq_true hs) (h _ _)
    · cases e
  case BitAnd => cases e; exact PyProof.Rows.and_int (h _ _)
  all_goals cases e

theorem ibin_ok {op : Operator} {a b c : Int} {t u : Tok} {Q : Value → Shared → Prop} (hop : op = .Add ∨ op = .Sub ∨ op = .RShift) (e : binI op a b = some c) (h : ∀ t' tk, Q (.int c t') { s with toks := tk }) :
    wpAny (model prog w) A (inplaceOp op (.int a t) (.int b u)) Q E s := by
  rcases hop with rfl | rfl | rfl <;> simp only [binI, cond_eq_ite] at e
  · cases e; exact PyProof.Rows.iadd_int (h _ _)
  · cases e; exact PyProof.Rows.isub_int (h _ _)
  · split at e
    · rename_i hs; cases e; exact PyProof.Rows.irshift_int (of_decide_eq_true hs) (h _ _)
    · cases e

theorem foldl_rep (vs : List Value) : ∀ (n : Nat) (acc : Array Value), List.foldl (fun x1 x2 => x1 ++ x2) acc (List.replicate n vs.toArray) = acc ++ ((List.replicate n vs).flatten).toArray := by
  intro n
  induction n with
  | zero => intro acc; simp
  | succ n ih => intro acc; rw [List.replicate_succ, List.foldl_cons, ih, List.replicate_succ, List.flatten_cons]; simp
theorem rep_all {h : Heap} {vs : List Value} {l : List D} (x : AllD X h vs l) : ∀ n, AllD X h (List.replicate n vs).flatten (repL l n)
  | 0 => .nil
  | n + 1 => by rw [List.replicate_succ, List.flatten_cons, repL]; exact x.app (rep_all x n)

theorem bin_ok {op : Operator} {a b d : D} {va vb : Value} {Q : Value → Shared → Prop} (hX : XOk K X s.heap) (ha : IsD X s.heap va a) (hb : IsD X s.heap vb b) (e : binD op a b = some d) (h : Pst X s d Q) :
    wpAny (model prog w) A (binaryOp op va vb) Q E s := by
  unfold binD at e
  split at e
  · cases ha; cases hb
    split at e
    · rename_i hc; cases e
      exact binI_ok hc fun t' tk => h _ _ _ (Kp.rfl' _) (.int _ _)
    · cases e
  · rename_i l m
    simp only [cond_eq_ite] at e
    split at e
    · rename_i hs; cases e
      obtain ⟨a1, vs, n1, rfl, g1, d1⟩ := ha.isR.ex
      obtain ⟨a2, ws, n2, rfl, g2, d2⟩ := hb.isR.ex
      have hlen : l.length + m.length ≤ 10000 := of_decide_eq_true hs
      have e2 : vs.toArray ++ ws.toArray = (vs ++ ws).toArray := by simp
      refine concat_meets ⟨_, g1, rfl⟩ ⟨_, g2, rfl⟩ noFill_list_add seq_list_add PySem.F.slot_list_add PySem.F.entry_list_add (PySem.F.args_list_add_2 _ _)
        (list_addW a1 a2 vs.toArray ws.toArray n1 n2 none none #[] #[] (by rw [List.size_toArray, List.size_toArray, d1.length, d2.length]; exact len_of hlen)) ⟨g1, g2, ?_⟩
      rw [e2]
      refine h _ (s.heap.push _) s.toks (kp_push _ _) (.seq (n := 0) (hX.fresh (fresh_none _)) (Heap.get?_push_size _ rfl) ((d1.app d2).kp (kp_push _ _)))
    · cases e
  · rename_i l n
    simp only [cond_eq_ite] at e
    split at e
    · rename_i hs; cases e
      obtain ⟨a1, vs, n1, rfl, g1, d1⟩ := ha.isR.ex
      cases hb
      rename_i tk
      have h1 := Bool.and_eq_true_iff.mp hs
      have h2 : n.natAbs < 1073741824 := of_decide_eq_true h1.1
      have h3 : l.length * n.toNat ≤ 10000 := of_decide_eq_true h1.2
      have h4 : vs.toArray.size * n.toNat ≤ 2 ^ 24 := by rw [List.size_toArray, d1.length]; exact Nat.le_trans h3 (by decide)
      refine wpAny_binaryOp_repeat_ref (T := "list") (U := "int") (by decide) ⟨_, g1, rfl⟩ (fun s' => typeIs_int s' n tk) noFill_list_mul PySem.F.fills_int_mul PySem.F.slot_int_rmul repeat_list PySem.F.slot_int_index.lookup
        (call_meets PySem.F.slot_int_rmul (typeIs_int s n tk) PySem.F.entry_int_rmul (PySem.F.args_int_rmul_2 _ _) (int___rmul___int_list n tk a1 vs.toArray n1)
          ⟨g1, rfl, ⟨_, g1, rfl⟩, call_meets PySem.F.slot_list_mul ⟨_, g1, rfl⟩ PySem.F.entry_list_mul (PySem.F.args_list_mul_2 _ _)
            (AutoListH.list___mul___list_int_3 a1 vs.toArray n1 n tk (by simp [Builtin.List.listFitsIndex]; omega) (by omega) (by simp [Builtin.List.listTooLong, sizeLine]; simp at h4; omega)) ⟨g1, ?_⟩⟩)
      have key : List.foldl (fun x1 x2 => x1 ++ x2) #[] (List.replicate (if vs.toArray.isEmpty = true then 0 else n.toNat) vs.toArray) = ((List.replicate n.toNat vs).flatten).toArray := by
        rw [foldl_rep]
        by_cases hv : vs = []
        · subst hv; simp
        · have : ¬ (vs.toArray.isEmpty = true) := by simpa using hv
          rw [if_neg this]; simp
      rw [key]
      exact h _ (s.heap.push _) s.toks (kp_push _ _) (.seq (n := 0) (hX.fresh (fresh_none _)) (Heap.get?_push_size _ rfl) ((rep_all d1 _).kp (kp_push _ _)))
    · cases e
  · cases e

theorem memL_ok {d : D} : ∀ {l : List D} {r : Bool}, memL d l = some r → (∀ y ∈ l, y.okF 8 = true) ∧ ((D.toPs l).any fun y => PyData.eqv y d.toP) = r
  | [], r, h => by cases h; exact ⟨fun _ hy => (nomatch hy), rfl⟩
  | y :: ys, r, h => by
    rw [memL] at h
    split at h
    · rename_i e
      split at h
      · rename_i e2
        cases h
        have ih := memL_ok e2
        refine ⟨fun z hz => ?_, ?_⟩
        · rcases List.mem_cons.mp hz with rfl | hz
          · exact (eqD_ok _ _ _ _ e).1
          · exact ih.1 z hz
        · rw [D.toPs, List.any_cons, eqD_eqv _ _ _ _ e, Bool.true_or]
      · cases h
    · rename_i e
      have ih := memL_ok h
      refine ⟨fun z hz => ?_, ?_⟩
      · rcases List.mem_cons.mp hz with rfl | hz
        · exact (eqD_ok _ _ _ _ e).1
        · exact ih.1 z hz
      · rw [D.toPs, List.any_cons, eqD_eqv _ _ _ _ e, Bool.false_or]; exact ih.2
    · cases h

theorem lay_list {n : Nat} {l : List D} (h : ∀ y ∈ l, y.okF n = true) : PyData.canLayAll0 (D.toPs l) = true := by
  induction l with
  | nil => rfl
  | cons a r ih => rw [D.toPs, PyData.canLayAll0, (D.lay n a (h a (.head _))).1, ih fun y hy => h y (.tail _ hy)]; rfl

/-- the right side: its own data, or a list that is one's own -/
noncomputable def IsV (X : Addr → Prop) (h : Heap) (v : Value) (d : D) : Prop := IsD X h v d ∨ ∃ l, d = .seq false l ∧ IsR X h v false l
theorem IsV.isR {X : Addr → Prop} {h : Heap} {v : Value} {t : Bool} {l : List D} (x : IsV X h v (.seq t l)) : IsR X h v t l := by
  rcases x with x | ⟨l', e, r⟩
  · exact x.isR
  · cases e; exact r
theorem IsV.reads {X : Addr → Prop} {h : Heap} {v : Value} {d : D} {n : Nat} (x : IsV X h v d) (e : d.okF n = true) : ∃ as, Reads h v d.toP as := by
  rcases x with x | ⟨l, rfl, r⟩
  · exact x.reads n e
  · obtain ⟨a, vs, k, rfl, g, q⟩ := r.ex
    have : IsD (fun _ => False) h (.ref a) (.seq false l) := .seq (fun x => x) g (q.imp fun _ _ _ _ _ e => ⟨fun x => x, e⟩)
    exact this.reads n e
theorem IsV.int {X : Addr → Prop} {h : Heap} {v : Value} {i : Int} (x : IsV X h v (.int i)) : ∃ t, v = .int i t := by
  rcases x with x | ⟨l, e, r⟩
  · cases x; exact ⟨_, rfl⟩
  · cases e

theorem oU {u k : Nat} (hu : u + 72 < cLine) (h : k ≤ 72) : u + k < cLine := Nat.lt_of_le_of_lt (Nat.add_le_add_left h u) hu
theorem isIn {a : D} {l : List D} {c : Bool} {va vb : Value} (ha : IsD X s.heap va a) (hb : IsV X s.heap vb (.seq false l)) (k1 : a.okF 8 = true) (e : memL a l = some c) :
    ∃ as bs, Reads s.heap va a.toP as ∧ Reads s.heap vb (.list (D.toPs l)) bs ∧ PyData.canLayAll0 (D.toPs l) = true ∧ min (PyData.depthAll (D.toPs l)) a.toP.depth ≤ 8 ∧ ((D.toPs l).any fun y => PyData.eqv y a.toP) = c := by
  obtain ⟨h1, h2⟩ := memL_ok e
  obtain ⟨as, ra⟩ := ha.reads 8 k1
  have k2 : (D.seq false l).okF 9 = true := by simp only [D.okF, List.all_eq_true]; exact h1
  obtain ⟨bs, rb⟩ := hb.reads k2
  exact ⟨as, bs, ra, rb, lay_list h1, Nat.le_trans (Nat.min_le_right _ _) (D.lay 8 a k1).2, h2⟩
theorem cmp_ok {op : CmpOp} {a b : D} {c : Bool} {va vb : Value} {Q : Value → Shared → Prop} (hu : A.units + 72 < cLine) (ha : IsD X s.heap va a) (hb : IsV X s.heap vb b) (e : cmpD op a b = some c)
    (h : Q (.bool c) s) : wpAny (model prog w) A (compareOp op va vb) Q E s := by
  cases op
  case Lt => obtain ⟨i, j, rfl, rfl, rfl⟩ := ordD_some e; cases ha; obtain ⟨_, rfl⟩ := hb.int; exact PyProof.Rows.lt_int h
  case LtE => obtain ⟨i, j, rfl, rfl, rfl⟩ := ordD_some e; cases ha; obtain ⟨_, rfl⟩ := hb.int; exact PyProof.Rows.le_int h
  case Gt => obtain ⟨i, j, rfl, rfl, rfl⟩ := ordD_some e; cases ha; obtain ⟨_, rfl⟩ := hb.int; exact PyProof.Rows.gt_int h
  case GtE => obtain ⟨i, j, rfl, rfl, rfl⟩ := ordD_some e; cases ha; obtain ⟨_, rfl⟩ := hb.int; exact PyProof.Rows.ge_int h
  case Eq =>
    have e : eqD 8 a b = some c := e
    obtain ⟨k1, k2⟩ := eqD_ok _ _ _ _ e
    obtain ⟨as, ra⟩ := ha.reads 8 k1
    obtain ⟨bs, rb⟩ := hb.reads k2
    exact eq_dataH ra rb (D.shaped (n := 8) (by decide) k1) (D.shaped (n := 8) (by decide) k2) (oU hu (by decide)) (by rw [eqD_eqv _ _ _ _ e]; exact h)
  case NotEq =>
    obtain ⟨r, e1, rfl⟩ := notO_some e
    obtain ⟨k1, k2⟩ := eqD_ok _ _ _ _ e1
    obtain ⟨as, ra⟩ := ha.reads 8 k1
    obtain ⟨bs, rb⟩ := hb.reads k2
    exact ne_dataH ra rb (D.shaped (n := 8) (by decide) k1) (D.shaped (n := 8) (by decide) k2) (oU hu (by decide)) (by rw [eqD_eqv _ _ _ _ e1]; exact h)
  case In =>
    obtain ⟨l, rfl, k1, e1⟩ := inD_some e
    obtain ⟨as, bs, ra, rb, q1, q2, q3⟩ := isIn ha hb k1 e1
    exact SeqAt.in_list_reads rb ra q1 (D.lay 8 a k1).1 (by omega) (by rw [q3]; exact h)
  case NotIn =>
    obtain ⟨r, e2, rfl⟩ := notO_some e
    obtain ⟨l, rfl, k1, e1⟩ := inD_some e2
    obtain ⟨as, bs, ra, rb, q1, q2, q3⟩ := isIn ha hb k1 e1
    exact SeqAt.notIn_list_reads rb ra q1 (D.lay 8 a k1).1 (by omega) (by rw [q3]; exact h)
  all_goals cases e

theorem getL_eq {α : Type} : ∀ (l : List α) (n : Nat), getL l n = l[n]?
  | [], _ => by simp [getL]
  | a :: _, 0 => by simp [getL]
  | _ :: r, n + 1 => by simp [getL, getL_eq r n]

theorem sub_ok {value slice : Expr} {t : Bool} {l : List D} {d : D} {k : Int} {u : Tok} {v : Value} {Q : Value → Shared → Prop} (hv : IsR X s.heap v t l) (h0 : 0 ≤ k) (hs : small k = true) (e : getL l k.toNat = some d)
    (hsl : ∀ o i : Value, subscripted slice false o i = operate [o, i] (getItem o i)) (h : ∀ x, IsD X s.heap x d → Q x s) : wpAny (model prog w) A (subscriptTail value slice v (.int k u)) Q E s := by
  obtain ⟨a, vs, n, rfl, hg, ha⟩ := hv.ex
  rw [getL_eq] at e
  obtain ⟨x, hx, hd⟩ := ha.at e
  have h1 : k.natAbs < 1073741824 := of_decide_eq_true hs
  cases t with
  | false =>
    have hl := isList_of hg
    exact tail_any hl.typeIs slot_list_getitem.lookup (wpAny_getItem_list hl h0 (by omega) (by simpa using hx) (h x hd)) (hsl _ _)
  | true =>
    have hl := isTup_of hg
    have hlt : k.toNat < vs.length := (List.getElem?_eq_some_iff.mp hx).1
    exact tail_any hl.typeIs PySem.F.slot_tuple_getitem.lookup (PyProof.Rows.getItem_tuple (j := k.toNat) hl (by omega) (by omega) (by
      unfold seqIndex?
      have h2 : ¬ (k < 0) := by omega
      simp only [h2, if_false, List.size_toArray]
      have h3 : k < (vs.length : Int) := by omega
      simp [h0, h3]) (by simpa using hx) (h x hd)) (hsl _ _)
end

/-! ## a frame that is read -/
structure EnvK (κ : Kx) (env : Env) : Prop where
  kind : env.scope.kind = .function
  glo : env.globals = mainGlobals
  blt : env.builtins = builtinsNs
  kg : ∀ x, κ.sc.lookup x = some .globalImplicit → env.kindOf x = some .globalImplicit
  cells : ∀ y, y ∈ κ.cells → ∃ c, env.cells.lookup y = some c
  capk : ∀ y, y ∈ κ.cells → env.kindOf y = some .cell ∨ env.kindOf y = some .free
  ok : ∀ n, n ∈ κ.names → okName n = true

noncomputable def EntOK (κ : Kx) (env : Env) (X : Addr → Prop) (h : Heap) (i : Nat) : Ent → Prop
  | .no => True
  | .val d => ∃ v n, κ.names[i]? = some n ∧ IsD X h v d ∧ Sees env h n v
  | .own l => ∃ a vs k n, κ.names[i]? = some n ∧ Sees env h n (.ref a) ∧ X a ∧ h.get? a = some (sqO false vs k) ∧ AllD X h vs l
noncomputable def EnvOK (κ : Kx) (env : Env) (X : Addr → Prop) (h : Heap) (ρ : List Ent) : Prop := ∀ i e, ρ[i]? = some e → EntOK κ env X h i e
theorem EntOK.kp {κ : Kx} {env : Env} {X : Addr → Prop} {h h' : Heap} {i : Nat} {e : Ent} (x : EntOK κ env X h i e) (k : Kp h h') : EntOK κ env X h' i e := by
  cases e with
  | no => trivial
  | val d => obtain ⟨v, n, a, b, c⟩ := x; exact ⟨v, n, a, b.kp k, c.kp k⟩
  | own l => obtain ⟨a, vs, q, n, e1, e2, e3, e4, e5⟩ := x; exact ⟨a, vs, q, n, e1, e2.kp k, e3, k _ _ e4, e5.kp k⟩
theorem EnvOK.kp {κ : Kx} {env : Env} {X : Addr → Prop} {h h' : Heap} {ρ : List Ent} (x : EnvOK κ env X h ρ) (k : Kp h h') : EnvOK κ env X h' ρ := fun i e q => (x i e q).kp k

structure GOk (K : Frag) (mg mb : Str → Option Value) (gn : List Str) (gl : List D) : Prop where
  gl : ∀ g n d, gn[g]? = some n → getL gl g = some d → okName n = true ∧ ∃ v, mg n = some v ∧ ∀ X h, K.In h → (∀ a, X a → K.lookup a = none) → IsD X h v d
  len : mg (Str.ofString "len") = none ∧ mb (Str.ofString "len") = some (.builtin "len")
  max : mg (Str.ofString "max") = none ∧ mb (Str.ofString "max") = some (.builtin "max")
  rng : mg (Str.ofString "range") = none ∧ mb (Str.ofString "range") = some (.type "range")
  enu : mg (Str.ofString "enumerate") = none ∧ mb (Str.ofString "enumerate") = some (.type "enumerate")

section
variable (prog : Program) (w : World) (K : Frag) (mg mb : Str → Option Value)
noncomputable def EvOK (A : Around) (κ : Kx) (env : Env) (ρ : List Ent) (e : Expr) (d : D) : Prop :=
  ∀ (X : Addr → Prop) (s : Shared) (Q : Value → Shared → Prop) (E : Value → Shared → Prop), Top' K mg mb s.heap → XOk K X s.heap → EnvOK κ env X s.heap ρ → Pst X s d Q → wpAny (model prog w) A (eval e env) Q E s
noncomputable def TsOK (A : Around) (κ : Kx) (env : Env) (ρ : List Ent) (e : Expr) (b : Bool) : Prop :=
  ∀ (X : Addr → Prop) (s : Shared) (Q : Bool → Shared → Prop) (E : Value → Shared → Prop), Top' K mg mb s.heap → XOk K X s.heap → EnvOK κ env X s.heap ρ → PstB s b Q → wpAny (model prog w) A (isTrue e env (eval e env)) Q E s
noncomputable def IfsOK (A : Around) (κ : Kx) (env : Env) (ρ : List Ent) (ifs : List Expr) (b : Bool) : Prop :=
  ∀ (X : Addr → Prop) (s : Shared) (Q : Bool → Shared → Prop) (E : Value → Shared → Prop), Top' K mg mb s.heap → XOk K X s.heap → EnvOK κ env X s.heap ρ → PstB s b Q →
    wpAny (model prog w) A (forIn ifs true fun c r => if r = true then do let ok ← isTrue c env (eval c env); pure (ForInStep.yield ok) else pure (ForInStep.yield r)) Q E s
/-- an iterable, and its iterator -/
structure ItAt (X : Addr → Prop) (A : Around) (ds : List D) (h : Heap) (I : Addr) (fp : List Addr) (P : Nat → Value → Prop) (St : Nat → Heap → Prop) (h' : Heap) : Prop where
  W : Walks prog w A I fp [I] ds.length P St
  st : St 0 h'
  kp : Kp h h'
  new : h.get? I = none
  it : ∀ i g, St i g → ∃ o, g.get? I = some o ∧ ∀ t vs n, o ≠ sqO t vs n
  fp : ∀ b ∈ fp, b = I ∨ ∃ vs n, ¬ X b ∧ h.get? b = some (sqO false vs n)
  items : ∀ i v d, P i v → ds[i]? = some d → IsD X h v d
noncomputable def ItOK (A : Around) (κ : Kx) (env : Env) (ρ : List Ent) (e : Expr) (ds : List D) : Prop :=
  ∀ (X : Addr → Prop) (s : Shared) (Q : Value → Shared → Prop) (E : Value → Shared → Prop), Top' K mg mb s.heap → XOk K X s.heap → EnvOK κ env X s.heap ρ →
    (∀ I fp P St h₁ h' tk, Kp s.heap h₁ → ItAt prog w X A ds h₁ I fp P St h' → Q (.ref I) { s with heap := h', toks := tk }) →
    wpAny (model prog w) A (eval e env) (fun xv s₁ => wpAny (model prog w) A (pyIter xv) Q E s₁) E s
end

/-! ## heaps that differ in one object -/
theorem IsD.grow {X : Addr → Prop} {h h' : Heap} {v : Value} {d : D} {a : Addr} (x : IsD X h v d) (k : Kp h h') (n : h.get? a = none) : IsD (fun b => X b ∨ b = a) h' v d :=
  x.imp fun b t vs m hb e => ⟨fun q => q.elim hb (fun q => by rw [q, n] at e; cases e), k _ _ e⟩
theorem AllD.grow {X : Addr → Prop} {h h' : Heap} {v : List Value} {d : List D} {a : Addr} (x : AllD X h v d) (k : Kp h h') (n : h.get? a = none) : AllD (fun b => X b ∨ b = a) h' v d :=
  x.imp fun b t vs m hb e => ⟨fun q => q.elim hb (fun q => by rw [q, n] at e; cases e), k _ _ e⟩
/-- all that is a list or a tuple, and nobody's to write, stays -/
noncomputable def SqKp (X : Addr → Prop) (h h' : Heap) : Prop := ∀ a t vs n, ¬ X a → h.get? a = some (sqO t vs n) → h'.get? a = some (sqO t vs n)
theorem IsD.sq {X : Addr → Prop} {h h' : Heap} {v : Value} {d : D} (x : IsD X h v d) (k : SqKp X h h') : IsD X h' v d := x.imp fun a t vs n hx e => ⟨hx, k a t vs n hx e⟩
theorem AllD.sq {X : Addr → Prop} {h h' : Heap} {v : List Value} {d : List D} (x : AllD X h v d) (k : SqKp X h h') : AllD X h' v d := x.imp fun a t vs n hx e => ⟨hx, k a t vs n hx e⟩
theorem SqKp.of {X : Addr → Prop} {h h' : Heap} {c : Addr} (s : Heap.ExtBut c h h') (q : X c ∨ ∀ t vs n, h.get? c ≠ some (sqO t vs n)) : SqKp X h h' := fun a t vs n hx e => by
  by_cases hc : a = c
  · subst hc
    rcases q with q | q
    · exact absurd q hx
    · exact absurd e (q t vs n)
  · exact s a _ hc e
theorem ns_noSq {h : Heap} {a : Addr} {m : Str → Option Value} (x : h.Ns a m) (t : Bool) (vs : List Value) (n : Nat) : h.get? a ≠ some (sqO t vs n) := by
  obtain ⟨o, es, ep, e, d, _⟩ := x
  rw [e]; intro q; cases q; cases d
theorem cell_noSq {h : Heap} {a : Addr} {m : Option Value} (x : h.IsCell a m) (t : Bool) (vs : List Value) (n : Nat) : h.get? a ≠ some (sqO t vs n) := by
  obtain ⟨o, e, d⟩ := x
  rw [e]; intro q; cases q; cases d

/-! ## the block's own frame -/
theorem relabel_lookup {env : Env} {k : NameKind} (hk : k ≠ .free) : ∀ {names : List (Str × NameKind)} {x : Str}, names.lookup x = some k →
    (names.map fun (n, k) => if (k == NameKind.free && env.scope.kind == .function && env.kindOf n == some .cell) then (n, NameKind.cell) else (n, k)).lookup x = some k
  | [], _, h => by simp at h
  | (n, k') :: r, x, h => by
    have ih := @relabel_lookup env k hk r x
    show List.lookup x ((if (k' == NameKind.free && env.scope.kind == .function && env.kindOf n == some .cell) = true then (n, NameKind.cell) else (n, k')) :: _) = _
    cases hx : x == n with
    | true =>
      simp only [List.lookup_cons, hx] at h
      cases h
      have : (k == NameKind.free) = false := by simpa using hk
      rw [this, Bool.false_and, Bool.false_and, if_neg Bool.false_ne_true]
      simp only [List.lookup_cons, hx]
    | false =>
      simp only [List.lookup_cons, hx] at h
      by_cases hc : (k' == NameKind.free && env.scope.kind == .function && env.kindOf n == some .cell) = true
      · rw [if_pos hc]; simp only [List.lookup_cons, hx]; exact ih h
      · rw [if_neg hc]; simp only [List.lookup_cons, hx]; exact ih h
theorem relabel_free {env : Env} : ∀ {names : List (Str × NameKind)} {x : Str}, names.lookup x = some .free →
    (names.map fun (n, k) => if (k == NameKind.free && env.scope.kind == .function && env.kindOf n == some .cell) then (n, NameKind.cell) else (n, k)).lookup x = some .cell ∨
    (names.map fun (n, k) => if (k == NameKind.free && env.scope.kind == .function && env.kindOf n == some .cell) then (n, NameKind.cell) else (n, k)).lookup x = some .free
  | [], _, h => by simp at h
  | (n, k') :: r, x, h => by
    have ih := @relabel_free env r x
    show List.lookup x ((if (k' == NameKind.free && env.scope.kind == .function && env.kindOf n == some .cell) = true then (n, NameKind.cell) else (n, k')) :: _) = _ ∨ List.lookup x ((if (k' == NameKind.free && env.scope.kind == .function && env.kindOf n == some .cell) = true then (n, NameKind.cell) else (n, k')) :: _) = _
    cases hx : x == n with
    | true =>
      simp only [List.lookup_cons, hx] at h
      cases h
      by_cases hc : (NameKind.free == NameKind.free && env.scope.kind == .function && env.kindOf n == some .cell) = true
      · left; rw [if_pos hc]; simp only [List.lookup_cons, hx]
      · right; rw [if_neg hc]; simp only [List.lookup_cons, hx]
    | false =>
      simp only [List.lookup_cons, hx] at h
      by_cases hc : (k' == NameKind.free && env.scope.kind == .function && env.kindOf n == some .cell) = true
      · rw [if_pos hc]; simp only [List.lookup_cons, hx]; exact ih h
      · rw [if_neg hc]; simp only [List.lookup_cons, hx]; exact ih h

theorem closure_go (env : Env) : ∀ (names : List (Str × NameKind)) (acc : List (Str × Addr)), (∀ y ∈ names, y.2 = .free → ∃ c, env.cells.lookup y.1 = some c) →
    ∃ cl, (forIn names acc fun (x : Str × NameKind) (r : List (Str × Addr)) => (if (x.2 == NameKind.free) = true then (do let __do_lift ← cellOf env x.1; pure (ForInStep.yield ((x.1, __do_lift) :: r))) else pure (ForInStep.yield r) : Sem _)) = pure cl ∧
      ∀ y, (y, NameKind.free) ∈ names ∨ acc.lookup y = env.cells.lookup y → cl.lookup y = env.cells.lookup y
  | [], acc, _ => ⟨acc, by rw [List.forIn_nil], fun y h => h.elim (fun q => nomatch q) id⟩
  | (n, k) :: r, acc, hf => by
    rw [List.forIn_cons]
    by_cases hk : k = .free
    · subst hk
      obtain ⟨c, hc⟩ := hf (n, .free) (.head _) rfl
      obtain ⟨cl, e, q⟩ := closure_go env r ((n, c) :: acc) fun y hy => hf y (.tail _ hy)
      refine ⟨cl, ?_, fun y h => q y ?_⟩
      · have hco : cellOf env n = pure c := by unfold cellOf; rw [hc]
        simp only [beq_self_eq_true, if_true, hco, pure_bind]
        exact e
      · by_cases hy : y = n
        · subst hy; right; rw [List.lookup_cons, beq_self_eq_true]; exact hc.symm
        · rcases h with h | h
          · rcases List.mem_cons.mp h with h | h
            · cases h; exact absurd rfl hy
            · exact .inl h
          · right
            have : (y == n) = false := by simpa using hy
            rw [List.lookup_cons, this]; exact h
    · obtain ⟨cl, e, q⟩ := closure_go env r acc fun y hy => hf y (.tail _ hy)
      refine ⟨cl, ?_, fun y h => q y ?_⟩
      · have : (k == NameKind.free) = false := by simpa using hk
        simp only [this, Bool.false_eq_true, if_false, pure_bind]
        exact e
      · rcases h with h | h
        · rcases List.mem_cons.mp h with h | h
          · cases h; exact absurd rfl hk
          · exact .inl h
        · exact .inr h
theorem closure_ok {sc : Scope} {env : Env} (hf : ∀ y ∈ sc.names, y.2 = .free → ∃ c, env.cells.lookup y.1 = some c) :
    ∃ cl, closureFor sc env = pure cl ∧ ∀ y, (y, NameKind.free) ∈ sc.names → cl.lookup y = env.cells.lookup y := by
  obtain ⟨cl, e, q⟩ := closure_go env sc.names [] hf
  refine ⟨cl, ?_, fun y h => q y (.inl h)⟩
  unfold closureFor
  simp only []
  rw [show (forIn sc.names [] fun x r => _) = _ from e]
  rfl

theorem cf_not {y : Str} : ∀ (names : List (Str × NameKind)) (n : Nat) (acc : List (Str × Addr)), (y, NameKind.cell) ∉ names → (cellsFrom n names acc).lookup y = acc.lookup y
  | [], _, _, _ => rfl
  | (m, k) :: r, n, acc, h => by
    have h2 : (y, NameKind.cell) ∉ r := fun q => h (.tail _ q)
    unfold cellsFrom
    by_cases hk : (k == NameKind.cell) = true
    · rw [if_pos hk, cf_not r _ _ h2]
      have : (y == m) = false := by
        have hk' : k = .cell := by simpa using hk
        subst hk'
        simp only [beq_eq_false_iff_ne]
        rintro rfl
        exact h (.head _)
      rw [List.lookup_cons, this]
    · rw [if_neg hk]; exact cf_not r _ _ h2
theorem cf_mem {y : Str} : ∀ (names : List (Str × NameKind)) (h : Heap) (acc : List (Str × Addr)), (y, NameKind.cell) ∈ names →
    ∃ c, (cellsFrom h.objs.size names acc).lookup y = some c ∧ h.objs.size ≤ c ∧ (pushCells h names).IsCell c none
  | [], _, _, h => nomatch h
  | (m, k) :: r, g, acc, h => by
    unfold cellsFrom pushCells
    by_cases hk : (k == NameKind.cell) = true
    · rw [if_pos hk, if_pos hk]
      by_cases hr : (y, NameKind.cell) ∈ r
      · obtain ⟨c, e, l, q⟩ := cf_mem r (g.push { cls := .type "cell", data := .cell none }) ((m, g.objs.size) :: acc) hr
        rw [Heap.size_push] at e l
        exact ⟨c, e, by omega, q⟩
      · have hy : y = m := by
          rcases List.mem_cons.mp h with q | q
          · cases q; rfl
          · exact absurd q hr
        subst hy
        refine ⟨g.objs.size, ?_, Nat.le_refl _, ?_⟩
        · rw [cf_not r _ _ hr, List.lookup_cons, beq_self_eq_true]
        · exact Heap.IsCell.keeps ⟨_, Heap.get?_push_size _ rfl, rfl⟩ (pushCells_keeps r _)
    · rw [if_neg hk, if_neg hk]
      have hr : (y, NameKind.cell) ∈ r := by
        rcases List.mem_cons.mp h with q | q
        · cases q; exact absurd rfl hk
        · exact q
      exact cf_mem r g acc hr

section
variable {M : Model} {A : Around} {E : Value → Shared → Prop} {s : Shared}
abbrev compEnvX (sc : Scope) (cells : List (Str × Addr)) (C : Addr) (globals : Addr) (qual : Str) (env : Env) : Env :=
  { scope := sc, locals := C, globals := globals, cells := cells, qual := qual, func := none, code := env.code, frame := env.frame, builtins := env.builtins }
theorem newCompEnv {sc : Scope} {globals : Addr} {cl : List (Str × Addr)} {qual : Str} {env : Env} {Q : Env → Shared → Prop}
    (h : Q (compEnvX sc (cellsFrom (s.heap.objs.size + 1) sc.names cl) s.heap.objs.size globals qual env) { s with heap := pushCells (s.heap.push { cls := .type "dict", data := .dict #[] }) sc.names }) :
    wpAny M A (newFunctionEnv sc globals cl [] qual none .none (some env)) Q E s := by
  simp only [newFunctionEnv, Option.isSome_some, if_true]
  refine wpAny_bind (wpAny_alloc ?_)
  refine wpAny_bind (wpAny_layCells _ (fun name kind cells => by cases hkc : kind == NameKind.cell <;> simp [hkc]) _ _ _ _ ?_)
  rw [show ({ s with heap := s.heap.push { cls := .type "dict", data := .dict #[] } } : Shared).heap.objs.size = s.heap.objs.size + 1 from Heap.size_push ..]
  rw [List.forIn_nil]
  exact wpAny_bind (wpAny_pure (wpAny_pure h))
end

theorem neA {a b : Nat} (h : a ≠ b) : @Ne Addr a b := h
theorem ltS {h : Heap} {a : Addr} {o : Obj} (e : h.get? a = some o) : @LT.lt Nat instLTNat a h.objs.size := Heap.lt_size e
theorem eqA {a b : Addr} (h : a = b) : @Eq Nat a b := h
theorem leA {a b : Addr} (h : a ≤ b) : @LE.le Nat instLENat a b := h
theorem ltA {a b : Addr} (h : a < b) : @LT.lt Nat instLTNat a b := h

theorem oI {I D C c : Nat} (h1 : I < D) (h2 : C = D + 1) (h3 : C ≤ c) : c ≠ I := by omega
theorem oD {D C c : Nat} (h2 : C = D + 1) (h3 : C ≤ c) : c ≠ D := by omega
theorem oS {n i : Nat} (h : i < n) : n + 1 - (i + 1) < n + 1 - i := by omega
theorem oF {s D C c : Nat} (h0 : s = D) (h1 : c < s) (h2 : C = D + 1) (h3 : C ≤ c) : False := by omega
theorem oG {s D C c : Nat} (h0 : s = D) (h2 : C = D + 1) (h3 : C ≤ c) : s ≤ c := by omega
theorem scOk_parts {sc : Scope} (h : scOk sc = true) : sc.kind = .function ∧ (∀ y ∈ sc.names, y.2 = .local → sc.names.lookup y.1 = some .local) ∧ (∀ y ∈ sc.names, y.2 = .free → sc.names.lookup y.1 = some .free) ∧
    (∀ y ∈ sc.names, y.2 = .cell → sc.names.lookup y.1 = some .cell) := by
  unfold scOk at h
  simp only [Bool.and_eq_true, List.all_eq_true, Bool.or_eq_true, bne_iff_ne, beq_iff_eq] at h
  obtain ⟨⟨⟨a, b⟩, c⟩, d⟩ := h
  exact ⟨a, fun y hy e => (b y hy).resolve_left fun q => q e, fun y hy e => (c y hy).resolve_left fun q => q e, fun y hy e => (d y hy).resolve_left fun q => q e⟩
theorem lookup_mem {names : List (Str × NameKind)} {y : Str} {k : NameKind} (h : names.lookup y = some k) : (y, k) ∈ names := mem_of_lookup h
theorem maskOk_at {names : List Str} {sc : List (Str × NameKind)} : ∀ {mask : List Bool} {j i : Nat}, maskOk names sc j mask = true → mask[i]? = some true → ∃ n, names[j + i]? = some n ∧ sc.lookup n = some .free
  | [], _, _, _, h => by cases h
  | b :: bs, j, 0, h, e => by
    cases e
    unfold maskOk at h
    have h1 := (Bool.and_eq_true_iff.mp h).1
    simp only [Bool.not_true, Bool.false_or] at h1
    split at h1
    · rename_i n hn
      exact ⟨n, hn, by simpa using h1⟩
    · cases h1
  | b :: bs, j, i + 1, h, e => by
    unfold maskOk at h
    obtain ⟨n, h1, h2⟩ := maskOk_at (mask := bs) (j := j + 1) (i := i) (Bool.and_eq_true_iff.mp h).2 e
    exact ⟨n, by rw [show j + (i + 1) = j + 1 + i by omega]; exact h1, h2⟩
theorem restr_at : ∀ {mask : List Bool} {ρ : List Ent} {i : Nat} {e : Ent}, (restr mask ρ)[i]? = some e → e = .no ∨ ∃ d, e = .val d ∧ mask[i]? = some true ∧ ρ[i]? = some (.val d)
  | [], _, _, _, h => by simp [restr] at h
  | _ :: _, [], _, _, h => by simp [restr] at h
  | b :: bs, x :: xs, 0, e, h => by
    simp only [restr, List.getElem?_cons_zero, Option.some.injEq] at h
    subst h
    cases b with
    | false => exact .inl rfl
    | true =>
      cases x with
      | no => exact .inl rfl
      | own l => exact .inl rfl
      | val d => exact .inr ⟨d, rfl, rfl, rfl⟩
  | b :: bs, x :: xs, i + 1, e, h => by
    simp only [restr, List.getElem?_cons_succ] at h
    have ih := restr_at (mask := bs) (ρ := xs) (i := i) (e := e) h
    simpa using ih
theorem setE_at : ∀ {ρ : List Ent} {x i : Nat} {e e' : Ent}, (setE ρ x e)[i]? = some e' → (i = x ∧ e' = e) ∨ (i ≠ x ∧ ρ[i]? = some e')
  | [], _, _, _, _, h => by simp [setE] at h
  | a :: r, 0, 0, e, e', h => by simp [setE] at h; exact .inl ⟨rfl, h.symm⟩
  | a :: r, 0, i + 1, e, e', h => by simp [setE] at h; exact .inr ⟨by omega, by simpa using h⟩
  | a :: r, x + 1, 0, e, e', h => by simp [setE] at h; exact .inr ⟨by omega, by simpa using h⟩
  | a :: r, x + 1, i + 1, e, e', h => by
    simp only [setE, List.getElem?_cons_succ] at h
    rcases setE_at h with ⟨q, h⟩ | ⟨q, h⟩
    · exact .inl ⟨by omega, h⟩
    · exact .inr ⟨by omega, by simpa using h⟩

section
variable {prog : Program} {w : World} {K : Frag} {mg mb : Str → Option Value}
set_option maxHeartbeats 4000000 in
theorem comp_core {A : Around} {κ : Kx} {env : Env} {ρ : List Ent} {n : Str} {x : Nat} {sc : Scope} {mask : List Bool} {elt' it' : Expr} {ifs : List Expr} {px p : Pos} {ds ys : List D} {f : D → Option Bool} {g : D → Option D}
    (hEnv : EnvK κ env) (hn : κ.names[x]? = some n) (hsc : scOk sc = true) (ht : tgtOk sc n = true) (hm : maskOk κ.names sc.names 0 mask = true) (hf : (freesOf sc.names).all (fun y => κ.cells.contains y) = true)
    (hfold : ∀ v, foldedSetIterable it' env v = pure v) (hlen : ds.length ≤ 10000) (hit : ItOK prog w K mg mb A κ env ρ it' ds)
    (hcond : ∀ env' d b, EnvK ⟨κ.names, sc.names, capsOf sc.names⟩ env' → f d = some b → IfsOK prog w K mg mb A ⟨κ.names, sc.names, capsOf sc.names⟩ env' (setE (restr mask ρ) x (.val d)) ifs b)
    (helt : ∀ env' d y, EnvK ⟨κ.names, sc.names, capsOf sc.names⟩ env' → g d = some y → EvOK prog w K mg mb A ⟨κ.names, sc.names, capsOf sc.names⟩ env' (setE (restr mask ρ) x (.val d)) elt' y)
    (hgo : compGo f g ds = some ys) : EvOK prog w K mg mb A κ env ρ (.ListComp elt' [⟨.Name n px, it', ifs, 0⟩] sc p) (.seq false ys) := by
  intro X s Q E hT hX hρ hQ
  obtain ⟨hk, hloc, hfre, hcel⟩ := scOk_parts hsc
  have hfree : ∀ y ∈ sc.names, y.2 = .free → y.1 ∈ κ.cells := fun y hy e => by
    have := List.all_eq_true.mp hf y.1 (List.mem_map.mpr ⟨y, List.mem_filter.mpr ⟨hy, by simp [e]⟩, rfl⟩)
    simpa using this
  obtain ⟨cl, hclos, hcl⟩ := closure_ok (sc := sc) (env := env) fun y hy e => hEnv.cells _ (hfree y hy e)
  rw [eval_ListComp]
  refine wpAny_comprehension_free (use := none) rfl hfold hclos hk hloc ?_
  refine hit X s _ E hT hX hρ fun I fp P St h₁ h' tk k₁ it => ?_
  -- the new list, the block's frame
  refine wpAny_newObj_type (newCompEnv ?_)
  dsimp only
  generalize hH2 : h'.push { cls := .type "list", dict := none, data := .seq ([] : List Value).toArray } = H2
  generalize hH3 : pushCells (H2.push { cls := .type "dict", data := .dict #[] }) sc.names = H3
  have k' : Kp s.heap h' := k₁.tr it.kp
  have hC : H2.objs.size = h'.objs.size + 1 := by rw [← hH2, Heap.size_push]
  have kC : Kp (H2.push { cls := .type "dict", data := .dict #[] }) H3 := fun b o e => hH3 ▸ pushCells_keeps _ _ b o e
  have k3 : Kp h' H3 := fun b o e => kC b o (Heap.get?_push_of_some _ (hH2 ▸ Heap.get?_push_of_some _ e))
  have hD3 : H3.get? h'.objs.size = some (sqO false [] 0) := kC _ _ (Heap.get?_push_of_some _ (hH2 ▸ Heap.get?_push_size _ rfl))
  have hns3 : H3.Ns H2.objs.size fun _ => none := (Heap.Ns.new H2 (.type "dict")).keeps kC
  have hIo : ∃ o, h'.get? I = some o := by obtain ⟨o, e, _⟩ := it.it 0 _ it.st; exact ⟨o, e⟩
  have hI' : @LT.lt Nat instLTNat I h'.objs.size := by obtain ⟨o, e⟩ := hIo; exact ltS e
  have hIs : s.heap.get? I = none := by
    cases e : s.heap.get? I with
    | none => rfl
    | some o => have := k₁ _ _ e; rw [it.new] at this; cases this
  generalize hD : h'.objs.size = D at hD3 hC hI'
  generalize hCC : H2.objs.size = C at hns3 hC
  have hDs : s.heap.get? D = none := by
    cases e : s.heap.get? D with
    | none => rfl
    | some o => exact absurd (ltS (k' _ _ e)) (by rw [hD]; exact Nat.lt_irrefl _)
  have hD' : h'.get? D = none := none_ge (Nat.le_of_eq hD)
  have hC' : h'.get? C = none := none_ge (oG hD hC (Nat.le_refl _))
  have hDC : D ≠ C := neA (oD hC (Nat.le_refl _)).symm
  -- the frame
  generalize hcells : cellsFrom (C + 1) sc.names cl = cells
  generalize hcenv : compEnvX (relabel sc env) cells C env.globals env.qual env = cenv
  have hcenv' : ({ compEnvX sc cells C env.globals env.qual env with scope := relabel sc env } : Env) = cenv := by rw [← hcenv]
  have hKE : EnvK ⟨κ.names, sc.names, capsOf sc.names⟩ cenv := by
    subst hcenv
    refine ⟨hk, hEnv.glo, hEnv.blt, fun y hy => relabel_lookup (by decide) hy, fun y hy => ?_, fun y hy => ?_, hEnv.ok⟩
    · obtain ⟨z, hz, rfl⟩ := List.mem_map.mp hy
      obtain ⟨hz1, hz2⟩ := List.mem_filter.mp hz
      simp only [Bool.or_eq_true, beq_iff_eq] at hz2
      show ∃ c, cells.lookup z.1 = some c
      by_cases hc : (z.1, NameKind.cell) ∈ sc.names
      · obtain ⟨c, e, _⟩ := cf_mem sc.names (H2.push { cls := .type "dict", data := .dict #[] }) cl hc
        rw [Heap.size_push, hCC, hcells] at e
        exact ⟨c, e⟩
      · rcases hz2 with hz2 | hz2
        · obtain ⟨c, e⟩ := hEnv.cells _ (hfree z hz1 hz2)
          refine ⟨c, ?_⟩
          rw [← hcells, cf_not _ _ _ hc, hcl _ (by rw [← hz2]; exact hz1), e]
        · exact absurd (by rw [← hz2]; exact hz1) hc
    · obtain ⟨z, hz, rfl⟩ := List.mem_map.mp hy
      obtain ⟨hz1, hz2⟩ := List.mem_filter.mp hz
      simp only [Bool.or_eq_true, beq_iff_eq] at hz2
      rcases hz2 with hz2 | hz2
      · exact relabel_free (hfre z hz1 hz2)
      · exact .inl (relabel_lookup (by decide) (hcel z hz1 hz2))
  have hckind : cenv.scope.kind = .function := hKE.kind
  have hcloc : cenv.locals = C := by rw [← hcenv]
  have hccell : cenv.cells = cells := by rw [← hcenv]
  have hckd : ∀ y, cenv.kindOf y = (relabel sc env).names.lookup y := fun y => by rw [← hcenv]; rfl
  -- the target: a name of the frame's, or a cell of it
  have htg : (cenv.kindOf n = some .local) ∨ (cenv.kindOf n = some .cell ∧ ∃ c, cells.lookup n = some c ∧ @LT.lt Nat instLTNat C c ∧ H3.IsCell c none) := by
    unfold tgtOk at ht
    simp only [Bool.or_eq_true, beq_iff_eq] at ht
    rcases ht with ht | ht
    · left; rw [hckd]; exact relabel_lookup (by decide) ht
    · right
      refine ⟨by rw [hckd]; exact relabel_lookup (by decide) ht, ?_⟩
      obtain ⟨c, e, l, q⟩ := cf_mem sc.names (H2.push { cls := .type "dict", data := .dict #[] }) cl (lookup_mem ht)
      rw [Heap.size_push, hCC, hcells] at e
      rw [Heap.size_push, hCC] at l
      exact ⟨c, e, Nat.lt_of_succ_le l, hH3 ▸ q⟩
  -- what is read of the frames around
  have hout : ∀ y v, sc.names.lookup y = some .free → Sees env s.heap y v → ∀ h₅ : Heap, (∀ b o, s.heap.get? b = some o → h₅.get? b = some o) → Sees cenv h₅ y v := by
    intro y v hy S h₅ k₅
    have hyc : y ∈ κ.cells := hfree (y, .free) (lookup_mem hy) rfl
    right
    refine ⟨by rw [hckd]; exact relabel_free hy, ?_⟩
    have hnc : (y, NameKind.cell) ∉ sc.names := fun q => by have := hcel _ q rfl; rw [hy] at this; cases this
    rcases S with ⟨a, _⟩ | ⟨_, c, b, d⟩
    · rcases hEnv.capk y hyc with q | q <;> (rw [q] at a; cases a)
    · refine ⟨c, ?_, d.keeps k₅⟩
      rw [hccell, ← hcells, cf_not _ _ _ hnc, hcl _ (lookup_mem hy)]; exact b
  -- the loop
  have hres : ∀ (h₆ : Heap) (tk₆ : Nat) (m : Str → Option Value) (vs : List Value) (k : Nat), h₆.Ns C m → h₆.get? D = some (sqO false vs k) → (∀ b o, b ≠ I → h'.get? b = some o → h₆.get? b = some o) → AllD (fun b => X b ∨ b = D) h₆ vs ys →
      compPost (model prog w) A E none Q (.ref D) C (.ok .next) { s with heap := h₆, toks := tk₆ } := by
    intro h₆ tk₆ m vs k hns hd kk ha
    refine ⟨m, hns, fun h₇ hs₇ => ?_⟩
    have hs : Heap.SameBut C h₆ h₇ := hs₇
    refine hQ (.ref D) h₇ tk₆ (fun b o e => ?_) (.seq (n := k) (hX.fresh hDs) (hs.extBut _ _ hDC hd) ?_)
    · have hb : b ≠ I := fun q => by rw [q, hIs] at e; cases e
      have e' := k' _ _ e
      exact hs.extBut _ _ (fun q => by rw [q, hC'] at e'; cases e') (kk b o hb e')
    · exact (ha.imp fun b t us q hb e => ⟨fun z => hb (.inl z), e⟩ : AllD X h₆ vs ys).sq (SqKp.of hs.extBut (.inr (ns_noSq hns)))
  have hWI : I ∈ fp := it.W.sub I (List.mem_singleton.mpr rfl)
  have loop : ∀ s₃ : Shared, s₃ = { s with heap := H3, toks := tk } → codeAny (model prog w) A (.compLoop (.ListComp elt' [⟨.Name n px, it', ifs, 0⟩] sc p) 0 (.ref I) (.ref D) cenv) (compPost (model prog w) A E none Q (.ref D) C) s₃ := by
    rintro s₃ rfl
    refine codeAny_compLoop_tests
      (fun k s' => ∃ h₄ tk₄ i m vs ydone yrest, s' = { s with heap := h₄, toks := tk₄ } ∧ i ≤ ds.length ∧ k = ds.length + 1 - i ∧ St i h₄ ∧ h₄.Ns C m ∧
        ((cenv.kindOf n = some .local) ∨ (cenv.kindOf n = some .cell ∧ ∃ c v₀, cells.lookup n = some c ∧ @LT.lt Nat instLTNat C c ∧ h₄.IsCell c v₀)) ∧
        h₄.get? D = some (sqO false vs vs.length) ∧ (∀ b o, b ≠ I → h'.get? b = some o → h₄.get? b = some o) ∧ AllD (fun b => X b ∨ b = D) h₄ vs ydone ∧ compGo f g (ds.drop i) = some yrest ∧ ys = ydone ++ yrest ∧ vs.length ≤ i) ?_ (ds.length + 1)
      ⟨H3, tk, 0, _, [], [], ys, rfl, Nat.zero_le _, rfl, it.W.frame _ _ _ it.st fun b _ o e => k3 b o e, hns3, htg.imp id fun ⟨a, c, e, l, q⟩ => ⟨a, c, none, e, l, q⟩, hD3, fun b o _ e => k3 b o e, .nil, by simpa using hgo, rfl, Nat.le_refl _⟩
    rintro k s' ⟨h₄, tk₄, i, m, vs, ydone, yrest, rfl, hi, rfl, hst, hns, htg₄, hd, kk, ha, hgo₄, hys, hvl⟩
    by_cases hlt : i < ds.length
    · refine it.W.item i _ _ _ hlt hst fun v h₅ tk₅ hPv hst₅ hk₅ => ?_
      have hk₅ : ∀ b o, b ≠ I → h₄.get? b = some o → h₅.get? b = some o := fun b o hb e => hk₅ b o (by simpa using hb) e
      obtain ⟨d, hd₅⟩ : ∃ d, ds[i]? = some d := ⟨ds[i], List.getElem?_eq_getElem hlt⟩
      have hvd : IsD X h₁ v d := it.items i v d hPv hd₅
      have hCI : C ≠ I := neA (oI hI' hC (Nat.le_refl _))
      have hDI : D ≠ I := neA (Nat.ne_of_gt hI')
      have hns₅ : h₅.Ns C m := hns.at' fun o e => hk₅ _ o hCI e
      have noI : ∀ t us q, h₄.get? I ≠ some (sqO t us q) := fun t us q e => by
        obtain ⟨o, e1, e2⟩ := it.it i _ hst
        rw [e] at e1; cases e1; exact e2 t us q rfl
      have ha₅ : AllD (fun b => X b ∨ b = D) h₅ vs ydone := ha.sq (SqKp.of (c := I) (fun b o hb e => hk₅ b o hb e) (.inr noI))
      have hd5 : h₅.get? D = some (sqO false vs vs.length) := hk₅ _ _ hDI hd
      have kk₅ : ∀ b o, b ≠ I → h'.get? b = some o → h₅.get? b = some o := fun b o hb e => hk₅ b o hb (kk b o hb e)
      -- the step behind the store
      have body : ∀ (h₆ : Heap) (tk₆ : Nat), St (i + 1) h₆ → (∃ m₆, h₆.Ns C m₆) → ((cenv.kindOf n = some .local) ∨ (cenv.kindOf n = some .cell ∧ ∃ c v₀, cells.lookup n = some c ∧ @LT.lt Nat instLTNat C c ∧ h₆.IsCell c v₀)) → h₆.get? D = some (sqO false vs vs.length) →
          (∀ b o, b ≠ I → h'.get? b = some o → h₆.get? b = some o) → AllD (fun b => X b ∨ b = D) h₆ vs ydone → Sees cenv h₆ n v →
          wpAny (model prog w) A (forIn ifs true fun c r => if r = true then do let ok ← isTrue c cenv (eval c cenv); pure (ForInStep.yield ok) else pure (ForInStep.yield r)) (fun ok s₃ =>
            if ok = true then wpAny (model prog w) A (eval elt' cenv) (fun x s₄ =>
              wpAny (model prog w) A (call (.builtin "list.append") [.ref D, x]) (fun _ s₅ => ∃ m, m < ds.length + 1 - i ∧ (∃ h₄ tk₄ i m₁ vs ydone yrest, s₅ = { s with heap := h₄, toks := tk₄ } ∧ i ≤ ds.length ∧ m = ds.length + 1 - i ∧ St i h₄ ∧ h₄.Ns C m₁ ∧
                ((cenv.kindOf n = some .local) ∨ (cenv.kindOf n = some .cell ∧ ∃ c v₀, cells.lookup n = some c ∧ @LT.lt Nat instLTNat C c ∧ h₄.IsCell c v₀)) ∧
                h₄.get? D = some (sqO false vs vs.length) ∧ (∀ b o, b ≠ I → h'.get? b = some o → h₄.get? b = some o) ∧ AllD (fun b => X b ∨ b = D) h₄ vs ydone ∧ compGo f g (ds.drop i) = some yrest ∧ ys = ydone ++ yrest ∧ vs.length ≤ i))
                (notedBy (model prog w) A cenv fun e s' => compPost (model prog w) A E none Q (.ref D) C (.error e) s') s₄) (notedBy (model prog w) A cenv fun e s' => compPost (model prog w) A E none Q (.ref D) C (.error e) s') s₃
            else ∃ m, m < ds.length + 1 - i ∧ (∃ h₄ tk₄ i m₁ vs ydone yrest, s₃ = { s with heap := h₄, toks := tk₄ } ∧ i ≤ ds.length ∧ m = ds.length + 1 - i ∧ St i h₄ ∧ h₄.Ns C m₁ ∧
                ((cenv.kindOf n = some .local) ∨ (cenv.kindOf n = some .cell ∧ ∃ c v₀, cells.lookup n = some c ∧ @LT.lt Nat instLTNat C c ∧ h₄.IsCell c v₀)) ∧
                h₄.get? D = some (sqO false vs vs.length) ∧ (∀ b o, b ≠ I → h'.get? b = some o → h₄.get? b = some o) ∧ AllD (fun b => X b ∨ b = D) h₄ vs ydone ∧ compGo f g (ds.drop i) = some yrest ∧ ys = ydone ++ yrest ∧ vs.length ≤ i))
            (notedBy (model prog w) A cenv fun e s' => compPost (model prog w) A E none Q (.ref D) C (.error e) s') { s with heap := h₆, toks := tk₆ } := by
        rintro h₆ tk₆ hst₆ ⟨m₆, hns₆⟩ htg₆ hd₆ kk₆ ha₆ hS₆
        have ks₆ : Kp s.heap h₆ := fun b o e => kk₆ b o (fun q => by rw [q, hIs] at e; cases e) (k' _ _ e)
        have ks₁ : Kp h₁ h₆ := fun b o e => kk₆ b o (fun q => by rw [q, it.new] at e; cases e) (it.kp _ _ e)
        have hD1 : h₁.get? D = none := by
          cases e : h₁.get? D with
          | none => rfl
          | some o => have := it.kp _ _ e; rw [hD'] at this; cases this
        have hT₆ : Top' K mg mb h₆ := hT.kp ks₆
        have hX₆ : XOk K (fun b => X b ∨ b = D) h₆ := fun b hb => by
          rcases hb with hb | rfl
          · exact ⟨let ⟨o, e⟩ := (hX b hb).1; ⟨o, ks₆ _ _ e⟩, (hX b hb).2⟩
          · refine ⟨⟨_, hd₆⟩, ?_⟩
            cases e : K.lookup b with
            | none => rfl
            | some o => have := hT.k _ _ e; rw [hDs] at this; cases this
        have hρ₆ : EnvOK ⟨κ.names, sc.names, capsOf sc.names⟩ cenv (fun b => X b ∨ b = D) h₆ (setE (restr mask ρ) x (.val d)) := by
          intro j e he
          rcases setE_at he with ⟨rfl, rfl⟩ | ⟨hj, he⟩
          · exact ⟨v, n, hn, hvd.grow ks₁ hD1, hS₆⟩
          · rcases restr_at he with rfl | ⟨d', rfl, hmask, hρe⟩
            · trivial
            · obtain ⟨v', n', hn', hv', hS'⟩ := hρ j _ hρe
              obtain ⟨n₂, hn₂, hfr⟩ := maskOk_at hm hmask
              rw [Nat.zero_add, hn'] at hn₂
              cases hn₂
              exact ⟨v', n', hn', hv'.grow ks₆ hDs, hout n' v' hfr hS' h₆ ks₆⟩
        have hdrop : ds.drop i = d :: ds.drop (i + 1) := by
          rw [List.getElem?_eq_getElem hlt] at hd₅; cases hd₅
          exact List.drop_eq_getElem_cons hlt
        rw [hdrop, compGo] at hgo₄
        have kp_keep : ∀ {g₁ g₂ : Heap}, Kp g₁ g₂ → ((cenv.kindOf n = some .local) ∨ (cenv.kindOf n = some .cell ∧ ∃ c v₀, cells.lookup n = some c ∧ @LT.lt Nat instLTNat C c ∧ g₁.IsCell c v₀)) → ((cenv.kindOf n = some .local) ∨ (cenv.kindOf n = some .cell ∧ ∃ c v₀, cells.lookup n = some c ∧ @LT.lt Nat instLTNat C c ∧ g₂.IsCell c v₀)) :=
          fun k h => h.imp id fun ⟨a, c, v₀, e, l, q⟩ => ⟨a, c, v₀, e, l, q.keeps k⟩
        split at hgo₄
        · rename_i hfd
          split at hgo₄
          · rename_i y hgd
            split at hgo₄
            · rename_i yrest' hrest
              cases hgo₄
              refine hcond cenv d true hKE hfd (fun b => X b ∨ b = D) { s with heap := h₆, toks := tk₆ } _ _ hT₆ hX₆ hρ₆ fun h₇ tk₇ k₇ => ?_
              rw [if_pos rfl]
              refine helt cenv d y hKE hgd (fun b => X b ∨ b = D) { s with heap := h₇, toks := tk₇ } _ _ (hT₆.kp k₇) (hX₆.kp k₇) (hρ₆.kp k₇) fun y' h₈ tk₈ k₈ hy' => ?_
              have k68 : Kp h₆ h₈ := k₇.tr k₈
              refine append_at (s := { s with heap := h₈, toks := tk₈ }) (hsz := by rw [List.size_toArray]; exact len_of (Nat.le_trans hvl (Nat.le_trans (Nat.le_of_lt hlt) hlen))) (k68 _ _ hd₆) fun h₉ hs₉ hD₉ => ?_
              have hs₉ : Heap.SameBut D h₈ h₉ := hs₉
              refine ⟨ds.length + 1 - (i + 1), oS hlt, h₉, tk₈, i + 1, m₆, vs ++ [y'], ydone ++ [y], yrest', rfl, hlt, rfl, ?_, ?_, ?_, ?_, ?_, ?_, hrest, by rw [hys]; simp, by rw [List.length_append]; exact Nat.succ_le_succ hvl⟩
              · refine it.W.frame _ _ _ hst₆ fun b hb o e => hs₉.extBut b o (fun q => ?_) (k68 _ _ e)
                rcases it.fp b hb with h | ⟨us, q', _, h⟩
                · exact hDI (q.symm.trans h)
                · rw [q, hD1] at h; cases h
              · exact (hns₆.keeps k68).sameBut hs₉ (Ne.symm hDC)
              · exact (kp_keep k68 htg₆).imp id fun ⟨a, c, v₀, e, l, q⟩ => ⟨a, c, v₀, e, l, q.sameBut hs₉ (neA (oD hC (Nat.le_of_lt l)))⟩
              · rw [hD₉]; simp [sqO]
              · intro b o hb e
                exact hs₉.extBut b o (fun q => by rw [q, hD'] at e; cases e) (k68 _ _ (kk₆ b o hb e))
              · exact ((ha₆.kp k68).app (.one hy')).sq (SqKp.of hs₉.extBut (.inl (.inr rfl)))
            · cases hgo₄
          · cases hgo₄
        · rename_i hfd
          refine hcond cenv d false hKE hfd (fun b => X b ∨ b = D) { s with heap := h₆, toks := tk₆ } _ _ hT₆ hX₆ hρ₆ fun h₇ tk₇ k₇ => ?_
          rw [if_neg Bool.false_ne_true]
          exact ⟨ds.length + 1 - (i + 1), oS hlt, h₇, tk₇, i + 1, m₆, vs, ydone, yrest, rfl, hlt, rfl, it.W.frame _ _ _ hst₆ fun b hb o e => k₇ _ _ e, hns₆.keeps k₇, kp_keep k₇ htg₆, k₇ _ _ hd₆, fun b o hb e => k₇ _ _ (kk₆ b o hb e), ha₆.kp k₇, hgo₄, hys, Nat.le_succ_of_le hvl⟩
        · cases hgo₄
      -- the store
      have hfpC : ∀ c : Nat, @LE.le Nat instLENat C c → c ∉ fp := fun c hc hm => by
        rcases it.fp c hm with h | ⟨us, q', _, h⟩
        · exact absurd (eqA h) (oI hI' hC hc)
        · exact oF hD (ltS (it.kp _ _ h)) hC hc
      refine wpAny_assign_Name ?_
      rcases htg₄ with hl | ⟨hcl', c, v₀, ec, hlc, hcell⟩
      · refine wpAny_storeName_local hl (by rw [hcloc]; exact hns₅) (fun h₆ hns₆ hs₆ => ?_) (by rw [hckind]; rfl)
        rw [hcloc] at hns₆ hs₆
        have hs₆ : Heap.SameBut C h₅ h₆ := hs₆
        refine body h₆ _ (it.W.frame _ _ _ hst₅ fun b hb o e => hs₆.extBut b o (fun q => hfpC C (Nat.le_refl _) (q ▸ hb)) e) ⟨_, hns₆⟩ (.inl hl) (hs₆.extBut _ _ hDC hd5)
          (fun b o hb e => hs₆.extBut b o (fun q => by rw [q, hC'] at e; cases e) (kk₅ b o hb e)) (ha₅.sq (SqKp.of hs₆.extBut (.inr (ns_noSq hns₅)))) (.inl ⟨hl, _, hcloc.symm ▸ hns₆, by simp⟩)
      · have hcI : c ≠ I := neA (oI hI' hC (Nat.le_of_lt hlc))
        have hc' : h'.get? c = none := none_ge (oG hD hC (Nat.le_of_lt hlc))
        have hcell₅ : h₅.IsCell c v₀ := let ⟨o, e, q⟩ := hcell; ⟨o, hk₅ c o hcI e, q⟩
        refine wpAny_storeName_cell hckind hcl' (by rw [hccell]; exact ec) hcell₅ fun h₆ hv₆ hs₆ => ?_
        have hs₆ : Heap.SameBut c h₅ h₆ := hs₆
        refine body h₆ _ (it.W.frame _ _ _ hst₅ fun b hb o e => hs₆.extBut b o (fun q => hfpC c (Nat.le_of_lt hlc) (q ▸ hb)) e) ⟨m, hns₅.sameBut hs₆ (neA (Nat.ne_of_lt hlc))⟩ (.inr ⟨hcl', c, _, ec, hlc, hv₆⟩) (hs₆.extBut _ _ (neA (oD hC (Nat.le_of_lt hlc)).symm) hd5)
          (fun b o hb e => hs₆.extBut b o (fun q => by rw [q, hc'] at e; cases e) (kk₅ b o hb e)) (ha₅.sq (SqKp.of hs₆.extBut (.inr (cell_noSq hcell₅)))) (.inr ⟨.inl hcl', c, by rw [hccell]; exact ec, hv₆⟩)
    · obtain rfl : i = ds.length := Nat.le_antisymm hi (Nat.not_lt.mp hlt)
      refine it.W.done _ _ _ hst fun h₅ tk₅ hk₅ => ?_
      have hk₅ : ∀ b o, b ≠ I → h₄.get? b = some o → h₅.get? b = some o := fun b o hb e => hk₅ b o (by simpa using hb) e
      rw [List.drop_length, compGo] at hgo₄
      cases hgo₄
      have noI : ∀ t us q, h₄.get? I ≠ some (sqO t us q) := fun t us q e => by
        obtain ⟨o, e1, e2⟩ := it.it _ _ hst
        rw [e] at e1; cases e1; exact e2 t us q rfl
      refine hres h₅ tk₅ m vs vs.length (hns.at' fun o e => hk₅ _ o (neA (oI hI' hC (Nat.le_refl _))) e) (hk₅ _ _ (neA (Nat.ne_of_gt hI')) hd) (fun b o hb e => hk₅ b o hb (kk b o hb e)) ?_
      rw [hys, List.append_nil]
      exact ha.sq (SqKp.of (c := I) (fun b o hb e => hk₅ b o hb e) (.inr noI))
  rw [hcenv']
  exact codeAny_compStart_list (loop _ rfl) (it.W.self 0 _ _ _ (it.W.frame _ _ _ it.st fun b _ o e => k3 b o e) (loop _ rfl))
end

structure AOK (A : Around) (n : Nat) : Prop where
  hd : A.handled = none
  dep : A.depth + n < recursionLimit
  un : A.units + 8 * n + 72 < cLine

section
variable (prog : Program) (w : World) (K : Frag) (mg mb : Str → Option Value)
noncomputable def Contract (n : Nat) (f : Addr) (args : List D) (d : D) : Prop :=
  (∃ o fd, K.lookup f = some o ∧ o.data = .func fd) ∧
    ∀ (A : Around) (X : Addr → Prop) (s : Shared) (Q : Value → Shared → Prop) (E : Value → Shared → Prop) (vs : List Value), AOK A n → Top' K mg mb s.heap → XOk K X s.heap → AllD X s.heap vs args → Pst X s d Q → wpAny (model prog w) A (call (.ref f) vs) Q E s
end

theorem rangeSize_nonneg (a b c : Int) : 0 ≤ Builtin.Range.rangeSize a b c := by
  unfold Builtin.Range.rangeSize
  split <;> split <;> first | omega | (have := Int.ediv_nonneg (a := b - a - 1) (b := c) (by omega) (by omega); omega) | (have := Int.ediv_nonneg (a := a - b - 1) (b := -c) (by omega) (by omega); omega)
theorem rgo_length : ∀ (n : Nat) (a c : Int), (rgo n a c).length = n
  | 0, _, _ => rfl
  | n + 1, a, c => by rw [rgo, List.length_cons, rgo_length n]
theorem rgo_at : ∀ (n : Nat) (a c : Int) (i : Nat) (d : D), (rgo n a c)[i]? = some d → d = .int (a + i * c)
  | 0, _, _, _, _, h => by simp [rgo] at h
  | n + 1, a, c, 0, d, h => by simp [rgo] at h; subst h; simp
  | n + 1, a, c, i + 1, d, h => by
    rw [rgo, List.getElem?_cons_succ] at h
    have := rgo_at n (a + c) c i d h
    rw [this]
    congr 1
    push_cast
    rw [Int.add_mul, Int.one_mul]; omega

theorem intsOf_at {X : Addr → Prop} {h : Heap} : ∀ {ds : List D} {ns : List Int} {vs : List Value}, intsOf ds = some ns → AllD X h vs ds → ∃ ps : List (Int × Tok), vs = ps.map (fun p => Value.int p.1 p.2) ∧ ns = ps.map (·.1)
  | [], ns, vs, e, x => by cases x; cases e; exact ⟨[], rfl, rfl⟩
  | .int i :: r, ns, vs, e, x => by
    rw [intsOf] at e
    split at e
    · rename_i l hl
      cases e
      cases x with
      | cons a b =>
        cases a
        rename_i t
        obtain ⟨ps, h1, h2⟩ := intsOf_at hl b
        exact ⟨(i, t) :: ps, by rw [h1]; rfl, by rw [h2]; rfl⟩
    · cases e
  | .bool _ :: _, _, _, e, _ => by cases e
  | .fn _ :: _, _, _, e, _ => by cases e
  | .seq _ _ :: _, _, _, e, _ => by cases e
theorem maxI_spec : ∀ (r : List Int) (a : Int), (maxI a r = a ∨ maxI a r ∈ r) ∧ a ≤ maxI a r ∧ ∀ b ∈ r, b ≤ maxI a r
  | [], a => ⟨.inl rfl, Int.le_refl _, fun _ h => nomatch h⟩
  | b :: r, a => by
    rw [maxI, cond_eq_ite]
    by_cases hb : b > a
    · rw [if_pos (decide_eq_true hb)]
      obtain ⟨h1, h2, h3⟩ := maxI_spec r b
      refine ⟨.inr (h1.elim (fun e => by rw [e]; exact .head _) (.tail _)), by omega, fun c hc => ?_⟩
      rcases List.mem_cons.mp hc with rfl | hc
      · exact h2
      · exact h3 c hc
    · rw [if_neg (by simpa using hb)]
      obtain ⟨h1, h2, h3⟩ := maxI_spec r a
      refine ⟨h1.imp id (.tail _), h2, fun c hc => ?_⟩
      rcases List.mem_cons.mp hc with rfl | hc
      · omega
      · exact h3 c hc
theorem maxI_unique {a M : Int} {r : List Int} (h1 : M = a ∨ M ∈ r) (h2 : a ≤ M) (h3 : ∀ b ∈ r, b ≤ M) : M = maxI a r := by
  obtain ⟨g1, g2, g3⟩ := maxI_spec r a
  have l1 : M ≤ maxI a r := h1.elim (fun e => by rw [e]; exact g2) (g3 M)
  have l2 : maxI a r ≤ M := g1.elim (fun e => by rw [e]; exact h2) (h3 _)
  omega

theorem numAt_list (ps : List (Int × Tok)) (i : Nat) : numAt ps.toArray i = (ps.map (·.1))[i]?.getD 0 := by
  unfold numAt
  simp [List.getElem?_map]

section
variable {prog : Program} {w : World} {K : Frag} {mg mb : Str → Option Value} {gn : List Str} {gl : List D} {Φ : Addr → List D → Option D} {A : Around} {k : Nat}

theorem max_ok {X : Addr → Prop} {s : Shared} {E : Value → Shared → Prop} {Q : Value → Shared → Prop} {v : Value} {l : List D} {a : Int} {r : List Int} (hh : A.handled = none) (hv : IsD X s.heap v (.seq false l)) (e : intsOf l = some (a :: r))
    (h : Pst X s (.int (maxI a r)) Q) : wpAny (model prog w) A (call (.builtin "max") [v]) Q E s := by
  obtain ⟨b, vs, n, rfl, g, d⟩ := hv.isR.ex
  obtain ⟨ps, h1, h2⟩ := intsOf_at e d
  have hl : s.heap.IsList b (intItems ps.toArray) := by
    have := isList_of g
    rw [h1] at this
    unfold intItems
    simpa using this
  have hne : 0 < ps.toArray.size := by
    rw [List.size_toArray]
    cases ps with
    | nil => cases h2
    | cons => simp
  refine max_intList hh hl hne fun v h' tk hv hk => ?_
  obtain ⟨t, rfl⟩ := intItems_at hv
  obtain ⟨g1, g2⟩ := argBest_gt (numAt ps.toArray) (ps.toArray.size - 1)
  have hM : numAt ps.toArray (argBest (fun i j => decide (numAt ps.toArray i > numAt ps.toArray j)) (ps.toArray.size - 1)) = maxI a r := by
    generalize hj : argBest (fun i j => decide (numAt ps.toArray i > numAt ps.toArray j)) (ps.toArray.size - 1) = j at g1 g2 ⊢
    have hlen : ps.toArray.size = r.length + 1 := by
      rw [List.size_toArray, ← List.length_map (f := (·.1)) (as := ps), ← h2, List.length_cons]
    have hn : ∀ i, numAt ps.toArray i = (a :: r)[i]?.getD 0 := fun i => by rw [numAt_list, ← h2]
    have hjl : j < (a :: r).length := by rw [List.length_cons]; omega
    have hmem : numAt ps.toArray j ∈ a :: r := by
      rw [hn, List.getElem?_eq_getElem hjl]
      exact List.getElem_mem hjl
    refine maxI_unique (List.mem_cons.mp hmem) ?_ fun b hb => ?_
    · have := g2 0 (Nat.zero_le _)
      rw [hn 0] at this
      exact this
    · obtain ⟨i, hi, rfl⟩ := List.getElem_of_mem hb
      have := g2 (i + 1) (by omega)
      rw [hn (i + 1), List.getElem?_cons_succ, List.getElem?_eq_getElem hi] at this
      exact this
  exact h _ h' tk hk (hM ▸ .int _ _)

/-- names of the module and of the interpreter -/
theorem name_glob {κ : Kx} {env : Env} {n : Str} {p : Pos} {d : D} {X : Addr → Prop} {s : Shared} {E : Value → Shared → Prop} {Q : Value → Shared → Prop} {g : Nat} (G : GOk K mg mb gn gl) (hEnv : EnvK κ env) (T : Top' K mg mb s.heap) (hX : XOk K X s.heap)
    (e1 : gn[g]? = some n) (hk : κ.sc.lookup n = some .globalImplicit) (e2 : getL gl g = some d) (h : ∀ v, IsD X s.heap v d → Q v s) : wpAny (model prog w) A (eval (.Name n p) env) Q E s := by
  obtain ⟨ok, v, hv, hd⟩ := G.gl g n d e1 e2
  have h1 : (n == ("__debug__" : Str)) = false := by
    have := (Bool.and_eq_true_iff.mp ok).1
    simpa using this
  exact Name_function_global hEnv.kind (hEnv.kg _ hk) (loadGlobal_global (hEnv.glo ▸ T.g) hv (h v (hd X s.heap T.k fun a ha => (hX a ha).2))) h1
theorem name_built {κ : Kx} {env : Env} {n : Str} {p : Pos} {v : Value} {s : Shared} {E : Value → Shared → Prop} {Q : Value → Shared → Prop} (hEnv : EnvK κ env) (T : Top' K mg mb s.heap) (hk : κ.sc.lookup n = some .globalImplicit)
    (e : mg n = none ∧ mb n = some v) (h : Q v s) (h1 : (n == ("__debug__" : Str)) = false := by decide) : wpAny (model prog w) A (eval (.Name n p) env) Q E s :=
  Name_function_global hEnv.kind (hEnv.kg _ hk) (loadGlobal_builtin (hEnv.glo ▸ T.g) e.1 (hEnv.blt ▸ T.b) e.2 h) h1

abbrev Pss (X : Addr → Prop) (s : Shared) (ds : List D) (Q : List Value → Shared → Prop) : Prop := ∀ vs h' tk, Kp s.heap h' → AllD X h' vs ds → Q vs { s with heap := h', toks := tk }
theorem evs_ok {κ : Kx} {env : Env} {ρ : List Ent} {f : T → Option D} (ih : ∀ t e d, IsE gn κ t e → f t = some d → EvOK prog w K mg mb A κ env ρ e d) (pos : Pos) :
    ∀ (ts : List T) (es : List Expr) (ds : List D) (X : Addr → Prop) (s : Shared) (Q : List Value → Shared → Prop) (E : Value → Shared → Prop), IsEs gn κ ts es → mapO f ts = some ds → Top' K mg mb s.heap → XOk K X s.heap → EnvOK κ env X s.heap ρ → Pss X s ds Q →
      wpAny (model prog w) A (spliced (backTo pos (starEach es env))) Q E s
  | [], es, ds, X, s, Q, E, he, hm, _, _, _, hQ => by
    cases he; cases hm
    exact args_nil (hQ [] s.heap s.toks (Kp.rfl' _) .nil)
  | t :: ts, es, ds, X, s, Q, E, he, hm, T, hX, hρ, hQ => by
    cases he with
    | cons h1 h2 =>
      rw [mapO] at hm
      split at hm
      · rename_i d hd
        split at hm
        · rename_i l hl
          cases hm
          refine args_cons ?_ (h1.star _ _)
          refine ih _ _ _ h1 hd X s _ E T hX hρ fun v h' tk k hv => ?_
          refine evs_ok ih pos ts _ l X _ _ E h2 hl (T.kp k) (hX.kp k) (hρ.kp k) fun vs h'' tk' k' hvs => ?_
          exact hQ (v :: vs) h'' tk' (k.tr k') (.cons (hv.kp k') hvs)
        · cases hm
      · cases hm

theorem range_it {X : Addr → Prop} {s s₀ : Shared} {Q : Value → Shared → Prop} {E : Value → Shared → Prop} {a b c : Int} {t u v : Tok} {ds : List D} {r : Addr} {tk : Nat} (hh : A.handled = none) (e : rangeL a b c = some ds) (kp : Kp s₀.heap s.heap)
    (hr : IsRange s.heap r a b c t u v) (hs : s = { s₀ with heap := s.heap, toks := tk })
    (hQ : ∀ I fp P St h₁ h' tk, Kp s₀.heap h₁ → ItAt prog w X A ds h₁ I fp P St h' → Q (.ref I) { s₀ with heap := h', toks := tk }) : wpAny (model prog w) A (pyIter (.ref r)) Q E s := by
  unfold rangeL at e
  rw [cond_eq_ite] at e
  split at e
  · rename_i hc
    cases e
    simp only [Bool.and_eq_true] at hc
    obtain ⟨⟨⟨h0, h1⟩, h2⟩, h3⟩ := hc
    refine wpAny_pyIter_range hr h2 ?_
    rw [hs]
    have hn : ((Builtin.Range.rangeSize a b c).toNat : Int) = Builtin.Range.rangeSize a b c := Int.toNat_of_nonneg (rangeSize_nonneg a b c)
    refine hQ s.heap.objs.size [s.heap.objs.size] (fun i v => ∃ t, v = .int (a + i * c) t) (fun i h => IsRangeIter h s.heap.objs.size (a + (i : Nat) * c) (((Builtin.Range.rangeSize a b c).toNat : Int) - (i : Nat)) c) s.heap _ tk kp ⟨?_, ?_, kp_push _ _, fresh_none _, ?_, ?_, ?_⟩
    · rw [rgo_length]; exact Walks.range hh s.heap.objs.size a c _
    · show IsRangeIter _ _ _ _ _
      rw [hn]
      simpa using Heap.get?_push_size s.heap (o := { cls := .type "range_iterator", dict := none, data := .fields #[rawInt a, rawInt (Builtin.Range.rangeSize a b c), rawInt c], slots := #[] }) rfl
    · intro i g st
      exact ⟨_, st, fun t vs n q => by
        have h := Value.type.inj (congrArg Obj.cls q)
        cases t <;> exact absurd h (by decide)⟩
    · intro b hb; exact .inl (List.mem_singleton.mp hb)
    · rintro i v d ⟨t, rfl⟩ hd
      rw [rgo_at _ _ _ _ _ hd]
      exact .int _ _
  · cases e

theorem items_ok {κ : Kx} {env : Env} {ρ : List Ent} {f : T → Option D} (G : GOk K mg mb gn gl) (hEnv : EnvK κ env) (hh : A.handled = none) (ih : ∀ t e d, IsE gn κ t e → f t = some d → EvOK prog w K mg mb A κ env ρ e d)
    {rng : Bool} {as : List T} {e : Expr} {ds : List D} (he : IsI gn κ rng as e) (hi : itemsOf f rng as = some ds) : ItOK prog w K mg mb A κ env ρ e ds := by
  intro X s Q E T hX hρ hQ
  cases he with
  | list he =>
    rw [itemsOf] at hi
    split at hi
    · rename_i l hl
      rw [cond_eq_ite] at hi
      split at hi
      · rename_i hlen
        cases hi
        refine ih _ _ _ he hl X s _ E T hX hρ fun v h' tk k hv => ?_
        obtain ⟨a, vs, n, rfl, g, d⟩ := hv.isR.ex
        have hxa : ¬ X a := by cases hv with | seq hx _ _ => exact hx
        have hlt : a < h'.objs.size := Heap.lt_size g
        have hll := isList_of g
        refine wpAny_pyIter_list hll ?_
        refine hQ h'.objs.size [h'.objs.size, a] (fun i v => vs.toArray[i]? = some v) (fun i h => h.IsListIter h'.objs.size a i ∧ h.IsList a vs.toArray) h' _ tk k ⟨?_, ?_, kp_push _ _, fresh_none _, ?_, ?_, ?_⟩
        · have hsz : vs.toArray.size = ds.length := by rw [List.size_toArray, d.length]
          rw [← hsz]
          exact Walks.list hh h'.objs.size a (Nat.ne_of_lt hlt) vs.toArray
        · exact ⟨⟨_, Heap.get?_push_size _ rfl, rfl, rfl⟩, hll.push _⟩
        · intro i g' st
          obtain ⟨o, e1, e2, e3⟩ := st.1
          exact ⟨o, e1, fun t vs n q => by
            rw [q] at e2
            have h := Value.type.inj e2
            cases t <;> exact absurd h (by decide)⟩
        · intro b hb
          rcases List.mem_cons.mp hb with rfl | hb
          · exact .inl rfl
          · rw [List.mem_singleton.mp hb]; exact .inr ⟨vs, n, hxa, g⟩
        · intro i v d' hv' hd'
          obtain ⟨v2, h1, h2⟩ := d.at hd'
          have : v = v2 := by
            have hv'' : vs[i]? = some v := by simpa using hv'
            rw [h1] at hv''; cases hv''; rfl
          exact this ▸ h2
      · cases hi
    · cases hi
  | range hk h1 h2 =>
    rename_i a ts a' es pf p
    refine Call_ (name_built hEnv T hk G.rng (PyProof.Rows.callWith_type1 ?_ (h1.star _ _) ?_))
    · have step : ∀ ns : List Int, mapO f (a :: ts) = some (ns.map D.int) → (∀ (vs : List Value) (h' : Heap) (tk : Nat), Kp s.heap h' → AllD X h' vs (ns.map D.int) → wpAny (model prog w) A (call (.type "range") vs) (fun xv s₁ => wpAny (model prog w) A (pyIter xv) Q E s₁) E { s with heap := h', toks := tk }) →
          wpAny (model prog w) A (spliced (backTo p (starEach (a' :: es) env))) (fun vs s₁ => wpAny (model prog w) A (call (.type "range") vs) (fun xv s₁ => wpAny (model prog w) A (pyIter xv) Q E s₁) E s₁) E s :=
        fun ns hm h => evs_ok ih p _ _ _ X s _ E (.cons h1 h2) hm T hX hρ h
      cases ts with
      | nil =>
        rw [itemsOf] at hi
        split at hi
        · rename_i b hb
          refine step [b] (by simp [mapO, hb]) fun vs h' tk k hv => ?_
          cases hv with
          | cons q1 q2 =>
            cases q2; cases q1
            refine call_range_1 ?_
            exact range_it (s₀ := s) hh hi (k.tr (kp_push _ _)) (IsRange.new ..) rfl hQ
        · cases hi
      | cons t1 ts =>
        cases ts with
        | nil =>
          rw [itemsOf] at hi
          split at hi
          · rename_i i hb
            split at hi
            · rename_i j hb2
              refine step [i, j] (by simp [mapO, hb, hb2]) fun vs h' tk k hv => ?_
              cases hv with
              | cons q1 q2 =>
                cases q2 with
                | cons q2 q3 =>
                  cases q3; cases q1; cases q2
                  refine call_range_2 ?_
                  exact range_it (s₀ := s) hh hi (k.tr (kp_push _ _)) (IsRange.new ..) rfl hQ
            · cases hi
          · cases hi
        | cons t2 ts =>
          cases ts with
          | nil =>
            rw [itemsOf] at hi
            split at hi
            · rename_i i hb
              split at hi
              · rename_i j hb2
                split at hi
                · rename_i l hb3
                  refine step [i, j, l] (by simp [mapO, hb, hb2, hb3]) fun vs h' tk k hv => ?_
                  cases hv with
                  | cons q1 q2 =>
                    cases q2 with
                    | cons q2 q3 =>
                      cases q3 with
                      | cons q3 q4 =>
                        cases q4; cases q1; cases q2; cases q3
                        have hc := hi
                        unfold rangeL at hc
                        rw [cond_eq_ite] at hc
                        split at hc
                        · rename_i hc'
                          simp only [Bool.and_eq_true] at hc'
                          obtain ⟨⟨⟨c0, c1⟩, c2⟩, c3⟩ := hc'
                          refine call_range_3 (by simpa using c0) ?_ (Or.inl (PyProof.noPylong_small (of_decide_eq_true c1)))
                          exact range_it (s₀ := s) hh hi (k.tr (kp_push _ _)) (IsRange.new ..) rfl hQ
                        · cases hc
                · cases hi
              · cases hi
            · cases hi
          | cons => simp [itemsOf] at hi
    · have any : ∀ (ts : List Mine.T) (es : List Expr), IsEs gn κ ts es → (backTo p (starEach es env)).any (·.1) = false := by
        intro ts
        induction ts with
        | nil => intro es h; cases h; rfl
        | cons t ts ih2 =>
          intro es h
          cases h with
          | cons q r => rw [q.star]; exact ih2 _ r
      exact any _ _ h2
end

theorem getE_eq : ∀ (l : List Ent) (n : Nat), getE l n = l[n]?
  | [], _ => by simp [getE]
  | a :: _, 0 => by simp [getE]
  | _ :: r, n + 1 => by simp [getE, getE_eq r n]

section
variable {prog : Program} {w : World} {K : Frag} {mg mb : Str → Option Value} {gn : List Str} {gl : List D} {Φ : Addr → List D → Option D} {A : Around} {k : Nat}

theorem EvOK.test {κ : Kx} {env : Env} {ρ : List Ent} {e : Expr} {b : Bool} (h : EvOK prog w K mg mb A κ env ρ e (.bool b)) (he : ∀ whole, isTrue e env whole = (do let v ← whole; standAt e.pos; holding [v] (truthy v))) : TsOK prog w K mg mb A κ env ρ e b := by
  intro X s Q E T hX hρ hQ
  refine isTrue_plain (h X s _ E T hX hρ fun v h' tk k hv => ?_) (he _)
  cases hv
  exact wpAny_truthy_bool (hQ h' tk k)

theorem evR_ok {κ : Kx} {env : Env} {ρ : List Ent} {f : Mine.T → Option D} (hEnv : EnvK κ env) (ih : ∀ t e d, IsE gn κ t e → f t = some d → EvOK prog w K mg mb A κ env ρ e d) {t : Mine.T} {e : Expr} {d : D} (he : IsE gn κ t e) (hd : evR f ρ t = some d)
    {X : Addr → Prop} {s : Shared} {Q : Value → Shared → Prop} {E : Value → Shared → Prop} (T : Top' K mg mb s.heap) (hX : XOk K X s.heap) (hρ : EnvOK κ env X s.heap ρ)
    (hQ : ∀ v h' tk, Kp s.heap h' → IsV X h' v d → Q v { s with heap := h', toks := tk }) : wpAny (model prog w) A (eval e env) Q E s := by
  have plain : f t = some d → wpAny (model prog w) A (eval e env) Q E s := fun hd => ih _ _ _ he hd X s Q E T hX hρ fun v h' tk k hv => hQ v h' tk k (.inl hv)
  have var : ∀ {x : Nat}, t = .var x → wpAny (model prog w) A (eval e env) Q E s := by
    rintro x rfl
    rw [evR] at hd
    cases he with
    | var hn =>
      split at hd
      · rename_i d' hx
        cases hd
        rw [getE_eq] at hx
        obtain ⟨v, n, h1, h2, h3⟩ := hρ _ _ hx
        rw [hn] at h1; cases h1
        exact h3.name hEnv.kind (hEnv.ok _ (List.mem_of_getElem? hn)) (hQ v s.heap s.toks (Kp.rfl' _) (.inl h2))
      · rename_i l hx
        cases hd
        rw [getE_eq] at hx
        obtain ⟨a, vs, q, n, h1, h2, h3, h4, h5⟩ := hρ _ _ hx
        rw [hn] at h1; cases h1
        exact h2.name hEnv.kind (hEnv.ok _ (List.mem_of_getElem? hn)) (hQ _ s.heap s.toks (Kp.rfl' _) (.inr ⟨l, rfl, ⟨a, vs, q, rfl, h4, h5⟩⟩))
      · cases hd
  cases t with
  | var x => exact var rfl
  | _ => exact plain hd

theorem addr_fn {X : Addr → Prop} {h : Heap} {v : Value} {a : Addr} (x : IsD X h v (.fn a)) : v = .ref a := by cases x; rfl

theorem call_ok {κ : Kx} {env : Env} {ρ : List Ent} {f : Mine.T → Option D} (hA : AOK A k) (hΦ : ∀ a args d, Φ a args = some d → Contract prog w K mg mb k a args d) (ih : ∀ t e d, IsE gn κ t e → f t = some d → EvOK prog w K mg mb A κ env ρ e d)
    {tf t : Mine.T} {ts : List Mine.T} {n : Str} {pf p : Pos} {e' : Expr} {es' : List Expr} {a : Addr} {ds : List D} {d : D} (h1 : IsE gn κ tf (.Name n pf)) (h2 : IsE gn κ t e') (h3 : IsEs gn κ ts es') (hf : f tf = some (.fn a)) (hm : mapO f (t :: ts) = some ds) (hd : Φ a ds = some d) :
    EvOK prog w K mg mb A κ env ρ (.Call (.Name n pf) (e' :: es') [] p) d := by
  intro X s Q E T hX hρ hQ
  obtain ⟨⟨o, fd, ho, hfd⟩, hc⟩ := hΦ _ _ _ hd
  refine Call_ (ih _ _ _ h1 hf X s _ E T hX hρ fun v h' tk kk hv => ?_)
  rw [addr_fn hv]
  refine callWith_def (o := o) (fd := fd) hfd (evs_ok ih p _ _ _ X _ _ E (.cons h2 h3) hm (T.kp kk) (hX.kp kk) (hρ.kp kk) fun vs h'' tk' k' hvs => ?_) (h2.star _ _)
  have k2 : Kp s.heap h'' := kk.tr k'
  refine ⟨(T.kp k2).k _ _ ho, ?_⟩
  exact hc A X _ Q E vs hA (T.kp k2) (hX.kp k2) hvs fun v' h₃ tk₃ k₃ hv' => hQ v' h₃ tk₃ (k2.tr k₃) hv'

theorem asB_some {o : Option D} {b : Bool} (h : asB o = some b) : o = some (.bool b) := by
  unfold asB at h
  split at h
  · cases h; rfl
  · cases h
theorem rangeL_len {a b c : Int} {ds : List D} (h : rangeL a b c = some ds) : ds.length ≤ 10000 := by
  unfold rangeL at h
  rw [cond_eq_ite] at h
  split at h
  · rename_i hc
    cases h
    rw [rgo_length]
    exact of_decide_eq_true (Bool.and_eq_true_iff.mp hc).2
  · cases h
theorem items_len {f : Mine.T → Option D} {rng : Bool} {as : List Mine.T} {ds : List D} (h : itemsOf f rng as = some ds) : ds.length ≤ 10000 := by
  unfold itemsOf at h
  split at h
  · split at h
    · rw [cond_eq_ite] at h
      split at h
      · rename_i hc; cases h; exact of_decide_eq_true hc
      · cases h
    · cases h
  · split at h
    · exact rangeL_len h
    · cases h
  · split at h
    · split at h
      · exact rangeL_len h
      · cases h
    · cases h
  · split at h
    · split at h
      · split at h
        · exact rangeL_len h
        · cases h
      · cases h
    · cases h
  · cases h

set_option maxHeartbeats 4000000 in
theorem ev_sound (G : GOk K mg mb gn gl) (hΦ : ∀ a args d, Φ a args = some d → Contract prog w K mg mb k a args d) (hA : AOK A k) : ∀ n,
    (∀ κ env ρ t e d, EnvK κ env → IsE gn κ t e → ev Φ gl n ρ t = some d → EvOK prog w K mg mb A κ env ρ e d) ∧
    (∀ κ env ρ t e b, EnvK κ env → IsE gn κ t e → ev Φ gl n ρ t = some (.bool b) → TsOK prog w K mg mb A κ env ρ e b) := by
  have hu : A.units + 72 < cLine := by have := hA.un; omega
  intro n
  induction n with
  | zero => exact ⟨fun _ _ _ _ _ _ _ _ h => (nomatch h), fun _ _ _ _ _ _ _ _ h => (nomatch h)⟩
  | succ n ih =>
    obtain ⟨ih1, ih2⟩ := ih
    have first : ∀ κ env ρ t e d, EnvK κ env → IsE gn κ t e → ev Φ gl (n + 1) ρ t = some d → EvOK prog w K mg mb A κ env ρ e d := by
      intro κ env ρ t e d hEnv he hd
      rw [ev_succ] at hd
      have ihe : ∀ t e d, IsE gn κ t e → ev Φ gl n ρ t = some d → EvOK prog w K mg mb A κ env ρ e d := fun t e d a b => ih1 κ env ρ t e d hEnv a b
      have iht : ∀ t e b, IsE gn κ t e → ev Φ gl n ρ t = some (.bool b) → TsOK prog w K mg mb A κ env ρ e b := fun t e d a b => ih2 κ env ρ t e d hEnv a b
      cases he with
      | int =>
        cases hd
        intro X s Q E T hX hρ hQ
        exact wpAny_Constant_int (hQ _ s.heap _ (Kp.rfl' _) (.int _ _))
      | neg =>
        cases hd
        intro X s Q E T hX hρ hQ
        exact UnaryOp_ (wpAny_Constant_int (PyProof.Rows.neg_int (hQ _ s.heap _ (Kp.rfl' _) (.int _ _))))
      | bool =>
        cases hd
        intro X s Q E T hX hρ hQ
        exact Constant_bool (hQ _ s.heap _ (Kp.rfl' _) (.bool _))
      | var hn =>
        intro X s Q E T hX hρ hQ
        (delta evStep at hd; dsimp only at hd)
        split at hd
        · rename_i d' hx
          cases hd
          rw [getE_eq] at hx
          obtain ⟨v, n, h1, h2, h3⟩ := hρ _ _ hx
          rw [hn] at h1; cases h1
          exact h3.name hEnv.kind (hEnv.ok _ (List.mem_of_getElem? hn)) (hQ v s.heap s.toks (Kp.rfl' _) h2)
        · cases hd
      | glob h1 h2 =>
        intro X s Q E T hX hρ hQ
        exact name_glob G hEnv T hX h1 h2 hd fun v hv => hQ v s.heap s.toks (Kp.rfl' _) hv
      | bin h1 h2 =>
        (delta evStep at hd; dsimp only at hd)
        split at hd
        · rename_i a ha
          split at hd
          · rename_i b hb
            intro X s Q E T hX hρ hQ
            refine wpAny_BinOp (ihe _ _ _ h1 ha X s _ E T hX hρ fun va h' tk kk hva => ?_)
            refine ihe _ _ _ h2 hb X _ _ E (T.kp kk) (hX.kp kk) (hρ.kp kk) fun vb h'' tk' k' hvb => ?_
            have k2 := kk.tr k'
            exact bin_ok (hX.kp k2) (hva.kp k') hvb hd fun v h₃ tk₃ k₃ hv => hQ v h₃ tk₃ (k2.tr k₃) hv
          · cases hd
        · cases hd
      | cmp h1 h2 =>
        (delta evStep at hd; dsimp only at hd)
        split at hd
        · rename_i a ha
          split at hd
          · rename_i b hb
            split at hd
            · rename_i c hc
              cases hd
              intro X s Q E T hX hρ hQ
              refine wpAny_Compare1 (ihe _ _ _ h1 ha X s _ E T hX hρ fun va h' tk kk hva => ?_) (h2.marks _)
              refine evR_ok hEnv ihe h2 hb (T.kp kk) (hX.kp kk) (hρ.kp kk) fun vb h'' tk' k' hvb => ?_
              exact cmp_ok hu (hva.kp k') hvb hc (hQ _ h'' tk' (kk.tr k') (.bool _))
            · cases hd
          · cases hd
        · cases hd
      | and2 h1 h2 =>
        (delta evStep at hd; dsimp only at hd)
        split at hd
        · rename_i ha
          split at hd
          · rename_i b hb
            cases hd
            intro X s Q E T hX hρ hQ
            refine BoolOp_and (ihe _ _ _ h1 ha X s _ E T hX hρ fun va h' tk kk hva => ?_)
            cases hva
            refine wpAny_truthy_bool ?_
            rw [if_pos rfl]
            refine BoolOp_one (ihe _ _ _ h2 hb X _ _ E (T.kp kk) (hX.kp kk) (hρ.kp kk) fun vb h'' tk' k' hvb => ?_)
            exact hQ _ h'' tk' (kk.tr k') hvb
          · cases hd
        · rename_i ha
          cases hd
          intro X s Q E T hX hρ hQ
          refine BoolOp_and (ihe _ _ _ h1 ha X s _ E T hX hρ fun va h' tk kk hva => ?_)
          cases hva
          refine wpAny_truthy_bool ?_
          rw [if_neg Bool.false_ne_true]
          exact hQ _ h' tk kk (.bool _)
        · cases hd
      | or2 h1 h2 =>
        (delta evStep at hd; dsimp only at hd)
        split at hd
        · rename_i ha
          cases hd
          intro X s Q E T hX hρ hQ
          refine BoolOp_or (ihe _ _ _ h1 ha X s _ E T hX hρ fun va h' tk kk hva => ?_)
          cases hva
          refine wpAny_truthy_bool ?_
          rw [if_pos rfl]
          exact hQ _ h' tk kk (.bool _)
        · rename_i ha
          split at hd
          · rename_i b hb
            cases hd
            intro X s Q E T hX hρ hQ
            refine BoolOp_or (ihe _ _ _ h1 ha X s _ E T hX hρ fun va h' tk kk hva => ?_)
            cases hva
            refine wpAny_truthy_bool ?_
            rw [if_neg Bool.false_ne_true]
            refine BoolOp_one (ihe _ _ _ h2 hb X _ _ E (T.kp kk) (hX.kp kk) (hρ.kp kk) fun vb h'' tk' k' hvb => ?_)
            exact hQ _ h'' tk' (kk.tr k') hvb
          · cases hd
        · cases hd
      | ite h1 h2 h3 =>
        (delta evStep at hd; dsimp only at hd)
        split at hd
        · rename_i ha
          intro X s Q E T hX hρ hQ
          refine IfExp_ (iht _ _ _ h1 ha X s _ E T hX hρ fun h' tk kk => ?_)
          rw [if_pos rfl]
          exact ihe _ _ _ h2 hd X _ _ E (T.kp kk) (hX.kp kk) (hρ.kp kk) fun vb h'' tk' k' hvb => hQ _ h'' tk' (kk.tr k') hvb
        · rename_i ha
          intro X s Q E T hX hρ hQ
          refine IfExp_ (iht _ _ _ h1 ha X s _ E T hX hρ fun h' tk kk => ?_)
          rw [if_neg Bool.false_ne_true]
          exact ihe _ _ _ h3 hd X _ _ E (T.kp kk) (hX.kp kk) (hρ.kp kk) fun vb h'' tk' k' hvb => hQ _ h'' tk' (kk.tr k') hvb
        · cases hd
      | sub h1 h2 =>
        (delta evStep at hd; dsimp only at hd)
        split at hd
        · rename_i t l ha
          split at hd
          · rename_i i hi
            rw [cond_eq_ite] at hd
            split at hd
            · rename_i hc
              obtain ⟨c1, c2⟩ := Bool.and_eq_true_iff.mp hc
              intro X s Q E T hX hρ hQ
              refine Subscript_ (evR_ok hEnv ihe h1 ha T hX hρ fun va h' tk kk hva => ?_)
              refine ihe _ _ _ h2 hi X _ _ E (T.kp kk) (hX.kp kk) (hρ.kp kk) fun vb h'' tk' k' hvb => ?_
              cases hvb
              exact sub_ok (hva.isR.kp k') (of_decide_eq_true c1) c2 hd (fun o i => h2.noSlice o i) fun x hx => hQ x h'' tk' (kk.tr k') hx
            · cases hd
          · cases hd
        · cases hd
      | upto h1 h2 =>
        (delta evStep at hd; dsimp only at hd)
        split at hd
        · rename_i l ha
          split at hd
          · rename_i i hi
            rw [cond_eq_ite] at hd
            split at hd
            · rename_i hc
              cases hd
              simp only [Bool.and_eq_true] at hc
              obtain ⟨⟨c1, c2⟩, c3⟩ := hc
              intro X s Q E T hX hρ hQ
              refine Subscript_ (ihe _ _ _ h1 ha X s _ E T hX hρ fun va h' tk kk hva => ?_)
              refine wpAny_Slice ?_
              rw [evalPart_none]
              refine wpAny_pure ?_
              rw [evalPart_some]
              refine ihe _ _ _ h2 hi X _ _ E (T.kp kk) (hX.kp kk) (hρ.kp kk) fun vb h'' tk' k' hvb => ?_
              refine wpAny_pure ?_
              cases hvb
              rename_i tk2
              obtain ⟨a, vs, q, rfl, g, dd⟩ := (hva.kp k').isR.ex
              have hlen := dd.length
              have h0 : 0 ≤ i := of_decide_eq_true c1
              have hle : i ≤ (l.length : Int) := of_decide_eq_true c2
              refine slice_listK (isList_of g) .none (.int i tk2) ?_ (by rfl) (by intro _; rfl) (by rw [List.size_toArray, hlen]; exact len_of (of_decide_eq_true c3))
              have e2 : i = (i.toNat : Int) := by omega
              have e3 : slicePick vs.toArray none (some i) none = (vs.take i.toNat).toArray := by
                have h9 := slicePick_upto vs.toArray i.toNat (by rw [List.size_toArray, hlen]; omega)
                rw [← e2] at h9
                exact h9
              rw [e3]
              have k3 : Kp h'' ((h''.push { cls := .type "slice", data := .fields #[.none, .int i tk2, .none] }).push { cls := .type "list", data := .seq (vs.take i.toNat).toArray }) := (kp_push _ _).tr (kp_push _ _)
              have hsz : (h''.push { cls := .type "slice", data := .fields #[.none, .int i tk2, .none] }).objs.size = h''.objs.size + 1 := Heap.size_push ..
              refine hQ _ _ tk' ((kk.tr k').tr k3) (.seq (n := 0) ((hX.kp (kk.tr k')).fresh (none_ge (Nat.le_succ _))) ?_ ((dd.take _).kp k3))
              have := Heap.get?_push_size (h''.push { cls := .type "slice", data := .fields #[.none, .int i tk2, .none] }) (o := { cls := .type "list", data := .seq (vs.take i.toNat).toArray }) rfl
              rw [hsz] at this
              exact this
            · cases hd
          · cases hd
        · cases hd
      | tup h1 =>
        (delta evStep at hd; dsimp only at hd)
        split at hd
        · rename_i ds hds
          rw [cond_eq_ite] at hd
          split at hd
          · rename_i hc
            cases hd
            intro X s Q E T hX hρ hQ
            refine Tuple_ (evs_ok ihe _ _ _ _ X s _ E h1 hds T hX hρ fun vs h' tk kk hvs => ?_)
            refine wpAny_newObj_type ?_ (by show vs.toArray.size ≤ sizeLine; rw [List.size_toArray, hvs.length]; exact len_of (of_decide_eq_true hc))
            exact hQ _ (h'.push _) tk (kk.tr (kp_push _ _)) (.seq (n := 0) ((hX.kp kk).fresh (fresh_none _)) (Heap.get?_push_size _ rfl) (hvs.kp (kp_push _ _)))
          · cases hd
        · cases hd
      | lst h1 =>
        (delta evStep at hd; dsimp only at hd)
        split at hd
        · rename_i ds hds
          rw [cond_eq_ite] at hd
          split at hd
          · rename_i hc
            cases hd
            intro X s Q E T hX hρ hQ
            refine List_ (evs_ok ihe _ _ _ _ X s _ E h1 hds T hX hρ fun vs h' tk kk hvs => ?_)
            refine wpAny_newObj_type ?_ (by show vs.toArray.size ≤ sizeLine; rw [List.size_toArray, hvs.length]; exact len_of (of_decide_eq_true hc))
            exact hQ _ (h'.push _) tk (kk.tr (kp_push _ _)) (.seq (n := 0) ((hX.kp kk).fresh (fresh_none _)) (Heap.get?_push_size _ rfl) (hvs.kp (kp_push _ _)))
          · cases hd
        · cases hd
      | call h1 h2 h3 =>
        (delta evStep at hd; dsimp only at hd)
        split at hd
        · rename_i a ha
          split at hd
          · rename_i ds hds
            exact call_ok hA hΦ ihe h1 h2 h3 ha hds hd
          · cases hd
        · cases hd
      | len hk h1 =>
        (delta evStep at hd; dsimp only at hd)
        split at hd
        · rename_i l ha
          rw [cond_eq_ite] at hd
          split at hd
          · rename_i hc
            cases hd
            intro X s Q E T hX hρ hQ
            refine Call_ (name_built hEnv T hk G.len (PyProof.Rows.callWith_builtin1 (args_cons ?_ (h1.star _ _)) (h1.star _ _) (by rfl)))
            refine evR_ok hEnv ihe h1 ha T hX hρ fun va h' tk kk hva => ?_
            refine args_nil ?_
            obtain ⟨a, vs, q, rfl, g, dd⟩ := hva.isR.ex
            have hlen := dd.length
            have hc' : l.length ≤ 10000 := of_decide_eq_true hc
            refine PyProof.Rows.len_list (isList_of g) (by rw [List.size_toArray, hlen]; omega) ?_
            rw [List.size_toArray, hlen]
            exact hQ _ h' _ kk (.int _ _)
          · cases hd
        · cases hd
      | max hk h1 =>
        (delta evStep at hd; dsimp only at hd)
        split at hd
        · rename_i l ha
          split at hd
          · rename_i a r hr
            cases hd
            intro X s Q E T hX hρ hQ
            refine Call_ (name_built hEnv T hk G.max (PyProof.Rows.callWith_builtin1 (args_cons ?_ (h1.star _ _)) (h1.star _ _) (by rfl)))
            refine ihe _ _ _ h1 ha X s _ E T hX hρ fun va h' tk kk hva => ?_
            refine args_nil ?_
            exact max_ok hA.hd hva hr fun v h'' tk' k' hv => hQ v h'' tk' (kk.tr k') hv
          · cases hd
        · cases hd
      | comp hn hi hsc ht hm hf h1 =>
        (delta evStep at hd; dsimp only at hd)
        split at hd
        · rename_i ds hds
          split at hd
          · rename_i ys hys
            cases hd
            refine comp_core hEnv hn hsc ht hm hf (fun v => hi.folded env v) ?_ (items_ok G hEnv hA.hd ihe hi hds) (fun env' d b hE hb => ?_) (fun env' d y hE hy => ih1 _ env' _ _ _ _ hE h1 hy) hys
            · exact items_len hds
            · cases hb
              intro X s Q E T hX hρ hQ
              exact wpAny_tests_nil (hQ s.heap s.toks (Kp.rfl' _))
          · cases hd
        · cases hd
      | compIf hn hi hsc ht hm hf h1 h2 =>
        (delta evStep at hd; dsimp only at hd)
        split at hd
        · rename_i ds hds
          split at hd
          · rename_i ys hys
            cases hd
            refine comp_core hEnv hn hsc ht hm hf (fun v => hi.folded env v) ?_ (items_ok G hEnv hA.hd ihe hi hds) (fun env' d b hE hb => ?_) (fun env' d y hE hy => ih1 _ env' _ _ _ _ hE h1 hy) hys
            · exact items_len hds
            · have hb' : ev Φ gl n _ _ = some (.bool b) := asB_some hb
              intro X s Q E T hX hρ hQ
              exact wpAny_tests_one (ih2 _ env' _ _ _ _ hE h2 hb' X s Q E T hX hρ hQ)
          · cases hd
        · cases hd
    refine ⟨first, ?_⟩
    intro κ env ρ t e b hEnv he hd
    have plain : (∀ whole, isTrue e env whole = (do let v ← whole; standAt e.pos; holding [v] (truthy v))) → TsOK prog w K mg mb A κ env ρ e b := fun h => (first κ env ρ t e _ hEnv he hd).test h
    rw [ev_succ] at hd
    have ihe : ∀ t e d, IsE gn κ t e → ev Φ gl n ρ t = some d → EvOK prog w K mg mb A κ env ρ e d := fun t e d a b => ih1 κ env ρ t e d hEnv a b
    have iht : ∀ t e b, IsE gn κ t e → ev Φ gl n ρ t = some (.bool b) → TsOK prog w K mg mb A κ env ρ e b := fun t e d a b => ih2 κ env ρ t e d hEnv a b
    cases he with
    | cmp h1 h2 =>
      (delta evStep at hd; dsimp only at hd)
      split at hd
      · rename_i a ha
        split at hd
        · rename_i b hb
          split at hd
          · rename_i c hc
            cases hd
            intro X s Q E T hX hρ hQ
            refine wpAny_isTrue_Compare1 (ihe _ _ _ h1 ha X s _ E T hX hρ fun va h' tk kk hva => ?_) (h2.marks _)
            refine evR_ok hEnv ihe h2 hb (T.kp kk) (hX.kp kk) (hρ.kp kk) fun vb h'' tk' k' hvb => ?_
            exact cmp_ok hu (hva.kp k') hvb hc (wpAny_truthy_bool (hQ h'' tk' (kk.tr k')))
          · cases hd
        · cases hd
      · cases hd
    | and2 h1 h2 =>
      (delta evStep at hd; dsimp only at hd)
      split at hd
      · rename_i ha
        split at hd
        · rename_i b hb
          cases hd
          intro X s Q E T hX hρ hQ
          refine isTrue_and (iht _ _ _ h1 ha X s _ E T hX hρ fun h' tk kk => ?_)
          rw [if_pos rfl]
          refine isTrue_and (iht _ _ _ h2 hb X _ _ E (T.kp kk) (hX.kp kk) (hρ.kp kk) fun h'' tk' k' => ?_)
          cases b with
          | true => rw [if_pos rfl]; exact isTrue_and_nil (hQ h'' tk' (kk.tr k'))
          | false => rw [if_neg Bool.false_ne_true]; exact hQ h'' tk' (kk.tr k')
        · cases hd
      · rename_i ha
        cases hd
        intro X s Q E T hX hρ hQ
        refine isTrue_and (iht _ _ _ h1 ha X s _ E T hX hρ fun h' tk kk => ?_)
        rw [if_neg Bool.false_ne_true]
        exact hQ h' tk kk
      · cases hd
    | or2 h1 h2 =>
      (delta evStep at hd; dsimp only at hd)
      split at hd
      · rename_i ha
        cases hd
        intro X s Q E T hX hρ hQ
        refine isTrue_or (iht _ _ _ h1 ha X s _ E T hX hρ fun h' tk kk => ?_)
        rw [if_pos rfl]
        exact hQ h' tk kk
      · rename_i ha
        split at hd
        · rename_i b hb
          cases hd
          intro X s Q E T hX hρ hQ
          refine isTrue_or (iht _ _ _ h1 ha X s _ E T hX hρ fun h' tk kk => ?_)
          rw [if_neg Bool.false_ne_true]
          refine isTrue_or (iht _ _ _ h2 hb X _ _ E (T.kp kk) (hX.kp kk) (hρ.kp kk) fun h'' tk' k' => ?_)
          cases b with
          | true => rw [if_pos rfl]; exact hQ h'' tk' (kk.tr k')
          | false => rw [if_neg Bool.false_ne_true]; exact isTrue_or_nil (hQ h'' tk' (kk.tr k'))
        · cases hd
      · cases hd
    | ite h1 h2 h3 =>
      (delta evStep at hd; dsimp only at hd)
      split at hd
      · rename_i ha
        intro X s Q E T hX hρ hQ
        refine isTrue_IfExp (iht _ _ _ h1 ha X s _ E T hX hρ fun h' tk kk => ?_)
        rw [if_pos rfl]
        exact iht _ _ _ h2 hd X _ _ E (T.kp kk) (hX.kp kk) (hρ.kp kk) fun h'' tk' k' => hQ h'' tk' (kk.tr k')
      · rename_i ha
        intro X s Q E T hX hρ hQ
        refine isTrue_IfExp (iht _ _ _ h1 ha X s _ E T hX hρ fun h' tk kk => ?_)
        rw [if_neg Bool.false_ne_true]
        exact iht _ _ _ h3 hd X _ _ E (T.kp kk) (hX.kp kk) (hρ.kp kk) fun h'' tk' k' => hQ h'' tk' (kk.tr k')
      · cases hd
    | _ => exact plain fun _ => rfl
end

/-! ## statements -/
inductive Rh where
  | val (t : T)
  | nil
  | rep (i : Int) (t : T)
inductive S where
  | asg (x : Nat) (r : Rh)
  | tup (sw : Bool) (xs : List Nat) (rs : List Rh)
  | setI (x : Nat) (i v : T)
  | aug (x : Nat) (op : Operator) (t : T)
  | app (x : Nat) (t : T)
  | ext (x : Nat) (t : T)
  | iff (c : T) (a b : List S)
  | whl (c : T) (b : List S)
  | for1 (x : Nat) (rng : Bool) (as : List T) (b : List S)
  | for2 (x y : Nat) (t : T) (b : List S)
  | ret (t : T)
  | fail

mutual
/-- the names that may come to be held by what the term yields -/
noncomputable def escV : T → List Nat
  | .var x => [x]
  | .ite _ a b => escV a ++ escV b
  | .disp _ es => escVs es
  | .call _ as => escVs as
  | .cmp _ l r => escC l ++ escC r
  | .or2 l r => escV l ++ escV r
  | _ => []
noncomputable def escC : T → List Nat
  | .call _ as => escVs as
  | _ => []
noncomputable def escVs : List T → List Nat
  | [] => []
  | t :: r => escV t ++ escVs r
end
noncomputable def escR : Rh → List Nat
  | .val t => escV t
  | _ => []
noncomputable def escRs : List Rh → List Nat
  | [] => []
  | t :: r => escR t ++ escRs r
noncomputable def frz : List Nat → List Ent → List Ent
  | [], ρ => ρ
  | i :: r, ρ => frz r (match getE ρ i with
    | some (.own l) => setE ρ i (.val (.seq false l))
    | _ => ρ)
noncomputable def repl (d : D) : Nat → List D
  | 0 => []
  | n + 1 => d :: repl d n
noncomputable def setL : List D → Nat → D → List D
  | [], _, _ => []
  | _ :: r, 0, d => d :: r
  | a :: r, n + 1, d => a :: setL r n d
abbrev Out := Option (List Ent × Option D)
noncomputable def evRh (e : List Ent → T → Option D) (ρ : List Ent) : Rh → Option Ent
  | .val t => match e ρ t with
    | some d => some (.val d)
    | none => none
  | .nil => some (.own [])
  | .rep i t => match e ρ t with
    | some (.int n) => cond (small n && decide (n.toNat ≤ 10000)) (some (.own (repl (.int i) n.toNat))) none
    | _ => none
noncomputable def setAll : List Nat → List Ent → List Ent → List Ent
  | x :: xs, a :: as, ρ => setAll xs as (setE ρ x a)
  | _, _, ρ => ρ
noncomputable def fgo (run : List Ent → Out) (x : Nat) : List D → List Ent → Out
  | [], ρ => some (ρ, none)
  | d :: ds, ρ => match run (setE ρ x (.val d)) with
    | some (ρ', none) => fgo run x ds ρ'
    | some (ρ', some r) => some (ρ', some r)
    | none => none
noncomputable def fgo2 (run : List Ent → Out) (x y : Nat) : Nat → List D → List Ent → Out
  | _, [], ρ => some (ρ, none)
  | i, d :: ds, ρ => match run (setE (setE ρ x (.val (.int i))) y (.val d)) with
    | some (ρ', none) => fgo2 run x y (i + 1) ds ρ'
    | some (ρ', some r) => some (ρ', some r)
    | none => none
noncomputable def wgo (test : List Ent → Option Bool) (run : List Ent → Out) : Nat → List Ent → Out
  | 0, _ => none
  | n + 1, ρ => match test ρ with
    | some true => match run ρ with
      | some (ρ', none) => wgo test run n ρ'
      | some (ρ', some r) => some (ρ', some r)
      | none => none
    | some false => some (ρ, none)
    | none => none
noncomputable def exsGo (one : List Ent → S → Out) : List S → List Ent → Out
  | [], ρ => some (ρ, none)
  | s :: r, ρ => match one ρ s with
    | some (ρ', none) => exsGo one r ρ'
    | some (ρ', some d) => some (ρ', some d)
    | none => none
noncomputable def augOk : Operator → Bool
  | .Add => true
  | .Sub => true
  | .RShift => true
  | _ => false
noncomputable def exStep (e : List Ent → T → Option D) (ih : List Ent → List S → Out) (ρ : List Ent) : S → Out
  | .asg x r => match evRh e (frz (escR r) ρ) r with
    | some a => some (setE (frz (escR r) ρ) x a, none)
    | none => none
  | .tup sw xs rs => match mapO (evRh e (frz (escRs rs) ρ)) rs with
    | some as => some (cond sw (setAll xs.reverse as.reverse (frz (escRs rs) ρ)) (setAll xs as (frz (escRs rs) ρ)), none)
    | none => none
  | .setI x i v => match e (frz (escV v) ρ) v with
    | some d => match e (frz (escV v) ρ) i with
      | some (.int k) => match getE (frz (escV v) ρ) x with
        | some (.own l) => cond (decide (0 ≤ k) && decide (k < (l.length : Int)) && small k) (some (setE (frz (escV v) ρ) x (.own (setL l k.toNat d)), none)) none
        | _ => none
      | _ => none
    | none => none
  | .aug x op t => match getE ρ x with
    | some (.val (.int a)) => match e ρ t with
      | some (.int b) => match binI op a b with
        | some c => some (setE ρ x (.val (.int c)), none)
        | none => none
      | _ => none
    | _ => none
  | .app x t => match e (frz (escV t) ρ) t with
    | some d => match getE (frz (escV t) ρ) x with
      | some (.own l) => cond (decide (l.length ≤ 10000)) (some (setE (frz (escV t) ρ) x (.own (l ++ [d])), none)) none
      | _ => none
    | none => none
  | .ext x t => match e (frz (escV t) ρ) t with
    | some (.seq false m) => match getE (frz (escV t) ρ) x with
      | some (.own l) => cond (decide (l.length + m.length ≤ 10000)) (some (setE (frz (escV t) ρ) x (.own (l ++ m)), none)) none
      | _ => none
    | _ => none
  | .iff c a b => match e (frz (escV c) ρ) c with
    | some (.bool true) => ih (frz (escV c) ρ) a
    | some (.bool false) => ih (frz (escV c) ρ) b
    | _ => none
  | .whl c b => wgo (fun ρ => asB (e ρ c)) (fun ρ => ih ρ b) 60 ρ
  | .for1 x rng as b => match itemsOf (e (frz (escVs as) ρ)) rng as with
    | some ds => fgo (fun ρ => ih ρ b) x ds (frz (escVs as) ρ)
    | none => none
  | .for2 x y t b => match e (frz (escV t) ρ) t with
    | some (.seq false l) => cond (decide (l.length ≤ 10000)) (fgo2 (fun ρ => ih ρ b) x y 0 l (frz (escV t) ρ)) none
    | _ => none
  | .ret t => match e (frz (escV t) ρ) t with
    | some d => some (frz (escV t) ρ, some d)
    | none => none
  | .fail => none
noncomputable def ex (Φ : Addr → List D → Option D) (gl : List D) (n : Nat) : List Ent → List S → Out :=
  Nat.rec (fun _ _ => none) (fun _ ih ρ ss => exsGo (exStep (ev Φ gl 40) ih) ss ρ) n
theorem ex_zero (Φ : Addr → List D → Option D) (gl : List D) (ρ : List Ent) (t : List S) : ex Φ gl 0 ρ t = none := rfl
theorem ex_succ (Φ : Addr → List D → Option D) (gl : List D) (n : Nat) (ρ : List Ent) (t : List S) : ex Φ gl (n + 1) ρ t = exsGo (exStep (ev Φ gl 40) (ex Φ gl n)) t ρ := rfl

noncomputable def tgtK (κ : Kx) (n : Str) : Bool := κ.sc.lookup n == some .local || κ.sc.lookup n == some .cell

inductive IsRh (gn : List Str) (κ : Kx) : Rh → Expr → Prop
  | val {t : T} {e : Expr} : IsE gn κ t e → IsRh gn κ (.val t) e
  | nil {p : Pos} : IsRh gn κ .nil (.List [] p)
  | rep {i : Int} {t : T} {e : Expr} {k : Nat} {p q r : Pos} : IsE gn κ t e → IsRh gn κ (.rep i t) (.BinOp (.List [.Constant (.int i) k p] q) .Mult e r)
inductive IsRhs (gn : List Str) (κ : Kx) : List Rh → List Expr → Prop
  | nil : IsRhs gn κ [] []
  | cons {r : Rh} {e : Expr} {rs : List Rh} {es : List Expr} : IsRh gn κ r e → IsRhs gn κ rs es → IsRhs gn κ (r :: rs) (e :: es)
inductive IsNs (κ : Kx) : List Nat → List Str → List Expr → Prop
  | nil : IsNs κ [] [] []
  | cons {x : Nat} {n : Str} {p : Pos} {xs : List Nat} {ns : List Str} {es : List Expr} : κ.names[x]? = some n → tgtK κ n = true → IsNs κ xs ns es → IsNs κ (x :: xs) (n :: ns) (.Name n p :: es)
mutual
inductive IsS (gn : List Str) (κ : Kx) : S → Stmt → Prop
  | asg {x : Nat} {n : Str} {r : Rh} {e : Expr} {p q : Pos} : κ.names[x]? = some n → tgtK κ n = true → IsRh gn κ r e → notComp e = true → IsS gn κ (.asg x r) (.Assign [.Name n p] e q)
  | tup {xs : List Nat} {ns : List Str} {ts : List Expr} {rs : List Rh} {es : List Expr} {k l : Nat} {p q r : Pos} : IsNs κ xs ns ts → IsRhs gn κ rs es → xs.length = rs.length → rs.length ≤ 100 →
      (∀ env : Env, env.scope.names = κ.sc → env.scope.kind = .function → swappedStores [.Tuple ts k p] (.Tuple es l q) env = pure none) → IsS gn κ (.tup false xs rs) (.Assign [.Tuple ts k p] (.Tuple es l q) r)
  | tupS {xs : List Nat} {ns : List Str} {ts : List Expr} {rs : List Rh} {es : List Expr} {k l : Nat} {p q r : Pos} : IsNs κ xs ns ts → IsRhs gn κ rs es → xs.length = rs.length → rs.length ≤ 100 →
      (∀ env : Env, env.scope.names = κ.sc → env.scope.kind = .function → swappedStores [.Tuple ts k p] (.Tuple es l q) env = pure (some ns)) → IsS gn κ (.tup true xs rs) (.Assign [.Tuple ts k p] (.Tuple es l q) r)
  | setI {x : Nat} {n : Str} {i v : T} {i' v' : Expr} {p q r : Pos} : κ.names[x]? = some n → IsE gn κ i i' → IsE gn κ v v' → IsS gn κ (.setI x i v) (.Assign [.Subscript (.Name n p) i' q] v' r)
  | aug {x : Nat} {n : Str} {op : Operator} {t : T} {e : Expr} {p q : Pos} : κ.names[x]? = some n → tgtK κ n = true → augOk op = true → IsE gn κ t e → IsS gn κ (.aug x op t) (.AugAssign (.Name n p) op e q)
  | app {x : Nat} {n : Str} {t : T} {e : Expr} {p q r c : Pos} : κ.names[x]? = some n → IsE gn κ t e → (q.endLine == r.line) = true → IsS gn κ (.app x t) (.Expr (.Call (.Attribute (.Name n p) (Str.ofString "append") q) [e] [] r) c)
  | ext {x : Nat} {n : Str} {t : T} {e : Expr} {p q r c : Pos} : κ.names[x]? = some n → IsE gn κ t e → (q.endLine == r.line) = true → IsS gn κ (.ext x t) (.Expr (.Call (.Attribute (.Name n p) (Str.ofString "extend") q) [e] [] r) c)
  | iff {c : T} {a b : List S} {c' : Expr} {a' b' : List Stmt} {p : Pos} : IsE gn κ c c' → IsSs gn κ a a' → IsSs gn κ b b' → IsS gn κ (.iff c a b) (.If c' a' b' p)
  | whl {c : T} {b : List S} {c' : Expr} {b' : List Stmt} {p : Pos} : IsE gn κ c c' → IsSs gn κ b b' → IsS gn κ (.whl c b) (.While c' b' [] p)
  | for1 {x : Nat} {n : Str} {rng : Bool} {as : List T} {b : List S} {it : Expr} {b' : List Stmt} {p q : Pos} : κ.names[x]? = some n → tgtK κ n = true → IsI gn κ rng as it → IsSs gn κ b b' → IsS gn κ (.for1 x rng as b) (.For (.Name n p) it b' [] q)
  | for2 {x y : Nat} {n m : Str} {t : T} {b : List S} {e : Expr} {b' : List Stmt} {k : Nat} {p q r pf pc c : Pos} : κ.names[x]? = some n → κ.names[y]? = some m → tgtK κ n = true → tgtK κ m = true → κ.sc.lookup (Str.ofString "enumerate") = some .globalImplicit → IsE gn κ t e → IsSs gn κ b b' →
      IsS gn κ (.for2 x y t b) (.For (.Tuple [.Name n p, .Name m q] k r) (.Call (.Name (Str.ofString "enumerate") pf) [e] [] pc) b' [] c)
  | ret {t : T} {e : Expr} {p : Pos} : IsE gn κ t e → IsS gn κ (.ret t) (.Return (some e) p)
  | fail {a b : Option Expr} {p : Pos} : IsS gn κ .fail (.Raise a b p)
inductive IsSs (gn : List Str) (κ : Kx) : List S → List Stmt → Prop
  | nil : IsSs gn κ [] []
  | cons {s : S} {ss : List S} {e : Stmt} {es : List Stmt} : IsS gn κ s e → IsSs gn κ ss es → IsSs gn κ (s :: ss) (e :: es)
end
theorem IsRh.noSwap {gn : List Str} {κ : Kx} {t : Rh} {e : Expr} (h : IsRh gn κ t e) (hc : notComp e = true) (x : Option Expr) (l : Nat) (env : Env) : swapsWith e x l env = pure false := by
  cases h with
  | val h => exact h.noSwap hc x l env
  | nil => rfl
  | rep => rfl
theorem IsRh.star {gn : List Str} {κ : Kx} {t : Rh} {e : Expr} (h : IsRh gn κ t e) (rest : List Expr) (env : Env) : starEach (e :: rest) env = (false, eval e env) :: starEach rest env := by
  cases h with
  | val h => exact h.star rest env
  | nil => rfl
  | rep => rfl

/-! ## a frame between two statements -/
inductive PE where
  | dat (u : Value) (d : D)
  | lst (a : Addr) (l : List D)
noncomputable def PE.ent : PE → Ent
  | .dat _ d => .val d
  | .lst _ l => .own l
noncomputable def PE.is : PE → Value → Prop
  | .dat w _, x => w = x
  | .lst a _, x => x = .ref a
noncomputable def OwnX (X : Addr → Prop) (ρ : List Ent) (oa : Nat → Addr) (P : List PE) : Addr → Prop := fun a => X a ∨ (∃ i l, ρ[i]? = some (.own l) ∧ oa i = a) ∨ ∃ l, PE.lst a l ∈ P
noncomputable def EntS (κ : Kx) (env : Env) (X' : Addr → Prop) (G : Addr → Option Obj) (oa : Nat → Addr) (h : Heap) (i : Nat) : Ent → Prop
  | .no => True
  | .val d => ∃ v n, κ.names[i]? = some n ∧ IsD X' h v d ∧ Sees env h n v
  | .own l => ∃ vs k n, κ.names[i]? = some n ∧ Sees env h n (.ref (oa i)) ∧ h.get? (oa i) = some (sqO false vs k) ∧ AllD X' h vs l ∧ G (oa i) = none
structure StOK (κ : Kx) (env : Env) (X : Addr → Prop) (G : Addr → Option Obj) (P : List PE) (ρ : List Ent) (oa : Nat → Addr) (h : Heap) : Prop where
  keep : ∀ b o, G b = some o → h.get? b = some o
  ns : ∃ m, h.Ns env.locals m
  cells : ∀ y c, env.cells.lookup y = some c → ∃ v, h.IsCell c v
  gL : G env.locals = none
  gC : ∀ y c, env.cells.lookup y = some c → G c = none
  ent : ∀ i e, ρ[i]? = some e → EntS κ env (OwnX X ρ oa P) G oa h i e
  inj : ∀ i j l l', ρ[i]? = some (.own l) → ρ[j]? = some (.own l') → oa i = oa j → i = j
  pv : ∀ v d, PE.dat v d ∈ P → IsD (OwnX X ρ oa P) h v d
  po : ∀ a l, PE.lst a l ∈ P → (∃ vs k, h.get? a = some (sqO false vs k) ∧ AllD (OwnX X ρ oa P) h vs l) ∧ G a = none ∧ ∀ i l', ρ[i]? = some (.own l') → oa i ≠ a
  pp : P.Pairwise fun p q => ∀ a l a' l', p = .lst a l → q = .lst a' l' → a ≠ a'
structure BsOK (K : Frag) (mg mb : Str → Option Value) (κ : Kx) (env : Env) (X : Addr → Prop) (G : Addr → Option Obj) : Prop where
  base : ∃ h₀, Top' K mg mb h₀ ∧ ∀ b o, h₀.get? b = some o → G b = some o
  xg : ∀ a, X a → ∃ o, G a = some o
  xk : ∀ a, X a → K.lookup a = none
  envK : EnvK κ env
  names : env.scope.names = κ.sc
  nodup : κ.names.Nodup
  cl : ∀ y c, env.cells.lookup y = some c → c ≠ env.locals
  cd : ∀ y z c, env.cells.lookup y = some c → env.cells.lookup z = some c → y = z
  cc : ∀ y, κ.sc.lookup y = some .cell → ∃ c, env.cells.lookup y = some c

theorem nodup_at {l : List Str} (h : l.Nodup) : ∀ {i j : Nat} {n : Str}, l[i]? = some n → l[j]? = some n → i = j := by
  induction l with
  | nil => intro i j n e; simp at e
  | cons a r ih =>
    intro i j n e1 e2
    have hn := List.nodup_cons.mp h
    cases i with
    | zero =>
      cases j with
      | zero => rfl
      | succ j =>
        simp only [List.getElem?_cons_zero, Option.some.injEq] at e1
        rw [List.getElem?_cons_succ] at e2
        exact absurd (e1 ▸ List.mem_of_getElem? e2) hn.1
    | succ i =>
      cases j with
      | zero =>
        simp only [List.getElem?_cons_zero, Option.some.injEq] at e2
        rw [List.getElem?_cons_succ] at e1
        exact absurd (e2 ▸ List.mem_of_getElem? e1) hn.1
      | succ j =>
        rw [List.getElem?_cons_succ] at e1 e2
        rw [ih hn.2 e1 e2]
theorem ns_fun {h : Heap} {a : Addr} {m m' : Str → Option Value} (x : h.Ns a m) (y : h.Ns a m') (z : Str) : m z = m' z := by
  obtain ⟨o, es, ep, e, d, _, f⟩ := x
  obtain ⟨o', es', ep', e', d', _, f'⟩ := y
  rw [e] at e'; cases e'
  rw [d] at d'; cases d'
  exact (f z).symm.trans (f' z)

theorem IsD.mono {X X' : Addr → Prop} {h : Heap} {v : Value} {d : D} (x : IsD X h v d) (s : ∀ a, X' a → X a) : IsD X' h v d := x.imp fun a _ _ _ hx e => ⟨fun q => hx (s a q), e⟩
theorem AllD.mono {X X' : Addr → Prop} {h : Heap} {v : List Value} {d : List D} (x : AllD X h v d) (s : ∀ a, X' a → X a) : AllD X' h v d := x.imp fun a _ _ _ hx e => ⟨fun q => hx (s a q), e⟩

section
variable {K : Frag} {mg mb : Str → Option Value} {κ : Kx} {env : Env} {X : Addr → Prop} {G : Addr → Option Obj} {P : List PE} {ρ : List Ent} {oa : Nat → Addr} {h h' : Heap}
theorem StOK.top (B : BsOK K mg mb κ env X G) (S : StOK κ env X G P ρ oa h) : Top' K mg mb h := by
  obtain ⟨h₀, T, k⟩ := B.base
  exact T.kp fun b o e => S.keep b o (k b o e)
theorem BsOK.kn (B : BsOK K mg mb κ env X G) {a : Addr} (e : G a = none) : K.lookup a = none := by
  obtain ⟨h₀, T, k⟩ := B.base
  cases q : K.lookup a with
  | none => rfl
  | some o => have := k _ _ (T.k _ _ q); rw [e] at this; cases this
theorem StOK.xok (B : BsOK K mg mb κ env X G) (S : StOK κ env X G P ρ oa h) : XOk K (OwnX X ρ oa P) h := by
  intro a ha
  rcases ha with ha | ⟨i, l, e, rfl⟩ | ⟨l, hm⟩
  · exact ⟨let ⟨o, e⟩ := B.xg a ha; ⟨o, S.keep _ _ e⟩, B.xk a ha⟩
  · obtain ⟨vs, k, n, _, _, h1, _, h2⟩ := S.ent i _ e
    exact ⟨⟨_, h1⟩, B.kn h2⟩
  · obtain ⟨⟨vs, k, h1, _⟩, h2, _⟩ := S.po a l hm
    exact ⟨⟨_, h1⟩, B.kn h2⟩
theorem StOK.env' (S : StOK κ env X G P ρ oa h) : EnvOK κ env (OwnX X ρ oa P) h ρ := by
  intro i e he
  have q := S.ent i e he
  cases e with
  | no => trivial
  | val d => exact q
  | own l =>
    obtain ⟨vs, k, n, h1, h2, h3, h4, _⟩ := q
    exact ⟨oa i, vs, k, n, h1, h2, .inr (.inl ⟨i, l, he, rfl⟩), h3, h4⟩
theorem StOK.kp (S : StOK κ env X G P ρ oa h) (k : Kp h h') : StOK κ env X G P ρ oa h' where
  keep := fun b o e => k b o (S.keep b o e)
  ns := let ⟨m, e⟩ := S.ns; ⟨m, e.keeps k⟩
  cells := fun y c e => let ⟨v, q⟩ := S.cells y c e; ⟨v, q.keeps k⟩
  gL := S.gL
  gC := S.gC
  ent := fun i e he => by
    have q := S.ent i e he
    cases e with
    | no => trivial
    | val d => obtain ⟨v, n, h1, h2, h3⟩ := q; exact ⟨v, n, h1, h2.kp k, h3.kp k⟩
    | own l => obtain ⟨vs, c, n, h1, h2, h3, h4, h5⟩ := q; exact ⟨vs, c, n, h1, h2.kp k, k _ _ h3, h4.kp k, h5⟩
  inj := S.inj
  pv := fun v d hm => (S.pv v d hm).kp k
  po := fun a l hm => let ⟨⟨vs, c, h1, h2⟩, r⟩ := S.po a l hm; ⟨⟨vs, c, k _ _ h1, h2.kp k⟩, r⟩
  pp := S.pp
/-- fewer things to be written: the same heap -/
theorem StOK.less {ρ' : List Ent} {P' : List PE} (hxg : ∀ a, X a → ∃ o, G a = some o) (S : StOK κ env X G P ρ oa h) (hP : ∀ p ∈ P', p ∈ P) (hpp : P'.Pairwise fun p q => ∀ a l a' l', p = .lst a l → q = .lst a' l' → a ≠ a') (hsub : ∀ (i : Nat) (l : List D), ρ'[i]? = some (Ent.own l) → ρ[i]? = some (Ent.own l))
    (hent : ∀ (i : Nat) (e : Ent), ρ'[i]? = some e → ρ[i]? = some e ∨ e = .no ∨ ∃ l, e = .val (.seq false l) ∧ ρ[i]? = some (Ent.own l) ∧ ∀ l', ρ'[i]? ≠ some (Ent.own l')) : StOK κ env X G P' ρ' oa h := by
  have sx : ∀ a, OwnX X ρ' oa P' a → OwnX X ρ oa P a := fun a ha => by
    rcases ha with ha | ⟨i, l, e, q⟩ | ⟨l, hm⟩
    · exact .inl ha
    · exact .inr (.inl ⟨i, l, hsub i l e, q⟩)
    · exact .inr (.inr ⟨l, hP _ hm⟩)
  refine ⟨S.keep, S.ns, S.cells, S.gL, S.gC, fun i e he => ?_, fun i j l l' h1 h2 => S.inj i j l l' (hsub i l h1) (hsub j l' h2), fun v d hm => (S.pv v d (hP _ hm)).mono sx, fun a l hm => ?_, hpp⟩
  · rcases hent i e he with q | rfl | ⟨l, rfl, q, hno⟩
    · have z := S.ent i e q
      cases e with
      | no => trivial
      | val d => obtain ⟨v, n, h1, h2, h3⟩ := z; exact ⟨v, n, h1, h2.mono sx, h3⟩
      | own l => obtain ⟨vs, c, n, h1, h2, h3, h4, h5⟩ := z; exact ⟨vs, c, n, h1, h2, h3, h4.mono sx, h5⟩
    · trivial
    · obtain ⟨vs, c, n, h1, h2, h3, h4, h5⟩ := S.ent i _ q
      refine ⟨.ref (oa i), n, h1, .seq (fun z => ?_) h3 (h4.mono sx), h2⟩
      rcases z with z | ⟨j, l', e, z⟩ | ⟨l', hm⟩
      · -- X's own objects are kept: G tells them
        obtain ⟨o, e⟩ := hxg _ z
        rw [h5] at e; cases e
      · exact hno l' (S.inj j i _ _ (hsub j l' e) q z ▸ e)
      · exact (S.po _ _ (hP _ hm)).2.2 i l q rfl
  · obtain ⟨⟨vs, c, h1, h2⟩, h3, h4⟩ := S.po a l (hP _ hm)
    exact ⟨⟨vs, c, h1, h2.mono sx⟩, h3, fun i l' e => h4 i l' (hsub i l' e)⟩

theorem setE_own {x : Nat} {e : Ent} {i : Nat} {l : List D} (q : (setE ρ x e)[i]? = some (Ent.own l)) : (i = x ∧ e = .own l) ∨ (i ≠ x ∧ ρ[i]? = some (Ent.own l)) := by
  rcases setE_at q with ⟨a, b⟩ | ⟨a, b⟩
  · exact .inl ⟨a, b.symm⟩
  · exact .inr ⟨a, b⟩
theorem StOK.drop (hxg : ∀ a, X a → ∃ o, G a = some o) (S : StOK κ env X G P ρ oa h) (x : Nat) : StOK κ env X G P (setE ρ x .no) oa h := by
  refine S.less hxg (fun _ q => q) S.pp (fun i l q => ?_) fun i e q => ?_
  · rcases setE_own q with ⟨_, b⟩ | ⟨_, b⟩
    · cases b
    · exact b
  · rcases setE_at q with ⟨_, rfl⟩ | ⟨_, b⟩
    · exact .inr (.inl rfl)
    · exact .inl b
theorem StOK.frz (hxg : ∀ a, X a → ∃ o, G a = some o) : ∀ (is : List Nat) (ρ : List Ent), StOK κ env X G P ρ oa h → StOK κ env X G P (Mine.frz is ρ) oa h
  | [], _, S => S
  | i :: r, ρ, S => by
    rw [Mine.frz]
    refine StOK.frz hxg r _ ?_
    split
    · rename_i l hl
      rw [getE_eq] at hl
      refine S.less hxg (fun _ q => q) S.pp (fun j l' q => ?_) fun j e q => ?_
      · rcases setE_own q with ⟨_, b⟩ | ⟨_, b⟩
        · cases b
        · exact b
      · rcases setE_at q with ⟨rfl, rfl⟩ | ⟨_, b⟩
        · refine .inr (.inr ⟨l, rfl, hl, fun l' z => ?_⟩)
          rw [q] at z; cases z
        · exact .inl b
    · exact S
theorem StOK.hold (S : StOK κ env X G P ρ oa h) {v : Value} {d : D} (hv : IsD (OwnX X ρ oa P) h v d) : StOK κ env X G (.dat v d :: P) ρ oa h := by
  have sx : ∀ a, OwnX X ρ oa (.dat v d :: P) a → OwnX X ρ oa P a := fun a ha => by
    rcases ha with ha | ha | ⟨l, hm⟩
    · exact .inl ha
    · exact .inr (.inl ha)
    · rcases List.mem_cons.mp hm with q | q
      · cases q
      · exact .inr (.inr ⟨l, q⟩)
  refine ⟨S.keep, S.ns, S.cells, S.gL, S.gC, fun i e he => ?_, S.inj, fun v' d' hm => ?_, fun a l hm => ?_, List.pairwise_cons.mpr ⟨fun q _ a l a' l' e => (by cases e), S.pp⟩⟩
  · have z := S.ent i e he
    cases e with
    | no => trivial
    | val d => obtain ⟨v, n, h1, h2, h3⟩ := z; exact ⟨v, n, h1, h2.mono sx, h3⟩
    | own l => obtain ⟨vs, c, n, h1, h2, h3, h4, h5⟩ := z; exact ⟨vs, c, n, h1, h2, h3, h4.mono sx, h5⟩
  · rcases List.mem_cons.mp hm with q | q
    · cases q; exact hv.mono sx
    · exact (S.pv _ _ q).mono sx
  · rcases List.mem_cons.mp hm with q | q
    · cases q
    · obtain ⟨⟨vs, c, h1, h2⟩, h3, h4⟩ := S.po _ _ q
      exact ⟨⟨vs, c, h1, h2.mono sx⟩, h3, h4⟩
theorem StOK.holdNew (S : StOK κ env X G P ρ oa h) (k : Kp h h') {a : Addr} {l : List D} {vs : List Value} {n : Nat} (hnew : h.get? a = none) (hg : h'.get? a = some (sqO false vs n)) (ha : ∀ Y, AllD Y h' vs l) : StOK κ env X G (.lst a l :: P) ρ oa h' := by
  have T := S.kp k
  have sx : ∀ b, OwnX X ρ oa (.lst a l :: P) b → OwnX X ρ oa P b ∨ b = a := fun b hb => by
    rcases hb with hb | hb | ⟨l', hm⟩
    · exact .inl (.inl hb)
    · exact .inl (.inr (.inl hb))
    · rcases List.mem_cons.mp hm with q | q
      · cases q; exact .inr rfl
      · exact .inl (.inr (.inr ⟨l', q⟩))
  have up : ∀ {v : Value} {d : D}, IsD (OwnX X ρ oa P) h v d → IsD (OwnX X ρ oa (.lst a l :: P)) h' v d := fun x => (x.grow k hnew).mono sx
  have upA : ∀ {v : List Value} {d : List D}, AllD (OwnX X ρ oa P) h v d → AllD (OwnX X ρ oa (.lst a l :: P)) h' v d := fun x => (x.grow k hnew).mono sx
  refine ⟨T.keep, T.ns, T.cells, T.gL, T.gC, fun i e he => ?_, T.inj, fun v' d' hm => ?_, fun b l' hm => ?_, List.pairwise_cons.mpr ⟨fun q hq b l₁ b' l₂ e1 e2 => ?_, S.pp⟩⟩
  · have z := S.ent i e he
    cases e with
    | no => trivial
    | val d => obtain ⟨v, n, h1, h2, h3⟩ := z; exact ⟨v, n, h1, up h2, h3.kp k⟩
    | own l => obtain ⟨vs, c, n, h1, h2, h3, h4, h5⟩ := z; exact ⟨vs, c, n, h1, h2.kp k, k _ _ h3, upA h4, h5⟩
  · rcases List.mem_cons.mp hm with q | q
    · cases q
    · exact up (S.pv _ _ q)
  · rcases List.mem_cons.mp hm with q | q
    · cases q
      refine ⟨⟨vs, n, hg, ha _⟩, ?_, fun i l' e q => ?_⟩
      · cases e : G a with
        | none => rfl
        | some o => have := S.keep _ _ e; rw [hnew] at this; cases this
      · obtain ⟨vs, c, n, h1, h2, h3, h4, h5⟩ := S.ent i _ e
        rw [q, hnew] at h3; cases h3
    · obtain ⟨⟨vs, c, h1, h2⟩, h3, h4⟩ := S.po _ _ q
      exact ⟨⟨vs, c, k _ _ h1, upA h2⟩, h3, h4⟩
  · cases e1
    subst e2
    rintro rfl
    obtain ⟨⟨vs, c, h1, _⟩, _⟩ := S.po _ _ hq
    rw [hnew] at h1; cases h1
theorem StOK.perm {P' : List PE} (S : StOK κ env X G P ρ oa h) (hp : P.Perm P') : StOK κ env X G P' ρ oa h := by
  have sx : ∀ a, OwnX X ρ oa P' a → OwnX X ρ oa P a := fun a ha => by
    rcases ha with ha | ha | ⟨l, hm⟩
    · exact .inl ha
    · exact .inr (.inl ha)
    · exact .inr (.inr ⟨l, hp.mem_iff.mpr hm⟩)
  refine ⟨S.keep, S.ns, S.cells, S.gL, S.gC, fun i e he => ?_, S.inj, fun v' d' hm => (S.pv _ _ (hp.mem_iff.mpr hm)).mono sx, fun a l hm => ?_, (hp.pairwise_iff fun {p q} r a l a' l' e1 e2 z => r a' l' a l e2 e1 z.symm).mp S.pp⟩
  · have z := S.ent i e he
    cases e with
    | no => trivial
    | val d => obtain ⟨v, n, h1, h2, h3⟩ := z; exact ⟨v, n, h1, h2.mono sx, h3⟩
    | own l => obtain ⟨vs, c, n, h1, h2, h3, h4, h5⟩ := z; exact ⟨vs, c, n, h1, h2, h3, h4.mono sx, h5⟩
  · obtain ⟨⟨vs, c, h1, h2⟩, h3, h4⟩ := S.po _ _ (hp.mem_iff.mpr hm)
    exact ⟨⟨vs, c, h1, h2.mono sx⟩, h3, h4⟩

/-- a name or a cell of the frame is written -/
theorem StOK.stored {x : Nat} {n : Str} {p : PE} {v : Value} {c : Addr} (nd : κ.names.Nodup) (S : StOK κ env X G (p :: P) ρ oa h) (hn : κ.names[x]? = some n) (hp : p.is v) (hs : Heap.SameBut c h h') (hc : ∀ t vs k, h.get? c ≠ some (sqO t vs k)) (gc : G c = none)
    (ns' : ∃ m, h'.Ns env.locals m) (cells' : ∀ y c, env.cells.lookup y = some c → ∃ v, h'.IsCell c v) (sees : Sees env h' n v) (others : ∀ y u, y ≠ n → Sees env h y u → Sees env h' y u) :
    ∃ oa', StOK κ env X G P (setE ρ x p.ent) oa' h' := by
  have sq : SqKp (OwnX X ρ oa (p :: P)) h h' := SqKp.of hs.extBut (.inr hc)
  have sqE : ∀ b t vs k, h.get? b = some (sqO t vs k) → h'.get? b = some (sqO t vs k) := fun b t vs k e => hs.extBut b _ (fun q => hc t vs k (q ▸ e)) e
  have keep' : ∀ b o, G b = some o → h'.get? b = some o := fun b o e => hs.extBut b o (fun q => by rw [q, gc] at e; cases e) (S.keep b o e)
  cases p with
  | dat u d =>
    have hp : u = v := hp
    subst hp
    have sx : ∀ a, OwnX X (setE ρ x (.val d)) oa P a → OwnX X ρ oa (.dat u d :: P) a := fun a ha => by
      rcases ha with ha | ⟨i, l, e, q⟩ | ⟨l, hm⟩
      · exact .inl ha
      · rcases setE_own e with ⟨_, z⟩ | ⟨_, z⟩
        · cases z
        · exact .inr (.inl ⟨i, l, z, q⟩)
      · exact .inr (.inr ⟨l, .tail _ hm⟩)
    refine ⟨oa, keep', ns', cells', S.gL, S.gC, fun i e he => ?_, fun i j l l' h1 h2 q => ?_, fun v' d' hm => ((S.pv _ _ (.tail _ hm)).sq sq).mono sx, fun a l hm => ?_, (List.pairwise_cons.mp S.pp).2⟩
    · rcases setE_at he with ⟨rfl, rfl⟩ | ⟨hi, he⟩
      · exact ⟨u, n, hn, ((S.pv u d (.head _)).sq sq).mono sx, sees⟩
      · have z := S.ent i e he
        cases e with
        | no => trivial
        | val d => obtain ⟨v, n', h1, h2, h3⟩ := z; exact ⟨v, n', h1, (h2.sq sq).mono sx, others _ _ (fun q => hi (nodup_at nd h1 (q ▸ hn))) h3⟩
        | own l => obtain ⟨vs, c, n', h1, h2, h3, h4, h5⟩ := z; exact ⟨vs, c, n', h1, others _ _ (fun q => hi (nodup_at nd h1 (q ▸ hn))) h2, sqE _ _ _ _ h3, (h4.sq sq).mono sx, h5⟩
    · rcases setE_own h1 with ⟨_, z⟩ | ⟨_, z⟩
      · cases z
      · rcases setE_own h2 with ⟨_, z'⟩ | ⟨_, z'⟩
        · cases z'
        · exact S.inj _ _ _ _ z z' q
    · obtain ⟨⟨vs, c, h1, h2⟩, h3, h4⟩ := S.po _ _ (.tail _ hm)
      refine ⟨⟨vs, c, sqE _ _ _ _ h1, (h2.sq sq).mono sx⟩, h3, fun i l' e => ?_⟩
      rcases setE_own e with ⟨_, z⟩ | ⟨_, z⟩
      · cases z
      · exact h4 _ _ z
  | lst a l =>
    have hp : v = .ref a := hp
    subst hp
    obtain ⟨⟨vs₀, k₀, g₀, d₀⟩, G₀, o₀⟩ := S.po a l (.head _)
    have sx : ∀ b, OwnX X (setE ρ x (.own l)) (fun i => if i = x then a else oa i) P b → OwnX X ρ oa (.lst a l :: P) b := fun b hb => by
      rcases hb with hb | ⟨i, l', e, q⟩ | ⟨l', hm⟩
      · exact .inl hb
      · rcases setE_own e with ⟨rfl, z⟩ | ⟨hi, z⟩
        · simp only [if_true] at q
          cases z
          exact .inr (.inr ⟨l, q ▸ .head _⟩)
        · simp only [if_neg hi] at q
          exact .inr (.inl ⟨i, l', z, q⟩)
      · exact .inr (.inr ⟨l', .tail _ hm⟩)
    refine ⟨fun i => if i = x then a else oa i, keep', ns', cells', S.gL, S.gC, fun i e he => ?_, fun i j l₁ l₂ h1 h2 q => ?_, fun v' d' hm => ((S.pv _ _ (.tail _ hm)).sq sq).mono sx, fun b l' hm => ?_, (List.pairwise_cons.mp S.pp).2⟩
    · rcases setE_at he with ⟨rfl, rfl⟩ | ⟨hi, he⟩
      · exact ⟨vs₀, k₀, n, hn, by simpa using sees, by simpa using sqE _ _ _ _ g₀, (d₀.sq sq).mono sx, by simpa using G₀⟩
      · have z := S.ent i e he
        cases e with
        | no => trivial
        | val d => obtain ⟨v, n', h1, h2, h3⟩ := z; exact ⟨v, n', h1, (h2.sq sq).mono sx, others _ _ (fun q => hi (nodup_at nd h1 (q ▸ hn))) h3⟩
        | own l' =>
          obtain ⟨vs, c, n', h1, h2, h3, h4, h5⟩ := z
          refine ⟨vs, c, n', h1, ?_, ?_, (h4.sq sq).mono sx, ?_⟩
          · simp only [if_neg hi]; exact others _ _ (fun q => hi (nodup_at nd h1 (q ▸ hn))) h2
          · simp only [if_neg hi]; exact sqE _ _ _ _ h3
          · simp only [if_neg hi]; exact h5
    · rcases setE_own h1 with ⟨rfl, z⟩ | ⟨hi, z⟩
      · rcases setE_own h2 with ⟨rfl, z'⟩ | ⟨hj, z'⟩
        · rfl
        · simp only [if_true, if_neg hj] at q
          exact absurd q.symm (o₀ _ _ z')
      · rcases setE_own h2 with ⟨rfl, z'⟩ | ⟨hj, z'⟩
        · simp only [if_true, if_neg hi] at q
          exact absurd q (o₀ _ _ z)
        · simp only [if_neg hi, if_neg hj] at q
          exact S.inj _ _ _ _ z z' q
    · obtain ⟨⟨vs, c, h1, h2⟩, h3, h4⟩ := S.po _ _ (.tail _ hm)
      refine ⟨⟨vs, c, sqE _ _ _ _ h1, (h2.sq sq).mono sx⟩, h3, fun i l₂ e => ?_⟩
      rcases setE_own e with ⟨rfl, z⟩ | ⟨hi, z⟩
      · simp only [if_true]
        exact (List.pairwise_cons.mp S.pp).1 _ hm a l b l' rfl rfl
      · simp only [if_neg hi]; exact h4 _ _ z
/-- a list of one's own is written -/
theorem StOK.wrote {x : Nat} {l l' : List D} {vs' : List Value} {k' : Nat} (S : StOK κ env X G P ρ oa h) (hx : ρ[x]? = some (Ent.own l)) (hs : Heap.SameBut (oa x) h h') (hg : h'.get? (oa x) = some (sqO false vs' k')) (ha : AllD (OwnX X ρ oa P) h vs' l') :
    StOK κ env X G P (setE ρ x (.own l')) oa h' := by
  obtain ⟨vs₀, k₀, n₀, hn₀, see₀, g₀, a₀, G₀⟩ := S.ent x _ hx
  have hxX : OwnX X ρ oa P (oa x) := .inr (.inl ⟨x, l, hx, rfl⟩)
  have sq : SqKp (OwnX X ρ oa P) h h' := SqKp.of hs.extBut (.inl hxX)
  have nns : ∀ {b : Addr} {m : Str → Option Value}, h.Ns b m → b ≠ oa x := fun q e => ns_noSq q _ _ _ (e ▸ g₀)
  have ncl : ∀ {b : Addr} {m : Option Value}, h.IsCell b m → b ≠ oa x := fun q e => cell_noSq q _ _ _ (e ▸ g₀)
  have see : ∀ {y : Str} {u : Value}, Sees env h y u → Sees env h' y u := fun q => q.imp (fun ⟨a, m, b, c⟩ => ⟨a, m, b.sameBut hs (nns b), c⟩) fun ⟨a, c, b, d⟩ => ⟨a, c, b, d.sameBut hs (ncl d)⟩
  have sx : ∀ a, OwnX X (setE ρ x (.own l')) oa P a → OwnX X ρ oa P a := fun a ha => by
    rcases ha with ha | ⟨i, l₂, e, q⟩ | ha
    · exact .inl ha
    · rcases setE_own e with ⟨rfl, z⟩ | ⟨_, z⟩
      · exact .inr (.inl ⟨i, l, hx, q⟩)
      · exact .inr (.inl ⟨i, l₂, z, q⟩)
    · exact .inr (.inr ha)
  refine ⟨fun b o e => hs.extBut b o (fun q => by rw [q, G₀] at e; cases e) (S.keep b o e), let ⟨m, q⟩ := S.ns; ⟨m, q.sameBut hs (nns q)⟩, fun y c e => let ⟨v, q⟩ := S.cells y c e; ⟨v, q.sameBut hs (ncl q)⟩, S.gL, S.gC, fun i e he => ?_, fun i j l₁ l₂ h1 h2 q => ?_,
    fun v d hm => ((S.pv _ _ hm).sq sq).mono sx, fun a l₁ hm => ?_, S.pp⟩
  · rcases setE_at he with ⟨rfl, rfl⟩ | ⟨hi, he⟩
    · exact ⟨vs', k', n₀, hn₀, see see₀, hg, (ha.sq sq).mono sx, G₀⟩
    · have z := S.ent i e he
      cases e with
      | no => trivial
      | val d => obtain ⟨v, n', h1, h2, h3⟩ := z; exact ⟨v, n', h1, (h2.sq sq).mono sx, see h3⟩
      | own l₂ =>
        obtain ⟨vs, c, n', h1, h2, h3, h4, h5⟩ := z
        exact ⟨vs, c, n', h1, see h2, hs.extBut _ _ (fun q => hi (S.inj _ _ _ _ he hx q)) h3, (h4.sq sq).mono sx, h5⟩
  · have up : ∀ {i : Nat} {l₁ : List D}, (setE ρ x (.own l'))[i]? = some (Ent.own l₁) → ∃ l₂, ρ[i]? = some (Ent.own l₂) := fun e => by
      rcases setE_own e with ⟨rfl, _⟩ | ⟨_, z⟩
      · exact ⟨l, hx⟩
      · exact ⟨_, z⟩
    obtain ⟨_, z1⟩ := up h1
    obtain ⟨_, z2⟩ := up h2
    exact S.inj _ _ _ _ z1 z2 q
  · obtain ⟨⟨vs, c, h1, h2⟩, h3, h4⟩ := S.po _ _ hm
    refine ⟨⟨vs, c, hs.extBut _ _ (fun q => h4 x l hx q.symm) h1, (h2.sq sq).mono sx⟩, h3, fun i l₂ e => ?_⟩
    rcases setE_own e with ⟨rfl, _⟩ | ⟨_, z⟩
    · exact h4 _ _ hx
    · exact h4 _ _ z
end

section
variable {prog : Program} {w : World} {A : Around} {E : Value → Shared → Prop} {s : Shared} {K : Frag} {mg mb : Str → Option Value} {κ : Kx} {env : Env} {X : Addr → Prop} {G : Addr → Option Obj} {P : List PE} {ρ : List Ent} {oa : Nat → Addr}
theorem store_ok {x : Nat} {n : Str} {p : PE} {v : Value} {Q : Unit → Shared → Prop} (B : BsOK K mg mb κ env X G) (S : StOK κ env X G (p :: P) ρ oa s.heap) (hn : κ.names[x]? = some n) (ht : tgtK κ n = true) (hp : p.is v)
    (hQ : ∀ oa' h' tk, StOK κ env X G P (setE ρ x p.ent) oa' h' → Q () { s with heap := h', toks := tk }) : wpAny (model prog w) A (storeName env n v) Q E s := by
  unfold tgtK at ht
  simp only [Bool.or_eq_true, beq_iff_eq] at ht
  have hkd : ∀ y, env.kindOf y = κ.sc.lookup y := fun y => by show env.scope.names.lookup y = _; rw [B.names]
  obtain ⟨m, hm⟩ := S.ns
  rcases ht with ht | ht
  · have hl : env.kindOf n = some .local := (hkd n).trans ht
    refine wpAny_storeName_local hl hm (fun h' hn' hs => ?_) (by rw [B.envK.kind]; rfl)
    have hs : Heap.SameBut env.locals s.heap h' := hs
    have S' : StOK κ env X G (p :: P) ρ oa s.heap := S
    have others : ∀ y u, y ≠ n → Sees env s.heap y u → Sees env h' y u := fun y u hy q => by
      rcases q with ⟨a, m', b, c⟩ | ⟨a, c, b, d⟩
      · exact .inl ⟨a, _, hn', by simp only [if_neg hy]; rw [ns_fun hm b]; exact c⟩
      · exact .inr ⟨a, c, b, d.sameBut hs (B.cl y c b)⟩
    obtain ⟨oa', q⟩ := S'.stored (h' := h') B.nodup hn hp hs (ns_noSq hm) S.gL ⟨_, hn'⟩ (fun y c e => let ⟨v, q⟩ := S.cells y c e; ⟨v, q.sameBut hs (B.cl y c e)⟩) (.inl ⟨hl, _, hn', by simp⟩) others
    exact hQ oa' h' _ q
  · have hl : env.kindOf n = some .cell := (hkd n).trans ht
    obtain ⟨c, hc⟩ := B.cc n ht
    obtain ⟨v₀, hv₀⟩ := S.cells n c hc
    refine wpAny_storeName_cell B.envK.kind hl hc hv₀ fun h' hv' hs => ?_
    have hs : Heap.SameBut c s.heap h' := hs
    have cells' : ∀ y c', env.cells.lookup y = some c' → ∃ v, h'.IsCell c' v := fun y c' e => by
      by_cases hcc : c' = c
      · subst hcc; exact ⟨_, hv'⟩
      · obtain ⟨v, q⟩ := S.cells y c' e
        exact ⟨v, q.sameBut hs hcc⟩
    have others : ∀ y u, y ≠ n → Sees env s.heap y u → Sees env h' y u := fun y u hy q => by
      rcases q with ⟨a, m', b, d⟩ | ⟨a, c', b, d⟩
      · exact .inl ⟨a, m', b.sameBut hs (fun q => B.cl n c hc q.symm), d⟩
      · exact .inr ⟨a, c', b, d.sameBut hs fun q => hy (B.cd y n c (q ▸ b) hc)⟩
    obtain ⟨oa', q⟩ := S.stored (h' := h') B.nodup hn hp hs (cell_noSq hv₀) (S.gC n c hc) ⟨m, hm.sameBut hs (fun q => B.cl n c hc q.symm)⟩ cells' (.inr ⟨.inl hl, c, hc, hv'⟩) others
    exact hQ oa' h' _ q
end

/-! ## statements, one by one -/
noncomputable def Post (κ : Kx) (env : Env) (X : Addr → Prop) (G : Addr → Option Obj) (P : List PE) (out : List Ent × Option D) (s : Shared) (Q : Flow → Shared → Prop) : Prop :=
  match out.2 with
  | none => ∀ oa' h' tk, StOK κ env X G P out.1 oa' h' → Q .next { s with heap := h', toks := tk }
  | some d => ∀ v h' tk, (∀ b o, G b = some o → h'.get? b = some o) → IsD X h' v d → Q (.ret v) { s with heap := h', toks := tk }
noncomputable def BlkOK (prog : Program) (w : World) (K : Frag) (mg mb : Str → Option Value) (A : Around) (κ : Kx) (env : Env) (body : List Stmt) (run : List Ent → Out) : Prop :=
  ∀ (ρ : List Ent) (out : List Ent × Option D) (X : Addr → Prop) (G : Addr → Option Obj) (P : List PE) (oa : Nat → Addr) (s : Shared) (Q : Flow → Shared → Prop) (E : Value → Shared → Prop),
    run ρ = some out → BsOK K mg mb κ env X G → StOK κ env X G P ρ oa s.heap → Post κ env X G P out s Q → wpAny (model prog w) A (execs body env) Q E s
noncomputable def StmOK (prog : Program) (w : World) (K : Frag) (mg mb : Str → Option Value) (A : Around) (κ : Kx) (env : Env) (st : Stmt) (run : List Ent → Out) : Prop :=
  ∀ (ρ : List Ent) (out : List Ent × Option D) (X : Addr → Prop) (G : Addr → Option Obj) (P : List PE) (oa : Nat → Addr) (s : Shared) (Q : Flow → Shared → Prop) (E : Value → Shared → Prop),
    run ρ = some out → BsOK K mg mb κ env X G → StOK κ env X G P ρ oa s.heap → Post κ env X G P out s Q → wpAny (model prog w) A (exec st env) Q E s

theorem Post.next {κ : Kx} {env : Env} {X : Addr → Prop} {G : Addr → Option Obj} {P : List PE} {ρ : List Ent} {s : Shared} {Q : Flow → Shared → Prop} (h : Post κ env X G P (ρ, none) s Q) : ∀ oa' h' tk, StOK κ env X G P ρ oa' h' → Q .next { s with heap := h', toks := tk } := h
theorem Post.ret {κ : Kx} {env : Env} {X : Addr → Prop} {G : Addr → Option Obj} {P : List PE} {ρ : List Ent} {d : D} {s : Shared} {Q : Flow → Shared → Prop} (h : Post κ env X G P (ρ, some d) s Q) :
    ∀ v h' tk, (∀ b o, G b = some o → h'.get? b = some o) → IsD X h' v d → Q (.ret v) { s with heap := h', toks := tk } := h
theorem Post.at {κ : Kx} {env : Env} {X : Addr → Prop} {G : Addr → Option Obj} {P : List PE} {out : List Ent × Option D} {s : Shared} {Q : Flow → Shared → Prop} (h : Post κ env X G P out s Q) (h₁ : Heap) (tk₁ : Nat) : Post κ env X G P out { s with heap := h₁, toks := tk₁ } Q := by
  obtain ⟨ρ, d⟩ := out
  cases d with
  | none => exact fun oa' h' tk S => h oa' h' tk S
  | some d => exact fun v h' tk k x => h v h' tk k x

section
variable {prog : Program} {w : World} {K : Frag} {mg mb : Str → Option Value} {gn : List Str} {gl : List D} {Φ : Addr → List D → Option D} {A : Around} {k : Nat} {κ : Kx} {env : Env} {X : Addr → Prop} {G : Addr → Option Obj} {P : List PE} {ρ : List Ent} {oa : Nat → Addr}
  {s : Shared} {E : Value → Shared → Prop}

/-- what the expressions of a frame do, said for the frame -/
structure Evs (prog : Program) (w : World) (K : Frag) (mg mb : Str → Option Value) (gn : List Str) (gl : List D) (A : Around) (f : List Ent → T → Option D) : Prop where
  ev : ∀ κ env ρ t e d, EnvK κ env → IsE gn κ t e → f ρ t = some d → EvOK prog w K mg mb A κ env ρ e d
  ts : ∀ κ env ρ t e b, EnvK κ env → IsE gn κ t e → f ρ t = some (.bool b) → TsOK prog w K mg mb A κ env ρ e b
  hd : A.handled = none
  G : GOk K mg mb gn gl

variable {f : List Ent → T → Option D}
theorem Evs.inn (V : Evs prog w K mg mb gn gl A f) {t : T} {e : Expr} {d : D} (he : IsE gn κ t e) (hd : f ρ t = some d) (B : BsOK K mg mb κ env X G) (S : StOK κ env X G P ρ oa s.heap) {Q : Value → Shared → Prop}
    (hQ : ∀ v h' tk, Kp s.heap h' → StOK κ env X G P ρ oa h' → IsD (OwnX X ρ oa P) h' v d → Q v { s with heap := h', toks := tk }) : wpAny (model prog w) A (eval e env) Q E s :=
  V.ev κ env ρ t e d B.envK he hd (OwnX X ρ oa P) s Q E (S.top B) (S.xok B) S.env' fun v h' tk kk hv => hQ v h' tk kk (S.kp kk) hv
theorem Evs.tst (V : Evs prog w K mg mb gn gl A f) {t : T} {e : Expr} {b : Bool} (he : IsE gn κ t e) (hd : f ρ t = some (.bool b)) (B : BsOK K mg mb κ env X G) (S : StOK κ env X G P ρ oa s.heap) {Q : Bool → Shared → Prop}
    (hQ : ∀ h' tk, StOK κ env X G P ρ oa h' → Q b { s with heap := h', toks := tk }) : wpAny (model prog w) A (isTrue e env (eval e env)) Q E s :=
  V.ts κ env ρ t e b B.envK he hd (OwnX X ρ oa P) s Q E (S.top B) (S.xok B) S.env' fun h' tk kk => hQ h' tk (S.kp kk)

/-- [c] * n is new -/
theorem mul_new {a1 : Addr} {vs : List Value} {n1 : Nat} {n : Int} {tk : Tok} {Q : Value → Shared → Prop} (g1 : s.heap.get? a1 = some (sqO false vs n1)) (h1 : small n = true) (h3 : vs.length * n.toNat ≤ 10000)
    (h : Q (.ref s.heap.objs.size) { s with heap := s.heap.push { cls := .type "list", data := .seq ((List.replicate n.toNat vs).flatten).toArray }, toks := s.toks }) : wpAny (model prog w) A (binaryOp .Mult (.ref a1) (.int n tk)) Q E s := by
  have h2 : n.natAbs < 1073741824 := of_decide_eq_true h1
  have h4 : vs.toArray.size * n.toNat ≤ 2 ^ 24 := by rw [List.size_toArray]; exact Nat.le_trans h3 (by decide)
  refine wpAny_binaryOp_repeat_ref (T := "list") (U := "int") (by decide) ⟨_, g1, rfl⟩ (fun s' => typeIs_int s' n tk) noFill_list_mul PySem.F.fills_int_mul PySem.F.slot_int_rmul repeat_list PySem.F.slot_int_index.lookup
    (call_meets PySem.F.slot_int_rmul (typeIs_int s n tk) PySem.F.entry_int_rmul (PySem.F.args_int_rmul_2 _ _) (int___rmul___int_list n tk a1 vs.toArray n1)
      ⟨g1, rfl, ⟨_, g1, rfl⟩, call_meets PySem.F.slot_list_mul ⟨_, g1, rfl⟩ PySem.F.entry_list_mul (PySem.F.args_list_mul_2 _ _)
        (AutoListH.list___mul___list_int_3 a1 vs.toArray n1 n tk (by simp [Builtin.List.listFitsIndex]; omega) (by omega) (by simp [Builtin.List.listTooLong, sizeLine]; simp at h4; omega)) ⟨g1, ?_⟩⟩)
  have key : List.foldl (fun x1 x2 => x1 ++ x2) #[] (List.replicate (if vs.toArray.isEmpty = true then 0 else n.toNat) vs.toArray) = ((List.replicate n.toNat vs).flatten).toArray := by
    rw [foldl_rep]
    by_cases hv : vs = []
    · subst hv; simp
    · have : ¬ (vs.toArray.isEmpty = true) := by simpa using hv
      rw [if_neg this]; simp
  rw [key]
  exact h
theorem rep_ints {Y : Addr → Prop} {h : Heap} {i : Int} {t : Tok} : ∀ n : Nat, AllD Y h (List.replicate n [Value.int i t]).flatten (repl (.int i) n)
  | 0 => .nil
  | n + 1 => by rw [List.replicate_succ, List.flatten_cons, repl]; exact .cons (.int _ _) (rep_ints n)

theorem rh_ok (V : Evs prog w K mg mb gn gl A f) {r : Rh} {e : Expr} {a : Ent} (he : IsRh gn κ r e) (hd : evRh f ρ r = some a) (B : BsOK K mg mb κ env X G) (S : StOK κ env X G P ρ oa s.heap) {Q : Value → Shared → Prop}
    (hQ : ∀ v h' tk p, StOK κ env X G (p :: P) ρ oa h' → p.is v → p.ent = a → Q v { s with heap := h', toks := tk }) : wpAny (model prog w) A (eval e env) Q E s := by
  cases he with
  | val h1 =>
    rw [evRh] at hd
    split at hd
    · rename_i d hd'
      cases hd
      exact V.inn h1 hd' B S fun v h' tk kk S' hv => hQ v h' tk (.dat v d) (S'.hold hv) rfl rfl
    · cases hd
  | nil =>
    cases hd
    refine List_ (args_nil (wpAny_newObj_type ?_))
    exact hQ _ _ s.toks (.lst s.heap.objs.size []) (S.holdNew (kp_push _ _) (vs := []) (n := 0) (fresh_none _) (Heap.get?_push_size _ rfl) fun _ => .nil) rfl rfl
  | rep h1 =>
    rename_i i t' e' k' p q r
    rw [evRh] at hd
    split at hd
    · rename_i n hn
      rw [cond_eq_ite] at hd
      split at hd
      · rename_i hc
        cases hd
        obtain ⟨c1, c2⟩ := Bool.and_eq_true_iff.mp hc
        refine wpAny_BinOp (List_ (args_cons (wpAny_Constant_int (args_nil (wpAny_newObj_type ?_)))))
        have k1 : Kp s.heap (s.heap.push { cls := .type "list", data := .seq [Value.int i s.toks].toArray }) := kp_push _ _
        refine V.inn h1 hn B (S.kp k1) fun v h' tk kk S' hv => ?_
        cases hv
        refine mul_new (vs := [Value.int i s.toks]) (n1 := 0) (kk _ _ (Heap.get?_push_size _ rfl)) c1 (by simpa using of_decide_eq_true c2) ?_
        exact hQ _ _ tk (.lst h'.objs.size (repl (.int i) n.toNat)) (S'.holdNew (kp_push _ _) (n := 0) (fresh_none _) (Heap.get?_push_size _ rfl) fun Y => rep_ints n.toNat) rfl rfl
      · cases hd
    · cases hd

inductive PEs : List Value → List PE → Prop
  | nil : PEs [] []
  | cons {v : Value} {p : PE} {vs : List Value} {ps : List PE} : p.is v → PEs vs ps → PEs (v :: vs) (p :: ps)
theorem PEs.length {vs : List Value} {ps : List PE} (h : PEs vs ps) : vs.length = ps.length := by
  induction h with
  | nil => rfl
  | cons _ _ ih => rw [List.length_cons, List.length_cons, ih]
theorem PEs.app {vs ws : List Value} {ps qs : List PE} (h : PEs vs ps) (g : PEs ws qs) : PEs (vs ++ ws) (ps ++ qs) := by
  induction h with
  | nil => exact g
  | cons a _ ih => exact .cons a ih
theorem PEs.rev {vs : List Value} {ps : List PE} (h : PEs vs ps) : PEs vs.reverse ps.reverse := by
  induction h with
  | nil => exact .nil
  | cons a _ ih => rw [List.reverse_cons, List.reverse_cons]; exact ih.app (.cons a .nil)

theorem rhs_ok (V : Evs prog w K mg mb gn gl A f) (pos : Pos) : ∀ (rs : List Rh) (es : List Expr) (as : List Ent) (P : List PE) (s : Shared) (Q : List Value → Shared → Prop), IsRhs gn κ rs es → mapO (evRh f ρ) rs = some as → BsOK K mg mb κ env X G → StOK κ env X G P ρ oa s.heap →
    (∀ vs h' tk ps, StOK κ env X G (ps ++ P) ρ oa h' → PEs vs ps → ps.map PE.ent = as → Q vs { s with heap := h', toks := tk }) → wpAny (model prog w) A (spliced (backTo pos (starEach es env))) Q E s
  | [], es, as, P, s, Q, he, hm, _, S, hQ => by
    cases he; cases hm
    exact args_nil (hQ [] s.heap s.toks [] S .nil rfl)
  | r :: rs, es, as, P, s, Q, he, hm, B, S, hQ => by
    cases he with
    | cons h1 h2 =>
      rw [mapO] at hm
      split at hm
      · rename_i a ha
        split at hm
        · rename_i l hl
          cases hm
          refine args_cons (rh_ok V h1 ha B S fun v h' tk p S' hv hp => ?_) (h1.star _ _)
          refine rhs_ok V pos rs _ l (p :: P) _ _ h2 hl B S' fun vs h'' tk' ps S'' hvs hps => ?_
          refine hQ (v :: vs) h'' tk' (p :: ps) (S''.perm ?_) (.cons hv hvs) (by rw [List.map_cons, hp, hps])
          exact List.perm_middle
        · cases hm
      · cases hm

/-- names and their slots -/
inductive NsOK (κ : Kx) : List Nat → List Str → Prop
  | nil : NsOK κ [] []
  | cons {x : Nat} {n : Str} {xs : List Nat} {ns : List Str} : κ.names[x]? = some n → tgtK κ n = true → NsOK κ xs ns → NsOK κ (x :: xs) (n :: ns)
theorem NsOK.app {xs ys : List Nat} {ns ms : List Str} (h : NsOK κ xs ns) (g : NsOK κ ys ms) : NsOK κ (xs ++ ys) (ns ++ ms) := by
  induction h with
  | nil => exact g
  | cons a b _ ih => exact .cons a b ih
theorem NsOK.rev {xs : List Nat} {ns : List Str} (h : NsOK κ xs ns) : NsOK κ xs.reverse ns.reverse := by
  induction h with
  | nil => exact .nil
  | cons a b _ ih => rw [List.reverse_cons, List.reverse_cons]; exact ih.app (.cons a b .nil)
theorem NsOK.length {xs : List Nat} {ns : List Str} (h : NsOK κ xs ns) : xs.length = ns.length := by
  induction h with
  | nil => rfl
  | cons _ _ _ ih => rw [List.length_cons, List.length_cons, ih]
theorem IsNs.ok {xs : List Nat} {ns : List Str} {es : List Expr} (h : IsNs κ xs ns es) : NsOK κ xs ns := by
  induction h with
  | nil => exact .nil
  | cons a b _ ih => exact .cons a b ih
theorem IsNs.len {xs : List Nat} {ns : List Str} {es : List Expr} (h : IsNs κ xs ns es) : (assignEach es env).length = xs.length ∧ (assignEach es env).findIdx? (·.1) = none := by
  induction h with
  | nil => exact ⟨rfl, rfl⟩
  | cons a b _ ih =>
    rename_i x n p xs ns es _
    have e : assignEach (Expr.Name n p :: es) env = (false, assign (.Name n p) env) :: assignEach es env := rfl
    rw [e]
    refine ⟨by rw [List.length_cons, List.length_cons, ih.1], ?_⟩
    rw [List.findIdx?_cons, ih.2]; rfl

theorem stores_ok (B : BsOK K mg mb κ env X G) : ∀ (xs : List Nat) (ns : List Str) (ts : List (Value → Sem Unit)) (vs : List Value) (ps : List PE) (ρ : List Ent) (oa : Nat → Addr) (s : Shared) (Q : Unit → Shared → Prop), NsOK κ xs ns → PEs vs ps → xs.length = ps.length →
    ts.length = xs.length → (∀ (i : Nat) (n : Str) (t : Value → Sem Unit), ns[i]? = some n → ts[i]? = some t → ∀ (v : Value) (s : Shared) (Q : Unit → Shared → Prop), wpAny (model prog w) A (storeName env n v) Q E s → wpAny (model prog w) A (t v) Q E s) → StOK κ env X G (ps ++ P) ρ oa s.heap →
    (∀ oa' h' tk, StOK κ env X G P (setAll xs (ps.map PE.ent) ρ) oa' h' → Q () { s with heap := h', toks := tk }) → wpAny (model prog w) A (assignInOrder ts vs) Q E s
  | [], ns, ts, vs, ps, ρ, oa, s, Q, hx, hv, hl, ht, _, S, hQ => by
    cases ps with
    | nil =>
      cases hv
      have : ts = [] := List.length_eq_zero_iff.mp ht
      subst this
      exact wpAny_pure (hQ oa s.heap s.toks S)
    | cons => cases hl
  | x :: xs, ns, ts, vs, ps, ρ, oa, s, Q, hx, hv, hl, ht, hts, S, hQ => by
    cases hx with
    | cons h1 h2 h3 =>
      cases hv with
      | nil => cases hl
      | cons hp hps =>
        cases ts with
        | nil => cases ht
        | cons t ts =>
          rename_i n ns v p vs ps
          show wpAny _ A (do holding vs (t v); assignInOrder ts vs) Q E s
          refine wpAny_bind (wpAny_holding (hts 0 n t rfl rfl v s _ (store_ok B S h1 h2 hp fun oa' h' tk S' => ?_)))
          exact stores_ok B xs ns ts vs ps _ oa' _ Q h3 hps (by simpa using hl) (by simpa using ht) (fun i n' t' e1 e2 => hts (i + 1) n' t' e1 e2) S' fun oa'' h'' tk' S'' => hQ oa'' h'' tk' S''

theorem IsNs.each {xs : List Nat} {ns : List Str} {es : List Expr} (h : IsNs κ xs ns es) : ∀ (i : Nat) (n : Str) (t : Value → Sem Unit), ns[i]? = some n → ((assignEach es env).map (·.2))[i]? = some t → ∀ v (s : Shared) (Q : Unit → Shared → Prop), wpAny (model prog w) A (storeName env n v) Q E s → wpAny (model prog w) A (t v) Q E s := by
  induction h with
  | nil => intro i n t e; simp at e
  | cons a b _ ih =>
    rename_i x m p xs ns es _
    intro i n t e1 e2
    have e : assignEach (Expr.Name m p :: es) env = (false, assign (.Name m p) env) :: assignEach es env := rfl
    rw [e, List.map_cons] at e2
    cases i with
    | zero =>
      simp only [List.getElem?_cons_zero, Option.some.injEq] at e1 e2
      subst e1 e2
      exact fun v s Q h => wpAny_assign_Name h
    | succ i =>
      simp only [List.getElem?_cons_succ] at e1 e2
      exact ih i n t e1 e2

theorem tup_ok (V : Evs prog w K mg mb gn gl A f) {sw : Bool} {xs : List Nat} {ns : List Str} {ts : List Expr} {rs : List Rh} {es : List Expr} {k l : Nat} {p q r : Pos} {as : List Ent} (hns : IsNs κ xs ns ts) (hrs : IsRhs gn κ rs es) (hlen : xs.length = rs.length) (h100 : rs.length ≤ 100)
    (hsw : swappedStores [.Tuple ts k p] (.Tuple es l q) env = pure (cond sw (some ns) none)) (hm : mapO (evRh f ρ) rs = some as) (B : BsOK K mg mb κ env X G) (S : StOK κ env X G P ρ oa s.heap) {Q : Flow → Shared → Prop}
    (hQ : ∀ oa' h' tk, StOK κ env X G P (cond sw (setAll xs.reverse as.reverse ρ) (setAll xs as ρ)) oa' h' → Q .next { s with heap := h', toks := tk }) : wpAny (model prog w) A (exec (.Assign [.Tuple ts k p] (.Tuple es l q) r) env) Q E s := by
  have hal : as.length = rs.length := by
    have go : ∀ (rs : List Rh) (as : List Ent), mapO (evRh f ρ) rs = some as → as.length = rs.length := by
      intro rs
      induction rs with
      | nil => intro as h; cases h; rfl
      | cons a rs ih =>
        intro as h
        rw [mapO] at h
        split at h
        · split at h
          · rename_i l hl; cases h; rw [List.length_cons, List.length_cons, ih _ hl]
          · cases h
        · cases h
    exact go _ _ hm
  have core : ∀ {Q' : Value → Shared → Prop}, (∀ t vs h' tk ps, StOK κ env X G (ps ++ P) ρ oa h' → PEs vs ps → ps.map PE.ent = as → h'.get? t = some (sqO true vs 0) → vs.length = xs.length → Q' (.ref t) { s with heap := h', toks := tk }) → wpAny (model prog w) A (eval (.Tuple es l q) env) Q' E s := by
    intro Q' h
    refine Tuple_ (rhs_ok V q rs es as P s _ hrs hm B S fun vs h' tk ps S' hvs hps => ?_)
    have hvl : vs.length = xs.length := by rw [hvs.length, ← List.length_map (f := PE.ent), hps, hal, hlen]
    refine wpAny_newObj_type ?_ (by show vs.toArray.size ≤ sizeLine; rw [List.size_toArray, hvl, hlen]; exact len_of (by omega))
    exact h h'.objs.size vs _ tk ps (S'.kp (kp_push _ _)) hvs hps (Heap.get?_push_size _ rfl) hvl
  cases sw with
  | false =>
    refine Assign_Tuple (core fun t vs h' tk ps S' hvs hps hg hvl => ?_) rfl hsw
    have hl2 := hns.len (env := env)
    refine wpAny_assign_Tuple V.hd ⟨_, hg, rfl, 0, rfl⟩ (by rw [hl2.1, List.size_toArray, hvl]) hl2.2 fun h₂ hx₂ => ?_
    have k2 : Kp h' h₂ := fun b o e => hx₂ b o (Nat.ne_of_lt (Heap.lt_size e)) e
    refine stores_ok B xs ns _ vs ps ρ oa _ _ hns.ok hvs (by rw [← hvl, hvs.length]) (by rw [List.length_map, hl2.1]) (hns.each) (S'.kp k2) fun oa' h₃ tk₃ S₃ => ?_
    rw [hps] at S₃
    exact hQ oa' h₃ tk₃ S₃
  | true =>
    refine Assign_Tuple_swapped (core fun t vs h' tk ps S' hvs hps hg hvl => ?_) rfl hsw
    have hnl : ns.length = vs.toArray.size := by rw [List.size_toArray, hvl, hns.ok.length]
    rw [hnl]
    refine unpackItems_tuple V.hd ⟨_, hg, rfl, 0, rfl⟩ fun h₂ hx₂ => ?_
    have k2 : Kp h' h₂ := fun b o e => hx₂ b o (Nat.ne_of_lt (Heap.lt_size e)) e
    have hrl : xs.reverse.length = ps.reverse.length := by rw [List.length_reverse, List.length_reverse, ← hvl, hvs.length]
    refine stores_ok B xs.reverse ns.reverse _ vs.reverse ps.reverse ρ oa _ _ hns.ok.rev hvs.rev hrl (by rw [List.length_map, List.length_reverse, List.length_reverse, hns.ok.length]) (fun i n t e1 e2 => ?_) ((S'.kp k2).perm (List.Perm.append_right _ (List.reverse_perm _).symm)) fun oa' h₃ tk₃ S₃ => ?_
    · rw [List.getElem?_map, e1] at e2
      cases e2
      exact fun v s Q h => wpAny_bindName h
    · rw [List.map_reverse, hps] at S₃
      exact hQ oa' h₃ tk₃ S₃
end

/-! ## all that is not the frame's to write, kept -/
noncomputable def InW (env : Env) (ρ : List Ent) (oa : Nat → Addr) (P : List PE) (b : Addr) : Prop := b = env.locals ∨ (∃ y, env.cells.lookup y = some b) ∨ (∃ i l, ρ[i]? = some (Ent.own l) ∧ oa i = b) ∨ ∃ l, PE.lst b l ∈ P
open Classical in
noncomputable def Gf (env : Env) (ρ : List Ent) (oa : Nat → Addr) (P : List PE) (h : Heap) : Addr → Option Obj := fun b => if InW env ρ oa P b then none else h.get? b
theorem Gf.pos {env : Env} {ρ : List Ent} {oa : Nat → Addr} {P : List PE} {h : Heap} {b : Addr} (x : InW env ρ oa P b) : Gf env ρ oa P h b = none := if_pos x
theorem Gf.neg {env : Env} {ρ : List Ent} {oa : Nat → Addr} {P : List PE} {h : Heap} {b : Addr} (x : ¬ InW env ρ oa P b) : Gf env ρ oa P h b = h.get? b := if_neg x
theorem Gf.inv {env : Env} {ρ : List Ent} {oa : Nat → Addr} {P : List PE} {h : Heap} {b : Addr} {o : Obj} (e : Gf env ρ oa P h b = some o) : ¬ InW env ρ oa P b ∧ h.get? b = some o := by
  by_cases x : InW env ρ oa P b
  · rw [Gf.pos x] at e; cases e
  · rw [Gf.neg x] at e; exact ⟨x, e⟩

section
variable {K : Frag} {mg mb : Str → Option Value} {κ : Kx} {env : Env} {X : Addr → Prop} {G G' : Addr → Option Obj} {P P₀ : List PE} {ρ ρ' : List Ent} {oa oa' : Nat → Addr} {h h' : Heap}
theorem StOK.notW (S : StOK κ env X G P ρ oa h) {b : Addr} {o : Obj} (e : G b = some o) : ¬ InW env ρ oa P b := by
  rintro (rfl | ⟨y, q⟩ | ⟨i, l, q, rfl⟩ | ⟨l, q⟩)
  · rw [S.gL] at e; cases e
  · rw [S.gC y b q] at e; cases e
  · obtain ⟨vs, k, n, _, _, _, _, q2⟩ := S.ent i _ q
    rw [q2] at e; cases e
  · rw [(S.po _ _ q).2.1] at e; cases e
theorem StOK.full (S : StOK κ env X G P ρ oa h) : StOK κ env X (Gf env ρ oa P h) P ρ oa h := by
  refine ⟨fun b o e => (Gf.inv e).2, S.ns, S.cells, Gf.pos (.inl rfl), fun y c e => Gf.pos (.inr (.inl ⟨y, e⟩)), fun i e he => ?_, S.inj, S.pv, fun a l hm => ?_, S.pp⟩
  · have z := S.ent i e he
    cases e with
    | no => trivial
    | val d => exact z
    | own l => obtain ⟨vs, c, n, h1, h2, h3, h4, h5⟩ := z; exact ⟨vs, c, n, h1, h2, h3, h4, Gf.pos (.inr (.inr (.inl ⟨i, l, he, rfl⟩)))⟩
  · obtain ⟨h1, h2, h3⟩ := S.po a l hm
    exact ⟨h1, Gf.pos (.inr (.inr (.inr ⟨l, hm⟩))), h3⟩
theorem StOK.sup (S : StOK κ env X G P ρ oa h) : ∀ b o, G b = some o → Gf env ρ oa P h b = some o := fun b o e => by
  rw [Gf.neg (S.notW e)]; exact S.keep b o e
theorem BsOK.full (B : BsOK K mg mb κ env X G) (S : StOK κ env X G P ρ oa h) : BsOK K mg mb κ env X (Gf env ρ oa P h) := by
  obtain ⟨h₀, T, k⟩ := B.base
  exact { B with base := ⟨h₀, T, fun b o e => S.sup b o (k b o e)⟩, xg := fun a ha => let ⟨o, e⟩ := B.xg a ha; ⟨o, S.sup _ _ e⟩ }
theorem StOK.back (sup : ∀ b o, G b = some o → G' b = some o) (S : StOK κ env X G' P ρ oa h) : StOK κ env X G P ρ oa h := by
  have no : ∀ {b : Addr}, G' b = none → G b = none := fun {b} e => by
    cases q : G b with
    | none => rfl
    | some o => rw [sup b o q] at e; cases e
  refine ⟨fun b o e => S.keep b o (sup b o e), S.ns, S.cells, no S.gL, fun y c e => no (S.gC y c e), fun i e he => ?_, S.inj, S.pv, fun a l hm => ?_, S.pp⟩
  · have z := S.ent i e he
    cases e with
    | no => trivial
    | val d => exact z
    | own l => obtain ⟨vs, c, n, h1, h2, h3, h4, h5⟩ := z; exact ⟨vs, c, n, h1, h2, h3, h4, no h5⟩
  · obtain ⟨h1, h2, h3⟩ := S.po a l hm
    exact ⟨h1, no h2, h3⟩
/-- data go through -/
theorem StOK.tr (S : StOK κ env X G P₀ ρ oa h) (S' : StOK κ env X (Gf env ρ oa P₀ h) P ρ' oa' h') (hP : ∀ p ∈ P, p ∈ P₀) {v : Value} {d : D} (x : IsD (OwnX X ρ oa P₀) h v d) : IsD (OwnX X ρ' oa' P) h' v d := by
  refine x.imp fun a t vs n hx e => ?_
  have hw : ¬ InW env ρ oa P₀ a := by
    rintro (rfl | ⟨y, q⟩ | q | q)
    · obtain ⟨m, hm⟩ := S.ns; exact ns_noSq hm _ _ _ e
    · obtain ⟨u, hu⟩ := S.cells y a q; exact cell_noSq hu _ _ _ e
    · exact hx (.inr (.inl q))
    · exact hx (.inr (.inr q))
  have hg : Gf env ρ oa P₀ h a = some (sqO t vs n) := by rw [Gf.neg hw]; exact e
  refine ⟨?_, S'.keep _ _ hg⟩
  rintro (q | ⟨i, l, q, rfl⟩ | ⟨l, q⟩)
  · exact hx (.inl q)
  · obtain ⟨vs', c, n', _, _, _, _, q2⟩ := S'.ent i _ q
    rw [q2] at hg; cases hg
  · exact hx (.inr (.inr ⟨l, hP _ q⟩))
theorem OwnX.dat {v : Value} {d : D} {a : Addr} (x : OwnX X ρ oa (.dat v d :: P) a) : OwnX X ρ oa P a := by
  rcases x with x | x | ⟨l, hm⟩
  · exact .inl x
  · exact .inr (.inl x)
  · rcases List.mem_cons.mp hm with q | q
    · cases q
    · exact .inr (.inr ⟨l, q⟩)
theorem InW.dat {v : Value} {d : D} {a : Addr} : InW env ρ oa (.dat v d :: P) a ↔ InW env ρ oa P a := by
  constructor
  · rintro (x | x | x | ⟨l, hm⟩)
    · exact .inl x
    · exact .inr (.inl x)
    · exact .inr (.inr (.inl x))
    · rcases List.mem_cons.mp hm with q | q
      · cases q
      · exact .inr (.inr (.inr ⟨l, q⟩))
  · rintro (x | x | x | ⟨l, hm⟩)
    · exact .inl x
    · exact .inr (.inl x)
    · exact .inr (.inr (.inl x))
    · exact .inr (.inr (.inr ⟨l, .tail _ hm⟩))
/-- something turns that is no list, no tuple, and not the frame's -/
theorem StOK.but (bad : Addr → Prop) (S : StOK κ env X G P ρ oa h) (k : ∀ b o, ¬ bad b → h.get? b = some o → h'.get? b = some o) (hb : ∀ b, bad b → (∀ t vs n, h.get? b ≠ some (sqO t vs n)) ∧ ¬ InW env ρ oa P b ∧ G b = none) : StOK κ env X G P ρ oa h' := by
  have sqE : ∀ b t vs c, h.get? b = some (sqO t vs c) → h'.get? b = some (sqO t vs c) := fun b t vs c e => k b _ (fun q => (hb b q).1 _ _ _ e) e
  have sq : ∀ Y, SqKp Y h h' := fun Y a t vs n _ e => sqE a t vs n e
  have nL : ¬ bad env.locals := fun q => (hb _ q).2.1 (.inl rfl)
  have nC : ∀ {y : Str} {c : Addr}, env.cells.lookup y = some c → ¬ bad c := fun {y c} e q => (hb _ q).2.1 (.inr (.inl ⟨y, e⟩))
  have see : ∀ {y : Str} {u : Value}, Sees env h y u → Sees env h' y u := fun q => q.imp (fun ⟨a, m, b, c⟩ => ⟨a, m, b.at' fun o e => k _ o nL e, c⟩) fun ⟨a, c, b, ⟨o, d, e⟩⟩ => ⟨a, c, b, ⟨o, k _ o (nC b) d, e⟩⟩
  refine ⟨fun b o e => k b o (fun q => by rw [(hb b q).2.2] at e; cases e) (S.keep b o e), let ⟨m, q⟩ := S.ns; ⟨m, q.at' fun o e => k _ o nL e⟩, fun y c e => let ⟨v, o, q, r⟩ := S.cells y c e; ⟨v, o, k _ o (nC e) q, r⟩, S.gL, S.gC, fun i e he => ?_, S.inj,
    fun v d hm => (S.pv _ _ hm).sq (sq _), fun a l hm => ?_, S.pp⟩
  · have z := S.ent i e he
    cases e with
    | no => trivial
    | val d => obtain ⟨v, n', h1, h2, h3⟩ := z; exact ⟨v, n', h1, h2.sq (sq _), see h3⟩
    | own l => obtain ⟨vs, c, n', h1, h2, h3, h4, h5⟩ := z; exact ⟨vs, c, n', h1, see h2, sqE _ _ _ _ h3, h4.sq (sq _), h5⟩
  · obtain ⟨⟨vs, c, h1, h2⟩, h3, h4⟩ := S.po a l hm
    exact ⟨⟨vs, c, sqE _ _ _ _ h1, h2.sq (sq _)⟩, h3, h4⟩
theorem StOK.exists (S : StOK κ env X G P ρ oa h) {b : Addr} (x : InW env ρ oa P b) : ∃ o, h.get? b = some o := by
  rcases x with rfl | ⟨y, q⟩ | ⟨i, l, q, rfl⟩ | ⟨l, q⟩
  · obtain ⟨m, o, es, ep, e, _⟩ := S.ns; exact ⟨o, e⟩
  · obtain ⟨v, o, e, _⟩ := S.cells y b q; exact ⟨o, e⟩
  · obtain ⟨vs, c, n, _, _, e, _⟩ := S.ent i _ q; exact ⟨_, e⟩
  · obtain ⟨⟨vs, c, e, _⟩, _⟩ := S.po _ _ q; exact ⟨_, e⟩
theorem StOK.sqNotW (S : StOK κ env X G P ρ oa h) {b : Addr} {t : Bool} {vs : List Value} {n : Nat} (hx : ¬ OwnX X ρ oa P b) (e : h.get? b = some (sqO t vs n)) : ¬ InW env ρ oa P b := by
  rintro (rfl | ⟨y, q⟩ | q | q)
  · obtain ⟨m, hm⟩ := S.ns; exact ns_noSq hm _ _ _ e
  · obtain ⟨u, hu⟩ := S.cells y b q; exact cell_noSq hu _ _ _ e
  · exact hx (.inr (.inl q))
  · exact hx (.inr (.inr q))
end

section
variable {prog : Program} {w : World} {K : Frag} {mg mb : Str → Option Value} {gn : List Str} {gl : List D} {A : Around} {κ : Kx} {env : Env} {X : Addr → Prop} {G : Addr → Option Obj} {P : List PE} {ρ : List Ent} {oa : Nat → Addr} {s : Shared} {E : Value → Shared → Prop}
  {f : List Ent → T → Option D} {run : List Ent → Out} {body : List Stmt}

set_option maxHeartbeats 2000000 in
theorem for1_ok {x : Nat} {n : Str} {it : Expr} {ds : List D} {out : List Ent × Option D} {p q : Pos} {Q : Flow → Shared → Prop} (hn : κ.names[x]? = some n) (ht : tgtK κ n = true) (hfold : ∀ v, foldedSetIterable it env v = pure v)
    (hb : BlkOK prog w K mg mb A κ env body run) (hit : ItOK prog w K mg mb A κ env ρ it ds) (hgo : fgo run x ds ρ = some out) (B : BsOK K mg mb κ env X G) (S : StOK κ env X G P ρ oa s.heap) (hQ : Post κ env X G P out s Q) :
    wpAny (model prog w) A (exec (.For (.Name n p) it body [] q) env) Q E s := by
  refine wpAny_For (hit (OwnX X ρ oa P) s _ E (S.top B) (S.xok B) S.env' fun I fp Pp St h₁ h' tk k₁ it => ?_) hfold
  have S₁ := S.kp k₁
  have S' := S₁.kp it.kp
  have hGI : G I = none := by
    cases e : G I with
    | none => rfl
    | some o => have := S₁.keep _ _ e; rw [it.new] at this; cases this
  have hIw : ¬ InW env ρ oa P I := fun q => by
    obtain ⟨o, e⟩ := S₁.exists q
    rw [it.new] at e; cases e
  have hIf : I ∈ fp := it.W.sub I (List.mem_singleton.mpr rfl)
  refine codeAny_forLoop_any
    (fun k s' => ∃ i ρ oa h tk, s' = { s with heap := h, toks := tk } ∧ i ≤ ds.length ∧ k = ds.length + 1 - i ∧ St i h ∧ StOK κ env X G P ρ oa h ∧ fgo run x (ds.drop i) ρ = some out ∧
      (∀ j v d, Pp j v → ds[j]? = some d → IsD (OwnX X ρ oa P) h v d) ∧ (∀ b ∈ fp, ¬ InW env ρ oa P b ∧ ∃ o, h.get? b = some o)) ?_ (ds.length + 1)
    ⟨0, ρ, oa, h', tk, rfl, Nat.zero_le _, rfl, it.st, S', by simpa using hgo, fun j v d hp hd => (it.items j v d hp hd).kp it.kp, fun b hb => ?_⟩
  · rintro k s' ⟨i, ρ, oa, h, tk, rfl, hi, rfl, hst, S, hgo, hitems, hfp⟩
    have noI : ∀ t vs c, h.get? I ≠ some (sqO t vs c) := fun t vs c e => by
      obtain ⟨o, e1, e2⟩ := it.it i _ hst
      rw [e] at e1; cases e1; exact e2 t vs c rfl
    have but : ∀ {h₂ : Heap}, (∀ b o, b ∉ [I] → h.get? b = some o → h₂.get? b = some o) → StOK κ env X G P ρ oa h₂ := fun hk => S.but (fun b => b = I) (fun b o hb e => hk b o (by simpa using hb) e) fun b hb => by
      subst hb; exact ⟨noI, (hfp _ hIf).1, hGI⟩
    by_cases hlt : i < ds.length
    · refine it.W.item i _ _ _ hlt hst fun v h₂ tk₂ hPv hst₂ hk₂ => ?_
      have S₂ : StOK κ env X G P ρ oa h₂ := but hk₂
      obtain ⟨d, hd⟩ : ∃ d, ds[i]? = some d := ⟨ds[i], List.getElem?_eq_getElem hlt⟩
      have sq₂ : SqKp (OwnX X ρ oa P) h h₂ := SqKp.of (c := I) (fun b o hb e => hk₂ b o (by simpa using hb) e) (.inr noI)
      have hv : IsD (OwnX X ρ oa P) h₂ v d := (hitems i v d hPv hd).sq sq₂
      have S₃ := S₂.hold hv
      have B₃ := B.full S₃
      have fp₃ : ∀ b ∈ fp, ∃ o, Gf env ρ oa (.dat v d :: P) h₂ b = some o := fun b hb => by
        obtain ⟨q1, o, q2⟩ := hfp b hb
        by_cases hbI : b = I
        · subst hbI
          obtain ⟨o', e, _⟩ := it.it _ _ hst₂
          exact ⟨o', by rw [Gf.neg (fun z => q1 (InW.dat.mp z))]; exact e⟩
        · exact ⟨o, by rw [Gf.neg (fun z => q1 (InW.dat.mp z))]; exact hk₂ b o (by simpa using hbI) q2⟩
      have hdrop : ds.drop i = d :: ds.drop (i + 1) := by
        rw [List.getElem?_eq_getElem hlt] at hd; cases hd
        exact List.drop_eq_getElem_cons hlt
      rw [hdrop, fgo] at hgo
      show wpAny _ A (pure ()) _ _ _
      refine wpAny_pure (wpAny_assign_Name (store_ok B₃ S₃.full hn ht rfl fun oa₄ h₄ tk₄ S₄ => ?_))
      split at hgo
      · rename_i ρ' hrun
        refine hb _ _ X _ P oa₄ _ _ _ hrun B₃ S₄ (fun oa₅ h₅ tk₅ S₅ => ?_)
        refine ⟨ds.length + 1 - (i + 1), oS hlt, i + 1, ρ', oa₅, h₅, tk₅, rfl, hlt, rfl, it.W.frame _ _ _ hst₂ fun b hb o e => ?_, S₅.back fun b o e => S₃.sup b o e, hgo, fun j v' d' hp' hd' => ?_, fun b hb => ?_⟩
        · obtain ⟨o', q⟩ := fp₃ b hb
          have := (Gf.inv q).2
          rw [e] at this; cases this
          exact S₅.keep _ _ q
        · exact S₃.tr S₅ (fun p hp => .tail _ hp) (((hitems j v' d' hp' hd').sq sq₂).mono fun a => OwnX.dat)
        · obtain ⟨o', q⟩ := fp₃ b hb
          exact ⟨S₅.notW q, o', S₅.keep _ _ q⟩
      · rename_i ρ' r hrun
        cases hgo
        exact hb _ _ X _ P oa₄ _ _ _ hrun B₃ S₄ (fun v' h₅ tk₅ kk hv' => hQ v' h₅ tk₅ (fun b o e => kk b o (S₃.sup b o e)) hv')
      · cases hgo
    · obtain rfl : i = ds.length := Nat.le_antisymm hi (Nat.not_lt.mp hlt)
      refine it.W.done _ _ _ hst fun h₂ tk₂ hk₂ => wpAny_execs_nil ?_
      rw [List.drop_length, fgo] at hgo
      cases hgo
      exact hQ oa h₂ tk₂ (but hk₂)
  · rcases it.fp b hb with rfl | ⟨vs, c, q1, q2⟩
    · obtain ⟨o, e, _⟩ := it.it _ _ it.st
      exact ⟨hIw, o, e⟩
    · exact ⟨S₁.sqNotW q1 q2, _, it.kp _ _ q2⟩

theorem while_ok {test : List Ent → Option Bool} {c : Expr} {p : Pos} {out : List Ent × Option D} {Q : Flow → Shared → Prop} (hb : BlkOK prog w K mg mb A κ env body run)
    (htest : ∀ (ρ : List Ent) (b : Bool) (oa : Nat → Addr) (s : Shared) (Q : Bool → Shared → Prop) (E : Value → Shared → Prop), test ρ = some b → StOK κ env X G P ρ oa s.heap → (∀ h' tk, StOK κ env X G P ρ oa h' → Q b { s with heap := h', toks := tk }) → wpAny (model prog w) A (isTrue c env (eval c env)) Q E s)
    (hgo : ∃ n, wgo test run n ρ = some out) (B : BsOK K mg mb κ env X G) (S : StOK κ env X G P ρ oa s.heap) (hQ : Post κ env X G P out s Q) : wpAny (model prog w) A (exec (.While c body [] p) env) Q E s := by
  obtain ⟨n, hgo⟩ := hgo
  refine wpAny_While ?_
  refine codeAny_whileLoop (fun k s' => ∃ ρ oa h tk, s' = { s with heap := h, toks := tk } ∧ StOK κ env X G P ρ oa h ∧ wgo test run k ρ = some out) ?_ n ⟨ρ, oa, s.heap, s.toks, rfl, S, hgo⟩
  rintro k s' ⟨ρ, oa, h, tk, rfl, S, hgo⟩
  cases k with
  | zero => cases hgo
  | succ k =>
    rw [wgo] at hgo
    split at hgo
    · rename_i ht
      refine htest ρ true oa _ _ _ ht S fun h₂ tk₂ S₂ => ?_
      rw [if_pos rfl]
      split at hgo
      · rename_i ρ' hrun
        exact hb _ _ X G P oa _ _ _ hrun B S₂ fun oa₅ h₅ tk₅ S₅ => ⟨k, Nat.lt_succ_self _, ρ', oa₅, h₅, tk₅, rfl, S₅, hgo⟩
      · rename_i ρ' r hrun
        cases hgo
        exact hb _ _ X G P oa _ _ _ hrun B S₂ fun v' h₅ tk₅ kk hv' => hQ v' h₅ tk₅ kk hv'
      · cases hgo
    · rename_i ht
      cases hgo
      refine htest ρ false oa _ _ _ ht S fun h₂ tk₂ S₂ => ?_
      rw [if_neg Bool.false_ne_true]
      exact wpAny_execs_nil (hQ oa h₂ tk₂ S₂)
    · cases hgo
end

theorem setL_eq (l : List D) (n : Nat) (d : D) : setL l n d = l.set n d := by
  induction l generalizing n with
  | nil => cases n <;> rfl
  | cons a r ih =>
    cases n with
    | zero => rfl
    | succ n => rw [setL, ih, List.set_cons_succ]

section
variable {prog : Program} {w : World} {K : Frag} {mg mb : Str → Option Value} {gn : List Str} {gl : List D} {A : Around} {κ : Kx} {env : Env} {X : Addr → Prop} {G : Addr → Option Obj} {P : List PE} {ρ : List Ent} {oa : Nat → Addr}
  {s : Shared} {E : Value → Shared → Prop} {Q : Flow → Shared → Prop} {f : List Ent → T → Option D}

theorem ret_ok (V : Evs prog w K mg mb gn gl A f) {t : T} {e : Expr} {p : Pos} {d : D} (he : IsE gn κ t e) (hd : f ρ t = some d) (B : BsOK K mg mb κ env X G) (S : StOK κ env X G P ρ oa s.heap) (hQ : Post κ env X G P (ρ, some d) s Q) : wpAny (model prog w) A (exec (.Return (some e) p) env) Q E s :=
  wpAny_Return_some (V.inn he hd B S fun v h' tk _ S' hv => hQ.ret v h' tk S'.keep (hv.mono fun _ ha => .inl ha))

theorem asg_ok (V : Evs prog w K mg mb gn gl A f) {x : Nat} {n : Str} {r : Rh} {e : Expr} {p q : Pos} {a : Ent} (hn : κ.names[x]? = some n) (ht : tgtK κ n = true) (hr : IsRh gn κ r e) (hc : notComp e = true) (hd : evRh f ρ r = some a) (B : BsOK K mg mb κ env X G) (S : StOK κ env X G P ρ oa s.heap)
    (hQ : Post κ env X G P (setE ρ x a, none) s Q) : wpAny (model prog w) A (exec (.Assign [.Name n p] e q) env) Q E s := by
  refine wpAny_Assign_Name (rh_ok V hr hd B S fun v h' tk p S' hv hp => store_ok B S' hn ht hv fun oa' h'' tk' S'' => ?_) (hr.noSwap hc _ _ _)
  subst hp
  exact hQ.next oa' h'' tk' S''

theorem name_ok (B : BsOK K mg mb κ env X G) {n : Str} {p : Pos} {x : Nat} {v : Value} {Q : Value → Shared → Prop} (hn : κ.names[x]? = some n) (see : Sees env s.heap n v) (h : Q v s) : wpAny (model prog w) A (eval (.Name n p) env) Q E s :=
  see.name B.envK.kind (B.envK.ok n (List.mem_of_getElem? hn)) h

theorem setI_ok (V : Evs prog w K mg mb gn gl A f) {x : Nat} {n : Str} {i v : T} {i' v' : Expr} {p q r : Pos} {d : D} {k : Int} {l : List D} (hn : κ.names[x]? = some n) (hi : IsE gn κ i i') (hv : IsE gn κ v v') (dv : f ρ v = some d) (di : f ρ i = some (.int k)) (hx : ρ[x]? = some (.own l))
    (c0 : 0 ≤ k) (c1 : k < (l.length : Int)) (c2 : small k = true) (B : BsOK K mg mb κ env X G) (S : StOK κ env X G P ρ oa s.heap) (hQ : Post κ env X G P (setE ρ x (.own (setL l k.toNat d)), none) s Q) :
    wpAny (model prog w) A (exec (.Assign [.Subscript (.Name n p) i' q] v' r) env) Q E s := by
  refine wpAny_Assign_Subscript (V.inn hv dv B S fun vv h₁ tk₁ k₁ S₁ hv₁ => ?_) (hv.noSwapS _ _ _ _ _)
  obtain ⟨vs, c, n', hn', see, g, ad, g0⟩ := S₁.ent x _ hx
  rw [hn] at hn'; cases hn'
  refine name_ok B hn see ?_
  refine V.inn hi di B S₁ fun iv h₂ tk₂ k₂ S₂ hi₂ => ?_
  cases hi₂
  have c3 : k.natAbs < 1073741824 := of_decide_eq_true c2
  refine ki_setAt (items := vs.toArray) (n := c) (k₂ _ _ g) c0 (by omega) (by rw [List.size_toArray, ad.length]; exact c1) ?_
  have hg : Heap.get? (h₂.update (oa x) (Obj.mapSeq (·.setIfInBounds k.toNat vv))) (oa x) = some (sqO false (vs.set k.toNat vv) c) := by
    have := PySem.IsL.update (n := c) (k₂ _ _ g : h₂.get? (oa x) = some (sqO false vs c)) (·.setIfInBounds k.toNat vv)
    simp only [Array.size_setIfInBounds, beq_self_eq_true, if_true] at this
    rw [List.setIfInBounds_toArray] at this
    exact this
  refine hQ.next oa _ tk₂ (S₂.wrote hx (Heap.SameBut.update ..) hg ?_)
  rw [setL_eq]
  exact (ad.kp k₂).set k.toNat (hv₁.kp k₂)

theorem aug_ok (V : Evs prog w K mg mb gn gl A f) {x : Nat} {n : Str} {op : Operator} {t : T} {e : Expr} {p q : Pos} {a b c : Int} (hn : κ.names[x]? = some n) (ht : tgtK κ n = true) (hop : augOk op = true) (he : IsE gn κ t e) (hx : ρ[x]? = some (.val (.int a))) (hd : f ρ t = some (.int b)) (hb : binI op a b = some c)
    (B : BsOK K mg mb κ env X G) (S : StOK κ env X G P ρ oa s.heap) (hQ : Post κ env X G P (setE ρ x (.val (.int c)), none) s Q) : wpAny (model prog w) A (exec (.AugAssign (.Name n p) op e q) env) Q E s := by
  obtain ⟨v, n', hn', hv, see⟩ := S.ent x _ hx
  rw [hn] at hn'; cases hn'
  cases hv
  refine wpAny_AugAssign_Name (see.load B.envK.kind (B.envK.ok n (List.mem_of_getElem? hn)) ?_)
  refine V.inn he hd B S fun w₂ h₂ tk₂ k₂ S₂ hv₂ => ?_
  cases hv₂
  refine ibin_ok (by cases op <;> simp [augOk] at hop ⊢) hb fun t' tk' => ?_
  have S₃ : StOK κ env X G (.dat (.int c t') (.int c) :: P) ρ oa h₂ := S₂.hold (.int _ _)
  exact store_ok B S₃ hn ht rfl fun oa' h'' tk'' S'' => hQ.next oa' h'' tk'' S''

theorem Expr_none {e : Expr} {c : Pos} (hk : env.scope.kind = .function) (h : wpAny (model prog w) A (eval e env) (fun v s' => v = .none ∧ Q .next s') E s) (hs : swapsWith e none c.line env = pure false) : wpAny (model prog w) A (exec (.Expr e c) env) Q E s := by
  refine wpAny_Expr (wpAny_mono h (fun v s' q => ?_) fun _ _ x => x) ?_ hs
  · obtain ⟨rfl, q⟩ := q; exact q
  · unfold interactive; rw [hk]; rfl

theorem app_ok (V : Evs prog w K mg mb gn gl A f) {x : Nat} {n : Str} {t : T} {e : Expr} {p q r c : Pos} {d : D} {l : List D} (hn : κ.names[x]? = some n) (he : IsE gn κ t e) (hl : (q.endLine == r.line) = true) (hd : f ρ t = some d) (hx : ρ[x]? = some (.own l)) (hlen : l.length ≤ 10000)
    (B : BsOK K mg mb κ env X G) (S : StOK κ env X G P ρ oa s.heap) (hQ : Post κ env X G P (setE ρ x (.own (l ++ [d])), none) s Q) :
    wpAny (model prog w) A (exec (.Expr (.Call (.Attribute (.Name n p) (Str.ofString "append") q) [e] [] r) c) env) Q E s := by
  refine Expr_none B.envK.kind ?_ rfl
  have hst : backTo r (starEach [e] env) = [(false, eval e env)] := by rw [he.star]; rfl
  refine wpAny_Call_append rfl (by rw [hst]; rfl) hl hst ?_
  obtain ⟨vs, k, n', hn', see, g, ad, g0⟩ := S.ent x _ hx
  rw [hn] at hn'; cases hn'
  refine name_ok B hn see ⟨oa x, vs.toArray, rfl, ⟨_, k, g, rfl, rfl, rfl⟩, ?_⟩
  refine V.inn he hd B S fun v h₂ tk₂ k₂ S₂ hv₂ => ?_
  refine append_at (k₂ _ _ g) (fun h' hs hg => ⟨rfl, ?_⟩) (by rw [List.size_toArray, ad.length]; exact len_of hlen)
  have hs : Heap.SameBut (oa x) h₂ h' := hs
  refine hQ.next oa h' _ (S₂.wrote (vs' := vs ++ [v]) (k' := k + 1) hx hs (by rw [hg]; simp) ?_)
  exact (ad.kp k₂).app (.one hv₂)

theorem ext_ok (V : Evs prog w K mg mb gn gl A f) {x : Nat} {n : Str} {t : T} {e : Expr} {p q r c : Pos} {m l : List D} (hn : κ.names[x]? = some n) (he : IsE gn κ t e) (hl : (q.endLine == r.line) = true) (hd : f ρ t = some (.seq false m)) (hx : ρ[x]? = some (.own l)) (hlen : l.length + m.length ≤ 10000)
    (B : BsOK K mg mb κ env X G) (S : StOK κ env X G P ρ oa s.heap) (hQ : Post κ env X G P (setE ρ x (.own (l ++ m)), none) s Q) :
    wpAny (model prog w) A (exec (.Expr (.Call (.Attribute (.Name n p) (Str.ofString "extend") q) [e] [] r) c) env) Q E s := by
  refine Expr_none B.envK.kind ?_ rfl
  have hst : backTo r (starEach [e] env) = [(false, eval e env)] := by rw [he.star]; rfl
  refine wpAny_Call_method rfl (by rw [hst]; rfl) hl PySem.F.plainAttrs_list PySem.F.slot_list_extend PySem.F.type_list_extend ?_
  obtain ⟨vs, k, n', hn', see, g, ad, g0⟩ := S.ent x _ hx
  rw [hn] at hn'; cases hn'
  refine name_ok B hn see ⟨⟨_, g, rfl⟩, fun a ea => by cases ea; exact ⟨_, g, rfl⟩, ?_⟩
  rw [hst]
  refine PySem.P.extend_list (V.inn he hd B S fun v h₂ tk₂ k₂ S₂ hv₂ => ?_)
  obtain ⟨b, ws, k', rfl, g', ad'⟩ := hv₂.isR.ex
  have h1 : vs.toArray.size + ws.toArray.size ≤ 10000 := by rw [List.size_toArray, List.size_toArray, ad.length, ad'.length]; exact hlen
  refine ⟨b, vs.toArray, ws.toArray, k, k', len_of (by omega), Nat.le_succ_of_le (len_of h1), ?_, rfl, k₂ _ _ g, g', rfl, ?_⟩
  · have : Builtin.List.listTooLong (vs.toArray.size + ws.toArray.size) = false := by
      unfold Builtin.List.listTooLong
      exact decide_eq_false (Nat.not_lt.mpr (len_of h1))
    rw [this, Bool.and_false]; exact Bool.false_ne_true
  have hs : Heap.SameBut (oa x) h₂ (h₂.update (oa x) (Obj.mapSeq fun xs => xs ++ ws.toArray)) := Heap.SameBut.update ..
  have hg := PySem.IsL.update (n := k) (k₂ _ _ g : h₂.get? (oa x) = some (sqO false vs k)) (fun xs => xs ++ ws.toArray)
  have ee : vs.toArray ++ ws.toArray = (vs ++ ws).toArray := by simp
  rw [ee] at hg
  refine hQ.next oa _ _ (S₂.wrote (vs' := vs ++ ws) hx hs hg ?_)
  exact (ad.kp k₂).app ad'

set_option maxHeartbeats 2000000 in
theorem for2_ok (V : Evs prog w K mg mb gn gl A f) {run : List Ent → Out} {body : List Stmt} {x y : Nat} {n m : Str} {t : T} {e : Expr} {l : List D} {out : List Ent × Option D} {k : Nat} {p q r pf pc c : Pos} (hn : κ.names[x]? = some n) (hm : κ.names[y]? = some m) (tn : tgtK κ n = true) (tm : tgtK κ m = true)
    (hen : κ.sc.lookup (Str.ofString "enumerate") = some .globalImplicit) (he : IsE gn κ t e) (hb : BlkOK prog w K mg mb A κ env body run) (hd : f ρ t = some (.seq false l)) (hlen : l.length ≤ 10000) (hgo : fgo2 run x y 0 l ρ = some out) (B : BsOK K mg mb κ env X G) (S : StOK κ env X G P ρ oa s.heap) (hQ : Post κ env X G P out s Q) :
    wpAny (model prog w) A (exec (.For (.Tuple [.Name n p, .Name m q] k r) (.Call (.Name (Str.ofString "enumerate") pf) [e] [] pc) body [] c) env) Q E s := by
  refine wpAny_For (Call_ (name_built B.envK (S.top B) hen V.G.enu (PyProof.Rows.callWith_type1 ?_ (he.star _ _) rfl))) (fun _ => rfl)
  refine args_cons (V.inn he hd B S fun v h₁ tk₁ k₁ S₁ hv₁ => args_nil ?_) (he.star _ _)
  obtain ⟨L, vs, nL, rfl, gL, aL⟩ := hv₁.isR.ex
  have hxL : ¬ OwnX X ρ oa P L := by cases hv₁ with | seq hx _ _ => exact hx
  refine call_enumerate_list (isList_of gL) fun h₂ he₂ hit₂ hsz₂ k₂ => wpAny_pyIter_enum he₂ ?_
  have k₂ : Kp h₁ h₂ := k₂
  have S₂ := S₁.kp k₂
  -- the two new objects
  have nw : ∀ b, h₁.objs.size ≤ b → h₁.get? b = none := fun b hb => none_ge hb
  have notIn : ∀ b, h₁.objs.size ≤ b → ¬ InW env ρ oa P b := fun b hb q => by
    obtain ⟨o, e⟩ := S₁.exists q
    rw [nw b hb] at e; cases e
  have notG : ∀ b, h₁.objs.size ≤ b → G b = none := fun b hb => by
    cases e : G b with
    | none => rfl
    | some o => have := S₁.keep _ _ e; rw [nw b hb] at this; cases this
  have heIt : h₁.objs.size + 1 ≠ h₁.objs.size := Nat.succ_ne_self _
  have hLlt : L < h₁.objs.size := Heap.lt_size gL
  have hL1 : L ≠ h₁.objs.size := Nat.ne_of_lt hLlt
  have hL2 : L ≠ h₁.objs.size + 1 := Nat.ne_of_lt (Nat.lt_succ_of_lt hLlt)
  generalize hI : h₁.objs.size = I at *
  refine codeAny_forLoop_any
    (fun kk s' => ∃ i ρ oa h tk old, s' = { s with heap := h, toks := tk } ∧ i ≤ l.length ∧ kk = l.length + 1 - i ∧ IsEnum h (I + 1) I (i : Nat) old ∧ h.IsListIter I L i ∧ h.get? L = some (sqO false vs nL) ∧ StOK κ env X G P ρ oa h ∧ fgo2 run x y i (l.drop i) ρ = some out ∧
      AllD (OwnX X ρ oa P) h vs l ∧ (∀ b, (b = L ∨ b = I ∨ b = I + 1) → ¬ InW env ρ oa P b)) ?_ (l.length + 1)
    ⟨0, ρ, oa, h₂, tk₁, .none, rfl, Nat.zero_le _, rfl, he₂, hit₂, k₂ _ _ gL, S₂, by simpa using hgo, aL.kp k₂, fun b hb => ?_⟩
  · rintro kk s' ⟨i, ρ, oa, h, tk, old, rfl, hi, rfl, hen, hit, hL, S, hgo, hitems, hfp⟩
    have noE : ∀ b, (b = I ∨ b = I + 1) → ∀ t vs c, h.get? b ≠ some (sqO t vs c) := fun b hb t vs c e => by
      rcases hb with rfl | rfl
      · obtain ⟨o, e1, e2, _⟩ := hit
        rw [e1] at e; cases e
        have h := Value.type.inj e2
        cases t <;> exact absurd h (by decide)
      · have e1 : h.get? _ = some _ := hen
        rw [e1] at e
        have h := Value.type.inj (congrArg Obj.cls (Option.some.inj e))
        cases t <;> exact absurd h (by decide)
    have but : ∀ {h₂ : Heap}, (∀ b o, b ≠ I + 1 → b ≠ I → h.get? b = some o → h₂.get? b = some o) → StOK κ env X G P ρ oa h₂ ∧ SqKp (OwnX X ρ oa P) h h₂ := fun hk => ⟨S.but (fun b => b = I ∨ b = I + 1) (fun b o hb e => hk b o (fun q => hb (.inr q)) (fun q => hb (.inl q)) e) fun b hb => by
      refine ⟨noE b hb, hfp b (.inr hb), ?_⟩
      rcases hb with rfl | rfl
      · exact notG _ (Nat.le_refl _)
      · exact notG _ (Nat.le_succ _), fun b t vs c hx e => hk b _ (fun q => noE b (.inr q) _ _ _ e) (fun q => noE b (.inl q) _ _ _ e) e⟩
    by_cases hlt : i < l.length
    · obtain ⟨d, hd'⟩ : ∃ d, l[i]? = some d := ⟨l[i], List.getElem?_eq_getElem hlt⟩
      obtain ⟨v, hv, hvd⟩ := hitems.at hd'
      refine wpAny_pyNext_enum_item hen hit (isList_of hL) (x := v) (by simpa using hv) heIt fun h₃ heo hit₃ ht₃ hz₃ hk₃ => ?_
      have hk₃ : ∀ b o, b ≠ I + 1 → b ≠ I → h.get? b = some o → h₃.get? b = some o := hk₃
      refine wpAny_letOwnedTupleGo_enum heo fun h₄ he₄ hs₄ => ?_
      have hs₄ : Heap.SameBut (I + 1) h₃ h₄ := hs₄
      have hEl : I + 1 < h.objs.size := Heap.lt_size (hen : h.get? _ = some _)
      have ht₄ : h₄.IsTuple h.objs.size #[.int i tk, v] := ⟨_, (hs₄.2 _ (Nat.ne_of_gt hEl)).trans ht₃, rfl, _, rfl⟩
      refine wpAny_assign_Tuple V.hd ht₄ rfl rfl fun h₅ hx₅ => ?_
      have hx₅ : Heap.ExtBut h₄.objs.size h₄ h₅ := hx₅
      have hk₅ : Kp h₄ h₅ := fun b o e => hx₅ b o (Nat.ne_of_lt (Heap.lt_size e)) e
      obtain ⟨S₅, sq₅⟩ := but (h₂ := h₅) fun b o e1 e2 e3 => hk₅ _ _ (hs₄.extBut b o e1 (hk₃ b o e1 e2 e3))
      have hvd₅ : IsD (OwnX X ρ oa P) h₅ v d := hvd.sq sq₅
      have S₆ : StOK κ env X G ([.dat (.int i tk) (.int i), .dat v d] ++ P) ρ oa h₅ := (S₅.hold hvd₅).hold (.int _ _)
      have B₆ := B.full S₆
      have hin : ∀ b, (b = L ∨ b = I ∨ b = I + 1) → ¬ InW env ρ oa ([.dat (.int i tk) (.int i), .dat v d] ++ P) b := fun b hb z => hfp b hb (InW.dat.mp (InW.dat.mp z))
      have eE : h₅.get? (I + 1) = some _ := hk₅ _ _ (he₄ : h₄.get? _ = some _)
      have eI : ∃ o, h₅.get? I = some o ∧ ∀ g : Heap, g.get? I = some o → g.IsListIter I L (i + 1) := by
        obtain ⟨o, e1, e2⟩ := hit₃
        exact ⟨o, hk₅ _ _ (hs₄.extBut _ _ (Ne.symm heIt) e1), fun g eg => ⟨o, eg, e2⟩⟩
      have eL : h₅.get? L = some (sqO false vs nL) := hk₅ _ _ (hs₄.extBut _ _ hL2 (hk₃ _ _ hL2 hL1 hL))
      have hdrop : l.drop i = d :: l.drop (i + 1) := by
        rw [List.getElem?_eq_getElem hlt] at hd'; cases hd'
        exact List.drop_eq_getElem_cons hlt
      rw [hdrop, fgo2] at hgo
      refine stores_ok B₆ [x, y] [n, m] _ _ _ ρ oa _ _ (.cons hn tn (.cons hm tm .nil)) (PEs.cons (p := .dat (.int i tk) (.int i)) rfl (PEs.cons (p := .dat v d) rfl .nil)) rfl rfl (IsNs.each (.cons (p := p) hn tn (.cons (p := q) hm tm .nil))) S₆.full fun oa₇ h₇ tk₇ S₇ => ?_
      have S₇ : StOK κ env X (Gf env ρ oa ([.dat (.int i tk) (.int i), .dat v d] ++ P) h₅) P (setE (setE ρ x (.val (.int i))) y (.val d)) oa₇ h₇ := S₇
      split at hgo
      · rename_i ρ' hrun
        refine hb _ _ X _ P oa₇ _ _ _ hrun B₆ S₇ (fun oa₈ h₈ tk₈ S₈ => ?_)
        have up : ∀ {b : Addr} {o : Obj}, (b = L ∨ b = I ∨ b = I + 1) → h₅.get? b = some o → h₈.get? b = some o := fun hb e => S₈.keep _ _ (by rw [Gf.neg (hin _ hb)]; exact e)
        obtain ⟨oI, eI1, eI2⟩ := eI
        refine ⟨l.length + 1 - (i + 1), oS hlt, i + 1, ρ', oa₈, h₈, tk₈, v, rfl, hlt, rfl, ?_, eI2 _ (up (.inr (.inl rfl)) eI1), up (.inl rfl) eL, S₈.back fun b o e => S₆.sup b o e, hgo, ?_, fun b hb => ?_⟩
        · have : ((i + 1 : Nat) : Int) = (i : Int) + 1 := by push_cast; rfl
          rw [this]
          exact up (.inr (.inr rfl)) eE
        · -- the items go through
          have a5 : AllD (OwnX X ρ oa ([.dat (.int i tk) (.int i), .dat v d] ++ P)) h₅ vs l := (hitems.sq sq₅).mono fun a z => OwnX.dat (OwnX.dat z)
          have z : IsD (OwnX X ρ oa ([.dat (.int i tk) (.int i), .dat v d] ++ P)) h₅ (.ref L) (.seq false l) := .seq (fun z => by
            rcases z with z | z | z
            · exact hxL (.inl z)
            · exact hin L (.inl rfl) (.inr (.inr (.inl z)))
            · exact hin L (.inl rfl) (.inr (.inr (.inr z)))) eL a5
          have z' := S₆.tr S₈ (fun p hp => .tail _ (.tail _ hp)) z
          obtain ⟨L', vs', n', e1, e2, e3⟩ := z'.isR.ex
          cases e1
          rw [up (.inl rfl) eL] at e2
          have := Option.some.inj e2
          have hv : vs = vs' := by
            have h := congrArg Obj.data this
            injection h with h1 h2
            simpa using congrArg Array.toList h1
          rw [hv]; exact e3
        · have : ∃ o, h₅.get? b = some o := by
            rcases hb with rfl | rfl | rfl
            · exact ⟨_, eL⟩
            · exact ⟨_, eI1⟩
            · exact ⟨_, eE⟩
          obtain ⟨o, eo⟩ := this
          exact S₈.notW (show Gf env ρ oa ([.dat (.int i tk) (.int i), .dat v d] ++ P) h₅ b = some o by rw [Gf.neg (hin b hb)]; exact eo)
      · rename_i ρ' d' hrun
        cases hgo
        exact hb _ _ X _ P oa₇ _ _ _ hrun B₆ S₇ (fun v' h₈ tk₈ kk hv' => hQ v' h₈ tk₈ (fun b o e => kk b o (S₆.sup b o e)) hv')
      · cases hgo
    · obtain rfl : i = l.length := Nat.le_antisymm hi (Nat.not_lt.mp hlt)
      refine wpAny_pyNext_enum_end V.hd hen hit (isList_of hL) (by simp [hitems.length]) fun h₃ hx₃ => wpAny_execs_nil ?_
      rw [List.drop_length, fgo2] at hgo
      cases hgo
      exact hQ oa h₃ tk (but fun b o e1 e2 e3 => hx₃ b o e2 e3).1
  · rcases hb with rfl | rfl | rfl
    · exact S₁.sqNotW hxL gL
    · exact notIn _ (Nat.le_refl _)
    · exact notIn _ (Nat.le_succ _)
end

section
variable {prog : Program} {w : World} {K : Frag} {mg mb : Str → Option Value} {gn : List Str} {gl : List D} {A : Around} {κ : Kx} {env : Env} {X : Addr → Prop} {G : Addr → Option Obj} {P : List PE} {ρ : List Ent} {oa : Nat → Addr}
  {s : Shared} {E : Value → Shared → Prop} {Q : Flow → Shared → Prop} {f : List Ent → T → Option D} {Φ : Addr → List D → Option D} {k : Nat}

theorem evs_of (G : GOk K mg mb gn gl) (hΦ : ∀ a args d, Φ a args = some d → Contract prog w K mg mb k a args d) (hA : AOK A k) (n : Nat) : Evs prog w K mg mb gn gl A (ev Φ gl n) :=
  ⟨(ev_sound G hΦ hA n).1, (ev_sound G hΦ hA n).2, hA.hd, G⟩

set_option maxHeartbeats 2000000 in
theorem stm_ok (V : Evs prog w K mg mb gn gl A f) {rec : List Ent → List S → Out} (ih : ∀ ss es, IsSs gn κ ss es → BlkOK prog w K mg mb A κ env es (fun ρ => rec ρ ss)) {st : S} {e : Stmt} (h : IsS gn κ st e) : StmOK prog w K mg mb A κ env e (fun ρ => exStep f rec ρ st) := by
  intro ρ out X G P oa s Q E hrun B S hQ
  cases h with
  | asg hn ht hr hc =>
    (delta exStep at hrun; dsimp only at hrun)
    split at hrun
    · rename_i a ha
      cases hrun
      exact asg_ok V hn ht hr hc ha B (StOK.frz B.xg _ _ S) hQ
    · cases hrun
  | tup hns hrs hl h100 hsw =>
    (delta exStep at hrun; dsimp only at hrun)
    split at hrun
    · rename_i as has
      cases hrun
      exact tup_ok V (sw := false) hns hrs hl h100 (hsw env B.names B.envK.kind) has B (StOK.frz B.xg _ _ S) fun oa' h' tk S' => hQ oa' h' tk S'
    · cases hrun
  | tupS hns hrs hl h100 hsw =>
    (delta exStep at hrun; dsimp only at hrun)
    split at hrun
    · rename_i as has
      cases hrun
      exact tup_ok V (sw := true) hns hrs hl h100 (hsw env B.names B.envK.kind) has B (StOK.frz B.xg _ _ S) fun oa' h' tk S' => hQ oa' h' tk S'
    · cases hrun
  | setI hn hi hv =>
    (delta exStep at hrun; dsimp only at hrun)
    split at hrun
    · rename_i d hd
      split at hrun
      · rename_i k hk
        split at hrun
        · rename_i l hl
          rw [getE_eq] at hl
          rw [cond_eq_ite] at hrun
          split at hrun
          · rename_i hc
            cases hrun
            simp only [Bool.and_eq_true] at hc
            exact setI_ok V hn hi hv hd hk hl (of_decide_eq_true hc.1.1) (of_decide_eq_true hc.1.2) hc.2 B (StOK.frz B.xg _ _ S) hQ
          · cases hrun
        · cases hrun
      · cases hrun
    · cases hrun
  | aug hn ht hop he =>
    (delta exStep at hrun; dsimp only at hrun)
    split at hrun
    · rename_i a ha
      rw [getE_eq] at ha
      split at hrun
      · rename_i b hb
        split at hrun
        · rename_i c hc
          cases hrun
          exact aug_ok V hn ht hop he ha hb hc B S hQ
        · cases hrun
      · cases hrun
    · cases hrun
  | app hn he hp =>
    (delta exStep at hrun; dsimp only at hrun)
    split at hrun
    · rename_i d hd
      split at hrun
      · rename_i l hl
        rw [getE_eq] at hl
        rw [cond_eq_ite] at hrun
        split at hrun
        · rename_i hc
          cases hrun
          exact app_ok V hn he hp hd hl (of_decide_eq_true hc) B (StOK.frz B.xg _ _ S) hQ
        · cases hrun
      · cases hrun
    · cases hrun
  | ext hn he hp =>
    (delta exStep at hrun; dsimp only at hrun)
    split at hrun
    · rename_i d hd
      split at hrun
      · rename_i l hl
        rw [getE_eq] at hl
        rw [cond_eq_ite] at hrun
        split at hrun
        · rename_i hc
          cases hrun
          exact ext_ok V hn he hp hd hl (of_decide_eq_true hc) B (StOK.frz B.xg _ _ S) hQ
        · cases hrun
      · cases hrun
    · cases hrun
  | iff hc ha hb =>
    (delta exStep at hrun; dsimp only at hrun)
    split at hrun
    · rename_i hc'
      refine wpAny_If (V.tst hc hc' B (StOK.frz B.xg _ _ S) fun h' tk S' => ?_)
      rw [if_pos rfl]
      exact ih _ _ ha _ _ X G P oa _ _ _ hrun B S' (hQ.at _ _)
    · rename_i hc'
      refine wpAny_If (V.tst hc hc' B (StOK.frz B.xg _ _ S) fun h' tk S' => ?_)
      rw [if_neg Bool.false_ne_true]
      exact ih _ _ hb _ _ X G P oa _ _ _ hrun B S' (hQ.at _ _)
    · cases hrun
  | whl hc hb =>
    (delta exStep at hrun; dsimp only at hrun)
    exact while_ok (ih _ _ hb) (fun ρ b oa s Q E hb S hQ => V.tst hc (asB_some hb) B S hQ) ⟨60, hrun⟩ B S hQ
  | for1 hn ht hi hb =>
    (delta exStep at hrun; dsimp only at hrun)
    split at hrun
    · rename_i ds hds
      exact for1_ok hn ht (fun v => hi.folded env v) (ih _ _ hb) (items_ok V.G B.envK V.hd (fun t e d a b => V.ev _ env _ t e d B.envK a b) hi hds) hrun B (StOK.frz B.xg _ _ S) hQ
    · cases hrun
  | for2 hn hm tn tm hen he hb =>
    (delta exStep at hrun; dsimp only at hrun)
    split at hrun
    · rename_i l hl
      rw [cond_eq_ite] at hrun
      split at hrun
      · rename_i hc
        exact for2_ok V hn hm tn tm hen he (ih _ _ hb) hl (of_decide_eq_true hc) hrun B (StOK.frz B.xg _ _ S) hQ
      · cases hrun
    · cases hrun
  | ret he =>
    (delta exStep at hrun; dsimp only at hrun)
    split at hrun
    · rename_i d hd
      cases hrun
      exact ret_ok V he hd B (StOK.frz B.xg _ _ S) hQ
    · cases hrun
  | fail => cases hrun

theorem stms_ok {one : List Ent → S → Out} (hs : ∀ st e, IsS gn κ st e → StmOK prog w K mg mb A κ env e (fun ρ => one ρ st)) : ∀ (ss : List S) (es : List Stmt), IsSs gn κ ss es → BlkOK prog w K mg mb A κ env es (fun ρ => exsGo one ss ρ)
  | [], es, h => by
    cases h
    intro ρ out X G P oa s Q E hrun B S hQ
    cases hrun
    exact wpAny_execs_nil (hQ oa s.heap s.toks S)
  | st :: ss, es, h => by
    cases h with
    | cons h1 h2 =>
      intro ρ out X G P oa s Q E hrun B S hQ
      simp only [exsGo] at hrun
      refine wpAny_execs_cons ?_
      split at hrun
      · rename_i ρ' h'
        refine hs _ _ h1 ρ _ X G P oa s _ E h' B S fun oa' h₁ tk S' => ?_
        exact stms_ok hs ss _ h2 ρ' _ X G P oa' _ _ _ hrun B S' (hQ.at _ _)
      · rename_i ρ' d h'
        cases hrun
        exact hs _ _ h1 ρ _ X G P oa s _ E h' B S fun v h₁ tk kk hv => hQ v h₁ tk kk hv
      · cases hrun

theorem ex_sound (V : Evs prog w K mg mb gn gl A (ev Φ gl 40)) : ∀ (n : Nat) (ss : List S) (es : List Stmt), IsSs gn κ ss es → BlkOK prog w K mg mb A κ env es (fun ρ => ex Φ gl n ρ ss)
  | 0, ss, es, _ => fun ρ out X G P oa s Q E hrun => nomatch hrun
  | n + 1, ss, es, h => stms_ok (one := exStep (ev Φ gl 40) (ex Φ gl n)) (fun st e he => stm_ok V (ex_sound V n) he) ss es h
end

/-! ## a call of a def -/
noncomputable def nos : Nat → List Ent
  | 0 => []
  | n + 1 => .no :: nos n
noncomputable def start : Nat → List D → List Ent
  | n, [] => nos n
  | 0, _ :: _ => []
  | n + 1, d :: ds => .val d :: start n ds
theorem nos_at : ∀ {n i : Nat} {e : Ent}, (nos n)[i]? = some e → e = .no
  | 0, i, e, h => by simp [nos] at h
  | n + 1, 0, e, h => by simp [nos] at h; exact h.symm
  | n + 1, i + 1, e, h => by rw [nos, List.getElem?_cons_succ] at h; exact nos_at h
theorem start_at : ∀ {n : Nat} {ds : List D} {i : Nat} {e : Ent}, (start n ds)[i]? = some e → e = .no ∨ ∃ d, e = .val d ∧ ds[i]? = some d
  | n, [], i, e, h => by
    have h : (nos n)[i]? = some e := by cases n <;> exact h
    exact .inl (nos_at h)
  | 0, d :: ds, i, e, h => by simp [start] at h
  | n + 1, d :: ds, 0, e, h => by simp [start] at h; exact .inr ⟨d, h.symm, rfl⟩
  | n + 1, d :: ds, i + 1, e, h => by
    rw [start, List.getElem?_cons_succ] at h
    rcases start_at h with q | ⟨d', q, r⟩
    · exact .inl q
    · exact .inr ⟨d', q, by rw [List.getElem?_cons_succ]; exact r⟩

theorem bindL_out {kf : Str → Option NameKind} {n : Str} : ∀ (ps : List Str) (vs : List Value) (m : Str → Option Value), n ∉ ps → bindL kf (ps.zip vs) m n = m n
  | [], _, _, _ => rfl
  | _ :: _, [], _, _ => rfl
  | p :: ps, v :: vs, m, h => by
    have h1 : n ≠ p := fun q => h (q ▸ .head _)
    have h2 : n ∉ ps := fun q => h (.tail _ q)
    rw [List.zip_cons_cons, bindL, bindL_out ps vs _ h2]
    split
    · exact if_neg h1
    · rfl
theorem bindL_at {kf : Str → Option NameKind} {n : Str} (hk : kf n = some .local) : ∀ (ps : List Str) (vs : List Value) (m : Str → Option Value) (i : Nat) (v : Value), ps.Nodup → ps[i]? = some n → vs[i]? = some v → bindL kf (ps.zip vs) m n = some v
  | [], _, _, _, _, _, h, _ => by simp at h
  | _ :: _, [], _, _, _, _, _, h => by simp at h
  | p :: ps, v :: vs, m, 0, u, nd, h1, h2 => by
    simp only [List.getElem?_cons_zero, Option.some.injEq] at h1 h2
    subst h1 h2
    rw [List.zip_cons_cons, bindL, bindL_out ps vs _ (List.nodup_cons.mp nd).1, if_pos hk]
    exact if_pos rfl
  | p :: ps, v :: vs, m, i + 1, u, nd, h1, h2 => by
    rw [List.zip_cons_cons, bindL]
    exact bindL_at hk ps vs _ i u (List.nodup_cons.mp nd).2 (by simpa using h1) (by simpa using h2)
theorem bindC_out {kf : Str → Option NameKind} {n : Str} : ∀ (ps : List Str) (vs : List Value) (m : Str → Option Value), n ∉ ps → bindC kf (ps.zip vs) m n = m n
  | [], _, _, _ => rfl
  | _ :: _, [], _, _ => rfl
  | p :: ps, v :: vs, m, h => by
    have h1 : n ≠ p := fun q => h (q ▸ .head _)
    have h2 : n ∉ ps := fun q => h (.tail _ q)
    rw [List.zip_cons_cons, bindC, bindC_out ps vs _ h2]
    split
    · rfl
    · exact if_neg h1
theorem bindC_at {kf : Str → Option NameKind} {n : Str} (hk : kf n = some .cell) : ∀ (ps : List Str) (vs : List Value) (m : Str → Option Value) (i : Nat) (v : Value), ps.Nodup → ps[i]? = some n → vs[i]? = some v → bindC kf (ps.zip vs) m n = some v
  | [], _, _, _, _, _, h, _ => by simp at h
  | _ :: _, [], _, _, _, _, _, h => by simp at h
  | p :: ps, v :: vs, m, 0, u, nd, h1, h2 => by
    simp only [List.getElem?_cons_zero, Option.some.injEq] at h1 h2
    subst h1 h2
    rw [List.zip_cons_cons, bindC, bindC_out ps vs _ (List.nodup_cons.mp nd).1, if_neg (by rw [hk]; decide)]
    exact if_pos rfl
  | p :: ps, v :: vs, m, i + 1, u, nd, h1, h2 => by
    rw [List.zip_cons_cons, bindC]
    exact bindC_at hk ps vs _ i u (List.nodup_cons.mp nd).2 (by simpa using h1) (by simpa using h2)

noncomputable def fnSt (κ : Kx) (ps : List Str) : Bool :=
  (κ.names.all okName) && decide κ.names.Nodup && (κ.names.take ps.length == ps) && (ps.all fun n => κ.sc.lookup n == some .local || κ.sc.lookup n == some .cell) && (κ.cells == capsOf κ.sc) &&
    (κ.sc.all fun y => y.2 != .free) && (κ.sc.all fun y => y.2 != .cell || κ.sc.lookup y.1 == some .cell)
structure FnSt (κ : Kx) (ps : List Str) : Prop where
  ok : ∀ n, n ∈ κ.names → okName n = true
  nodup : κ.names.Nodup
  pre : κ.names.take ps.length = ps
  par : ∀ n, n ∈ ps → κ.sc.lookup n = some .local ∨ κ.sc.lookup n = some .cell
  caps : ∀ y, y ∈ κ.cells → (y, NameKind.cell) ∈ κ.sc
  cell : ∀ y, (y, NameKind.cell) ∈ κ.sc → κ.sc.lookup y = some .cell
theorem fnSt_ok {κ : Kx} {ps : List Str} (h : fnSt κ ps = true) : FnSt κ ps := by
  unfold fnSt at h
  simp only [Bool.and_eq_true, List.all_eq_true, decide_eq_true_eq, beq_iff_eq, Bool.or_eq_true, bne_iff_ne] at h
  obtain ⟨⟨⟨⟨⟨⟨h1, h2⟩, h3⟩, h4⟩, h5⟩, h6⟩, h7⟩ := h
  refine ⟨h1, h2, h3, h4, fun y hy => ?_, fun y hy => (h7 _ hy).resolve_left (fun q => q rfl)⟩
  rw [h5] at hy
  unfold capsOf at hy
  obtain ⟨z, hz, rfl⟩ := List.mem_map.mp hy
  obtain ⟨hz1, hz2⟩ := List.mem_filter.mp hz
  simp only [Bool.or_eq_true, beq_iff_eq] at hz2
  rcases hz2 with q | q
  · exact absurd q (h6 _ hz1)
  · rw [← q]; exact hz1

structure FnOK (K : Frag) (gn : List Str) (f : Addr) (κ : Kx) (ps : List Str) (ss : List S) : Prop where
  ex : ∃ (oc : Value) (od : Option Addr) (osl : Array (Option Value)) (name qual : Str) (params : Arguments) (body : List Stmt) (scope : Scope) (dV kV doc pm : Value) (an : Option Addr) (cdv ct : Value),
    K.lookup f = some ⟨oc, od, .func (fnOf name qual params body scope dV kV doc pm an cdv ct), osl⟩ ∧ codeIn K cdv qual = true ∧
    (∀ vs : List Value, vs.length = ps.length → bindArgs (fnOf name qual params body scope dV kV doc pm an cdv ct) ⟨vs, []⟩ = pure (ps.zip vs)) ∧
    IsSs gn κ ss body ∧ scope.names = κ.sc ∧ scope.kind = .function ∧ scope.isCoroutine = false ∧ scope.isGenerator = false
  st : fnSt κ ps = true

theorem mem_zip_fst {ps : List Str} {vs : List Value} {x : Str × Value} (h : x ∈ ps.zip vs) : x.1 ∈ ps := (List.of_mem_zip (a := x.1) (b := x.2) h).1

section
variable {prog : Program} {w : World} {K : Frag} {mg mb : Str → Option Value} {gn : List Str} {gl : List D} {Φ : Addr → List D → Option D} {k : Nat} {f : Addr} {κ : Kx} {ps : List Str} {ss : List S}

set_option maxHeartbeats 2000000 in
theorem contract_of (GG : GOk K mg mb gn gl) (hf : FnOK K gn f κ ps ss) (hΦ : ∀ a args d, Φ a args = some d → Contract prog w K mg mb k a args d) {n : Nat} {args : List D} {d : D} {ρ' : List Ent} (hl : args.length = ps.length)
    (hex : ex Φ gl n (start κ.names.length args) ss = some (ρ', some d)) : Contract prog w K mg mb (k + 1) f args d := by
  obtain ⟨⟨oc, od, osl, name, qual, params, body, scope, dV, kV, doc, pm, an, cdv, ct, hlk, hcode, hbind, hss, hsn, hsk, hco, hgen⟩, hst⟩ := hf
  have st := fnSt_ok hst
  refine ⟨⟨_, _, hlk, rfl⟩, fun A X s Q E vs hA T hX hargs hP => ?_⟩
  have hvl : vs.length = ps.length := by rw [hargs.length, hl]
  have cellOf : ∀ (h : Heap) (y : Str), (y, NameKind.cell) ∈ κ.sc → ∃ c, (cellsFrom h.objs.size scope.names []).lookup y = some c := fun h y hy => by
    obtain ⟨c, e, _⟩ := cf_mem (y := y) scope.names h [] (hsn ▸ hy)
    exact ⟨c, e⟩
  have cellOf' : ∀ y, (y, NameKind.cell) ∈ κ.sc → ∃ c, (cellsFrom (s.heap.objs.size + 1) scope.names []).lookup y = some c := fun y hy => by
    have := cellOf (s.heap.push { cls := .type "frame", data := .dict #[] }) y hy
    rw [Heap.size_push] at this; exact this
  have parMem : ∀ {y : Str}, κ.sc.lookup y = some .cell → (y, NameKind.cell) ∈ κ.sc := fun h => mem_of_lookup h
  refine wpAny_call ?_
  refine codeAny_call_cells (fd := fnOf name qual params body scope dV kV doc pm an cdv ct) (body := body) (binds := ps.zip vs) ?_ (T.k _ _ hlk) rfl T.lim (codeRec_of T.k hcode) rfl (hbind vs hvl) rfl (fun x hx => ?_) (fun s₁ x => ?_) hco hgen hsk
  · have := hA.dep; omega
  · rcases st.par _ (mem_zip_fst hx) with q | q
    · exact .inl (by rw [hsn]; exact q)
    · refine .inr ⟨by rw [hsn]; exact q, ?_⟩
      obtain ⟨c, e⟩ := cellOf' _ (parMem q)
      show ((cellsFrom (s.heap.objs.size + 1) scope.names []).lookup x.1).isSome = true
      rw [e]; rfl
  · obtain ⟨h₁, tk, rfl, hk₁⟩ := x.done
    generalize henv : callEnvC (fnOf name qual params body scope dV kV doc pm an cdv ct) s.heap.objs.size f = env at x ⊢
    have eL : env.locals = s.heap.objs.size := by rw [← henv]; rfl
    have eN : env.scope.names = κ.sc := by rw [← henv]; exact hsn
    have eK : env.scope.kind = .function := by rw [← henv]; exact hsk
    have eC : env.cells = cellsFrom (s.heap.objs.size + 1) scope.names [] := by rw [← henv]; rfl
    have eG : env.globals = mainGlobals := by rw [← henv]; rfl
    have eB : env.builtins = builtinsNs := by rw [← henv]; rfl
    have kd : ∀ y, env.kindOf y = κ.sc.lookup y := fun y => by show env.scope.names.lookup y = _; rw [eN]
    have cellE : ∀ y, (y, NameKind.cell) ∈ κ.sc → ∃ c, env.cells.lookup y = some c := fun y hy => by rw [eC]; exact cellOf' y hy
    have V : Evs prog w K mg mb gn gl (A.deeper env) (ev Φ gl 40) := by
      refine evs_of (A := A.deeper env) GG hΦ ⟨hA.hd, ?_, ?_⟩ 40
      · have := hA.dep; show A.depth + 1 + k < _; omega
      · have := hA.un; show A.units + 3 + 8 * k + 72 < _; omega
    have EK : EnvK κ env := ⟨eK, eG, eB, fun y hy => (kd y).trans hy, fun y hy => cellE y (st.caps y hy), fun y hy => .inl ((kd y).trans (st.cell y (st.caps y hy))), st.ok⟩
    have B : BsOK K mg mb κ env X s.heap.get? := by
      refine ⟨⟨s.heap, T, fun b o e => e⟩, fun a ha => (hX a ha).1, fun a ha => (hX a ha).2, EK, eN, st.nodup, fun y c e => ?_, fun y z c e1 e2 => ?_, fun y hy => cellE y (parMem hy)⟩
      · have := x.above y c (mem_of_lookup e)
        exact Nat.ne_of_gt this
      · exact name_of_addr x.apart (mem_of_lookup e1) (mem_of_lookup e2)
    have gl0 : ∀ c : Addr, s.heap.objs.size ≤ c → s.heap.get? c = none := fun c hc => none_ge hc
    have noOwn : ∀ (i : Nat) (l : List D), (start κ.names.length args)[i]? ≠ some (Ent.own l) := fun i l e => by
      rcases start_at e with q | ⟨d, q, _⟩ <;> cases q
    have nX : ∀ a, OwnX X (start κ.names.length args) (fun _ => 0) [] a → X a := fun a ha => by
      rcases ha with ha | ⟨i, l, e, _⟩ | ⟨l, hm⟩
      · exact ha
      · exact absurd e (noOwn i l)
      · cases hm
    have S : StOK κ env X s.heap.get? [] (start κ.names.length args) (fun _ => 0) h₁ := by
      refine ⟨fun b o e => hk₁ b o e, ⟨_, x.toInCall.ns⟩, fun y c e => ⟨_, x.cell y c e⟩, by rw [eL]; exact fresh_none _, fun y c e => gl0 c ?_, fun i e he => ?_, fun i j l l' h1 => absurd h1 (noOwn i l), fun v d hm => (nomatch hm), fun a l hm => (nomatch hm), .nil⟩
      · have := x.above y c (mem_of_lookup e)
        rw [eL] at this
        exact Nat.le_of_lt this
      · rcases start_at he with rfl | ⟨d, rfl, hd⟩
        · trivial
        · obtain ⟨v, hv, hvd⟩ := hargs.at hd
          have hi : i < ps.length := by
            have := (List.getElem?_eq_some_iff.mp hd).1
            omega
          have hp : ps[i]? = some ps[i] := List.getElem?_eq_getElem hi
          have hn : κ.names[i]? = some ps[i] := by
            have h : (κ.names.take ps.length)[i]? = κ.names[i]? := by rw [List.getElem?_take, if_pos hi]
            rw [← h, st.pre]; exact hp
          have nd : ps.Nodup := by rw [← st.pre]; exact (List.take_sublist _ _).nodup st.nodup
          refine ⟨v, ps[i], hn, (hvd.kp hk₁).mono nX, ?_⟩
          rcases st.par _ (List.getElem_mem hi) with q | q
          · exact .inl ⟨(kd _).trans q, _, x.toInCall.ns, bindL_at ((kd _).trans q) ps vs _ i v nd hp hv⟩
          · obtain ⟨c, hc⟩ := cellE _ (parMem q)
            refine .inr ⟨.inl ((kd _).trans q), c, hc, ?_⟩
            have := x.cell _ c hc
            rw [bindC_at ((kd _).trans q) ps vs _ i v nd hp hv] at this
            exact this
    exact ex_sound V n ss body hss _ _ X s.heap.get? [] (fun _ => 0) _ _ _ hex B S fun v h' tk' kk hv => hP v h' tk' kk hv
end

set_option maxHeartbeats 8000000
open_top hd for PySem.Challenge.rw_xw0108_01

/-! ## the defs of the text, each as a term of the small language -/
inductive At : List Str → Nat → Str → Prop
  | here {n : Str} {r : List Str} : At (n :: r) Nat.zero n
  | there {n m : Str} {r : List Str} {i : Nat} : At r i n → At (m :: r) (Nat.succ i) n
theorem At.get {l : List Str} {i : Nat} {n : Str} (h : At l i n) : l[i]? = some n := by
  induction h with
  | here => rfl
  | there _ ih => exact (List.getElem?_cons_succ ..).trans ih
inductive Mask (sc : List (Str × NameKind)) : List Str → List Bool → Prop
  | nil : Mask sc [] []
  | yes {n : Str} {r : List Str} {bs : List Bool} : (sc.lookup n == some .free) = true → Mask sc r bs → Mask sc (n :: r) (true :: bs)
  | no {n : Str} {r : List Str} {bs : List Bool} : Mask sc r bs → Mask sc (n :: r) (false :: bs)
theorem Mask.ok {sc : List (Str × NameKind)} {names : List Str} : ∀ {l : List Str} {bs : List Bool} (i : Nat), Mask sc l bs → names.drop i = l → maskOk names sc i bs = true := by
  intro l bs i h
  induction h generalizing i with
  | nil => intro _; rfl
  | yes h1 _ ih =>
    rename_i n r bs _
    intro e
    have e0 : names[i]? = some n := by
      have := congrArg (·[0]?) e
      simpa using this
    have e1 : names.drop (i + 1) = r := by rw [← List.tail_drop, e]; rfl
    rw [maskOk, ih _ e1, Bool.and_true, e0]
    simpa using h1
  | no _ ih =>
    rename_i n r bs _
    intro e
    have e1 : names.drop (i + 1) = r := by rw [← List.tail_drop, e]; rfl
    rw [maskOk, ih _ e1, Bool.and_true]; rfl
theorem Mask.get {sc : List (Str × NameKind)} {names : List Str} {bs : List Bool} (h : Mask sc names bs) : maskOk names sc 0 bs = true := h.ok 0 rfl

noncomputable def gnL : List Str := [Str.ofString "normal", Str.ofString "compare", Str.ofString "add", Str.ofString "sub", Str.ofString "mul_limb", Str.ofString "signed", Str.ofString "s_add", Str.ofString "s_mul", Str.ofString "NOUGHT", Str.ofString "UNIT", Str.ofString "m_unit", Str.ofString "m_turned", Str.ofString "inner", Str.ofString "m_mul", Str.ofString "m_led", Str.ofString "mul_school", Str.ofString "_law_limbs", Str.ofString "_law_rows", Str.ofString "_law_cycles", Str.ofString "_law_lots"]
structure AtS (l : List Str) (i : Nat) (n : Str) : Prop where
  at' : At l i n
theorem AtS.get {l : List Str} {i : Nat} {n : Str} (h : AtS l i n) : l[i]? = some n := h.at'.get
structure MaskS (sc : List (Str × NameKind)) (l : List Str) (bs : List Bool) : Prop where
  mk' : Mask sc l bs
theorem MaskS.get {sc : List (Str × NameKind)} {names : List Str} {bs : List Bool} (h : MaskS sc names bs) : maskOk names sc 0 bs = true := h.mk'.get
noncomputable def P0 : Params := { strHash := fun _ => 0, shareClass := fun _ => 0, mergeTok := id, idOf := fun _ => 0, idOfShared := fun _ _ => 0, followText := fun _ => true, idOfImm := fun _ => 0 }
noncomputable def scOf : Option Obj → List (Str × NameKind)
  | some ⟨_, _, .func fd, _⟩ => fd.scope.names
  | _ => []
structure Fn (f : Addr) (κ : Kx) (ps : List Str) where
  ss : List S
  ok : ∀ P : Params, FnOK (hd.heap_39 P) gnL f κ ps ss

section
variable {gn : List Str} {κ : Kx}
theorem IsE.var' {x : Nat} {n : Str} {p : Pos} (h : AtS κ.names x n) : IsE gn κ (.var x) (.Name n p) := .var h.get
theorem IsE.glob' {g : Nat} {n : Str} {p : Pos} (h : AtS gn g n) (h' : κ.sc.lookup n = some .globalImplicit) : IsE gn κ (.glob g) (.Name n p) := .glob h.get h'
theorem IsE.comp' {elt : T} {x : Nat} {rng : Bool} {as : List T} {mask : List Bool} {n : Str} {elt' it' : Expr} {px p : Pos} {sc : Scope} (h1 : AtS κ.names x n) (h2 : IsI gn κ rng as it') (h3 : scOk sc = true) (h4 : tgtOk sc n = true) (h5 : MaskS sc.names κ.names mask)
    (h6 : (freesOf sc.names).all (fun y => κ.cells.contains y) = true) (h7 : IsE gn ⟨κ.names, sc.names, capsOf sc.names⟩ elt elt') : IsE gn κ (.comp elt x rng as none mask) (.ListComp elt' [⟨.Name n px, it', [], 0⟩] sc p) := .comp h1.get h2 h3 h4 h5.get h6 h7
theorem IsE.compIf' {elt c : T} {x : Nat} {rng : Bool} {as : List T} {mask : List Bool} {n : Str} {elt' it' c' : Expr} {px p : Pos} {sc : Scope} (h1 : AtS κ.names x n) (h2 : IsI gn κ rng as it') (h3 : scOk sc = true) (h4 : tgtOk sc n = true) (h5 : MaskS sc.names κ.names mask)
    (h6 : (freesOf sc.names).all (fun y => κ.cells.contains y) = true) (h7 : IsE gn ⟨κ.names, sc.names, capsOf sc.names⟩ elt elt') (h8 : IsE gn ⟨κ.names, sc.names, capsOf sc.names⟩ c c') :
    IsE gn κ (.comp elt x rng as (some c) mask) (.ListComp elt' [⟨.Name n px, it', [c'], 0⟩] sc p) := .compIf h1.get h2 h3 h4 h5.get h6 h7 h8
theorem IsNs.cons' {x : Nat} {n : Str} {p : Pos} {xs : List Nat} {ns : List Str} {es : List Expr} (h1 : AtS κ.names x n) (h2 : tgtK κ n = true) (h3 : IsNs κ xs ns es) : IsNs κ (x :: xs) (n :: ns) (.Name n p :: es) := .cons h1.get h2 h3
theorem IsS.asg' {x : Nat} {n : Str} {r : Rh} {e : Expr} {p q : Pos} (h1 : AtS κ.names x n) (h2 : tgtK κ n = true) (h3 : IsRh gn κ r e) (h4 : notComp e = true) : IsS gn κ (.asg x r) (.Assign [.Name n p] e q) := .asg h1.get h2 h3 h4
theorem IsS.tup' {xs : List Nat} {ns : List Str} {ts : List Expr} {rs : List Rh} {es : List Expr} {k l : Nat} {p q r : Pos} (h : ∀ env : Env, env.scope.names = κ.sc → env.scope.kind = .function → swappedStores [.Tuple ts k p] (.Tuple es l q) env = pure none) (h1 : IsNs κ xs ns ts) (h2 : IsRhs gn κ rs es) (h3 : xs.length = rs.length) (h4 : rs.length ≤ 100) :
    IsS gn κ (.tup false xs rs) (.Assign [.Tuple ts k p] (.Tuple es l q) r) := .tup h1 h2 h3 h4 h
theorem IsS.tupS' {xs : List Nat} {ns : List Str} {ts : List Expr} {rs : List Rh} {es : List Expr} {k l : Nat} {p q r : Pos} (h1 : IsNs κ xs ns ts) (h2 : IsRhs gn κ rs es) (h3 : xs.length = rs.length) (h4 : rs.length ≤ 100) (h : ∀ env : Env, env.scope.names = κ.sc → env.scope.kind = .function → swappedStores [.Tuple ts k p] (.Tuple es l q) env = pure (some ns)) :
    IsS gn κ (.tup true xs rs) (.Assign [.Tuple ts k p] (.Tuple es l q) r) := .tupS h1 h2 h3 h4 h
theorem IsS.setI' {x : Nat} {n : Str} {i v : T} {i' v' : Expr} {p q r : Pos} (h1 : AtS κ.names x n) (h2 : IsE gn κ i i') (h3 : IsE gn κ v v') : IsS gn κ (.setI x i v) (.Assign [.Subscript (.Name n p) i' q] v' r) := .setI h1.get h2 h3
theorem IsS.aug' {x : Nat} {n : Str} {op : Operator} {t : T} {e : Expr} {p q : Pos} (h1 : AtS κ.names x n) (h2 : tgtK κ n = true) (h3 : augOk op = true) (h4 : IsE gn κ t e) : IsS gn κ (.aug x op t) (.AugAssign (.Name n p) op e q) := .aug h1.get h2 h3 h4
theorem IsS.app' {x : Nat} {n : Str} {t : T} {e : Expr} {p q r c : Pos} (h1 : AtS κ.names x n) (h2 : IsE gn κ t e) (h3 : (q.endLine == r.line) = true) : IsS gn κ (.app x t) (.Expr (.Call (.Attribute (.Name n p) (Str.ofString "append") q) [e] [] r) c) := .app h1.get h2 h3
theorem IsS.ext' {x : Nat} {n : Str} {t : T} {e : Expr} {p q r c : Pos} (h1 : AtS κ.names x n) (h2 : IsE gn κ t e) (h3 : (q.endLine == r.line) = true) : IsS gn κ (.ext x t) (.Expr (.Call (.Attribute (.Name n p) (Str.ofString "extend") q) [e] [] r) c) := .ext h1.get h2 h3
theorem IsS.for1' {x : Nat} {n : Str} {rng : Bool} {as : List T} {b : List S} {it : Expr} {b' : List Stmt} {p q : Pos} (h1 : AtS κ.names x n) (h2 : tgtK κ n = true) (h3 : IsI gn κ rng as it) (h4 : IsSs gn κ b b') : IsS gn κ (.for1 x rng as b) (.For (.Name n p) it b' [] q) := .for1 h1.get h2 h3 h4
theorem IsS.for2' {x y : Nat} {n m : Str} {t : T} {b : List S} {e : Expr} {b' : List Stmt} {k : Nat} {p q r pf pc c : Pos} (h1 : AtS κ.names x n) (h2 : AtS κ.names y m) (h3 : tgtK κ n = true) (h4 : tgtK κ m = true) (h5 : κ.sc.lookup (Str.ofString "enumerate") = some .globalImplicit) (h6 : IsE gn κ t e) (h7 : IsSs gn κ b b') :
    IsS gn κ (.for2 x y t b) (.For (.Tuple [.Name n p, .Name m q] k r) (.Call (.Name (Str.ofString "enumerate") pf) [e] [] pc) b' [] c) := .for2 h1.get h2.get h3 h4 h5 h6 h7
end
theorem FnOK.mk' {K : Frag} {gn : List Str} {f : Addr} {κ : Kx} {ps : List Str} {ss : List S} {oc : Value} {od : Option Addr} {osl : Array (Option Value)} {name qual : Str} {params : Arguments} {body : List Stmt} {scope : Scope} {dV kV doc pm : Value} {an : Option Addr} {cdv ct : Value}
    (h1 : K.lookup f = some ⟨oc, od, .func (fnOf name qual params body scope dV kV doc pm an cdv ct), osl⟩) (h5 : scope.names = κ.sc) (h2 : codeIn K cdv qual = true)
    (h3 : ∀ vs : List Value, vs.length = ps.length → bindArgs (fnOf name qual params body scope dV kV doc pm an cdv ct) ⟨vs, []⟩ = pure (ps.zip vs))
    (h4 : IsSs gn κ ss body) (h6 : scope.kind = .function) (h7 : scope.isCoroutine = false) (h8 : scope.isGenerator = false) (h9 : fnSt κ ps = true) : FnOK K gn f κ ps ss :=
  ⟨⟨oc, od, osl, name, qual, params, body, scope, dV, kV, doc, pm, an, cdv, ct, h1, h2, h3, h4, h5, h6, h7, h8⟩, h9⟩

noncomputable def s46 : List (Str × NameKind) := scOf (List.lookup 46 (hd.heap_39 P0))
noncomputable def k46 : Kx := ⟨[Str.ofString "a", Str.ofString "end"], s46, capsOf s46⟩
noncomputable def F46 : Fn 46 k46 [Str.ofString "a"] := ⟨_, by
  intro P
  apply FnOK.mk'
  case h1 => exact rfl
  case h5 => exact rfl
  case h2 => exact rfl
  case h3 => (intro vs h; rcases vs with _ | ⟨a, _ | ⟨b, _ | ⟨c, _ | ⟨d, r⟩⟩⟩⟩ <;> first | rfl | (simp at h; done) | (cases r with | nil => rfl | cons _ _ => (simp at h; done)))
  case h6 => exact rfl
  case h7 => exact rfl
  case h8 => exact rfl
  case h9 => decide +kernel
  repeat' (first
    | (with_reducible exact IsSs.nil) | (with_reducible apply IsSs.cons)
    | (with_reducible apply IsS.asg')
    | ((with_reducible apply IsS.tup'); (intro env h1 h2; unfold swappedStores Env.blockKind Env.kindOf; rw [h1, h2]; rfl))
    | (with_reducible apply IsS.tupS')
    | (with_reducible apply IsS.setI') | (with_reducible apply IsS.aug') | (with_reducible apply IsS.app') | (with_reducible apply IsS.ext') | (with_reducible apply IsS.iff) | (with_reducible apply IsS.whl) | (with_reducible apply IsS.for1') | (with_reducible apply IsS.for2') | (with_reducible apply IsS.ret) | (with_reducible exact IsS.fail)
    | (with_reducible exact IsRhs.nil) | (with_reducible apply IsRhs.cons) | (with_reducible exact IsRh.nil) | (with_reducible apply IsRh.rep) | (with_reducible apply IsRh.val)
    | (with_reducible exact IsNs.nil) | (with_reducible apply IsNs.cons')
    | (with_reducible exact IsE.int) | (with_reducible exact IsE.neg) | (with_reducible exact IsE.bool)
    | ((with_reducible apply IsE.var'); (with_reducible apply AtS.mk); (dsimp only [k46]); (repeat (first | (with_reducible exact At.here) | (with_reducible apply At.there))); done)
    | ((with_reducible apply IsE.glob'); (with_reducible apply AtS.mk); (dsimp only [gnL]))
    | (with_reducible apply IsE.bin) | (with_reducible apply IsE.cmp) | (with_reducible apply IsE.and2) | (with_reducible apply IsE.or2) | (with_reducible apply IsE.ite) | (with_reducible apply IsE.upto) | (with_reducible apply IsE.sub) | (with_reducible apply IsE.tup) | (with_reducible apply IsE.lst)
    | (with_reducible apply IsE.len) | (with_reducible apply IsE.max) | (with_reducible apply IsE.call) | (with_reducible apply IsE.comp') | (with_reducible apply IsE.compIf')
    | (with_reducible exact IsEs.nil) | (with_reducible apply IsEs.cons) | (with_reducible apply IsI.range) | (with_reducible apply IsI.list)
    | (with_reducible exact At.here) | (with_reducible apply At.there) | ((with_reducible apply AtS.mk); dsimp only [k46])
    | (with_reducible exact Mask.nil) | ((with_reducible apply Mask.yes); decide +kernel) | (with_reducible apply Mask.no) | ((with_reducible apply MaskS.mk); dsimp only [k46])
    | (intro env h1 h2; unfold swappedStores Env.blockKind Env.kindOf; rw [h1, h2]; rfl)
    | rfl | decide +kernel)⟩
noncomputable def s53 : List (Str × NameKind) := scOf (List.lookup 53 (hd.heap_39 P0))
noncomputable def k53 : Kx := ⟨[Str.ofString "a", Str.ofString "b", Str.ofString "at"], s53, capsOf s53⟩
noncomputable def F53 : Fn 53 k53 [Str.ofString "a", Str.ofString "b"] := ⟨_, by
  intro P
  apply FnOK.mk'
  case h1 => exact rfl
  case h5 => exact rfl
  case h2 => exact rfl
  case h3 => (intro vs h; rcases vs with _ | ⟨a, _ | ⟨b, _ | ⟨c, _ | ⟨d, r⟩⟩⟩⟩ <;> first | rfl | (simp at h; done) | (cases r with | nil => rfl | cons _ _ => (simp at h; done)))
  case h6 => exact rfl
  case h7 => exact rfl
  case h8 => exact rfl
  case h9 => decide +kernel
  repeat' (first
    | (with_reducible exact IsSs.nil) | (with_reducible apply IsSs.cons)
    | (with_reducible apply IsS.asg')
    | ((with_reducible apply IsS.tup'); (intro env h1 h2; unfold swappedStores Env.blockKind Env.kindOf; rw [h1, h2]; rfl))
    | (with_reducible apply IsS.tupS')
    | (with_reducible apply IsS.setI') | (with_reducible apply IsS.aug') | (with_reducible apply IsS.app') | (with_reducible apply IsS.ext') | (with_reducible apply IsS.iff) | (with_reducible apply IsS.whl) | (with_reducible apply IsS.for1') | (with_reducible apply IsS.for2') | (with_reducible apply IsS.ret) | (with_reducible exact IsS.fail)
    | (with_reducible exact IsRhs.nil) | (with_reducible apply IsRhs.cons) | (with_reducible exact IsRh.nil) | (with_reducible apply IsRh.rep) | (with_reducible apply IsRh.val)
    | (with_reducible exact IsNs.nil) | (with_reducible apply IsNs.cons')
    | (with_reducible exact IsE.int) | (with_reducible exact IsE.neg) | (with_reducible exact IsE.bool)
    | ((with_reducible apply IsE.var'); (with_reducible apply AtS.mk); (dsimp only [k53]); (repeat (first | (with_reducible exact At.here) | (with_reducible apply At.there))); done)
    | ((with_reducible apply IsE.glob'); (with_reducible apply AtS.mk); (dsimp only [gnL]))
    | (with_reducible apply IsE.bin) | (with_reducible apply IsE.cmp) | (with_reducible apply IsE.and2) | (with_reducible apply IsE.or2) | (with_reducible apply IsE.ite) | (with_reducible apply IsE.upto) | (with_reducible apply IsE.sub) | (with_reducible apply IsE.tup) | (with_reducible apply IsE.lst)
    | (with_reducible apply IsE.len) | (with_reducible apply IsE.max) | (with_reducible apply IsE.call) | (with_reducible apply IsE.comp') | (with_reducible apply IsE.compIf')
    | (with_reducible exact IsEs.nil) | (with_reducible apply IsEs.cons) | (with_reducible apply IsI.range) | (with_reducible apply IsI.list)
    | (with_reducible exact At.here) | (with_reducible apply At.there) | ((with_reducible apply AtS.mk); dsimp only [k53])
    | (with_reducible exact Mask.nil) | ((with_reducible apply Mask.yes); decide +kernel) | (with_reducible apply Mask.no) | ((with_reducible apply MaskS.mk); dsimp only [k53])
    | (intro env h1 h2; unfold swappedStores Env.blockKind Env.kindOf; rw [h1, h2]; rfl)
    | rfl | decide +kernel)⟩
noncomputable def s60 : List (Str × NameKind) := scOf (List.lookup 60 (hd.heap_39 P0))
noncomputable def k60 : Kx := ⟨[Str.ofString "a", Str.ofString "b", Str.ofString "w", Str.ofString "at", Str.ofString "found", Str.ofString "carry", Str.ofString "mask"], s60, capsOf s60⟩
noncomputable def F60 : Fn 60 k60 [Str.ofString "a", Str.ofString "b", Str.ofString "w"] := ⟨_, by
  intro P
  apply FnOK.mk'
  case h1 => exact rfl
  case h5 => exact rfl
  case h2 => exact rfl
  case h3 => (intro vs h; rcases vs with _ | ⟨a, _ | ⟨b, _ | ⟨c, _ | ⟨d, r⟩⟩⟩⟩ <;> first | rfl | (simp at h; done) | (cases r with | nil => rfl | cons _ _ => (simp at h; done)))
  case h6 => exact rfl
  case h7 => exact rfl
  case h8 => exact rfl
  case h9 => decide +kernel
  repeat' (first
    | (with_reducible exact IsSs.nil) | (with_reducible apply IsSs.cons)
    | (with_reducible apply IsS.asg')
    | ((with_reducible apply IsS.tup'); (intro env h1 h2; unfold swappedStores Env.blockKind Env.kindOf; rw [h1, h2]; rfl))
    | (with_reducible apply IsS.tupS')
    | (with_reducible apply IsS.setI') | (with_reducible apply IsS.aug') | (with_reducible apply IsS.app') | (with_reducible apply IsS.ext') | (with_reducible apply IsS.iff) | (with_reducible apply IsS.whl) | (with_reducible apply IsS.for1') | (with_reducible apply IsS.for2') | (with_reducible apply IsS.ret) | (with_reducible exact IsS.fail)
    | (with_reducible exact IsRhs.nil) | (with_reducible apply IsRhs.cons) | (with_reducible exact IsRh.nil) | (with_reducible apply IsRh.rep) | (with_reducible apply IsRh.val)
    | (with_reducible exact IsNs.nil) | (with_reducible apply IsNs.cons')
    | (with_reducible exact IsE.int) | (with_reducible exact IsE.neg) | (with_reducible exact IsE.bool)
    | ((with_reducible apply IsE.var'); (with_reducible apply AtS.mk); (dsimp only [k60]); (repeat (first | (with_reducible exact At.here) | (with_reducible apply At.there))); done)
    | ((with_reducible apply IsE.glob'); (with_reducible apply AtS.mk); (dsimp only [gnL]))
    | (with_reducible apply IsE.bin) | (with_reducible apply IsE.cmp) | (with_reducible apply IsE.and2) | (with_reducible apply IsE.or2) | (with_reducible apply IsE.ite) | (with_reducible apply IsE.upto) | (with_reducible apply IsE.sub) | (with_reducible apply IsE.tup) | (with_reducible apply IsE.lst)
    | (with_reducible apply IsE.len) | (with_reducible apply IsE.max) | (with_reducible apply IsE.call) | (with_reducible apply IsE.comp') | (with_reducible apply IsE.compIf')
    | (with_reducible exact IsEs.nil) | (with_reducible apply IsEs.cons) | (with_reducible apply IsI.range) | (with_reducible apply IsI.list)
    | (with_reducible exact At.here) | (with_reducible apply At.there) | ((with_reducible apply AtS.mk); dsimp only [k60])
    | (with_reducible exact Mask.nil) | ((with_reducible apply Mask.yes); decide +kernel) | (with_reducible apply Mask.no) | ((with_reducible apply MaskS.mk); dsimp only [k60])
    | (intro env h1 h2; unfold swappedStores Env.blockKind Env.kindOf; rw [h1, h2]; rfl)
    | rfl | decide +kernel)⟩
noncomputable def s67 : List (Str × NameKind) := scOf (List.lookup 67 (hd.heap_39 P0))
noncomputable def k67 : Kx := ⟨[Str.ofString "a", Str.ofString "b", Str.ofString "w", Str.ofString "at", Str.ofString "found", Str.ofString "borrow", Str.ofString "base", Str.ofString "limb"], s67, capsOf s67⟩
noncomputable def F67 : Fn 67 k67 [Str.ofString "a", Str.ofString "b", Str.ofString "w"] := ⟨_, by
  intro P
  apply FnOK.mk'
  case h1 => exact rfl
  case h5 => exact rfl
  case h2 => exact rfl
  case h3 => (intro vs h; rcases vs with _ | ⟨a, _ | ⟨b, _ | ⟨c, _ | ⟨d, r⟩⟩⟩⟩ <;> first | rfl | (simp at h; done) | (cases r with | nil => rfl | cons _ _ => (simp at h; done)))
  case h6 => exact rfl
  case h7 => exact rfl
  case h8 => exact rfl
  case h9 => decide +kernel
  repeat' (first
    | (with_reducible exact IsSs.nil) | (with_reducible apply IsSs.cons)
    | (with_reducible apply IsS.asg')
    | ((with_reducible apply IsS.tup'); (intro env h1 h2; unfold swappedStores Env.blockKind Env.kindOf; rw [h1, h2]; rfl))
    | (with_reducible apply IsS.tupS')
    | (with_reducible apply IsS.setI') | (with_reducible apply IsS.aug') | (with_reducible apply IsS.app') | (with_reducible apply IsS.ext') | (with_reducible apply IsS.iff) | (with_reducible apply IsS.whl) | (with_reducible apply IsS.for1') | (with_reducible apply IsS.for2') | (with_reducible apply IsS.ret) | (with_reducible exact IsS.fail)
    | (with_reducible exact IsRhs.nil) | (with_reducible apply IsRhs.cons) | (with_reducible exact IsRh.nil) | (with_reducible apply IsRh.rep) | (with_reducible apply IsRh.val)
    | (with_reducible exact IsNs.nil) | (with_reducible apply IsNs.cons')
    | (with_reducible exact IsE.int) | (with_reducible exact IsE.neg) | (with_reducible exact IsE.bool)
    | ((with_reducible apply IsE.var'); (with_reducible apply AtS.mk); (dsimp only [k67]); (repeat (first | (with_reducible exact At.here) | (with_reducible apply At.there))); done)
    | ((with_reducible apply IsE.glob'); (with_reducible apply AtS.mk); (dsimp only [gnL]))
    | (with_reducible apply IsE.bin) | (with_reducible apply IsE.cmp) | (with_reducible apply IsE.and2) | (with_reducible apply IsE.or2) | (with_reducible apply IsE.ite) | (with_reducible apply IsE.upto) | (with_reducible apply IsE.sub) | (with_reducible apply IsE.tup) | (with_reducible apply IsE.lst)
    | (with_reducible apply IsE.len) | (with_reducible apply IsE.max) | (with_reducible apply IsE.call) | (with_reducible apply IsE.comp') | (with_reducible apply IsE.compIf')
    | (with_reducible exact IsEs.nil) | (with_reducible apply IsEs.cons) | (with_reducible apply IsI.range) | (with_reducible apply IsI.list)
    | (with_reducible exact At.here) | (with_reducible apply At.there) | ((with_reducible apply AtS.mk); dsimp only [k67])
    | (with_reducible exact Mask.nil) | ((with_reducible apply Mask.yes); decide +kernel) | (with_reducible apply Mask.no) | ((with_reducible apply MaskS.mk); dsimp only [k67])
    | (intro env h1 h2; unfold swappedStores Env.blockKind Env.kindOf; rw [h1, h2]; rfl)
    | rfl | decide +kernel)⟩
noncomputable def s74 : List (Str × NameKind) := scOf (List.lookup 74 (hd.heap_39 P0))
noncomputable def k74 : Kx := ⟨[Str.ofString "a", Str.ofString "limb", Str.ofString "w", Str.ofString "one", Str.ofString "found", Str.ofString "carry", Str.ofString "mask"], s74, capsOf s74⟩
noncomputable def F74 : Fn 74 k74 [Str.ofString "a", Str.ofString "limb", Str.ofString "w"] := ⟨_, by
  intro P
  apply FnOK.mk'
  case h1 => exact rfl
  case h5 => exact rfl
  case h2 => exact rfl
  case h3 => (intro vs h; rcases vs with _ | ⟨a, _ | ⟨b, _ | ⟨c, _ | ⟨d, r⟩⟩⟩⟩ <;> first | rfl | (simp at h; done) | (cases r with | nil => rfl | cons _ _ => (simp at h; done)))
  case h6 => exact rfl
  case h7 => exact rfl
  case h8 => exact rfl
  case h9 => decide +kernel
  repeat' (first
    | (with_reducible exact IsSs.nil) | (with_reducible apply IsSs.cons)
    | (with_reducible apply IsS.asg')
    | ((with_reducible apply IsS.tup'); (intro env h1 h2; unfold swappedStores Env.blockKind Env.kindOf; rw [h1, h2]; rfl))
    | (with_reducible apply IsS.tupS')
    | (with_reducible apply IsS.setI') | (with_reducible apply IsS.aug') | (with_reducible apply IsS.app') | (with_reducible apply IsS.ext') | (with_reducible apply IsS.iff) | (with_reducible apply IsS.whl) | (with_reducible apply IsS.for1') | (with_reducible apply IsS.for2') | (with_reducible apply IsS.ret) | (with_reducible exact IsS.fail)
    | (with_reducible exact IsRhs.nil) | (with_reducible apply IsRhs.cons) | (with_reducible exact IsRh.nil) | (with_reducible apply IsRh.rep) | (with_reducible apply IsRh.val)
    | (with_reducible exact IsNs.nil) | (with_reducible apply IsNs.cons')
    | (with_reducible exact IsE.int) | (with_reducible exact IsE.neg) | (with_reducible exact IsE.bool)
    | ((with_reducible apply IsE.var'); (with_reducible apply AtS.mk); (dsimp only [k74]); (repeat (first | (with_reducible exact At.here) | (with_reducible apply At.there))); done)
    | ((with_reducible apply IsE.glob'); (with_reducible apply AtS.mk); (dsimp only [gnL]))
    | (with_reducible apply IsE.bin) | (with_reducible apply IsE.cmp) | (with_reducible apply IsE.and2) | (with_reducible apply IsE.or2) | (with_reducible apply IsE.ite) | (with_reducible apply IsE.upto) | (with_reducible apply IsE.sub) | (with_reducible apply IsE.tup) | (with_reducible apply IsE.lst)
    | (with_reducible apply IsE.len) | (with_reducible apply IsE.max) | (with_reducible apply IsE.call) | (with_reducible apply IsE.comp') | (with_reducible apply IsE.compIf')
    | (with_reducible exact IsEs.nil) | (with_reducible apply IsEs.cons) | (with_reducible apply IsI.range) | (with_reducible apply IsI.list)
    | (with_reducible exact At.here) | (with_reducible apply At.there) | ((with_reducible apply AtS.mk); dsimp only [k74])
    | (with_reducible exact Mask.nil) | ((with_reducible apply Mask.yes); decide +kernel) | (with_reducible apply Mask.no) | ((with_reducible apply MaskS.mk); dsimp only [k74])
    | (intro env h1 h2; unfold swappedStores Env.blockKind Env.kindOf; rw [h1, h2]; rfl)
    | rfl | decide +kernel)⟩
noncomputable def s81 : List (Str × NameKind) := scOf (List.lookup 81 (hd.heap_39 P0))
noncomputable def k81 : Kx := ⟨[Str.ofString "is_below", Str.ofString "nat"], s81, capsOf s81⟩
noncomputable def F81 : Fn 81 k81 [Str.ofString "is_below", Str.ofString "nat"] := ⟨_, by
  intro P
  apply FnOK.mk'
  case h1 => exact rfl
  case h5 => exact rfl
  case h2 => exact rfl
  case h3 => (intro vs h; rcases vs with _ | ⟨a, _ | ⟨b, _ | ⟨c, _ | ⟨d, r⟩⟩⟩⟩ <;> first | rfl | (simp at h; done) | (cases r with | nil => rfl | cons _ _ => (simp at h; done)))
  case h6 => exact rfl
  case h7 => exact rfl
  case h8 => exact rfl
  case h9 => decide +kernel
  repeat' (first
    | (with_reducible exact IsSs.nil) | (with_reducible apply IsSs.cons)
    | (with_reducible apply IsS.asg')
    | ((with_reducible apply IsS.tup'); (intro env h1 h2; unfold swappedStores Env.blockKind Env.kindOf; rw [h1, h2]; rfl))
    | (with_reducible apply IsS.tupS')
    | (with_reducible apply IsS.setI') | (with_reducible apply IsS.aug') | (with_reducible apply IsS.app') | (with_reducible apply IsS.ext') | (with_reducible apply IsS.iff) | (with_reducible apply IsS.whl) | (with_reducible apply IsS.for1') | (with_reducible apply IsS.for2') | (with_reducible apply IsS.ret) | (with_reducible exact IsS.fail)
    | (with_reducible exact IsRhs.nil) | (with_reducible apply IsRhs.cons) | (with_reducible exact IsRh.nil) | (with_reducible apply IsRh.rep) | (with_reducible apply IsRh.val)
    | (with_reducible exact IsNs.nil) | (with_reducible apply IsNs.cons')
    | (with_reducible exact IsE.int) | (with_reducible exact IsE.neg) | (with_reducible exact IsE.bool)
    | ((with_reducible apply IsE.var'); (with_reducible apply AtS.mk); (dsimp only [k81]); (repeat (first | (with_reducible exact At.here) | (with_reducible apply At.there))); done)
    | ((with_reducible apply IsE.glob'); (with_reducible apply AtS.mk); (dsimp only [gnL]))
    | (with_reducible apply IsE.bin) | (with_reducible apply IsE.cmp) | (with_reducible apply IsE.and2) | (with_reducible apply IsE.or2) | (with_reducible apply IsE.ite) | (with_reducible apply IsE.upto) | (with_reducible apply IsE.sub) | (with_reducible apply IsE.tup) | (with_reducible apply IsE.lst)
    | (with_reducible apply IsE.len) | (with_reducible apply IsE.max) | (with_reducible apply IsE.call) | (with_reducible apply IsE.comp') | (with_reducible apply IsE.compIf')
    | (with_reducible exact IsEs.nil) | (with_reducible apply IsEs.cons) | (with_reducible apply IsI.range) | (with_reducible apply IsI.list)
    | (with_reducible exact At.here) | (with_reducible apply At.there) | ((with_reducible apply AtS.mk); dsimp only [k81])
    | (with_reducible exact Mask.nil) | ((with_reducible apply Mask.yes); decide +kernel) | (with_reducible apply Mask.no) | ((with_reducible apply MaskS.mk); dsimp only [k81])
    | (intro env h1 h2; unfold swappedStores Env.blockKind Env.kindOf; rw [h1, h2]; rfl)
    | rfl | decide +kernel)⟩
noncomputable def s88 : List (Str × NameKind) := scOf (List.lookup 88 (hd.heap_39 P0))
noncomputable def k88 : Kx := ⟨[Str.ofString "x", Str.ofString "y", Str.ofString "w"], s88, capsOf s88⟩
noncomputable def F88 : Fn 88 k88 [Str.ofString "x", Str.ofString "y", Str.ofString "w"] := ⟨_, by
  intro P
  apply FnOK.mk'
  case h1 => exact rfl
  case h5 => exact rfl
  case h2 => exact rfl
  case h3 => (intro vs h; rcases vs with _ | ⟨a, _ | ⟨b, _ | ⟨c, _ | ⟨d, r⟩⟩⟩⟩ <;> first | rfl | (simp at h; done) | (cases r with | nil => rfl | cons _ _ => (simp at h; done)))
  case h6 => exact rfl
  case h7 => exact rfl
  case h8 => exact rfl
  case h9 => decide +kernel
  repeat' (first
    | (with_reducible exact IsSs.nil) | (with_reducible apply IsSs.cons)
    | (with_reducible apply IsS.asg')
    | ((with_reducible apply IsS.tup'); (intro env h1 h2; unfold swappedStores Env.blockKind Env.kindOf; rw [h1, h2]; rfl))
    | (with_reducible apply IsS.tupS')
    | (with_reducible apply IsS.setI') | (with_reducible apply IsS.aug') | (with_reducible apply IsS.app') | (with_reducible apply IsS.ext') | (with_reducible apply IsS.iff) | (with_reducible apply IsS.whl) | (with_reducible apply IsS.for1') | (with_reducible apply IsS.for2') | (with_reducible apply IsS.ret) | (with_reducible exact IsS.fail)
    | (with_reducible exact IsRhs.nil) | (with_reducible apply IsRhs.cons) | (with_reducible exact IsRh.nil) | (with_reducible apply IsRh.rep) | (with_reducible apply IsRh.val)
    | (with_reducible exact IsNs.nil) | (with_reducible apply IsNs.cons')
    | (with_reducible exact IsE.int) | (with_reducible exact IsE.neg) | (with_reducible exact IsE.bool)
    | ((with_reducible apply IsE.var'); (with_reducible apply AtS.mk); (dsimp only [k88]); (repeat (first | (with_reducible exact At.here) | (with_reducible apply At.there))); done)
    | ((with_reducible apply IsE.glob'); (with_reducible apply AtS.mk); (dsimp only [gnL]))
    | (with_reducible apply IsE.bin) | (with_reducible apply IsE.cmp) | (with_reducible apply IsE.and2) | (with_reducible apply IsE.or2) | (with_reducible apply IsE.ite) | (with_reducible apply IsE.upto) | (with_reducible apply IsE.sub) | (with_reducible apply IsE.tup) | (with_reducible apply IsE.lst)
    | (with_reducible apply IsE.len) | (with_reducible apply IsE.max) | (with_reducible apply IsE.call) | (with_reducible apply IsE.comp') | (with_reducible apply IsE.compIf')
    | (with_reducible exact IsEs.nil) | (with_reducible apply IsEs.cons) | (with_reducible apply IsI.range) | (with_reducible apply IsI.list)
    | (with_reducible exact At.here) | (with_reducible apply At.there) | ((with_reducible apply AtS.mk); dsimp only [k88])
    | (with_reducible exact Mask.nil) | ((with_reducible apply Mask.yes); decide +kernel) | (with_reducible apply Mask.no) | ((with_reducible apply MaskS.mk); dsimp only [k88])
    | (intro env h1 h2; unfold swappedStores Env.blockKind Env.kindOf; rw [h1, h2]; rfl)
    | rfl | decide +kernel)⟩
noncomputable def s95 : List (Str × NameKind) := scOf (List.lookup 95 (hd.heap_39 P0))
noncomputable def k95 : Kx := ⟨[Str.ofString "x", Str.ofString "y", Str.ofString "w", Str.ofString "mul"], s95, capsOf s95⟩
noncomputable def F95 : Fn 95 k95 [Str.ofString "x", Str.ofString "y", Str.ofString "w", Str.ofString "mul"] := ⟨_, by
  intro P
  apply FnOK.mk'
  case h1 => exact rfl
  case h5 => exact rfl
  case h2 => exact rfl
  case h3 => (intro vs h; rcases vs with _ | ⟨a, _ | ⟨b, _ | ⟨c, _ | ⟨d, r⟩⟩⟩⟩ <;> first | rfl | (simp at h; done) | (cases r with | nil => rfl | cons _ _ => (simp at h; done)))
  case h6 => exact rfl
  case h7 => exact rfl
  case h8 => exact rfl
  case h9 => decide +kernel
  repeat' (first
    | (with_reducible exact IsSs.nil) | (with_reducible apply IsSs.cons)
    | (with_reducible apply IsS.asg')
    | ((with_reducible apply IsS.tup'); (intro env h1 h2; unfold swappedStores Env.blockKind Env.kindOf; rw [h1, h2]; rfl))
    | (with_reducible apply IsS.tupS')
    | (with_reducible apply IsS.setI') | (with_reducible apply IsS.aug') | (with_reducible apply IsS.app') | (with_reducible apply IsS.ext') | (with_reducible apply IsS.iff) | (with_reducible apply IsS.whl) | (with_reducible apply IsS.for1') | (with_reducible apply IsS.for2') | (with_reducible apply IsS.ret) | (with_reducible exact IsS.fail)
    | (with_reducible exact IsRhs.nil) | (with_reducible apply IsRhs.cons) | (with_reducible exact IsRh.nil) | (with_reducible apply IsRh.rep) | (with_reducible apply IsRh.val)
    | (with_reducible exact IsNs.nil) | (with_reducible apply IsNs.cons')
    | (with_reducible exact IsE.int) | (with_reducible exact IsE.neg) | (with_reducible exact IsE.bool)
    | ((with_reducible apply IsE.var'); (with_reducible apply AtS.mk); (dsimp only [k95]); (repeat (first | (with_reducible exact At.here) | (with_reducible apply At.there))); done)
    | ((with_reducible apply IsE.glob'); (with_reducible apply AtS.mk); (dsimp only [gnL]))
    | (with_reducible apply IsE.bin) | (with_reducible apply IsE.cmp) | (with_reducible apply IsE.and2) | (with_reducible apply IsE.or2) | (with_reducible apply IsE.ite) | (with_reducible apply IsE.upto) | (with_reducible apply IsE.sub) | (with_reducible apply IsE.tup) | (with_reducible apply IsE.lst)
    | (with_reducible apply IsE.len) | (with_reducible apply IsE.max) | (with_reducible apply IsE.call) | (with_reducible apply IsE.comp') | (with_reducible apply IsE.compIf')
    | (with_reducible exact IsEs.nil) | (with_reducible apply IsEs.cons) | (with_reducible apply IsI.range) | (with_reducible apply IsI.list)
    | (with_reducible exact At.here) | (with_reducible apply At.there) | ((with_reducible apply AtS.mk); dsimp only [k95])
    | (with_reducible exact Mask.nil) | ((with_reducible apply Mask.yes); decide +kernel) | (with_reducible apply Mask.no) | ((with_reducible apply MaskS.mk); dsimp only [k95])
    | (intro env h1 h2; unfold swappedStores Env.blockKind Env.kindOf; rw [h1, h2]; rfl)
    | rfl | decide +kernel)⟩
noncomputable def s104 : List (Str × NameKind) := scOf (List.lookup 104 (hd.heap_39 P0))
noncomputable def k104 : Kx := ⟨[Str.ofString "size", Str.ofString "at", Str.ofString "spot"], s104, capsOf s104⟩
noncomputable def F104 : Fn 104 k104 [Str.ofString "size"] := ⟨_, by
  intro P
  apply FnOK.mk'
  case h1 => exact rfl
  case h5 => exact rfl
  case h2 => exact rfl
  case h3 => (intro vs h; rcases vs with _ | ⟨a, _ | ⟨b, _ | ⟨c, _ | ⟨d, r⟩⟩⟩⟩ <;> first | rfl | (simp at h; done) | (cases r with | nil => rfl | cons _ _ => (simp at h; done)))
  case h6 => exact rfl
  case h7 => exact rfl
  case h8 => exact rfl
  case h9 => decide +kernel
  repeat' (first
    | (with_reducible exact IsSs.nil) | (with_reducible apply IsSs.cons)
    | (with_reducible apply IsS.asg')
    | ((with_reducible apply IsS.tup'); (intro env h1 h2; unfold swappedStores Env.blockKind Env.kindOf; rw [h1, h2]; rfl))
    | (with_reducible apply IsS.tupS')
    | (with_reducible apply IsS.setI') | (with_reducible apply IsS.aug') | (with_reducible apply IsS.app') | (with_reducible apply IsS.ext') | (with_reducible apply IsS.iff) | (with_reducible apply IsS.whl) | (with_reducible apply IsS.for1') | (with_reducible apply IsS.for2') | (with_reducible apply IsS.ret) | (with_reducible exact IsS.fail)
    | (with_reducible exact IsRhs.nil) | (with_reducible apply IsRhs.cons) | (with_reducible exact IsRh.nil) | (with_reducible apply IsRh.rep) | (with_reducible apply IsRh.val)
    | (with_reducible exact IsNs.nil) | (with_reducible apply IsNs.cons')
    | (with_reducible exact IsE.int) | (with_reducible exact IsE.neg) | (with_reducible exact IsE.bool)
    | ((with_reducible apply IsE.var'); (with_reducible apply AtS.mk); (dsimp only [k104]); (repeat (first | (with_reducible exact At.here) | (with_reducible apply At.there))); done)
    | ((with_reducible apply IsE.glob'); (with_reducible apply AtS.mk); (dsimp only [gnL]))
    | (with_reducible apply IsE.bin) | (with_reducible apply IsE.cmp) | (with_reducible apply IsE.and2) | (with_reducible apply IsE.or2) | (with_reducible apply IsE.ite) | (with_reducible apply IsE.upto) | (with_reducible apply IsE.sub) | (with_reducible apply IsE.tup) | (with_reducible apply IsE.lst)
    | (with_reducible apply IsE.len) | (with_reducible apply IsE.max) | (with_reducible apply IsE.call) | (with_reducible apply IsE.comp') | (with_reducible apply IsE.compIf')
    | (with_reducible exact IsEs.nil) | (with_reducible apply IsEs.cons) | (with_reducible apply IsI.range) | (with_reducible apply IsI.list)
    | (with_reducible exact At.here) | (with_reducible apply At.there) | ((with_reducible apply AtS.mk); dsimp only [k104])
    | (with_reducible exact Mask.nil) | ((with_reducible apply Mask.yes); decide +kernel) | (with_reducible apply Mask.no) | ((with_reducible apply MaskS.mk); dsimp only [k104])
    | (intro env h1 h2; unfold swappedStores Env.blockKind Env.kindOf; rw [h1, h2]; rfl)
    | rfl | decide +kernel)⟩
noncomputable def s109 : List (Str × NameKind) := scOf (List.lookup 109 (hd.heap_39 P0))
noncomputable def k109 : Kx := ⟨[Str.ofString "a", Str.ofString "at", Str.ofString "row"], s109, capsOf s109⟩
noncomputable def F109 : Fn 109 k109 [Str.ofString "a"] := ⟨_, by
  intro P
  apply FnOK.mk'
  case h1 => exact rfl
  case h5 => exact rfl
  case h2 => exact rfl
  case h3 => (intro vs h; rcases vs with _ | ⟨a, _ | ⟨b, _ | ⟨c, _ | ⟨d, r⟩⟩⟩⟩ <;> first | rfl | (simp at h; done) | (cases r with | nil => rfl | cons _ _ => (simp at h; done)))
  case h6 => exact rfl
  case h7 => exact rfl
  case h8 => exact rfl
  case h9 => decide +kernel
  repeat' (first
    | (with_reducible exact IsSs.nil) | (with_reducible apply IsSs.cons)
    | (with_reducible apply IsS.asg')
    | ((with_reducible apply IsS.tup'); (intro env h1 h2; unfold swappedStores Env.blockKind Env.kindOf; rw [h1, h2]; rfl))
    | (with_reducible apply IsS.tupS')
    | (with_reducible apply IsS.setI') | (with_reducible apply IsS.aug') | (with_reducible apply IsS.app') | (with_reducible apply IsS.ext') | (with_reducible apply IsS.iff) | (with_reducible apply IsS.whl) | (with_reducible apply IsS.for1') | (with_reducible apply IsS.for2') | (with_reducible apply IsS.ret) | (with_reducible exact IsS.fail)
    | (with_reducible exact IsRhs.nil) | (with_reducible apply IsRhs.cons) | (with_reducible exact IsRh.nil) | (with_reducible apply IsRh.rep) | (with_reducible apply IsRh.val)
    | (with_reducible exact IsNs.nil) | (with_reducible apply IsNs.cons')
    | (with_reducible exact IsE.int) | (with_reducible exact IsE.neg) | (with_reducible exact IsE.bool)
    | ((with_reducible apply IsE.var'); (with_reducible apply AtS.mk); (dsimp only [k109]); (repeat (first | (with_reducible exact At.here) | (with_reducible apply At.there))); done)
    | ((with_reducible apply IsE.glob'); (with_reducible apply AtS.mk); (dsimp only [gnL]))
    | (with_reducible apply IsE.bin) | (with_reducible apply IsE.cmp) | (with_reducible apply IsE.and2) | (with_reducible apply IsE.or2) | (with_reducible apply IsE.ite) | (with_reducible apply IsE.upto) | (with_reducible apply IsE.sub) | (with_reducible apply IsE.tup) | (with_reducible apply IsE.lst)
    | (with_reducible apply IsE.len) | (with_reducible apply IsE.max) | (with_reducible apply IsE.call) | (with_reducible apply IsE.comp') | (with_reducible apply IsE.compIf')
    | (with_reducible exact IsEs.nil) | (with_reducible apply IsEs.cons) | (with_reducible apply IsI.range) | (with_reducible apply IsI.list)
    | (with_reducible exact At.here) | (with_reducible apply At.there) | ((with_reducible apply AtS.mk); dsimp only [k109])
    | (with_reducible exact Mask.nil) | ((with_reducible apply Mask.yes); decide +kernel) | (with_reducible apply Mask.no) | ((with_reducible apply MaskS.mk); dsimp only [k109])
    | (intro env h1 h2; unfold swappedStores Env.blockKind Env.kindOf; rw [h1, h2]; rfl)
    | rfl | decide +kernel)⟩
noncomputable def s116 : List (Str × NameKind) := scOf (List.lookup 116 (hd.heap_39 P0))
noncomputable def k116 : Kx := ⟨[Str.ofString "one", Str.ofString "other", Str.ofString "w", Str.ofString "mul", Str.ofString "found", Str.ofString "at", Str.ofString "value"], s116, capsOf s116⟩
noncomputable def F116 : Fn 116 k116 [Str.ofString "one", Str.ofString "other", Str.ofString "w", Str.ofString "mul"] := ⟨_, by
  intro P
  apply FnOK.mk'
  case h1 => exact rfl
  case h5 => exact rfl
  case h2 => exact rfl
  case h3 => (intro vs h; rcases vs with _ | ⟨a, _ | ⟨b, _ | ⟨c, _ | ⟨d, r⟩⟩⟩⟩ <;> first | rfl | (simp at h; done) | (cases r with | nil => rfl | cons _ _ => (simp at h; done)))
  case h6 => exact rfl
  case h7 => exact rfl
  case h8 => exact rfl
  case h9 => decide +kernel
  repeat' (first
    | (with_reducible exact IsSs.nil) | (with_reducible apply IsSs.cons)
    | (with_reducible apply IsS.asg')
    | ((with_reducible apply IsS.tup'); (intro env h1 h2; unfold swappedStores Env.blockKind Env.kindOf; rw [h1, h2]; rfl))
    | (with_reducible apply IsS.tupS')
    | (with_reducible apply IsS.setI') | (with_reducible apply IsS.aug') | (with_reducible apply IsS.app') | (with_reducible apply IsS.ext') | (with_reducible apply IsS.iff) | (with_reducible apply IsS.whl) | (with_reducible apply IsS.for1') | (with_reducible apply IsS.for2') | (with_reducible apply IsS.ret) | (with_reducible exact IsS.fail)
    | (with_reducible exact IsRhs.nil) | (with_reducible apply IsRhs.cons) | (with_reducible exact IsRh.nil) | (with_reducible apply IsRh.rep) | (with_reducible apply IsRh.val)
    | (with_reducible exact IsNs.nil) | (with_reducible apply IsNs.cons')
    | (with_reducible exact IsE.int) | (with_reducible exact IsE.neg) | (with_reducible exact IsE.bool)
    | ((with_reducible apply IsE.var'); (with_reducible apply AtS.mk); (dsimp only [k116]); (repeat (first | (with_reducible exact At.here) | (with_reducible apply At.there))); done)
    | ((with_reducible apply IsE.glob'); (with_reducible apply AtS.mk); (dsimp only [gnL]))
    | (with_reducible apply IsE.bin) | (with_reducible apply IsE.cmp) | (with_reducible apply IsE.and2) | (with_reducible apply IsE.or2) | (with_reducible apply IsE.ite) | (with_reducible apply IsE.upto) | (with_reducible apply IsE.sub) | (with_reducible apply IsE.tup) | (with_reducible apply IsE.lst)
    | (with_reducible apply IsE.len) | (with_reducible apply IsE.max) | (with_reducible apply IsE.call) | (with_reducible apply IsE.comp') | (with_reducible apply IsE.compIf')
    | (with_reducible exact IsEs.nil) | (with_reducible apply IsEs.cons) | (with_reducible apply IsI.range) | (with_reducible apply IsI.list)
    | (with_reducible exact At.here) | (with_reducible apply At.there) | ((with_reducible apply AtS.mk); dsimp only [k116])
    | (with_reducible exact Mask.nil) | ((with_reducible apply Mask.yes); decide +kernel) | (with_reducible apply Mask.no) | ((with_reducible apply MaskS.mk); dsimp only [k116])
    | (intro env h1 h2; unfold swappedStores Env.blockKind Env.kindOf; rw [h1, h2]; rfl)
    | rfl | decide +kernel)⟩
noncomputable def s121 : List (Str × NameKind) := scOf (List.lookup 121 (hd.heap_39 P0))
noncomputable def k121 : Kx := ⟨[Str.ofString "a", Str.ofString "b", Str.ofString "w", Str.ofString "mul", Str.ofString "columns", Str.ofString "row", Str.ofString "column"], s121, capsOf s121⟩
noncomputable def F121 : Fn 121 k121 [Str.ofString "a", Str.ofString "b", Str.ofString "w", Str.ofString "mul"] := ⟨_, by
  intro P
  apply FnOK.mk'
  case h1 => exact rfl
  case h5 => exact rfl
  case h2 => exact rfl
  case h3 => (intro vs h; rcases vs with _ | ⟨a, _ | ⟨b, _ | ⟨c, _ | ⟨d, r⟩⟩⟩⟩ <;> first | rfl | (simp at h; done) | (cases r with | nil => rfl | cons _ _ => (simp at h; done)))
  case h6 => exact rfl
  case h7 => exact rfl
  case h8 => exact rfl
  case h9 => decide +kernel
  repeat' (first
    | (with_reducible exact IsSs.nil) | (with_reducible apply IsSs.cons)
    | (with_reducible apply IsS.asg')
    | ((with_reducible apply IsS.tup'); (intro env h1 h2; unfold swappedStores Env.blockKind Env.kindOf; rw [h1, h2]; rfl))
    | (with_reducible apply IsS.tupS')
    | (with_reducible apply IsS.setI') | (with_reducible apply IsS.aug') | (with_reducible apply IsS.app') | (with_reducible apply IsS.ext') | (with_reducible apply IsS.iff) | (with_reducible apply IsS.whl) | (with_reducible apply IsS.for1') | (with_reducible apply IsS.for2') | (with_reducible apply IsS.ret) | (with_reducible exact IsS.fail)
    | (with_reducible exact IsRhs.nil) | (with_reducible apply IsRhs.cons) | (with_reducible exact IsRh.nil) | (with_reducible apply IsRh.rep) | (with_reducible apply IsRh.val)
    | (with_reducible exact IsNs.nil) | (with_reducible apply IsNs.cons')
    | (with_reducible exact IsE.int) | (with_reducible exact IsE.neg) | (with_reducible exact IsE.bool)
    | ((with_reducible apply IsE.var'); (with_reducible apply AtS.mk); (dsimp only [k121]); (repeat (first | (with_reducible exact At.here) | (with_reducible apply At.there))); done)
    | ((with_reducible apply IsE.glob'); (with_reducible apply AtS.mk); (dsimp only [gnL]))
    | (with_reducible apply IsE.bin) | (with_reducible apply IsE.cmp) | (with_reducible apply IsE.and2) | (with_reducible apply IsE.or2) | (with_reducible apply IsE.ite) | (with_reducible apply IsE.upto) | (with_reducible apply IsE.sub) | (with_reducible apply IsE.tup) | (with_reducible apply IsE.lst)
    | (with_reducible apply IsE.len) | (with_reducible apply IsE.max) | (with_reducible apply IsE.call) | (with_reducible apply IsE.comp') | (with_reducible apply IsE.compIf')
    | (with_reducible exact IsEs.nil) | (with_reducible apply IsEs.cons) | (with_reducible apply IsI.range) | (with_reducible apply IsI.list)
    | (with_reducible exact At.here) | (with_reducible apply At.there) | ((with_reducible apply AtS.mk); dsimp only [k121])
    | (with_reducible exact Mask.nil) | ((with_reducible apply Mask.yes); decide +kernel) | (with_reducible apply Mask.no) | ((with_reducible apply MaskS.mk); dsimp only [k121])
    | (intro env h1 h2; unfold swappedStores Env.blockKind Env.kindOf; rw [h1, h2]; rfl)
    | rfl | decide +kernel)⟩
noncomputable def s126 : List (Str × NameKind) := scOf (List.lookup 126 (hd.heap_39 P0))
noncomputable def k126 : Kx := ⟨[Str.ofString "a", Str.ofString "column", Str.ofString "w", Str.ofString "mul", Str.ofString "row"], s126, capsOf s126⟩
noncomputable def F126 : Fn 126 k126 [Str.ofString "a", Str.ofString "column", Str.ofString "w", Str.ofString "mul"] := ⟨_, by
  intro P
  apply FnOK.mk'
  case h1 => exact rfl
  case h5 => exact rfl
  case h2 => exact rfl
  case h3 => (intro vs h; rcases vs with _ | ⟨a, _ | ⟨b, _ | ⟨c, _ | ⟨d, r⟩⟩⟩⟩ <;> first | rfl | (simp at h; done) | (cases r with | nil => rfl | cons _ _ => (simp at h; done)))
  case h6 => exact rfl
  case h7 => exact rfl
  case h8 => exact rfl
  case h9 => decide +kernel
  repeat' (first
    | (with_reducible exact IsSs.nil) | (with_reducible apply IsSs.cons)
    | (with_reducible apply IsS.asg')
    | ((with_reducible apply IsS.tup'); (intro env h1 h2; unfold swappedStores Env.blockKind Env.kindOf; rw [h1, h2]; rfl))
    | (with_reducible apply IsS.tupS')
    | (with_reducible apply IsS.setI') | (with_reducible apply IsS.aug') | (with_reducible apply IsS.app') | (with_reducible apply IsS.ext') | (with_reducible apply IsS.iff) | (with_reducible apply IsS.whl) | (with_reducible apply IsS.for1') | (with_reducible apply IsS.for2') | (with_reducible apply IsS.ret) | (with_reducible exact IsS.fail)
    | (with_reducible exact IsRhs.nil) | (with_reducible apply IsRhs.cons) | (with_reducible exact IsRh.nil) | (with_reducible apply IsRh.rep) | (with_reducible apply IsRh.val)
    | (with_reducible exact IsNs.nil) | (with_reducible apply IsNs.cons')
    | (with_reducible exact IsE.int) | (with_reducible exact IsE.neg) | (with_reducible exact IsE.bool)
    | ((with_reducible apply IsE.var'); (with_reducible apply AtS.mk); (dsimp only [k126]); (repeat (first | (with_reducible exact At.here) | (with_reducible apply At.there))); done)
    | ((with_reducible apply IsE.glob'); (with_reducible apply AtS.mk); (dsimp only [gnL]))
    | (with_reducible apply IsE.bin) | (with_reducible apply IsE.cmp) | (with_reducible apply IsE.and2) | (with_reducible apply IsE.or2) | (with_reducible apply IsE.ite) | (with_reducible apply IsE.upto) | (with_reducible apply IsE.sub) | (with_reducible apply IsE.tup) | (with_reducible apply IsE.lst)
    | (with_reducible apply IsE.len) | (with_reducible apply IsE.max) | (with_reducible apply IsE.call) | (with_reducible apply IsE.comp') | (with_reducible apply IsE.compIf')
    | (with_reducible exact IsEs.nil) | (with_reducible apply IsEs.cons) | (with_reducible apply IsI.range) | (with_reducible apply IsI.list)
    | (with_reducible exact At.here) | (with_reducible apply At.there) | ((with_reducible apply AtS.mk); dsimp only [k126])
    | (with_reducible exact Mask.nil) | ((with_reducible apply Mask.yes); decide +kernel) | (with_reducible apply Mask.no) | ((with_reducible apply MaskS.mk); dsimp only [k126])
    | (intro env h1 h2; unfold swappedStores Env.blockKind Env.kindOf; rw [h1, h2]; rfl)
    | rfl | decide +kernel)⟩
noncomputable def s133 : List (Str × NameKind) := scOf (List.lookup 133 (hd.heap_39 P0))
noncomputable def k133 : Kx := ⟨[Str.ofString "a", Str.ofString "b", Str.ofString "w", Str.ofString "found", Str.ofString "mask", Str.ofString "at", Str.ofString "limb", Str.ofString "carry", Str.ofString "spot", Str.ofString "other"], s133, capsOf s133⟩
noncomputable def F133 : Fn 133 k133 [Str.ofString "a", Str.ofString "b", Str.ofString "w"] := ⟨_, by
  intro P
  apply FnOK.mk'
  case h1 => exact rfl
  case h5 => exact rfl
  case h2 => exact rfl
  case h3 => (intro vs h; rcases vs with _ | ⟨a, _ | ⟨b, _ | ⟨c, _ | ⟨d, r⟩⟩⟩⟩ <;> first | rfl | (simp at h; done) | (cases r with | nil => rfl | cons _ _ => (simp at h; done)))
  case h6 => exact rfl
  case h7 => exact rfl
  case h8 => exact rfl
  case h9 => decide +kernel
  repeat' (first
    | (with_reducible exact IsSs.nil) | (with_reducible apply IsSs.cons)
    | (with_reducible apply IsS.asg')
    | ((with_reducible apply IsS.tup'); (intro env h1 h2; unfold swappedStores Env.blockKind Env.kindOf; rw [h1, h2]; rfl))
    | (with_reducible apply IsS.tupS')
    | (with_reducible apply IsS.setI') | (with_reducible apply IsS.aug') | (with_reducible apply IsS.app') | (with_reducible apply IsS.ext') | (with_reducible apply IsS.iff) | (with_reducible apply IsS.whl) | (with_reducible apply IsS.for1') | (with_reducible apply IsS.for2') | (with_reducible apply IsS.ret) | (with_reducible exact IsS.fail)
    | (with_reducible exact IsRhs.nil) | (with_reducible apply IsRhs.cons) | (with_reducible exact IsRh.nil) | (with_reducible apply IsRh.rep) | (with_reducible apply IsRh.val)
    | (with_reducible exact IsNs.nil) | (with_reducible apply IsNs.cons')
    | (with_reducible exact IsE.int) | (with_reducible exact IsE.neg) | (with_reducible exact IsE.bool)
    | ((with_reducible apply IsE.var'); (with_reducible apply AtS.mk); (dsimp only [k133]); (repeat (first | (with_reducible exact At.here) | (with_reducible apply At.there))); done)
    | ((with_reducible apply IsE.glob'); (with_reducible apply AtS.mk); (dsimp only [gnL]))
    | (with_reducible apply IsE.bin) | (with_reducible apply IsE.cmp) | (with_reducible apply IsE.and2) | (with_reducible apply IsE.or2) | (with_reducible apply IsE.ite) | (with_reducible apply IsE.upto) | (with_reducible apply IsE.sub) | (with_reducible apply IsE.tup) | (with_reducible apply IsE.lst)
    | (with_reducible apply IsE.len) | (with_reducible apply IsE.max) | (with_reducible apply IsE.call) | (with_reducible apply IsE.comp') | (with_reducible apply IsE.compIf')
    | (with_reducible exact IsEs.nil) | (with_reducible apply IsEs.cons) | (with_reducible apply IsI.range) | (with_reducible apply IsI.list)
    | (with_reducible exact At.here) | (with_reducible apply At.there) | ((with_reducible apply AtS.mk); dsimp only [k133])
    | (with_reducible exact Mask.nil) | ((with_reducible apply Mask.yes); decide +kernel) | (with_reducible apply Mask.no) | ((with_reducible apply MaskS.mk); dsimp only [k133])
    | (intro env h1 h2; unfold swappedStores Env.blockKind Env.kindOf; rw [h1, h2]; rfl)
    | rfl | decide +kernel)⟩
noncomputable def s147 : List (Str × NameKind) := scOf (List.lookup 147 (hd.heap_39 P0))
noncomputable def k147 : Kx := ⟨[Str.ofString "number", Str.ofString "w", Str.ofString "found"], s147, capsOf s147⟩
noncomputable def F147 : Fn 147 k147 [Str.ofString "number", Str.ofString "w"] := ⟨_, by
  intro P
  apply FnOK.mk'
  case h1 => exact rfl
  case h5 => exact rfl
  case h2 => exact rfl
  case h3 => (intro vs h; rcases vs with _ | ⟨a, _ | ⟨b, _ | ⟨c, _ | ⟨d, r⟩⟩⟩⟩ <;> first | rfl | (simp at h; done) | (cases r with | nil => rfl | cons _ _ => (simp at h; done)))
  case h6 => exact rfl
  case h7 => exact rfl
  case h8 => exact rfl
  case h9 => decide +kernel
  repeat' (first
    | (with_reducible exact IsSs.nil) | (with_reducible apply IsSs.cons)
    | (with_reducible apply IsS.asg')
    | ((with_reducible apply IsS.tup'); (intro env h1 h2; unfold swappedStores Env.blockKind Env.kindOf; rw [h1, h2]; rfl))
    | (with_reducible apply IsS.tupS')
    | (with_reducible apply IsS.setI') | (with_reducible apply IsS.aug') | (with_reducible apply IsS.app') | (with_reducible apply IsS.ext') | (with_reducible apply IsS.iff) | (with_reducible apply IsS.whl) | (with_reducible apply IsS.for1') | (with_reducible apply IsS.for2') | (with_reducible apply IsS.ret) | (with_reducible exact IsS.fail)
    | (with_reducible exact IsRhs.nil) | (with_reducible apply IsRhs.cons) | (with_reducible exact IsRh.nil) | (with_reducible apply IsRh.rep) | (with_reducible apply IsRh.val)
    | (with_reducible exact IsNs.nil) | (with_reducible apply IsNs.cons')
    | (with_reducible exact IsE.int) | (with_reducible exact IsE.neg) | (with_reducible exact IsE.bool)
    | ((with_reducible apply IsE.var'); (with_reducible apply AtS.mk); (dsimp only [k147]); (repeat (first | (with_reducible exact At.here) | (with_reducible apply At.there))); done)
    | ((with_reducible apply IsE.glob'); (with_reducible apply AtS.mk); (dsimp only [gnL]))
    | (with_reducible apply IsE.bin) | (with_reducible apply IsE.cmp) | (with_reducible apply IsE.and2) | (with_reducible apply IsE.or2) | (with_reducible apply IsE.ite) | (with_reducible apply IsE.upto) | (with_reducible apply IsE.sub) | (with_reducible apply IsE.tup) | (with_reducible apply IsE.lst)
    | (with_reducible apply IsE.len) | (with_reducible apply IsE.max) | (with_reducible apply IsE.call) | (with_reducible apply IsE.comp') | (with_reducible apply IsE.compIf')
    | (with_reducible exact IsEs.nil) | (with_reducible apply IsEs.cons) | (with_reducible apply IsI.range) | (with_reducible apply IsI.list)
    | (with_reducible exact At.here) | (with_reducible apply At.there) | ((with_reducible apply AtS.mk); dsimp only [k147])
    | (with_reducible exact Mask.nil) | ((with_reducible apply Mask.yes); decide +kernel) | (with_reducible apply Mask.no) | ((with_reducible apply MaskS.mk); dsimp only [k147])
    | (intro env h1 h2; unfold swappedStores Env.blockKind Env.kindOf; rw [h1, h2]; rfl)
    | rfl | decide +kernel)⟩
noncomputable def s154 : List (Str × NameKind) := scOf (List.lookup 154 (hd.heap_39 P0))
noncomputable def k154 : Kx := ⟨[Str.ofString "size", Str.ofString "is_first", Str.ofString "w", Str.ofString "many", Str.ofString "row", Str.ofString "found", Str.ofString "later", Str.ofString "at"], s154, capsOf s154⟩
noncomputable def F154 : Fn 154 k154 [Str.ofString "size", Str.ofString "is_first", Str.ofString "w"] := ⟨_, by
  intro P
  apply FnOK.mk'
  case h1 => exact rfl
  case h5 => exact rfl
  case h2 => exact rfl
  case h3 => (intro vs h; rcases vs with _ | ⟨a, _ | ⟨b, _ | ⟨c, _ | ⟨d, r⟩⟩⟩⟩ <;> first | rfl | (simp at h; done) | (cases r with | nil => rfl | cons _ _ => (simp at h; done)))
  case h6 => exact rfl
  case h7 => exact rfl
  case h8 => exact rfl
  case h9 => decide +kernel
  repeat' (first
    | (with_reducible exact IsSs.nil) | (with_reducible apply IsSs.cons)
    | (with_reducible apply IsS.asg')
    | ((with_reducible apply IsS.tup'); (intro env h1 h2; unfold swappedStores Env.blockKind Env.kindOf; rw [h1, h2]; rfl))
    | (with_reducible apply IsS.tupS')
    | (with_reducible apply IsS.setI') | (with_reducible apply IsS.aug') | (with_reducible apply IsS.app') | (with_reducible apply IsS.ext') | (with_reducible apply IsS.iff) | (with_reducible apply IsS.whl) | (with_reducible apply IsS.for1') | (with_reducible apply IsS.for2') | (with_reducible apply IsS.ret) | (with_reducible exact IsS.fail)
    | (with_reducible exact IsRhs.nil) | (with_reducible apply IsRhs.cons) | (with_reducible exact IsRh.nil) | (with_reducible apply IsRh.rep) | (with_reducible apply IsRh.val)
    | (with_reducible exact IsNs.nil) | (with_reducible apply IsNs.cons')
    | (with_reducible exact IsE.int) | (with_reducible exact IsE.neg) | (with_reducible exact IsE.bool)
    | ((with_reducible apply IsE.var'); (with_reducible apply AtS.mk); (dsimp only [k154]); (repeat (first | (with_reducible exact At.here) | (with_reducible apply At.there))); done)
    | ((with_reducible apply IsE.glob'); (with_reducible apply AtS.mk); (dsimp only [gnL]))
    | (with_reducible apply IsE.bin) | (with_reducible apply IsE.cmp) | (with_reducible apply IsE.and2) | (with_reducible apply IsE.or2) | (with_reducible apply IsE.ite) | (with_reducible apply IsE.upto) | (with_reducible apply IsE.sub) | (with_reducible apply IsE.tup) | (with_reducible apply IsE.lst)
    | (with_reducible apply IsE.len) | (with_reducible apply IsE.max) | (with_reducible apply IsE.call) | (with_reducible apply IsE.comp') | (with_reducible apply IsE.compIf')
    | (with_reducible exact IsEs.nil) | (with_reducible apply IsEs.cons) | (with_reducible apply IsI.range) | (with_reducible apply IsI.list)
    | (with_reducible exact At.here) | (with_reducible apply At.there) | ((with_reducible apply AtS.mk); dsimp only [k154])
    | (with_reducible exact Mask.nil) | ((with_reducible apply Mask.yes); decide +kernel) | (with_reducible apply Mask.no) | ((with_reducible apply MaskS.mk); dsimp only [k154])
    | (intro env h1 h2; unfold swappedStores Env.blockKind Env.kindOf; rw [h1, h2]; rfl)
    | rfl | decide +kernel)⟩
noncomputable def s159 : List (Str × NameKind) := scOf (List.lookup 159 (hd.heap_39 P0))
noncomputable def k159 : Kx := ⟨[Str.ofString "many", Str.ofString "turn", Str.ofString "order", Str.ofString "orders", Str.ofString "found", Str.ofString "longer", Str.ofString "one", Str.ofString "seen", Str.ofString "count"], s159, capsOf s159⟩
noncomputable def F159 : Fn 159 k159 [Str.ofString "many"] := ⟨_, by
  intro P
  apply FnOK.mk'
  case h1 => exact rfl
  case h5 => exact rfl
  case h2 => exact rfl
  case h3 => (intro vs h; rcases vs with _ | ⟨a, _ | ⟨b, _ | ⟨c, _ | ⟨d, r⟩⟩⟩⟩ <;> first | rfl | (simp at h; done) | (cases r with | nil => rfl | cons _ _ => (simp at h; done)))
  case h6 => exact rfl
  case h7 => exact rfl
  case h8 => exact rfl
  case h9 => decide +kernel
  repeat' (first
    | (with_reducible exact IsSs.nil) | (with_reducible apply IsSs.cons)
    | (with_reducible apply IsS.asg')
    | ((with_reducible apply IsS.tup'); (intro env h1 h2; unfold swappedStores Env.blockKind Env.kindOf; rw [h1, h2]; rfl))
    | (with_reducible apply IsS.tupS')
    | (with_reducible apply IsS.setI') | (with_reducible apply IsS.aug') | (with_reducible apply IsS.app') | (with_reducible apply IsS.ext') | (with_reducible apply IsS.iff) | (with_reducible apply IsS.whl) | (with_reducible apply IsS.for1') | (with_reducible apply IsS.for2') | (with_reducible apply IsS.ret) | (with_reducible exact IsS.fail)
    | (with_reducible exact IsRhs.nil) | (with_reducible apply IsRhs.cons) | (with_reducible exact IsRh.nil) | (with_reducible apply IsRh.rep) | (with_reducible apply IsRh.val)
    | (with_reducible exact IsNs.nil) | (with_reducible apply IsNs.cons')
    | (with_reducible exact IsE.int) | (with_reducible exact IsE.neg) | (with_reducible exact IsE.bool)
    | ((with_reducible apply IsE.var'); (with_reducible apply AtS.mk); (dsimp only [k159]); (repeat (first | (with_reducible exact At.here) | (with_reducible apply At.there))); done)
    | ((with_reducible apply IsE.glob'); (with_reducible apply AtS.mk); (dsimp only [gnL]))
    | (with_reducible apply IsE.bin) | (with_reducible apply IsE.cmp) | (with_reducible apply IsE.and2) | (with_reducible apply IsE.or2) | (with_reducible apply IsE.ite) | (with_reducible apply IsE.upto) | (with_reducible apply IsE.sub) | (with_reducible apply IsE.tup) | (with_reducible apply IsE.lst)
    | (with_reducible apply IsE.len) | (with_reducible apply IsE.max) | (with_reducible apply IsE.call) | (with_reducible apply IsE.comp') | (with_reducible apply IsE.compIf')
    | (with_reducible exact IsEs.nil) | (with_reducible apply IsEs.cons) | (with_reducible apply IsI.range) | (with_reducible apply IsI.list)
    | (with_reducible exact At.here) | (with_reducible apply At.there) | ((with_reducible apply AtS.mk); dsimp only [k159])
    | (with_reducible exact Mask.nil) | ((with_reducible apply Mask.yes); decide +kernel) | (with_reducible apply Mask.no) | ((with_reducible apply MaskS.mk); dsimp only [k159])
    | (intro env h1 h2; unfold swappedStores Env.blockKind Env.kindOf; rw [h1, h2]; rfl)
    | rfl | decide +kernel)⟩
noncomputable def s164 : List (Str × NameKind) := scOf (List.lookup 164 (hd.heap_39 P0))
noncomputable def k164 : Kx := ⟨[Str.ofString "many", Str.ofString "turn", Str.ofString "row", Str.ofString "rows", Str.ofString "found", Str.ofString "longer", Str.ofString "count", Str.ofString "one"], s164, capsOf s164⟩
noncomputable def F164 : Fn 164 k164 [Str.ofString "many"] := ⟨_, by
  intro P
  apply FnOK.mk'
  case h1 => exact rfl
  case h5 => exact rfl
  case h2 => exact rfl
  case h3 => (intro vs h; rcases vs with _ | ⟨a, _ | ⟨b, _ | ⟨c, _ | ⟨d, r⟩⟩⟩⟩ <;> first | rfl | (simp at h; done) | (cases r with | nil => rfl | cons _ _ => (simp at h; done)))
  case h6 => exact rfl
  case h7 => exact rfl
  case h8 => exact rfl
  case h9 => decide +kernel
  repeat' (first
    | (with_reducible exact IsSs.nil) | (with_reducible apply IsSs.cons)
    | (with_reducible apply IsS.asg')
    | ((with_reducible apply IsS.tup'); (intro env h1 h2; unfold swappedStores Env.blockKind Env.kindOf; rw [h1, h2]; rfl))
    | (with_reducible apply IsS.tupS')
    | (with_reducible apply IsS.setI') | (with_reducible apply IsS.aug') | (with_reducible apply IsS.app') | (with_reducible apply IsS.ext') | (with_reducible apply IsS.iff) | (with_reducible apply IsS.whl) | (with_reducible apply IsS.for1') | (with_reducible apply IsS.for2') | (with_reducible apply IsS.ret) | (with_reducible exact IsS.fail)
    | (with_reducible exact IsRhs.nil) | (with_reducible apply IsRhs.cons) | (with_reducible exact IsRh.nil) | (with_reducible apply IsRh.rep) | (with_reducible apply IsRh.val)
    | (with_reducible exact IsNs.nil) | (with_reducible apply IsNs.cons')
    | (with_reducible exact IsE.int) | (with_reducible exact IsE.neg) | (with_reducible exact IsE.bool)
    | ((with_reducible apply IsE.var'); (with_reducible apply AtS.mk); (dsimp only [k164]); (repeat (first | (with_reducible exact At.here) | (with_reducible apply At.there))); done)
    | ((with_reducible apply IsE.glob'); (with_reducible apply AtS.mk); (dsimp only [gnL]))
    | (with_reducible apply IsE.bin) | (with_reducible apply IsE.cmp) | (with_reducible apply IsE.and2) | (with_reducible apply IsE.or2) | (with_reducible apply IsE.ite) | (with_reducible apply IsE.upto) | (with_reducible apply IsE.sub) | (with_reducible apply IsE.tup) | (with_reducible apply IsE.lst)
    | (with_reducible apply IsE.len) | (with_reducible apply IsE.max) | (with_reducible apply IsE.call) | (with_reducible apply IsE.comp') | (with_reducible apply IsE.compIf')
    | (with_reducible exact IsEs.nil) | (with_reducible apply IsEs.cons) | (with_reducible apply IsI.range) | (with_reducible apply IsI.list)
    | (with_reducible exact At.here) | (with_reducible apply At.there) | ((with_reducible apply AtS.mk); dsimp only [k164])
    | (with_reducible exact Mask.nil) | ((with_reducible apply Mask.yes); decide +kernel) | (with_reducible apply Mask.no) | ((with_reducible apply MaskS.mk); dsimp only [k164])
    | (intro env h1 h2; unfold swappedStores Env.blockKind Env.kindOf; rw [h1, h2]; rfl)
    | rfl | decide +kernel)⟩

/-! ## what of the law stands behind its draws -/
noncomputable def restOf : Option Obj → List Stmt
  | some ⟨_, _, .func fd, _⟩ => (match fd.body with
    | .stmts b => b.drop 2
    | _ => [])
  | _ => []
structure LawT (κ : Kx) where
  ss : List S
  ok : ∀ P : Params, IsSs gnL κ ss (restOf (List.lookup 169 (hd.heap_39 P)))
  st : fnSt κ [] = true
theorem restOf_ok {K : Frag} {gn : List Str} {f : Addr} {κ : Kx} {ss : List S} {oc : Value} {od : Option Addr} {osl : Array (Option Value)} {name qual : Str} {params : Arguments} {s1 s2 : Stmt} {rest : List Stmt} {scope : Scope} {dV kV doc pm : Value} {an : Option Addr} {cdv ct : Value}
    (h1 : K.lookup f = some ⟨oc, od, .func (fnOf name qual params (s1 :: s2 :: rest) scope dV kV doc pm an cdv ct), osl⟩) (h4 : IsSs gn κ ss rest) : IsSs gn κ ss (restOf (K.lookup f)) := by
  rw [h1]; exact h4
abbrev lawNames : List Str := [Str.ofString "w", Str.ofString "size", Str.ofString "here", Str.ofString "first", Str.ofString "second", Str.ofString "many", Str.ofString "above", Str.ofString "beside", Str.ofString "at", Str.ofString "column", Str.ofString "falling", Str.ofString "one"]
noncomputable def s169 : List (Str × NameKind) := scOf (List.lookup 169 (hd.heap_39 P0))
noncomputable def k169 : Kx := ⟨lawNames, s169, capsOf s169⟩
noncomputable def FL : LawT k169 := ⟨_, by
  intro P
  apply restOf_ok
  case h1 => exact rfl
  repeat' (first
    | (with_reducible exact IsSs.nil) | (with_reducible apply IsSs.cons)
    | (with_reducible apply IsS.asg')
    | ((with_reducible apply IsS.tup'); (intro env h1 h2; unfold swappedStores Env.blockKind Env.kindOf; rw [h1, h2]; rfl))
    | (with_reducible apply IsS.tupS')
    | (with_reducible apply IsS.setI') | (with_reducible apply IsS.aug') | (with_reducible apply IsS.app') | (with_reducible apply IsS.ext') | (with_reducible apply IsS.iff) | (with_reducible apply IsS.whl) | (with_reducible apply IsS.for1') | (with_reducible apply IsS.for2') | (with_reducible apply IsS.ret) | (with_reducible exact IsS.fail)
    | (with_reducible exact IsRhs.nil) | (with_reducible apply IsRhs.cons) | (with_reducible exact IsRh.nil) | (with_reducible apply IsRh.rep) | (with_reducible apply IsRh.val)
    | (with_reducible exact IsNs.nil) | (with_reducible apply IsNs.cons')
    | (with_reducible exact IsE.int) | (with_reducible exact IsE.neg) | (with_reducible exact IsE.bool)
    | ((with_reducible apply IsE.var'); (with_reducible apply AtS.mk); (dsimp only [k169]); (repeat (first | (with_reducible exact At.here) | (with_reducible apply At.there))); done)
    | ((with_reducible apply IsE.glob'); (with_reducible apply AtS.mk); (dsimp only [gnL]))
    | (with_reducible apply IsE.bin) | (with_reducible apply IsE.cmp) | (with_reducible apply IsE.and2) | (with_reducible apply IsE.or2) | (with_reducible apply IsE.ite) | (with_reducible apply IsE.upto) | (with_reducible apply IsE.sub) | (with_reducible apply IsE.tup) | (with_reducible apply IsE.lst)
    | (with_reducible apply IsE.len) | (with_reducible apply IsE.max) | (with_reducible apply IsE.call) | (with_reducible apply IsE.comp') | (with_reducible apply IsE.compIf')
    | (with_reducible exact IsEs.nil) | (with_reducible apply IsEs.cons) | (with_reducible apply IsI.range) | (with_reducible apply IsI.list)
    | (with_reducible exact At.here) | (with_reducible apply At.there) | ((with_reducible apply AtS.mk); dsimp only [k169])
    | (with_reducible exact Mask.nil) | ((with_reducible apply Mask.yes); decide +kernel) | (with_reducible apply Mask.no) | ((with_reducible apply MaskS.mk); dsimp only [k169])
    | (intro env h1 h2; unfold swappedStores Env.blockKind Env.kindOf; rw [h1, h2]; rfl)
    | rfl | decide +kernel), by decide +kernel⟩

/-! ## the table of the defs, level by level -/
noncomputable def tab : List (Nat × Nat × Nat × List S) :=
  [(46, 2, 1, F46.ss), (53, 3, 2, F53.ss), (60, 7, 3, F60.ss), (67, 8, 3, F67.ss), (74, 7, 3, F74.ss), (81, 2, 2, F81.ss), (88, 3, 3, F88.ss), (95, 4, 4, F95.ss), (104, 3, 1, F104.ss), (109, 3, 1, F109.ss), (116, 7, 4, F116.ss), (121, 7, 4, F121.ss), (126, 5, 4, F126.ss),
   (133, 10, 3, F133.ss), (147, 3, 2, F147.ss), (154, 8, 3, F154.ss), (159, 9, 1, F159.ss), (164, 8, 1, F164.ss)]
noncomputable def getF : List (Nat × Nat × Nat × List S) → Nat → Option (Nat × Nat × List S)
  | [], _ => none
  | p :: r, a => cond (Nat.beq p.1 a) (some p.2) (getF r a)
noncomputable def glL : List D := [.fn 46, .fn 53, .fn 60, .fn 67, .fn 74, .fn 81, .fn 88, .fn 95, .seq true [.bool false, .seq false []], .seq true [.bool false, .seq false [.int 1]], .fn 104, .fn 109, .fn 116, .fn 121, .fn 126, .fn 133, .fn 147, .fn 154, .fn 159, .fn 164]
noncomputable def stepF (Φ : Addr → List D → Option D) (a : Addr) (args : List D) : Option D :=
  match getF tab a with
  | some (n, m, ss) => cond (Nat.beq args.length m) (match ex Φ glL 12 (start n args) ss with
    | some (_, some d) => some d
    | _ => none) none
  | none => none
noncomputable def lev : Nat → Addr → List D → Option D
  | 0 => fun _ _ => none
  | n + 1 => stepF (lev n)

theorem getF_mem {l : List (Nat × Nat × Nat × List S)} {a : Nat} {x : Nat × Nat × List S} (h : getF l a = some x) : (a, x) ∈ l := by
  induction l with
  | nil => cases h
  | cons p r ih =>
    rw [getF, cond_eq_ite] at h
    split at h
    · rename_i e
      cases h
      have := Nat.eq_of_beq_eq_true e
      subst this
      exact .head _
    · exact .tail _ (ih h)
structure HasF (P : Params) (a : Addr) (n m : Nat) (ss : List S) : Prop where
  ex : ∃ (κ : Kx) (ps : List Str), FnOK (hd.heap_39 P) gnL a κ ps ss ∧ κ.names.length = n ∧ ps.length = m
theorem Fn.has {a : Addr} {κ : Kx} {ps : List Str} (F : Fn a κ ps) (P : Params) : HasF P a κ.names.length ps.length F.ss := ⟨⟨_, ps, F.ok P, rfl, rfl⟩⟩
inductive AllF (P : Params) : List (Nat × Nat × Nat × List S) → Prop
  | nil : AllF P []
  | cons {a n m : Nat} {ss : List S} {r : List (Nat × Nat × Nat × List S)} : HasF P a n m ss → AllF P r → AllF P ((a, n, m, ss) :: r)
theorem AllF.at {P : Params} {l : List (Nat × Nat × Nat × List S)} (h : AllF P l) {a n m : Nat} {ss : List S} (e : (a, n, m, ss) ∈ l) : HasF P a n m ss := by
  induction h with
  | nil => cases e
  | cons h1 _ ih =>
    cases e with
    | head => exact h1
    | tail _ e => exact ih e
theorem tab_has (P : Params) {a n m : Nat} {ss : List S} (h : (a, n, m, ss) ∈ tab) : HasF P a n m ss := AllF.at (l := tab) (.cons (F46.has P) (.cons (F53.has P) (.cons (F60.has P) (.cons (F67.has P) (.cons (F74.has P) (.cons (F81.has P) (.cons (F88.has P) (.cons (F95.has P) (.cons (F104.has P) (.cons (F109.has P) (.cons (F116.has P) (.cons (F121.has P) (.cons (F126.has P) (.cons (F133.has P) (.cons (F147.has P) (.cons (F154.has P) (.cons (F159.has P) (.cons (F164.has P) (.nil))))))))))))))))))) h
theorem lev_ok {prog : Program} {w : World} {P : Params} {mg mb : Str → Option Value} (G : GOk (hd.heap_39 P) mg mb gnL glL) : ∀ (n : Nat) (a : Addr) (args : List D) (d : D), lev n a args = some d → Contract prog w (hd.heap_39 P) mg mb n a args d
  | 0, a, args, d, h => nomatch h
  | n + 1, a, args, d, h => by
    rw [lev, stepF] at h
    split at h
    · rename_i nn m ss hg
      obtain ⟨⟨κ, ps, hf, rfl, rfl⟩⟩ := tab_has P (getF_mem hg)
      rw [cond_eq_ite] at h
      split at h
      · rename_i hl
        split at h
        · rename_i ρ' d' hex
          cases h
          exact contract_of G hf (lev_ok G n) (Nat.eq_of_beq_eq_true hl) hex
        · cases h
      · cases h
    · cases h

section
variable {P : Params} {mg mb : Str → Option Value} {h : Heap}
theorem gok (X : Frag.In (hd.heap_39 P) h) (hg : h.Ns mainGlobals mg) (hb : ∀ x : Str, x ≠ "__name__" → mb x = bootBuiltins x) : GOk (hd.heap_39 P) mg mb gnL glL := by
  refine ⟨fun g n d e1 e2 => ?_, ⟨mg_none_of X hg rfl, (hb _ (by decide)).trans (by rfl)⟩, ⟨mg_none_of X hg rfl, (hb _ (by decide)).trans (by rfl)⟩, ⟨mg_none_of X hg rfl, (hb _ (by decide)).trans (by rfl)⟩, ⟨mg_none_of X hg rfl, (hb _ (by decide)).trans (by rfl)⟩⟩
  have fnc : ∀ {n : Str} {a : Addr}, nsIn (hd.heap_39 P) mainGlobals n = some (some (.ref a)) → okName n = true → okName n = true ∧ ∃ v, mg n = some v ∧ ∀ (X : Addr → Prop) (h : Heap), Frag.In (hd.heap_39 P) h → (∀ a, X a → List.lookup a (hd.heap_39 P) = none) → IsD X h v (.fn a) :=
    fun e ok => ⟨ok, _, mg_of X hg e, fun _ _ _ _ => .fn _⟩
  have sq : ∀ {n : Str} {a b : Addr} {l : List Value} {ds : List D}, nsIn (hd.heap_39 P) mainGlobals n = some (some (.ref a)) → okName n = true → List.lookup a (hd.heap_39 P) = some (sqO true [.bool false, .ref b] 0) → List.lookup b (hd.heap_39 P) = some (sqO false l 0) → (∀ X h, AllD X h l ds) →
      okName n = true ∧ ∃ v, mg n = some v ∧ ∀ (X : Addr → Prop) (h : Heap), Frag.In (hd.heap_39 P) h → (∀ a, X a → List.lookup a (hd.heap_39 P) = none) → IsD X h v (.seq true [.bool false, .seq false ds]) :=
    fun e ok ea eb hl => ⟨ok, _, mg_of X hg e, fun X h hi hx => .seq (fun q => by rw [hx _ q] at ea; cases ea) (hi _ _ ea) (.cons (.bool _) (.cons (.seq (fun q => by rw [hx _ q] at eb; cases eb) (hi _ _ eb) (hl X h)) .nil))⟩
  match g with
  | 0 => cases e1; cases e2; exact fnc rfl (by decide)
  | 1 => cases e1; cases e2; exact fnc rfl (by decide)
  | 2 => cases e1; cases e2; exact fnc rfl (by decide)
  | 3 => cases e1; cases e2; exact fnc rfl (by decide)
  | 4 => cases e1; cases e2; exact fnc rfl (by decide)
  | 5 => cases e1; cases e2; exact fnc rfl (by decide)
  | 6 => cases e1; cases e2; exact fnc rfl (by decide)
  | 7 => cases e1; cases e2; exact fnc rfl (by decide)
  | 8 => cases e1; cases e2; exact sq (a := 97) (b := 96) (l := []) rfl (by decide) rfl rfl (fun _ _ => .nil)
  | 9 => cases e1; cases e2; exact sq (a := 99) (b := 98) (l := [.int 1 314]) rfl (by decide) rfl rfl (fun _ _ => .cons (.int _ _) .nil)
  | 10 => cases e1; cases e2; exact fnc rfl (by decide)
  | 11 => cases e1; cases e2; exact fnc rfl (by decide)
  | 12 => cases e1; cases e2; exact fnc rfl (by decide)
  | 13 => cases e1; cases e2; exact fnc rfl (by decide)
  | 14 => cases e1; cases e2; exact fnc rfl (by decide)
  | 15 => cases e1; cases e2; exact fnc rfl (by decide)
  | 16 => cases e1; cases e2; exact fnc rfl (by decide)
  | 17 => cases e1; cases e2; exact fnc rfl (by decide)
  | 18 => cases e1; cases e2; exact fnc rfl (by decide)
  | 19 => cases e1; cases e2; exact fnc rfl (by decide)
  | _ + 20 => cases e1
end

/-! ## the law behind its draws -/
noncomputable def rho0 (wv sv hv : Int) : List Ent := [.val (.int wv), .val (.int sv), .val (.int hv), .no, .no, .no, .no, .no, .no, .no, .no, .no]
noncomputable def Holds135 : Prop := ∀ i j k : Nat, i < 5 → j < 3 → k < 9 → ∃ ρ', ex (lev 6) glL 12 (rho0 (8 + i) (3 + j) k) FL.ss = some (ρ', some (.bool true))

theorem fmod_draw (a : Int) {n : Nat} (hn : 0 < n) : ∃ i : Nat, i < n ∧ Int.fmod a n = i := by
  have h1 : Int.fmod a n = a % n := Int.fmod_eq_emod_of_nonneg _ (Int.natCast_nonneg n)
  have h2 := Int.emod_nonneg a (b := (n : Int)) (by omega)
  have h3 := Int.emod_lt_of_pos a (b := (n : Int)) (by omega)
  refine ⟨(a % n).toNat, by omega, by rw [h1]; omega⟩

theorem lawCells (L : Addr) : cellsFrom (L + 1) k169.sc [] = [(Str.ofString "many", L + 1 + 1 + 1 + 1), (Str.ofString "first", L + 1 + 1 + 1), (Str.ofString "here", L + 1 + 1), (Str.ofString "w", L + 1)] := rfl

theorem tail_ok (TB : Holds135) {prog : Program} {w : World} {P : Params} {h₀ : Heap} {L : Addr} {m mg mb : Str → Option Value} {nm : Str} {scope : Scope} {fa : Addr} {cd : Value} {s : Shared} {Q : Flow → Shared → Prop} {E : Value → Shared → Prop} {a b c : Int} {t1 t2 t3 : Tok}
    (hX : Frag.In (hd.heap_39 P) h₀) (hg : h₀.Ns mainGlobals mg) (hbn : h₀.Ns builtinsNs mb) (hlim : h₀.NoLimit) (hbt : ∀ x : Str, x ≠ "__name__" → mb x = bootBuiltins x) (hL : L = h₀.objs.size) (hsc : scope.names = k169.sc) (hk : scope.kind = .function)
    (F : Fr h₀ L s.heap m) (hs : m (Str.ofString "size") = some (.int (3 + Int.fmod b 3) t3))
    (c1 : s.heap.IsCell (L + 1) (some (.int (8 + Int.fmod a 5) t1))) (c2 : s.heap.IsCell (L + 1 + 1) (some (.int (Int.fmod c 9) t2))) (c3 : ∃ v, s.heap.IsCell (L + 1 + 1 + 1) v) (c4 : ∃ v, s.heap.IsCell (L + 1 + 1 + 1 + 1) v)
    (hQ : ∀ h'' tk, (∀ b o, h₀.get? b = some o → h''.get? b = some o) → Q (.ret (.bool true)) { s with heap := h'', toks := tk }) :
    wpAny (model prog w) (callerA.deeper (envX nm scope L fa cd (cellsFrom (L + 1) scope.names []))) (execs (restOf (List.lookup 169 (hd.heap_39 P))) (envX nm scope L fa cd (cellsFrom (L + 1) scope.names []))) Q E s := by
  have GG := gok hX hg hbt
  have st := fnSt_ok FL.st
  obtain ⟨i, hi, ei⟩ := fmod_draw a (n := 5) (by decide)
  obtain ⟨j, hj, ej⟩ := fmod_draw b (n := 3) (by decide)
  obtain ⟨k, hk9, ek⟩ := fmod_draw c (n := 9) (by decide)
  have ei : Int.fmod a 5 = i := ei
  have ej : Int.fmod b 3 = j := ej
  have ek : Int.fmod c 9 = k := ek
  rw [ei] at c1; rw [ej] at hs; rw [ek] at c2
  obtain ⟨ρ', hex⟩ := TB i j k hi hj hk9
  generalize henv : envX nm scope L fa cd (cellsFrom (L + 1) scope.names []) = env
  have eL : env.locals = L := by rw [← henv]
  have eN : env.scope.names = k169.sc := by rw [← henv]; exact hsc
  have eK : env.scope.kind = .function := by rw [← henv]; exact hk
  have eC : env.cells = cellsFrom (L + 1) k169.sc [] := by rw [← henv, ← hsc]
  have eG : env.globals = mainGlobals := by rw [← henv]
  have eB : env.builtins = builtinsNs := by rw [← henv]
  have kd : ∀ y, env.kindOf y = k169.sc.lookup y := fun y => by show env.scope.names.lookup y = _; rw [eN]
  let κ : Kx := k169
  have ok := cellsFrom_ok k169.sc (h₀.push { cls := .type "frame", data := .dict #[] }) (h₀.objs.size + 1) [] ⟨fun _ _ hm => (nomatch hm), List.Pairwise.nil⟩ (by rw [Heap.size_push]; exact Nat.le_refl _)
  rw [Heap.size_push, ← hL, ← eC] at ok
  have cellE : ∀ y, (y, NameKind.cell) ∈ k169.sc → ∃ c, env.cells.lookup y = some c := fun y hy => by
    obtain ⟨c, e, _⟩ := cf_mem (y := y) k169.sc (h₀.push { cls := .type "frame", data := .dict #[] }) [] hy
    rw [Heap.size_push, ← hL, ← eC] at e
    exact ⟨c, e⟩
  have cellsAre : ∀ y c, env.cells.lookup y = some c → ∃ v, s.heap.IsCell c v := fun y c e => by
    have hm := mem_of_lookup e
    rw [eC, lawCells] at hm
    simp only [List.mem_cons, Prod.mk.injEq, List.not_mem_nil, or_false] at hm
    rcases hm with ⟨_, rfl⟩ | ⟨_, rfl⟩ | ⟨_, rfl⟩ | ⟨_, rfl⟩
    · exact c4
    · exact c3
    · exact ⟨_, c2⟩
    · exact ⟨_, c1⟩
  have V : Evs prog w (hd.heap_39 P) mg mb gnL glL (callerA.deeper env) (ev (lev 6) glL 40) := evs_of (A := callerA.deeper env) GG (lev_ok GG 6) ⟨rfl, by show 1 + claimMargin + 1 + 6 < recursionLimit; decide, by show 4 + 3 + 8 * 6 + 72 < cLine; decide⟩ 40
  have EK : EnvK κ env := ⟨eK, eG, eB, fun y hy => (kd y).trans hy, fun y hy => cellE y (st.caps y hy), fun y hy => .inl ((kd y).trans (st.cell y (st.caps y hy))), st.ok⟩
  have B : BsOK (hd.heap_39 P) mg mb κ env (fun _ => False) h₀.get? := by
    refine ⟨⟨h₀, ⟨hX, hg, hbn, hlim⟩, fun b o e => e⟩, fun a ha => ha.elim, fun a ha => ha.elim, EK, eN, st.nodup, fun y c e => ?_, fun y z c e1 e2 => ?_, fun y hy => cellE y (mem_of_lookup hy)⟩
    · have := (ok.empty y c (mem_of_lookup e)).2
      rw [eL]
      exact Nat.ne_of_gt this
    · exact name_of_addr ok.apart (mem_of_lookup e1) (mem_of_lookup e2)
  have rho_at : ∀ (n : Nat) (e : Ent), (rho0 (8 + i) (3 + j) k)[n]? = some e → (n = 0 ∧ e = .val (.int (8 + i))) ∨ (n = 1 ∧ e = .val (.int (3 + j))) ∨ (n = 2 ∧ e = .val (.int k)) ∨ e = .no := fun n e h => by
    unfold rho0 at h
    match n with
    | 0 => cases h; exact .inl ⟨rfl, rfl⟩
    | 1 => cases h; exact .inr (.inl ⟨rfl, rfl⟩)
    | 2 => cases h; exact .inr (.inr (.inl ⟨rfl, rfl⟩))
    | 3 | 4 | 5 | 6 | 7 | 8 | 9 | 10 | 11 => cases h; exact .inr (.inr (.inr rfl))
    | _ + 12 => cases h
  have noOwn : ∀ (n : Nat) (l : List D), (rho0 (8 + i) (3 + j) k)[n]? ≠ some (Ent.own l) := fun n l e => by
    rcases rho_at n _ e with ⟨_, q⟩ | ⟨_, q⟩ | ⟨_, q⟩ | q <;> cases q
  have S : StOK κ env (fun _ => False) h₀.get? [] (rho0 (8 + i) (3 + j) k) (fun _ => 0) s.heap := by
    refine ⟨F.keep, ⟨m, eL ▸ F.ns⟩, cellsAre, by rw [eL, hL]; exact fresh_none _, fun y c e => none_ge ?_, fun n e he => ?_, fun i j l l' h1 => absurd h1 (noOwn i l), fun v d hm => (nomatch hm), fun a l hm => (nomatch hm), .nil⟩
    · have := (ok.empty y c (mem_of_lookup e)).2
      rw [hL] at this
      exact Nat.le_of_lt this
    · rcases rho_at n e he with ⟨rfl, rfl⟩ | ⟨rfl, rfl⟩ | ⟨rfl, rfl⟩ | rfl
      · exact ⟨_, Str.ofString "w", rfl, .int _ _, .inr ⟨.inl ((kd _).trans (by rfl)), L + 1, by rw [eC]; rfl, c1⟩⟩
      · exact ⟨_, Str.ofString "size", rfl, .int _ _, .inl ⟨(kd _).trans (by rfl), m, eL ▸ F.ns, hs⟩⟩
      · exact ⟨_, Str.ofString "here", rfl, .int _ _, .inr ⟨.inl ((kd _).trans (by rfl)), L + 1 + 1, by rw [eC]; rfl, c2⟩⟩
      · trivial
  exact ex_sound V 12 FL.ss _ (FL.ok P) _ _ (fun _ => False) h₀.get? [] (fun _ => 0) _ _ _ hex B S fun v h'' tk kk hv => by
    cases hv
    exact hQ h'' tk kk

theorem tail_ok' (TB : Holds135) {prog : Program} {w : World} {P : Params} {h₀ : Heap} {L : Addr} {m mg mb : Str → Option Value} {nm : Str} {scope : Scope} {fa : Addr} {cd : Value} {s : Shared} {Q : Flow → Shared → Prop} {E : Value → Shared → Prop} {a b c : Int} {t1 t2 t3 : Tok} {p : Program} {loose : List Str} {mean : ExcName → Option Value}
    {R : List Stmt} (F : Fr h₀ L s.heap m) (hX : Frag.In (hd.heap_39 P) h₀) (T : Top p loose mean mg mb h₀) (hR : R = restOf (List.lookup 169 (hd.heap_39 P))) (hL : L = h₀.objs.size) (hsc : scope.names = k169.sc) (hk : scope.kind = .function) (hs : m (Str.ofString "size") = some (.int (3 + Int.fmod b 3) t3))
    (c1 : s.heap.IsCell (L + 1) (some (.int (8 + Int.fmod a 5) t1))) (c2 : s.heap.IsCell (L + 1 + 1) (some (.int (Int.fmod c 9) t2))) (c3 : ∃ v, s.heap.IsCell (L + 1 + 1 + 1) v) (c4 : ∃ v, s.heap.IsCell (L + 1 + 1 + 1 + 1) v)
    (hQ : ∀ h'' tk, (∀ b o, h₀.get? b = some o → h''.get? b = some o) → Q (.ret (.bool true)) { s with heap := h'', toks := tk }) :
    wpAny (model prog w) (callerA.deeper (envOfC nm scope L fa cd)) (execs R (envOfC nm scope L fa cd)) Q E s := by
  subst hR
  exact tail_ok TB hX T.g T.b T.nolimit T.builtins hL hsc hk F hs c1 c2 c3 c4 hQ

section
variable {M : Model} {A : Around} {E : Value → Shared → Prop} {s : Shared} {env : Env} {Q : Flow → Shared → Prop}
theorem split2 {s1 s2 : Stmt} {rest : List Stmt} (h : ∀ R, R = rest → wpAny M A (execs (s1 :: s2 :: R) env) Q E s) : wpAny M A (execs (s1 :: s2 :: rest) env) Q E s := h _ rfl
theorem good_true {c : ClaimW} {cl : Str → Option Addr} {mean : ExcName → Option Value} {args : List WData} {s₁ s' : Shared} (k : ∀ b o, s₁.heap.get? b = some o → s'.heap.get? b = some o) (hg : s'.gens = #[]) (hn : ∀ cls, c.raises args cls = false)
    (hp : c.post args (.bool true) args = true) (hos : s'.os = s₁.os) : GoodW c cl mean args s₁ (.ok (.ret (.bool true))) s' := ⟨.inl ⟨_, .bool true, _, rfl, hn, .bool true, hp, unshared_nil⟩, k, hos, hg⟩
end

/-! ## the 135 cases -/
theorem exsGo_app (one : List Ent → S → Out) : ∀ (a b : List S) (ρ : List Ent), exsGo one (a ++ b) ρ = match exsGo one a ρ with
    | some (ρ', none) => exsGo one b ρ'
    | o => o
  | [], b, ρ => rfl
  | s :: a, b, ρ => by
    rw [List.cons_append, exsGo, exsGo]
    split
    · exact exsGo_app one a b _
    · rfl
    · rfl
noncomputable def outOk : Out → Bool
  | some (_, some (.bool b)) => b
  | _ => false
theorem outOk_ok {o : Out} (h : outOk o = true) : ∃ ρ', o = some (ρ', some (.bool true)) := by
  unfold outOk at h
  split at h
  · subst h; exact ⟨_, rfl⟩
  · cases h
noncomputable def one6 : List Ent → S → Out := exStep (ev (lev 6) glL 40) (ex (lev 6) glL 11)
theorem joined {ρ ρa ρ₁ : List Ent} (h0 : exsGo one6 (FL.ss.take 2) ρ = some (ρa, none)) (h1 : exsGo one6 ((FL.ss.drop 2).take 3) ρa = some (ρ₁, none)) (h2 : outOk (exsGo one6 ((FL.ss.drop 2).drop 3) ρ₁) = true) : ∃ ρ', ex (lev 6) glL 12 ρ FL.ss = some (ρ', some (.bool true)) := by
  obtain ⟨ρ', e⟩ := outOk_ok h2
  refine ⟨ρ', ?_⟩
  have h : exsGo one6 (FL.ss.take 2 ++ ((FL.ss.drop 2).take 3 ++ (FL.ss.drop 2).drop 3)) ρ = some (ρ', some (.bool true)) := by
    rw [exsGo_app, h0]
    show exsGo one6 ((FL.ss.drop 2).take 3 ++ (FL.ss.drop 2).drop 3) ρa = _
    rw [exsGo_app, h1]
    exact e
  rw [List.take_append_drop, List.take_append_drop] at h
  exact h
noncomputable def all3 (f : Int → Out) (k : Int) : Bool := outOk (f k) && outOk (f (k + 1)) && outOk (f (k + 2))
theorem all3_ok {f : Int → Out} (h0 : all3 f 0 = true) (h3 : all3 f 3 = true) (h6 : all3 f 6 = true) (k : Nat) (hk : k < 9) : outOk (f k) = true := by
  unfold all3 at h0 h3 h6
  simp only [Bool.and_eq_true] at h0 h3 h6
  match k, hk with
  | 0, _ => exact h0.1.1
  | 1, _ => exact h0.1.2
  | 2, _ => exact h0.2
  | 3, _ => exact h3.1.1
  | 4, _ => exact h3.1.2
  | 5, _ => exact h3.2
  | 6, _ => exact h6.1.1
  | 7, _ => exact h6.1.2
  | 8, _ => exact h6.2
  | _ + 9, h => exact absurd h (by omega)
noncomputable def first3 : D := .seq false [.seq false [.seq false [.int 1], .seq false [], .seq false []], .seq false [.seq false [], .seq false [.int 1], .seq false []], .seq false [.seq false [], .seq false [.int 1], .seq false [.int 1]]]
noncomputable def second3 : D := .seq false [.seq false [.seq false [.int 1], .seq false [], .seq false []], .seq false [.seq false [], .seq false [.int 1], .seq false []], .seq false [.seq false [], .seq false [.int 1], .seq false [.int 1]]]
noncomputable def above3 : D := .seq false [.seq false [.seq true [.bool false, .seq false [.int 1]], .seq true [.bool false, .seq false []], .seq true [.bool false, .seq false []]], .seq false [.seq true [.bool false, .seq false []], .seq true [.bool false, .seq false [.int 1]], .seq true [.bool false, .seq false []]], .seq false [.seq true [.bool false, .seq false []], .seq true [.bool true, .seq false [.int 1]], .seq true [.bool false, .seq false [.int 1]]]]
noncomputable def beside3 : D := .seq false [.seq false [.seq true [.bool false, .seq false [.int 1]], .seq true [.bool false, .seq false []], .seq true [.bool false, .seq false []]], .seq false [.seq true [.bool false, .seq false []], .seq true [.bool false, .seq false [.int 1]], .seq true [.bool false, .seq false []]], .seq false [.seq true [.bool false, .seq false []], .seq true [.bool false, .seq false [.int 1]], .seq true [.bool false, .seq false [.int 1]]]]
noncomputable def mid3 (wv hv : Int) : List Ent := [.val (.int wv), .val (.int 3), .val (.int hv), .val first3, .val second3, .val (.int 2), .no, .no, .no, .no, .no, .no]
noncomputable def rho3 (wv hv : Int) : List Ent := [.val (.int wv), .val (.int 3), .val (.int hv), .val first3, .val second3, .val (.int 2), .val above3, .val beside3, .no, .no, .no, .no]
noncomputable def first4 : D := .seq false [.seq false [.seq false [.int 1], .seq false [], .seq false [], .seq false []], .seq false [.seq false [], .seq false [.int 1], .seq false [], .seq false []], .seq false [.seq false [], .seq false [.int 1], .seq false [.int 1], .seq false []], .seq false [.seq false [], .seq false [.int 2], .seq false [.int 3], .seq false [.int 1]]]
noncomputable def second4 : D := .seq false [.seq false [.seq false [.int 1], .seq false [], .seq false [], .seq false []], .seq false [.seq false [], .seq false [.int 1], .seq false [], .seq false []], .seq false [.seq false [], .seq false [.int 1], .seq false [.int 1], .seq false []], .seq false [.seq false [], .seq false [.int 1], .seq false [.int 3], .seq false [.int 1]]]
noncomputable def above4 : D := .seq false [.seq false [.seq true [.bool false, .seq false [.int 1]], .seq true [.bool false, .seq false []], .seq true [.bool false, .seq false []], .seq true [.bool false, .seq false []]], .seq false [.seq true [.bool false, .seq false []], .seq true [.bool false, .seq false [.int 1]], .seq true [.bool false, .seq false []], .seq true [.bool false, .seq false []]], .seq false [.seq true [.bool false, .seq false []], .seq true [.bool true, .seq false [.int 1]], .seq true [.bool false, .seq false [.int 1]], .seq true [.bool false, .seq false []]], .seq false [.seq true [.bool false, .seq false []], .seq true [.bool false, .seq false [.int 2]], .seq true [.bool true, .seq false [.int 3]], .seq true [.bool false, .seq false [.int 1]]]]
noncomputable def beside4 : D := .seq false [.seq false [.seq true [.bool false, .seq false [.int 1]], .seq true [.bool false, .seq false []], .seq true [.bool false, .seq false []], .seq true [.bool false, .seq false []]], .seq false [.seq true [.bool false, .seq false []], .seq true [.bool false, .seq false [.int 1]], .seq true [.bool false, .seq false []], .seq true [.bool false, .seq false []]], .seq false [.seq true [.bool false, .seq false []], .seq true [.bool false, .seq false [.int 1]], .seq true [.bool false, .seq false [.int 1]], .seq true [.bool false, .seq false []]], .seq false [.seq true [.bool false, .seq false []], .seq true [.bool false, .seq false [.int 1]], .seq true [.bool false, .seq false [.int 3]], .seq true [.bool false, .seq false [.int 1]]]]
noncomputable def mid4 (wv hv : Int) : List Ent := [.val (.int wv), .val (.int 4), .val (.int hv), .val first4, .val second4, .val (.int 3), .no, .no, .no, .no, .no, .no]
noncomputable def rho4 (wv hv : Int) : List Ent := [.val (.int wv), .val (.int 4), .val (.int hv), .val first4, .val second4, .val (.int 3), .val above4, .val beside4, .no, .no, .no, .no]
noncomputable def first5 : D := .seq false [.seq false [.seq false [.int 1], .seq false [], .seq false [], .seq false [], .seq false []], .seq false [.seq false [], .seq false [.int 1], .seq false [], .seq false [], .seq false []], .seq false [.seq false [], .seq false [.int 1], .seq false [.int 1], .seq false [], .seq false []], .seq false [.seq false [], .seq false [.int 2], .seq false [.int 3], .seq false [.int 1], .seq false []], .seq false [.seq false [], .seq false [.int 6], .seq false [.int 11], .seq false [.int 6], .seq false [.int 1]]]
noncomputable def second5 : D := .seq false [.seq false [.seq false [.int 1], .seq false [], .seq false [], .seq false [], .seq false []], .seq false [.seq false [], .seq false [.int 1], .seq false [], .seq false [], .seq false []], .seq false [.seq false [], .seq false [.int 1], .seq false [.int 1], .seq false [], .seq false []], .seq false [.seq false [], .seq false [.int 1], .seq false [.int 3], .seq false [.int 1], .seq false []], .seq false [.seq false [], .seq false [.int 1], .seq false [.int 7], .seq false [.int 6], .seq false [.int 1]]]
noncomputable def above5 : D := .seq false [.seq false [.seq true [.bool false, .seq false [.int 1]], .seq true [.bool false, .seq false []], .seq true [.bool false, .seq false []], .seq true [.bool false, .seq false []], .seq true [.bool false, .seq false []]], .seq false [.seq true [.bool false, .seq false []], .seq true [.bool false, .seq false [.int 1]], .seq true [.bool false, .seq false []], .seq true [.bool false, .seq false []], .seq true [.bool false, .seq false []]], .seq false [.seq true [.bool false, .seq false []], .seq true [.bool true, .seq false [.int 1]], .seq true [.bool false, .seq false [.int 1]], .seq true [.bool false, .seq false []], .seq true [.bool false, .seq false []]], .seq false [.seq true [.bool false, .seq false []], .seq true [.bool false, .seq false [.int 2]], .seq true [.bool true, .seq false [.int 3]], .seq true [.bool false, .seq false [.int 1]], .seq true [.bool false, .seq false []]], .seq false [.seq true [.bool false, .seq false []], .seq true [.bool true, .seq false [.int 6]], .seq true [.bool false, .seq false [.int 11]], .seq true [.bool true, .seq false [.int 6]], .seq true [.bool false, .seq false [.int 1]]]]
noncomputable def beside5 : D := .seq false [.seq false [.seq true [.bool false, .seq false [.int 1]], .seq true [.bool false, .seq false []], .seq true [.bool false, .seq false []], .seq true [.bool false, .seq false []], .seq true [.bool false, .seq false []]], .seq false [.seq true [.bool false, .seq false []], .seq true [.bool false, .seq false [.int 1]], .seq true [.bool false, .seq false []], .seq true [.bool false, .seq false []], .seq true [.bool false, .seq false []]], .seq false [.seq true [.bool false, .seq false []], .seq true [.bool false, .seq false [.int 1]], .seq true [.bool false, .seq false [.int 1]], .seq true [.bool false, .seq false []], .seq true [.bool false, .seq false []]], .seq false [.seq true [.bool false, .seq false []], .seq true [.bool false, .seq false [.int 1]], .seq true [.bool false, .seq false [.int 3]], .seq true [.bool false, .seq false [.int 1]], .seq true [.bool false, .seq false []]], .seq false [.seq true [.bool false, .seq false []], .seq true [.bool false, .seq false [.int 1]], .seq true [.bool false, .seq false [.int 7]], .seq true [.bool false, .seq false [.int 6]], .seq true [.bool false, .seq false [.int 1]]]]
noncomputable def mid5 (wv hv : Int) : List Ent := [.val (.int wv), .val (.int 5), .val (.int hv), .val first5, .val second5, .val (.int 4), .no, .no, .no, .no, .no, .no]
noncomputable def rho5 (wv hv : Int) : List Ent := [.val (.int wv), .val (.int 5), .val (.int hv), .val first5, .val second5, .val (.int 4), .val above5, .val beside5, .no, .no, .no, .no]
theorem pra3_8 (h : Int) : exsGo one6 (FL.ss.take 2) (rho0 8 3 h) = some (mid3 8 h, none) := by kernel_rfl
theorem prb3_8 (h : Int) : exsGo one6 ((FL.ss.drop 2).take 3) (mid3 8 h) = some (rho3 8 h, none) := by kernel_rfl
theorem suf3_8_0 : all3 (fun k => exsGo one6 ((FL.ss.drop 2).drop 3) (rho3 8 k)) 0 = true := by kernel_rfl
theorem suf3_8_3 : all3 (fun k => exsGo one6 ((FL.ss.drop 2).drop 3) (rho3 8 k)) 3 = true := by kernel_rfl
theorem suf3_8_6 : all3 (fun k => exsGo one6 ((FL.ss.drop 2).drop 3) (rho3 8 k)) 6 = true := by kernel_rfl
theorem pra3_9 (h : Int) : exsGo one6 (FL.ss.take 2) (rho0 9 3 h) = some (mid3 9 h, none) := by kernel_rfl
theorem prb3_9 (h : Int) : exsGo one6 ((FL.ss.drop 2).take 3) (mid3 9 h) = some (rho3 9 h, none) := by kernel_rfl
theorem suf3_9_0 : all3 (fun k => exsGo one6 ((FL.ss.drop 2).drop 3) (rho3 9 k)) 0 = true := by kernel_rfl
theorem suf3_9_3 : all3 (fun k => exsGo one6 ((FL.ss.drop 2).drop 3) (rho3 9 k)) 3 = true := by kernel_rfl
theorem suf3_9_6 : all3 (fun k => exsGo one6 ((FL.ss.drop 2).drop 3) (rho3 9 k)) 6 = true := by kernel_rfl
theorem pra3_10 (h : Int) : exsGo one6 (FL.ss.take 2) (rho0 10 3 h) = some (mid3 10 h, none) := by kernel_rfl
theorem prb3_10 (h : Int) : exsGo one6 ((FL.ss.drop 2).take 3) (mid3 10 h) = some (rho3 10 h, none) := by kernel_rfl
theorem suf3_10_0 : all3 (fun k => exsGo one6 ((FL.ss.drop 2).drop 3) (rho3 10 k)) 0 = true := by kernel_rfl
theorem suf3_10_3 : all3 (fun k => exsGo one6 ((FL.ss.drop 2).drop 3) (rho3 10 k)) 3 = true := by kernel_rfl
theorem suf3_10_6 : all3 (fun k => exsGo one6 ((FL.ss.drop 2).drop 3) (rho3 10 k)) 6 = true := by kernel_rfl
theorem pra3_11 (h : Int) : exsGo one6 (FL.ss.take 2) (rho0 11 3 h) = some (mid3 11 h, none) := by kernel_rfl
theorem prb3_11 (h : Int) : exsGo one6 ((FL.ss.drop 2).take 3) (mid3 11 h) = some (rho3 11 h, none) := by kernel_rfl
theorem suf3_11_0 : all3 (fun k => exsGo one6 ((FL.ss.drop 2).drop 3) (rho3 11 k)) 0 = true := by kernel_rfl
theorem suf3_11_3 : all3 (fun k => exsGo one6 ((FL.ss.drop 2).drop 3) (rho3 11 k)) 3 = true := by kernel_rfl
theorem suf3_11_6 : all3 (fun k => exsGo one6 ((FL.ss.drop 2).drop 3) (rho3 11 k)) 6 = true := by kernel_rfl
theorem pra3_12 (h : Int) : exsGo one6 (FL.ss.take 2) (rho0 12 3 h) = some (mid3 12 h, none) := by kernel_rfl
theorem prb3_12 (h : Int) : exsGo one6 ((FL.ss.drop 2).take 3) (mid3 12 h) = some (rho3 12 h, none) := by kernel_rfl
theorem suf3_12_0 : all3 (fun k => exsGo one6 ((FL.ss.drop 2).drop 3) (rho3 12 k)) 0 = true := by kernel_rfl
theorem suf3_12_3 : all3 (fun k => exsGo one6 ((FL.ss.drop 2).drop 3) (rho3 12 k)) 3 = true := by kernel_rfl
theorem suf3_12_6 : all3 (fun k => exsGo one6 ((FL.ss.drop 2).drop 3) (rho3 12 k)) 6 = true := by kernel_rfl
theorem pra4_8 (h : Int) : exsGo one6 (FL.ss.take 2) (rho0 8 4 h) = some (mid4 8 h, none) := by kernel_rfl
theorem prb4_8 (h : Int) : exsGo one6 ((FL.ss.drop 2).take 3) (mid4 8 h) = some (rho4 8 h, none) := by kernel_rfl
theorem suf4_8_0 : all3 (fun k => exsGo one6 ((FL.ss.drop 2).drop 3) (rho4 8 k)) 0 = true := by kernel_rfl
theorem suf4_8_3 : all3 (fun k => exsGo one6 ((FL.ss.drop 2).drop 3) (rho4 8 k)) 3 = true := by kernel_rfl
theorem suf4_8_6 : all3 (fun k => exsGo one6 ((FL.ss.drop 2).drop 3) (rho4 8 k)) 6 = true := by kernel_rfl
theorem pra4_9 (h : Int) : exsGo one6 (FL.ss.take 2) (rho0 9 4 h) = some (mid4 9 h, none) := by kernel_rfl
theorem prb4_9 (h : Int) : exsGo one6 ((FL.ss.drop 2).take 3) (mid4 9 h) = some (rho4 9 h, none) := by kernel_rfl
theorem suf4_9_0 : all3 (fun k => exsGo one6 ((FL.ss.drop 2).drop 3) (rho4 9 k)) 0 = true := by kernel_rfl
theorem suf4_9_3 : all3 (fun k => exsGo one6 ((FL.ss.drop 2).drop 3) (rho4 9 k)) 3 = true := by kernel_rfl
theorem suf4_9_6 : all3 (fun k => exsGo one6 ((FL.ss.drop 2).drop 3) (rho4 9 k)) 6 = true := by kernel_rfl
theorem pra4_10 (h : Int) : exsGo one6 (FL.ss.take 2) (rho0 10 4 h) = some (mid4 10 h, none) := by kernel_rfl
theorem prb4_10 (h : Int) : exsGo one6 ((FL.ss.drop 2).take 3) (mid4 10 h) = some (rho4 10 h, none) := by kernel_rfl
theorem suf4_10_0 : all3 (fun k => exsGo one6 ((FL.ss.drop 2).drop 3) (rho4 10 k)) 0 = true := by kernel_rfl
theorem suf4_10_3 : all3 (fun k => exsGo one6 ((FL.ss.drop 2).drop 3) (rho4 10 k)) 3 = true := by kernel_rfl
theorem suf4_10_6 : all3 (fun k => exsGo one6 ((FL.ss.drop 2).drop 3) (rho4 10 k)) 6 = true := by kernel_rfl
theorem pra4_11 (h : Int) : exsGo one6 (FL.ss.take 2) (rho0 11 4 h) = some (mid4 11 h, none) := by kernel_rfl
theorem prb4_11 (h : Int) : exsGo one6 ((FL.ss.drop 2).take 3) (mid4 11 h) = some (rho4 11 h, none) := by kernel_rfl
theorem suf4_11_0 : all3 (fun k => exsGo one6 ((FL.ss.drop 2).drop 3) (rho4 11 k)) 0 = true := by kernel_rfl
theorem suf4_11_3 : all3 (fun k => exsGo one6 ((FL.ss.drop 2).drop 3) (rho4 11 k)) 3 = true := by kernel_rfl
theorem suf4_11_6 : all3 (fun k => exsGo one6 ((FL.ss.drop 2).drop 3) (rho4 11 k)) 6 = true := by kernel_rfl
theorem pra4_12 (h : Int) : exsGo one6 (FL.ss.take 2) (rho0 12 4 h) = some (mid4 12 h, none) := by kernel_rfl
theorem prb4_12 (h : Int) : exsGo one6 ((FL.ss.drop 2).take 3) (mid4 12 h) = some (rho4 12 h, none) := by kernel_rfl
theorem suf4_12_0 : all3 (fun k => exsGo one6 ((FL.ss.drop 2).drop 3) (rho4 12 k)) 0 = true := by kernel_rfl
theorem suf4_12_3 : all3 (fun k => exsGo one6 ((FL.ss.drop 2).drop 3) (rho4 12 k)) 3 = true := by kernel_rfl
theorem suf4_12_6 : all3 (fun k => exsGo one6 ((FL.ss.drop 2).drop 3) (rho4 12 k)) 6 = true := by kernel_rfl
theorem pra5_8 (h : Int) : exsGo one6 (FL.ss.take 2) (rho0 8 5 h) = some (mid5 8 h, none) := by kernel_rfl
theorem prb5_8 (h : Int) : exsGo one6 ((FL.ss.drop 2).take 3) (mid5 8 h) = some (rho5 8 h, none) := by kernel_rfl
theorem suf5_8_0 : all3 (fun k => exsGo one6 ((FL.ss.drop 2).drop 3) (rho5 8 k)) 0 = true := by kernel_rfl
theorem suf5_8_3 : all3 (fun k => exsGo one6 ((FL.ss.drop 2).drop 3) (rho5 8 k)) 3 = true := by kernel_rfl
theorem suf5_8_6 : all3 (fun k => exsGo one6 ((FL.ss.drop 2).drop 3) (rho5 8 k)) 6 = true := by kernel_rfl
theorem pra5_9 (h : Int) : exsGo one6 (FL.ss.take 2) (rho0 9 5 h) = some (mid5 9 h, none) := by kernel_rfl
theorem prb5_9 (h : Int) : exsGo one6 ((FL.ss.drop 2).take 3) (mid5 9 h) = some (rho5 9 h, none) := by kernel_rfl
theorem suf5_9_0 : all3 (fun k => exsGo one6 ((FL.ss.drop 2).drop 3) (rho5 9 k)) 0 = true := by kernel_rfl
theorem suf5_9_3 : all3 (fun k => exsGo one6 ((FL.ss.drop 2).drop 3) (rho5 9 k)) 3 = true := by kernel_rfl
theorem suf5_9_6 : all3 (fun k => exsGo one6 ((FL.ss.drop 2).drop 3) (rho5 9 k)) 6 = true := by kernel_rfl
theorem pra5_10 (h : Int) : exsGo one6 (FL.ss.take 2) (rho0 10 5 h) = some (mid5 10 h, none) := by kernel_rfl
theorem prb5_10 (h : Int) : exsGo one6 ((FL.ss.drop 2).take 3) (mid5 10 h) = some (rho5 10 h, none) := by kernel_rfl
theorem suf5_10_0 : all3 (fun k => exsGo one6 ((FL.ss.drop 2).drop 3) (rho5 10 k)) 0 = true := by kernel_rfl
theorem suf5_10_3 : all3 (fun k => exsGo one6 ((FL.ss.drop 2).drop 3) (rho5 10 k)) 3 = true := by kernel_rfl
theorem suf5_10_6 : all3 (fun k => exsGo one6 ((FL.ss.drop 2).drop 3) (rho5 10 k)) 6 = true := by kernel_rfl
theorem pra5_11 (h : Int) : exsGo one6 (FL.ss.take 2) (rho0 11 5 h) = some (mid5 11 h, none) := by kernel_rfl
theorem prb5_11 (h : Int) : exsGo one6 ((FL.ss.drop 2).take 3) (mid5 11 h) = some (rho5 11 h, none) := by kernel_rfl
theorem suf5_11_0 : all3 (fun k => exsGo one6 ((FL.ss.drop 2).drop 3) (rho5 11 k)) 0 = true := by kernel_rfl
theorem suf5_11_3 : all3 (fun k => exsGo one6 ((FL.ss.drop 2).drop 3) (rho5 11 k)) 3 = true := by kernel_rfl
theorem suf5_11_6 : all3 (fun k => exsGo one6 ((FL.ss.drop 2).drop 3) (rho5 11 k)) 6 = true := by kernel_rfl
theorem pra5_12 (h : Int) : exsGo one6 (FL.ss.take 2) (rho0 12 5 h) = some (mid5 12 h, none) := by kernel_rfl
theorem prb5_12 (h : Int) : exsGo one6 ((FL.ss.drop 2).take 3) (mid5 12 h) = some (rho5 12 h, none) := by kernel_rfl
theorem suf5_12_0 : all3 (fun k => exsGo one6 ((FL.ss.drop 2).drop 3) (rho5 12 k)) 0 = true := by kernel_rfl
theorem suf5_12_3 : all3 (fun k => exsGo one6 ((FL.ss.drop 2).drop 3) (rho5 12 k)) 3 = true := by kernel_rfl
theorem suf5_12_6 : all3 (fun k => exsGo one6 ((FL.ss.drop 2).drop 3) (rho5 12 k)) 6 = true := by kernel_rfl
theorem holds135 : Holds135 := by
  intro i j k hi hj hk
  match i, j, hi, hj with
  | 0, 0, _, _ => exact joined (pra3_8 k) (prb3_8 k) (all3_ok suf3_8_0 suf3_8_3 suf3_8_6 k hk)
  | 0, 1, _, _ => exact joined (pra4_8 k) (prb4_8 k) (all3_ok suf4_8_0 suf4_8_3 suf4_8_6 k hk)
  | 0, 2, _, _ => exact joined (pra5_8 k) (prb5_8 k) (all3_ok suf5_8_0 suf5_8_3 suf5_8_6 k hk)
  | 1, 0, _, _ => exact joined (pra3_9 k) (prb3_9 k) (all3_ok suf3_9_0 suf3_9_3 suf3_9_6 k hk)
  | 1, 1, _, _ => exact joined (pra4_9 k) (prb4_9 k) (all3_ok suf4_9_0 suf4_9_3 suf4_9_6 k hk)
  | 1, 2, _, _ => exact joined (pra5_9 k) (prb5_9 k) (all3_ok suf5_9_0 suf5_9_3 suf5_9_6 k hk)
  | 2, 0, _, _ => exact joined (pra3_10 k) (prb3_10 k) (all3_ok suf3_10_0 suf3_10_3 suf3_10_6 k hk)
  | 2, 1, _, _ => exact joined (pra4_10 k) (prb4_10 k) (all3_ok suf4_10_0 suf4_10_3 suf4_10_6 k hk)
  | 2, 2, _, _ => exact joined (pra5_10 k) (prb5_10 k) (all3_ok suf5_10_0 suf5_10_3 suf5_10_6 k hk)
  | 3, 0, _, _ => exact joined (pra3_11 k) (prb3_11 k) (all3_ok suf3_11_0 suf3_11_3 suf3_11_6 k hk)
  | 3, 1, _, _ => exact joined (pra4_11 k) (prb4_11 k) (all3_ok suf4_11_0 suf4_11_3 suf4_11_6 k hk)
  | 3, 2, _, _ => exact joined (pra5_11 k) (prb5_11 k) (all3_ok suf5_11_0 suf5_11_3 suf5_11_6 k hk)
  | 4, 0, _, _ => exact joined (pra3_12 k) (prb3_12 k) (all3_ok suf3_12_0 suf3_12_3 suf3_12_6 k hk)
  | 4, 1, _, _ => exact joined (pra4_12 k) (prb4_12 k) (all3_ok suf4_12_0 suf4_12_3 suf4_12_6 k hk)
  | 4, 2, _, _ => exact joined (pra5_12 k) (prb5_12 k) (all3_ok suf5_12_0 suf5_12_3 suf5_12_6 k hk)
  | _ + 5, _, h, _ => exact absurd h (by omega)
  | _, _ + 3, _, h => exact absurd h (by omega)

end Mine

set_option maxRecDepth 100000 in
set_option maxHeartbeats 16000000 in
theorem PySem.Challenge.cw_xw0108_01_holds : PySem.Challenge.rw_xw0108_01.Holds := by
  refine Mine.hd ?_
  k_go0
  (all_goals try k_fold)
  dsimp only
  refine Mine.split2 ?_
  intro R hR
  k_steps
  all_goals (
    apply Mine.tail_ok' Mine.holds135
    · assumption
    · assumption
    · assumption
    · exact hR.trans rfl
    · rfl
    · rfl
    · rfl
    · rfl
    · exact ⟨_, News.get (by assumption) (by (repeat (first | (with_reducible exact List.Mem.head _) | apply List.Mem.tail))), by assumption⟩
    · exact ⟨_, News.get (by assumption) (by (repeat (first | (with_reducible exact List.Mem.head _) | apply List.Mem.tail))), by assumption⟩
    · exact ⟨_, _, News.get (by assumption) (by (repeat (first | (with_reducible exact List.Mem.head _) | apply List.Mem.tail))), by assumption⟩
    · exact ⟨_, _, News.get (by assumption) (by (repeat (first | (with_reducible exact List.Mem.head _) | apply List.Mem.tail))), by assumption⟩
    · intro h'' tk kk
      exact Mine.good_true kk (by assumption) (raisesW_false (by wrow_none_raised)) (by wrow_post) rfl)
