import PyProof.Rows.All
import Wide.All
import OpenK.AllK
import Wide.FinOn
import Lean
import PySem.Challenge.RW_pq0785_01
open PySem PySem.W PyProof.Rows
set_option Elab.async false
set_option maxRecDepth 100000
set_option linter.all false
section
open PySem.Calls PySem.Spec
-- M1
namespace Mine

inductive S where
  | none | bool (b : Bool) | int (i : Int) | sint (i : Int) | num | off (k : Int)
  | str (s : Str) | sstr (s : Str) (n : Nat) | txt (s : Str) (e : Bool) (win : List Nat) | atx (s : Str) (n : Nat) (win : List Nat)
  | ref (l : Nat) | raw (w : Value) | iface (n : Str) (k : Int) | any
inductive V where
  | sc (s : S) | tup (xs : List S)
inductive O where
  | gone
  | inst (C : Addr) (d : Nat)
  | idict (es : List (Str × V))
  | list (xs : List V)
  | slist (ss : List Str) (n : Nat) (kn : List (Str × Bool))
  | sdict (es : List (Str × V))
  | xdict (ks : List Str) (n : Nat) (kn : List (Str × Option V))
  | jdict (is : List Int) (n : Nat) (lt : Bool)
  | jnew (is : List Int) (n : Nat) (k : Int)
  | tdict (n : Nat)
  | slst (xs : List V) (n : Nat)
  | alist (n : Nat)
  | rng (n : Int)
  | dice (fut : List (Int × Int)) (xs : List Int) (k : Nat)
inductive Tr where
  | e
  | n (v : Option O) (l r : Tr)
noncomputable def Tr.get : Tr → Nat → Option O
  | .e, _ => none
  | .n v l r, i => match Nat.beq i 0 with
    | true => v
    | false => match Nat.beq (i % 2) 1 with
      | true => l.get (i / 2)
      | false => r.get (i / 2 - 1)
noncomputable def Tr.put (o : O) : Nat → Tr → Nat → Tr
  | 0, t, _ => t
  | f + 1, .e, i => match Nat.beq i 0 with
    | true => .n (some o) .e .e
    | false => match Nat.beq (i % 2) 1 with
      | true => .n none (Tr.put o f .e (i / 2)) .e
      | false => .n none .e (Tr.put o f .e (i / 2 - 1))
  | f + 1, .n v l r, i => match Nat.beq i 0 with
    | true => .n (some o) l r
    | false => match Nat.beq (i % 2) 1 with
      | true => .n v (Tr.put o f l (i / 2)) r
      | false => .n v l (Tr.put o f r (i / 2 - 1))
theorem beq_ff {i j : Nat} (h : Nat.beq i j = false) : i ≠ j := fun e => by rw [e, Nat.beq_refl] at h; cases h
theorem Tr.get_put (o : O) : ∀ (f : Nat) (t : Tr) (i : Nat), i < f → ∀ j, (Tr.put o f t i).get j = if j = i then some o else t.get j := by
  intro f
  induction f with
  | zero => intro t i h; omega
  | succ f ih =>
    intro t i hi j
    cases t with
    | e =>
      unfold Tr.put
      cases h0 : Nat.beq i 0 with
      | true =>
        have e0 := Nat.eq_of_beq_eq_true h0
        subst e0
        simp only [Tr.get]
        cases hj : Nat.beq j 0 with
        | true => rw [Nat.eq_of_beq_eq_true hj]; rfl
        | false => rw [if_neg (beq_ff hj)]; cases Nat.beq (j % 2) 1 <;> rfl
      | false =>
        have n0 := beq_ff h0
        cases h1 : Nat.beq (i % 2) 1 with
        | true =>
          have e1 := Nat.eq_of_beq_eq_true h1
          simp only [Tr.get]
          cases hj : Nat.beq j 0 with
          | true => have := Nat.eq_of_beq_eq_true hj; rw [if_neg (by omega)]
          | false =>
            have nj := beq_ff hj
            cases hj1 : Nat.beq (j % 2) 1 with
            | true =>
              have ej := Nat.eq_of_beq_eq_true hj1
              simp only
              rw [ih _ _ (by omega)]
              by_cases h : j = i
              · subst h; simp
              · rw [if_neg h, if_neg (by omega)]; rfl
            | false => have := beq_ff hj1; rw [if_neg (by intro h; subst h; omega)]
        | false =>
          have e1 := beq_ff h1
          simp only [Tr.get]
          cases hj : Nat.beq j 0 with
          | true => have := Nat.eq_of_beq_eq_true hj; rw [if_neg (by omega)]
          | false =>
            have nj := beq_ff hj
            cases hj1 : Nat.beq (j % 2) 1 with
            | true => have := Nat.eq_of_beq_eq_true hj1; rw [if_neg (by intro h; subst h; omega)]
            | false =>
              have ej := beq_ff hj1
              simp only
              rw [ih _ _ (by omega)]
              by_cases h : j = i
              · subst h; simp
              · rw [if_neg h, if_neg (by omega)]; rfl
    | n v l r =>
      unfold Tr.put
      cases h0 : Nat.beq i 0 with
      | true =>
        have e0 := Nat.eq_of_beq_eq_true h0
        subst e0
        simp only [Tr.get]
        cases hj : Nat.beq j 0 with
        | true => rw [Nat.eq_of_beq_eq_true hj]; rfl
        | false => rw [if_neg (beq_ff hj)]
      | false =>
        have n0 := beq_ff h0
        cases h1 : Nat.beq (i % 2) 1 with
        | true =>
          have e1 := Nat.eq_of_beq_eq_true h1
          simp only [Tr.get]
          cases hj : Nat.beq j 0 with
          | true => have := Nat.eq_of_beq_eq_true hj; rw [if_neg (by omega)]
          | false =>
            have nj := beq_ff hj
            cases hj1 : Nat.beq (j % 2) 1 with
            | true =>
              have ej := Nat.eq_of_beq_eq_true hj1
              simp only
              rw [ih _ _ (by omega)]
              by_cases h : j = i
              · subst h; simp
              · rw [if_neg h, if_neg (by omega)]
            | false => have := beq_ff hj1; rw [if_neg (by intro h; subst h; omega)]
        | false =>
          have e1 := beq_ff h1
          simp only [Tr.get]
          cases hj : Nat.beq j 0 with
          | true => have := Nat.eq_of_beq_eq_true hj; rw [if_neg (by omega)]
          | false =>
            have nj := beq_ff hj
            cases hj1 : Nat.beq (j % 2) 1 with
            | true => have := Nat.eq_of_beq_eq_true hj1; rw [if_neg (by intro h; subst h; omega)]
            | false =>
              have ej := beq_ff hj1
              simp only
              rw [ih _ _ (by omega)]
              by_cases h : j = i
              · subst h; simp
              · rw [if_neg h, if_neg (by omega)]
structure Sto where
  n : Nat
  t : Tr
noncomputable def getG (t : Tr) (i : Nat) : O := match t.get i with
  | some o => o
  | none => .gone
noncomputable def sget (s : Sto) (l : Nat) : Option O := match Nat.blt l s.n with
  | true => some (getG s.t l)
  | false => none
noncomputable def sset (s : Sto) (l : Nat) (o : O) : Sto := match Nat.blt l s.n with
  | true => ⟨s.n, s.t.put o (l + 1) l⟩
  | false => s
noncomputable def spush (s : Sto) (o : O) : Sto := ⟨s.n + 1, s.t.put o (s.n + 1) s.n⟩
noncomputable def slen (s : Sto) : Nat := s.n
noncomputable def toL (s : Sto) : List O := (List.range s.n).map fun i => getG s.t i
noncomputable def ofLs : Sto → List O → Sto
  | s, [] => s
  | s, o :: r => ofLs (spush s o) r
noncomputable def ofL (l : List O) : Sto := ofLs ⟨0, .e⟩ l
theorem toL_len (s : Sto) : (toL s).length = slen s := by simp [toL, slen]
theorem toL_get (s : Sto) (l : Nat) : (toL s)[l]? = sget s l := by
  unfold toL sget
  rw [List.getElem?_map]
  cases h : Nat.blt l s.n with
  | true =>
    have : l < s.n := Nat.le_of_ble_eq_true h
    rw [List.getElem?_range this]; rfl
  | false =>
    have : s.n ≤ l := Nat.le_of_not_lt fun h' => by rw [show Nat.blt l s.n = true from Nat.ble_eq_true_of_le h'] at h; cases h
    rw [List.getElem?_eq_none (by simpa using this)]; rfl
theorem getG_put (t : Tr) (o : O) (f i j : Nat) (h : i < f) : getG (t.put o f i) j = if j = i then o else getG t j := by
  unfold getG
  rw [Tr.get_put o f t i h]
  by_cases e : j = i
  · rw [if_pos e, if_pos e]
  · rw [if_neg e, if_neg e]
theorem toL_push (s : Sto) (o : O) : toL (spush s o) = toL s ++ [o] := by
  unfold toL spush
  rw [List.range_succ, List.map_append]
  congr 1
  · refine List.map_congr_left fun i hi => ?_
    rw [getG_put _ _ _ _ _ (Nat.lt_succ_self _), if_neg (Nat.ne_of_lt (List.mem_range.mp hi))]
  · simp [getG_put]
theorem toL_set (s : Sto) (l : Nat) (o : O) : toL (sset s l o) = (toL s).set l o := by
  unfold sset
  cases h : Nat.blt l s.n with
  | true =>
    have hl : l < s.n := Nat.le_of_ble_eq_true h
    refine List.ext_getElem? fun i => ?_
    rw [List.getElem?_set]
    unfold toL
    simp only [List.getElem?_map, List.length_map, List.length_range]
    by_cases hi : i < s.n
    · rw [List.getElem?_range hi]
      simp only [Option.map_some]
      rw [getG_put _ _ _ _ _ (Nat.lt_succ_self _)]
      by_cases e : l = i
      · subst e; simp [hi]
      · rw [if_neg (fun q => e q.symm), if_neg e]
    · have : (List.range s.n)[i]? = none := List.getElem?_eq_none (by simpa using hi)
      rw [this]
      by_cases e : l = i
      · subst e; exact absurd hl hi
      · rw [if_neg e]; rfl
  | false =>
    have : s.n ≤ l := Nat.le_of_not_lt fun h' => by rw [show Nat.blt l s.n = true from Nat.ble_eq_true_of_le h'] at h; cases h
    rw [List.set_eq_of_length_le (by simpa [toL] using this)]
theorem toL_ofLs : ∀ (s : Sto) (l : List O), toL (ofLs s l) = toL s ++ l
  | s, [] => by simp [ofLs]
  | s, o :: r => by unfold ofLs; rw [toL_ofLs, toL_push]; simp
theorem toL_ofL (l : List O) : toL (ofL l) = l := by unfold ofL; rw [toL_ofLs]; simp [toL]
structure St where
  sc : Scope
  loc : List (Str × V)
  objs : Sto
inductive Ou where
  | next | cont | ret (v : V)

abbrev Led := List (Addr × Obj)
structure P where
  β : Int
  r : List Addr
  fr : Led
structure P.le (p q : P) : Prop where
  β : p.β = q.β
  r : p.r <+: q.r
  fr : ∀ x ∈ p.fr, x ∈ q.fr
noncomputable def isIt (ob : Obj) : Bool := match ob.cls with
  | .type n => n == "list_iterator" || n == "tuple_iterator" || n == "range_iterator"
  | _ => false
theorem isIt_dict (es : List DictEntry) (m : Nat) : isIt (dictOf es m) = false := by show (("dict" : String) == "list_iterator" || ("dict" : String) == "tuple_iterator" || ("dict" : String) == "range_iterator") = false; decide
theorem isIt_list (es : Array Value) (m : Nat) : isIt (listOf es m) = false := by show (("list" : String) == "list_iterator" || ("list" : String) == "tuple_iterator" || ("list" : String) == "range_iterator") = false; decide
theorem isIt_tup (ys : List Value) : isIt { cls := .type "tuple", data := .seq (List.toArray ys) } = false := by show (("tuple" : String) == "list_iterator" || ("tuple" : String) == "tuple_iterator" || ("tuple" : String) == "range_iterator") = false; decide
structure P.lw (p q : P) : Prop where
  β : p.β = q.β
  r : p.r <+: q.r
  fr : ∀ x ∈ p.fr, isIt x.2 = false → x ∈ q.fr
theorem P.le.lw {p q : P} (h : p.le q) : p.lw q := ⟨h.β, h.r, fun x hx _ => h.fr x hx⟩
theorem P.le.refl (p : P) : p.le p := ⟨rfl, List.prefix_refl _, fun _ h => h⟩
theorem P.le.trans {p q s : P} (h : p.le q) (g : q.le s) : p.le s := ⟨h.β.trans g.β, h.r.trans g.r, fun x hx => g.fr x (h.fr x hx)⟩

noncomputable def Window (s : Str) (β : Int) (e : Bool) (win : List Nat) : Prop :=
  0 ≤ β ∧ (∃ rest, s.cps.toList.drop β.toNat = win ++ rest ∧ (e = true → rest = [])) ∧ s.length ≤ 4096

inductive RIface (p : P) (n : Str) (k : Int) (x : Value) : Prop
  | mk (a d im : Addr) (es : List DictEntry) (m : Nat) (t t' : Tok) (sl : Array (Option Value)) (h1 : x = .ref a) (h2 : (a, (⟨.ref 87, some d, .plain, sl⟩ : Obj)) ∈ p.fr) (h3 : (d, dictOf es m) ∈ p.fr) (h4 : getL "name" es = some (some (.str n t))) (h5 : getL "key" es = some (some (.int k t')))
      (h6 : getL "imports" es = some (some (.ref im))) (h7 : (im, listOf #[] 0) ∈ p.fr)
noncomputable def RS (p : P) : S → Value → Prop
  | .none, x => x = .none
  | .bool b, x => x = .bool b
  | .int i, x => ∃ t, x = .int i t
  | .sint i, x => ∃ t, x = .int i t
  | .num, x => ∃ i t, x = .int i t
  | .off k, x => ∃ t, x = .int (p.β + k) t
  | .str s, x => ∃ t, x = .str s t
  | .sstr s n, x => (∃ t, x = .str s t) ∧ s.length ≤ n ∧ n ≤ 4096
  | .txt s e win, x => (∃ t, x = .str s t) ∧ Window s p.β e win
  | .atx s n win, x => (∃ t, x = .str s t) ∧ (∃ rest, s.cps.toList = win ++ rest) ∧ s.length ≤ n ∧ n ≤ 4096
  | .ref l, x => ∃ a, p.r[l]? = some a ∧ x = .ref a
  | .raw w, x => x = w
  | .iface n k, x => RIface p n k x
  | .any, _ => True
noncomputable def RSs (p : P) : List S → List Value → Prop
  | [], [] => True
  | s :: r, x :: y => RS p s x ∧ RSs p r y
  | _, _ => False
inductive RTup (p : P) (xs : List S) (x : Value) : Prop
  | mk (a : Addr) (ys : List Value) (h1 : x = .ref a) (h2 : (a, ({ cls := .type "tuple", data := .seq (List.toArray ys) } : Obj)) ∈ p.fr) (h3 : RSs p xs ys)
noncomputable def RV (p : P) : V → Value → Prop
  | .sc s, x => RS p s x
  | .tup xs, x => RTup p xs x
noncomputable def RVs (p : P) : List V → List Value → Prop
  | [], [] => True
  | s :: r, x :: y => RV p s x ∧ RVs p r y
  | _, _ => False

theorem RS.monoW {p q : P} (h : p.lw q) : ∀ {s x}, RS p s x → RS q s x
  | .none, _, e => e
  | .bool _, _, e => e
  | .int _, _, e => e
  | .sint _, _, e => e
  | .num, _, e => e
  | .off _, _, e => by unfold RS at e ⊢; rw [← h.β]; exact e
  | .str _, _, e => e
  | .sstr _ _, _, e => e
  | .txt _ _ _, _, e => by unfold RS at e ⊢; rw [← h.β]; exact e
  | .ref l, _, e => by
    obtain ⟨a, h1, h2⟩ := e
    obtain ⟨t, ht⟩ := h.r
    refine ⟨a, ?_, h2⟩
    rw [← ht]
    exact (List.getElem?_append_left (List.getElem?_eq_some_iff.mp h1).1).trans h1
  | .atx _ _ _, _, e => e
  | .raw _, _, e => e
  | .iface _ _, _, e => by
    obtain ⟨a, d, im, es, m, t, t', sl, h1, h2, h3, h4, h5, h6, h7⟩ := e
    exact ⟨a, d, im, es, m, t, t', sl, h1, h.fr _ h2 rfl, h.fr _ h3 (isIt_dict _ _), h4, h5, h6, h.fr _ h7 (isIt_list _ _)⟩
  | .any, _, _ => trivial
theorem RSs.monoW {p q : P} (h : p.lw q) : ∀ {s x}, RSs p s x → RSs q s x
  | [], [], _ => trivial
  | _ :: _, _ :: _, e => ⟨e.1.monoW h, RSs.monoW h e.2⟩
  | [], _ :: _, e => e.elim
  | _ :: _, [], e => e.elim
theorem RV.monoW {p q : P} (h : p.lw q) : ∀ {s x}, RV p s x → RV q s x
  | .sc _, _, e => RS.monoW h e
  | .tup _, _, ⟨a, ys, h1, h2, h3⟩ => ⟨a, ys, h1, h.fr _ h2 (isIt_tup _), h3.monoW h⟩
theorem RVs.monoW {p q : P} (h : p.lw q) : ∀ {s x}, RVs p s x → RVs q s x
  | [], [], _ => trivial
  | _ :: _, _ :: _, e => ⟨e.1.monoW h, RVs.monoW h e.2⟩
  | [], _ :: _, e => e.elim
  | _ :: _, [], e => e.elim
theorem RS.mono {p q : P} (h : p.le q) {s x} (e : RS p s x) : RS q s x := RS.monoW h.lw e
theorem RSs.mono {p q : P} (h : p.le q) {s x} (e : RSs p s x) : RSs q s x := RSs.monoW h.lw e
theorem RV.mono {p q : P} (h : p.le q) {s x} (e : RV p s x) : RV q s x := RV.monoW h.lw e
theorem RVs.mono {p q : P} (h : p.le q) {s x} (e : RVs p s x) : RVs q s x := RVs.monoW h.lw e
theorem RVs.length {p : P} : ∀ {s x}, RVs p s x → s.length = x.length
  | [], [], _ => rfl
  | _ :: _, _ :: _, e => congrArg Nat.succ (RVs.length e.2)
  | [], _ :: _, e => e.elim
  | _ :: _, [], e => e.elim
theorem RSs.length {p : P} : ∀ {s x}, RSs p s x → s.length = x.length
  | [], [], _ => rfl
  | _ :: _, _ :: _, e => congrArg Nat.succ (RSs.length e.2)
  | [], _ :: _, e => e.elim
  | _ :: _, [], e => e.elim

noncomputable def REs (p : P) (ps : Params) : List (Str × V) → List DictEntry → Prop
  | [], [] => True
  | (k, v) :: r, e :: es => (∃ t, e.key = .str k t) ∧ e.hash = PyData.keyHash ps k ∧ RV p v e.val ∧ REs p ps r es
  | _, _ => False
theorem REs.monoW {p q : P} {ps : Params} (h : p.lw q) : ∀ {s x}, REs p ps s x → REs q ps s x
  | [], [], _ => trivial
  | (_, _) :: _, _ :: _, e => ⟨e.1, e.2.1, e.2.2.1.monoW h, REs.monoW h e.2.2.2⟩
  | [], _ :: _, e => e.elim
  | (_, _) :: _, [], e => e.elim
theorem REs.mono {p q : P} {ps : Params} (h : p.le q) {s x} (e : REs p ps s x) : REs q ps s x := REs.monoW h.lw e
theorem REs.length {p : P} {ps : Params} : ∀ {s x}, REs p ps s x → s.length = x.length
  | [], [], _ => rfl
  | (_, _) :: _, _ :: _, e => congrArg Nat.succ (REs.length e.2.2.2)
  | [], _ :: _, e => e.elim
  | (_, _) :: _, [], e => e.elim

noncomputable def draw (xs : List Int) (k : Nat) (m : Int) : Int := match xs with
  | [] => 0
  | x :: r => Int.fmod (Int.fdiv ((((x :: r).getD (k % (r.length + 1)) 0).natAbs : Nat) : Int) (7 ^ (k / (r.length + 1)))) m
section
variable (prog : Program) (w : World)
inductive ROidict (p : P) (es : List (Str × V)) (ob : Obj) : Prop
  | mk (es' : List DictEntry) (n : Nat) (h1 : ob = dictOf es' n) (h2 : REs p w.params es es') (h3 : es.length ≤ 100)
inductive ROlist (p : P) (xs : List V) (ob : Obj) : Prop
  | mk (vs : List Value) (n : Nat) (h1 : ob = listOf (List.toArray vs) n) (h2 : RVs p xs vs) (h3 : xs.length ≤ 1000)
inductive ROslist (p : P) (ss : List Str) (n : Nat) (kn : List (Str × Bool)) (ob : Obj) : Prop
  | mk (vs : List Value) (k : Nat) (h1 : ob = listOf (List.toArray vs) k) (h2 : RVs p (ss.map fun s => V.sc (.str s)) vs) (h3 : (ss.length ≤ n ∧ n ≤ 1000) ∧ ∀ x ∈ kn, (ss.any (· == x.1)) = x.2)
inductive ROsdict (p : P) (es : List (Str × V)) (ob : Obj) : Prop
  | mk (kvs : List (Str × Value)) (h1 : ob.IsDictOf (strKind prog w) kvs) (h2 : kvs.map (·.1) = es.map (·.1)) (h3 : RVs p (es.map (·.2)) (kvs.map (·.2))) (h4 : es.length ≤ 1000)
inductive ROxdict (p : P) (ks : List Str) (n : Nat) (kn : List (Str × Option V)) (ob : Obj) : Prop
  | mk (kvs : List (Str × Value)) (h1 : ob.IsDictOf (strKind prog w) kvs) (h2 : kvs.map (·.1) = ks) (h3 : ks.length ≤ n ∧ n ≤ 1000)
      (h4 : ∀ x ∈ kn, match x.2 with | some v => ∃ y, valueAt kvs x.1 = some y ∧ RV p v y | none => valueAt kvs x.1 = none)
inductive ROjdict (p : P) (is : List Int) (n : Nat) (lt : Bool) (ob : Obj) : Prop
  | mk (kvs : List (Int × Value)) (h1 : ob.IsDictOf (intKind prog w) kvs) (h2 : kvs.map (·.1) = is) (h3 : is.length ≤ n ∧ n ≤ 1000) (h4 : lt = true → ∀ i ∈ is, i < p.β)
inductive ROjnew (p : P) (is : List Int) (n : Nat) (k : Int) (ob : Obj) : Prop
  | mk (kvs : List (Int × Value)) (h1 : ob.IsDictOf (intKind prog w) kvs) (h2 : kvs.map (·.1) = is ++ [p.β + k]) (h3 : is.length ≤ n ∧ n ≤ 1000)
inductive ROtdict (p : P) (n : Nat) (ob : Obj) : Prop
  | mk (xs : List (List Str × Addr × Value)) (es : Array DictEntry) (ep : Nat) (h1 : ob.ExactDict) (h2 : ob.data = .dict es ep) (h3 : es.toList = xs.map (entryOfKey (tupleKind (strKind prog w)))) (h4 : (xs.map (·.1)).Nodup)
      (h5 : ∀ x ∈ xs, ∃ ys, (x.2.1, ({ cls := .type "tuple", data := .seq (List.toArray ys) } : Obj)) ∈ p.fr ∧ ItemsAre (strKind prog w) x.1 ys) (h6 : (xs.length : Int) ≤ p.β + n ∧ p.β ≤ 500 ∧ n ≤ 200)
inductive ROslst (p : P) (xs : List V) (n : Nat) (ob : Obj) : Prop
  | mk (vs : List Value) (k : Nat) (h1 : ob = listOf (List.toArray vs) k) (h2 : RVs p xs vs) (h3 : xs.length ≤ n ∧ n ≤ 1000)
inductive ROalist (p : P) (n : Nat) (ob : Obj) : Prop
  | mk (vs : List Value) (k : Nat) (h1 : ob = listOf (List.toArray vs) k) (h2 : (vs.length : Int) ≤ p.β + n ∧ p.β ≤ 500 ∧ n ≤ 200)
inductive ROdice (p : P) (fut : List (Int × Int)) (xs : List Int) (k : Nat) (ob : Obj) : Prop
  | mk (row : Addr) (n : Nat) (t : Tok) (j : Nat) (ys : List Value) (h1 : ob = listOf #[.ref row, .int k t] n) (h2 : (row, listOf (List.toArray ys) j) ∈ p.fr) (h3 : IntsAre ys xs ∧ xs.length ≤ 63 ∧ k + fut.length ≤ 100 ∧ ∀ (i : Nat) (q : Int × Int), fut[i]? = some q → draw xs (k + i) q.1 = q.2)
noncomputable def RO (p : P) : O → Obj → Prop
  | .gone, _ => True
  | .inst C d, ob => ∃ a, p.r[d]? = some a ∧ ob = instObj C a
  | .idict es, ob => ROidict w p es ob
  | .list xs, ob => ROlist p xs ob
  | .slist ss n kn, ob => ROslist p ss n kn ob
  | .sdict es, ob => ROsdict prog w p es ob
  | .xdict ks n kn, ob => ROxdict prog w p ks n kn ob
  | .jdict is n lt, ob => ROjdict prog w p is n lt ob
  | .jnew is n k, ob => ROjnew prog w p is n k ob
  | .tdict n, ob => ROtdict prog w p n ob
  | .slst xs n, ob => ROslst p xs n ob
  | .alist n, ob => ROalist p n ob
  | .dice fut xs k, ob => ROdice p fut xs k ob
  | .rng n, ob => ∃ t u v, ob = { cls := .type "range", dict := none, data := .fields #[.int 0 t, .int n u, .int 1 v], slots := #[] }
end
end Mine
-- M2
namespace Mine

noncomputable def natsEq : List Nat → List Nat → Bool
  | [], [] => true
  | a :: r, b :: s => match Nat.beq a b with
    | true => natsEq r s
    | false => false
  | _, _ => false
noncomputable def seq (a b : Str) : Bool := natsEq a.cps.toList b.cps.toList
noncomputable def lk {α : Type} (x : Str) : List (Str × α) → Option α
  | [] => none
  | (y, a) :: r => match seq x y with
    | true => some a
    | false => lk x r
noncomputable def has (x : Str) : List Str → Bool
  | [] => false
  | y :: r => match seq x y with
    | true => true
    | false => has x r
theorem natsEq_eq : ∀ a b : List Nat, natsEq a b = (a == b)
  | [], [] => rfl
  | [], _ :: _ => rfl
  | _ :: _, [] => rfl
  | a :: r, b :: s => by
    unfold natsEq
    rw [List.cons_beq_cons]
    cases h : Nat.beq a b with
    | true => rw [Nat.eq_of_beq_eq_true h]; simp [natsEq_eq r s]
    | false =>
      have : (a == b) = false := by
        rw [beq_eq_false_iff_ne]
        intro e
        rw [e, Nat.beq_refl] at h
        cases h
      rw [this, Bool.false_and]
theorem seq_eq (a b : Str) : seq a b = (a == b) := by
  unfold seq
  rw [natsEq_eq]
  obtain ⟨⟨x⟩⟩ := a
  obtain ⟨⟨y⟩⟩ := b
  by_cases h : x = y
  · subst h; simp
  · have e1 : (x == y) = false := by simpa using h
    have e2 : ((⟨⟨x⟩⟩ : Str) == ⟨⟨y⟩⟩) = false := by
      rw [beq_eq_false_iff_ne]
      intro e
      injection e with e
      injection e with e
      exact h e
    rw [e1, e2]
theorem lk_eq {α : Type} (x : Str) : ∀ l : List (Str × α), lk x l = l.lookup x
  | [] => rfl
  | (y, a) :: r => by
    unfold lk
    rw [List.lookup_cons, seq_eq, lk_eq x r]
    cases (x == y) <;> rfl
theorem has_eq (x : Str) : ∀ l : List Str, has x l = l.contains x
  | [] => rfl
  | y :: r => by
    unfold has
    rw [List.contains_cons, seq_eq, has_eq x r]
    cases (x == y) <;> rfl
theorem has_any (x : Str) : ∀ l : List Str, has x l = l.any (· == x)
  | [] => rfl
  | y :: r => by
    unfold has
    rw [List.any_cons, seq_eq, has_any x r, show (y == x) = (x == y) from BEq.comm]
    cases (x == y) <;> rfl

noncomputable def eI : Expr → List Expr × Pos × Nat
  | .Name _ p => ([], p, 0)
  | .Constant _ k p => ([], p, k)
  | .Tuple es k p => (es, p, k)
  | .List es p => (es, p, 0)
  | .Subscript a b p => ([a, b], p, 0)
  | .BinOp a _ b p => ([a, b], p, 0)
  | .BoolOp _ es p => (es, p, 0)
  | .Compare a _ es p => (a :: es, p, 0)
  | .Call f as _ p => (f :: as, p, 0)
  | .Slice l u t p => (l.toList ++ u.toList ++ t.toList, p, 0)
  | _ => ([], default, 0)
noncomputable def sI : Stmt → List Expr × List Stmt × Pos
  | .Assign ts e p => (ts ++ [e], [], p)
  | .Return e p => (e.toList, [], p)
  | .For t e b _ p => ([t, e], b, p)
  | .While t b _ p => ([t], b, p)
  | .If t b _ p => ([t], b, p)
  | .Expr e p => ([e], [], p)
  | _ => ([], [], default)
noncomputable def eAll : Nat → Expr → List Expr
  | 0, _ => []
  | n + 1, e => e :: (eI e).1.flatMap (eAll n)
noncomputable def eAt (e : Expr) (i : Nat) : Expr := (eAll 9 e).getD i default
noncomputable def eP (e : Expr) (i : Nat) : Pos := (eI (eAt e i)).2.1
noncomputable def eK (e : Expr) (i : Nat) : Nat := (eI (eAt e i)).2.2
noncomputable def sE (s : Stmt) (i : Nat) : Expr := (sI s).1.getD i default
noncomputable def sB (s : Stmt) (i : Nat) : Stmt := (sI s).2.1.getD i default
noncomputable def sP (s : Stmt) : Pos := (sI s).2.2
structure CI where
  C : Addr
  fields : List Str
  meths : List (Str × Addr)
  init : Addr
abbrev Tab := List CI
noncomputable def tabFind (T : Tab) (C : Addr) : Option CI := T.find? fun c => Nat.beq c.C C

noncomputable def aset (x : Str) (v : V) : List (Str × V) → List (Str × V)
  | [] => [(x, v)]
  | (y, u) :: r => match seq y x with
    | true => (y, v) :: r
    | false => (y, u) :: aset x v r
noncomputable def isRaw : V → Bool
  | .sc (.raw _) => true
  | .sc .any => true
  | _ => false

noncomputable def ofVal : Value → Option V
  | .none => some (.sc .none)
  | .bool b => some (.sc (.bool b))
  | .int i _ => some (.sc (.int i))
  | .str s _ => some (.sc (.str s))
  | _ => none
noncomputable def ofVals : List Value → Option (List V)
  | [] => some []
  | v :: r => match ofVal v, ofVals r with
    | some x, some y => some (x :: y)
    | _, _ => none

noncomputable def ek : Expr → Nat
  | .Name .. => 0
  | .Attribute .. => 1
  | .Call .. => 2
  | .Constant .. => 3
  | .BinOp .. => 4
  | .Tuple .. => 5
  | .Starred .. => 6
  | .Slice .. => 7
  | .ListComp .. => 8
  | .SetComp .. => 8
  | .DictComp .. => 8
  | .Subscript .. => 9
  | .Dict .. => 9
  | _ => 10
noncomputable def plainBase (e : Expr) : Bool := (Nat.ble (ek e) 1 || Nat.beq (ek e) 9) || (Nat.beq (ek e) 2 && (match (eI e).1 with
  | [] => false
  | f :: r => Nat.beq (ek f) 1 || !r.isEmpty))
noncomputable def unstarred : List Expr → Bool
  | [] => true
  | e :: r => !(Nat.beq (ek e) 6) && unstarred r
noncomputable def plainSwap (e : Expr) : Bool := Nat.beq (ek e) 2
noncomputable def plainVal (e : Expr) : Bool := !(Nat.beq (ek e) 8)

noncomputable def bind2 {α β : Type} (x : Option α) (f : α → Option β) : Option β := match x with
  | some a => f a
  | none => none
noncomputable def onlyIf {α : Type} (b : Bool) (x : Option α) : Option α := match b with
  | true => x
  | false => none
inductive B2 {α β : Type} (x : Option α) (f : α → Option β) (b : β) : Prop
  | mk (a : α) (h1 : x = some a) (h2 : f a = some b)
inductive B22 {α γ β : Type} (x : Option (α × γ)) (f : α × γ → Option β) (b : β) : Prop
  | mk (a : α) (c : γ) (h1 : x = some (a, c)) (h2 : f (a, c) = some b)
theorem bind2_some {α β : Type} {x : Option α} {f : α → Option β} {b : β} (h : bind2 x f = some b) : B2 x f b := by
  cases x with
  | none => cases h
  | some a => exact ⟨a, rfl, h⟩
theorem bind2_pair {α γ β : Type} {x : Option (α × γ)} {f : α × γ → Option β} {b : β} (h : bind2 x f = some b) : B22 x f b :=
  match bind2_some h with
  | ⟨(a, c), h1, h2⟩ => ⟨a, c, h1, h2⟩
theorem onlyIf_some {α : Type} {b : Bool} {x : Option α} {y : α} (h : onlyIf b x = some y) : b = true ∧ x = some y := by
  cases b with
  | true => exact ⟨rfl, h⟩
  | false => cases h
theorem no_none {α : Type} {x : α} {P : Prop} (h : none = some x) : P := by cases h
noncomputable def intS : S → Option Int
  | .int i => some i
  | _ => none
noncomputable def strS : S → Option Str
  | .str s => some s
  | _ => none
noncomputable def offS : S → Option Int
  | .off i => some i
  | _ => none
noncomputable def refS : S → Option Nat
  | .ref l => some l
  | _ => none
noncomputable def noneS : S → Option Unit
  | .none => some ()
  | _ => none
noncomputable def scV : V → Option S
  | .sc s => some s
  | .tup _ => none
noncomputable def tupV : V → Option (List S)
  | .tup xs => some xs
  | .sc _ => none
theorem intS_some {x : S} {i : Int} (h : intS x = some i) : x = .int i := by
  cases x with
  | int j => exact congrArg S.int (Option.some.inj h)
  | _ => exact no_none h
theorem strS_some {x : S} {i : Str} (h : strS x = some i) : x = .str i := by
  cases x with
  | str j => exact congrArg S.str (Option.some.inj h)
  | _ => exact no_none h
theorem offS_some {x : S} {i : Int} (h : offS x = some i) : x = .off i := by
  cases x with
  | off j => exact congrArg S.off (Option.some.inj h)
  | _ => exact no_none h
theorem refS_some {x : S} {i : Nat} (h : refS x = some i) : x = .ref i := by
  cases x with
  | ref j => exact congrArg S.ref (Option.some.inj h)
  | _ => exact no_none h
theorem noneS_some {x : S} {i : Unit} (h : noneS x = some i) : x = .none := by
  cases x with
  | none => rfl
  | _ => exact no_none h
theorem scV_some {x : V} {s : S} (h : scV x = some s) : x = .sc s := by
  cases x with
  | sc _ => exact congrArg V.sc (Option.some.inj h)
  | tup _ => exact no_none h
theorem tupV_some {x : V} {s : List S} (h : tupV x = some s) : x = .tup s := by
  cases x with
  | tup _ => exact congrArg V.tup (Option.some.inj h)
  | sc _ => exact no_none h
noncomputable def intV (v : V) : Option Int := bind2 (scV v) intS
noncomputable def strV (v : V) : Option Str := bind2 (scV v) strS
noncomputable def offV (v : V) : Option Int := bind2 (scV v) offS
noncomputable def refV (v : V) : Option Nat := bind2 (scV v) refS
noncomputable def noneV (v : V) : Option Unit := bind2 (scV v) noneS
theorem intV_some {v : V} {i : Int} (h : intV v = some i) : v = .sc (.int i) :=
  match bind2_some h with
  | ⟨_, h1, h2⟩ => (scV_some h1).trans (congrArg V.sc (intS_some h2))
theorem strV_some {v : V} {i : Str} (h : strV v = some i) : v = .sc (.str i) :=
  match bind2_some h with
  | ⟨_, h1, h2⟩ => (scV_some h1).trans (congrArg V.sc (strS_some h2))
theorem offV_some {v : V} {i : Int} (h : offV v = some i) : v = .sc (.off i) :=
  match bind2_some h with
  | ⟨_, h1, h2⟩ => (scV_some h1).trans (congrArg V.sc (offS_some h2))
theorem refV_some {v : V} {i : Nat} (h : refV v = some i) : v = .sc (.ref i) :=
  match bind2_some h with
  | ⟨_, h1, h2⟩ => (scV_some h1).trans (congrArg V.sc (refS_some h2))
theorem noneV_some {v : V} {i : Unit} (h : noneV v = some i) : v = .sc .none :=
  match bind2_some h with
  | ⟨_, h1, h2⟩ => (scV_some h1).trans (congrArg V.sc (noneS_some h2))
noncomputable def oneL {α : Type} : List α → Option α
  | [] => none
  | x :: r => match r with
    | [] => some x
    | _ :: _ => none
noncomputable def twoL {α : Type} : List α → Option (α × α)
  | [] => none
  | x :: r => bind2 (oneL r) fun y => some (x, y)
theorem oneL_some {α : Type} {l : List α} {x : α} (h : oneL l = some x) : l = [x] := by
  cases l with
  | nil => exact no_none h
  | cons y r =>
    cases r with
    | nil => exact congrArg (fun z => [z]) (Option.some.inj h)
    | cons _ _ => exact no_none h
theorem twoL_some {α : Type} {l : List α} {x y : α} (h : twoL l = some (x, y)) : l = [x, y] := by
  cases l with
  | nil => exact no_none h
  | cons z r =>
    obtain ⟨u, h1, h2⟩ := bind2_some h
    rw [oneL_some h1]
    cases h2
    rfl
noncomputable def instO : O → Option (Addr × Nat)
  | .inst C d => some (C, d)
  | _ => none
noncomputable def idictO : O → Option (List (Str × V))
  | .idict es => some es
  | _ => none
theorem instO_some {o : O} {C : Addr} {d : Nat} (h : instO o = some (C, d)) : o = .inst C d := by
  cases o with
  | inst _ _ => cases h; rfl
  | _ => exact no_none h
theorem idictO_some {o : O} {es : List (Str × V)} (h : idictO o = some es) : o = .idict es := by
  cases o with
  | idict _ => cases h; rfl
  | _ => exact no_none h
noncomputable def instV (T : Tab) (objs : Sto) (l : Nat) : Option (CI × Nat × List (Str × V)) :=
  bind2 (sget objs l) fun o => bind2 (instO o) fun q => bind2 (sget objs q.2) fun o' => bind2 (idictO o') fun es => bind2 (tabFind T q.1) fun c => some (c, q.2, es)
inductive InstV (T : Tab) (objs : Sto) (l : Nat) (c : CI) (d : Nat) (es : List (Str × V)) : Prop
  | mk (C : Addr) (h1 : sget objs l = some (.inst C d)) (h2 : sget objs d = some (.idict es)) (h3 : tabFind T C = some c)
theorem instV_some {T : Tab} {objs : Sto} {l : Nat} {c : CI} {d : Nat} {es : List (Str × V)} (h : instV T objs l = some (c, d, es)) : InstV T objs l c d es := by
  obtain ⟨o, h1, h⟩ := bind2_some h
  obtain ⟨C, d', h2, h⟩ := bind2_pair h
  obtain ⟨o', h3, h⟩ := bind2_some h
  obtain ⟨es', h4, h⟩ := bind2_some h
  obtain ⟨c', h5, h⟩ := bind2_some h
  cases h
  exact ⟨C, h1.trans (congrArg some (instO_some h2)), h3.trans (congrArg some (idictO_some h4)), h5⟩
noncomputable def vAttr (T : Tab) (objs : Sto) (v : V) (f : Str) : Option V := bind2 (scV v) fun s => match s with
  | .ref l => bind2 (instV T objs l) fun q => onlyIf (has f q.1.fields) (bind2 (lk f q.2.2) fun u => onlyIf (!isRaw u) (some u))
  | .iface n k => bind2 (tabFind T 87) fun c => onlyIf (has f c.fields) (match seq f ("name" : Str) with
    | true => some (.sc (.str n))
    | false => onlyIf (seq f ("key" : Str)) (some (.sc (.int k))))
  | _ => none
noncomputable def vSetAttr (T : Tab) (objs : Sto) (v : V) (f : Str) (u : V) : Option Sto :=
  bind2 (refV v) fun l => bind2 (instV T objs l) fun q => onlyIf (has f q.1.fields) (onlyIf (Nat.blt q.2.2.length 90) (some (sset objs q.2.1 (.idict (aset f u q.2.2)))))
noncomputable def vMeth (T : Tab) (objs : Sto) (v : V) (f : Str) : Option Addr :=
  bind2 (refV v) fun l => bind2 (instV T objs l) fun q => match lk f q.2.2 with
    | none => lk f q.1.meths
    | some _ => none

noncomputable def strsOf : List S → Option (List Str)
  | [] => some []
  | x :: r => bind2 (strS x) fun s => bind2 (strsOf r) fun t => some (s :: t)

noncomputable def inO (a : V) (o : O) : Option Bool := match o with
  | .list xs => match xs with
    | [] => bind2 (strV a) fun _ => some false
    | _ :: _ => none
  | .slist _ _ kn => bind2 (strV a) fun s => lk s kn
  | .sdict es => bind2 (strV a) fun s => some (lk s es).isSome
  | .xdict _ _ kn => bind2 (strV a) fun s => bind2 (lk s kn) fun u => some u.isSome
  | .jdict _ _ lt => match lt with
    | true => bind2 (offV a) fun k => onlyIf (decide (0 ≤ k)) (some false)
    | false => none
  | _ => none
noncomputable def inObj (objs : Sto) (a b : V) : Option Bool := match b with
  | .tup xs => bind2 (strV a) fun s => bind2 (strsOf xs) fun ss => some (has s ss)
  | .sc y => match y with
    | .str t => bind2 (strV a) fun s => some (!(Builtin.Str.occurrences t s 0 t.length 1).isEmpty)
    | .ref l => bind2 (sget objs l) fun o => inO a o
    | _ => none
noncomputable def isNoneS : S → Option Bool
  | .none => some true
  | .ref _ => some false
  | .iface _ _ => some false
  | .str _ => some false
  | _ => none
noncomputable def isNone : V → Option Bool
  | .sc s => isNoneS s
  | .tup _ => some false
noncomputable def eqS (x y : S) : Option Bool := match x with
  | .str x => bind2 (strS y) fun y => some (seq x y)
  | .int x => bind2 (intS y) fun y => some (x == y)
  | _ => none
noncomputable def eqV (a b : V) : Option Bool := bind2 (scV a) fun x => bind2 (scV b) fun y => eqS x y
noncomputable def leS (x y : S) : Option Bool := match x with
  | .int x => bind2 (intS y) fun y => some (decide (x ≤ y))
  | .str x => bind2 (strS y) fun y => some (!(decide (y.cps.toList < x.cps.toList)))
  | _ => none
noncomputable def leV (a b : V) : Option Bool := bind2 (scV a) fun x => bind2 (scV b) fun y => leS x y
noncomputable def cmpV (op : CmpOp) (objs : Sto) (a b : V) : Option Bool :=
  match op with
  | .Eq => eqV a b
  | .NotEq => bind2 (eqV a b) fun r => some (!r)
  | .Lt => bind2 (intV a) fun x => bind2 (intV b) fun y => some (decide (x < y))
  | .LtE => leV a b
  | .Gt => bind2 (intV a) fun x => bind2 (intV b) fun y => some (decide (x > y))
  | .GtE => bind2 (intV a) fun x => bind2 (intV b) fun y => some (decide (x ≥ y))
  | .Is => bind2 (noneV b) fun _ => isNone a
  | .IsNot => bind2 (noneV b) fun _ => bind2 (isNone a) fun r => some (!r)
  | .In => inObj objs a b
  | .NotIn => bind2 (inObj objs a b) fun r => some (!r)

noncomputable def notTextS : S → Bool
  | .int _ => true
  | .off _ => true
  | .sint _ => true
  | .num => true
  | _ => false
noncomputable def notText : V → Bool
  | .sc s => notTextS s
  | .tup _ => false
noncomputable def numAdd (x : S) (z : Int) : Option S := match x with
  | .int i => some (.int (i + z))
  | .off i => some (.off (i + z))
  | .sint i => some (.sint (i + z))
  | .num => some .num
  | _ => none
noncomputable def txtAdd (x : S) (y : Str) : Option S := match x with
  | .str x => onlyIf (decide (x.length ≤ 4096) && decide (y.length ≤ 4096)) (some (.str (x ++ y)))
  | .sstr x n => onlyIf (decide (n + y.length ≤ 4096)) (some (.sstr (x ++ y) (n + y.length)))
  | .atx x n win => onlyIf (decide (n + y.length ≤ 4096)) (some (.atx (x ++ y) (n + y.length) win))
  | _ => none
noncomputable def addS (x y : S) : Option S := match y with
  | .int z => numAdd x z
  | .str t => txtAdd x t
  | _ => none
noncomputable def addV (a b : V) : Option V := match a with
  | .sc x => bind2 (scV b) fun y => bind2 (addS x y) fun o => some (.sc o)
  | .tup x => bind2 (tupV b) fun y => onlyIf (decide (x.length ≤ 1000) && decide (y.length ≤ 1000)) (some (.tup (x ++ y)))
noncomputable def mulV (a b : V) : Option V := bind2 (intV a) fun x => bind2 (intV b) fun y => onlyIf (decide (x.natAbs ≤ 1000) && decide (y.natAbs ≤ 1000)) (some (.sc (.int (x * y))))
noncomputable def binV (op : Operator) (a b : V) : Option V :=
  match op with
  | .Add => addV a b
  | .Mult => mulV a b
  | _ => none

noncomputable def cutS (s : S) (i j : V) : Option V :=
  match s with
  | .str s => bind2 (intV i) fun x => bind2 (intV j) fun y => onlyIf (decide (0 ≤ x ∧ x ≤ y ∧ s.length ≤ 4096)) (some (.sc (.str ⟨((s.cps.toList.drop x.toNat).take (y - x).toNat).toArray⟩)))
  | .atx _ _ win => bind2 (intV i) fun x => bind2 (intV j) fun y => onlyIf (decide (0 ≤ x ∧ x ≤ y ∧ y ≤ win.length)) (some (.sc (.str ⟨((win.drop x.toNat).take (y - x).toNat).toArray⟩)))
  | .txt _ e win => bind2 (offV i) fun x => bind2 (offV j) fun y => onlyIf (decide (0 ≤ x ∧ x ≤ y) && (decide (y ≤ win.length) || e)) (some (.sc (.str ⟨((win.drop x.toNat).take (y - x).toNat).toArray⟩)))
  | _ => none
noncomputable def cutV (a i j : V) : Option V := bind2 (scV a) fun s => cutS s i j

noncomputable def itemO (o : O) (i : V) : Option V := match o with
  | .list xs => bind2 (intV i) fun k => match decide (0 ≤ k) with
    | true => xs[k.toNat]?
    | false => onlyIf (decide (0 ≤ k + xs.length)) xs[(k + xs.length).toNat]?
  | .sdict es => bind2 (strV i) fun k => lk k es
  | .xdict _ _ kn => bind2 (strV i) fun k => bind2 (lk k kn) fun u => u
  | _ => none
noncomputable def itemV (objs : Sto) (a i : V) : Option V := bind2 (refV a) fun l => bind2 (sget objs l) fun o => itemO o i
noncomputable def kset (k : Str) (v : V) (l : List (Str × Option V)) : List (Str × Option V) := (k, some v) :: l.filter fun x => !(x.1 == k)
noncomputable def putO (o : O) (i v : V) : Option O := match o with
  | .sdict es => bind2 (strV i) fun k => onlyIf (decide (es.length ≤ 900)) (match lk k es with
    | none => some (.sdict (es ++ [(k, v)]))
    | some _ => none)
  | .xdict ks n kn => bind2 (strV i) fun k => bind2 (lk k kn) fun u => match u with
    | none => onlyIf (Nat.ble n 900) (some (.xdict (ks ++ [k]) (n + 1) (kset k v kn)))
    | some _ => none
  | .tdict n => bind2 (tupV i) fun xs => bind2 (strsOf xs) fun _ => onlyIf (Nat.ble n 100) (some (.tdict (n + 1)))
  | .jdict is n lt => match lt with
    | true => bind2 (offV i) fun k => onlyIf (decide (0 ≤ k) && Nat.ble n 900) (some (.jnew is (n + 1) k))
    | false => none
  | _ => none
noncomputable def putV (objs : Sto) (a i v : V) : Option Sto := bind2 (refV a) fun l => bind2 (sget objs l) fun o => bind2 (putO o i v) fun o' => some (sset objs l o')
noncomputable def pushO (o : O) (v : V) : Option O := match o with
  | .list xs => onlyIf (decide (xs.length ≤ 900)) (some (.list (xs ++ [v])))
  | .slist ss n kn => bind2 (strV v) fun k => onlyIf (Nat.ble n 900) (some (.slist (ss ++ [k]) (n + 1) ((k, true) :: kn.filter fun x => !(x.1 == k))))
  | .slst xs n => onlyIf (Nat.ble n 900) (some (.slst (xs ++ [v]) (n + 1)))
  | .alist n => onlyIf (Nat.ble n 100) (some (.alist (n + 1)))
  | _ => none
noncomputable def pushV (objs : Sto) (l : Nat) (v : V) : Option Sto := bind2 (sget objs l) fun o => bind2 (pushO o v) fun o' => some (sset objs l o')
noncomputable def isLO : O → Option Unit
  | .list _ => some ()
  | .slist _ _ _ => some ()
  | .slst _ _ => some ()
  | .alist _ => some ()
  | _ => none
noncomputable def isL (objs : Sto) (l : Nat) : Bool := (bind2 (sget objs l) isLO).isSome
noncomputable def sdO : O → Option (List (Str × V))
  | .sdict es => some es
  | _ => none
theorem sdO_some {o : O} {es : List (Str × V)} (h : sdO o = some es) : o = .sdict es := by
  cases o with
  | sdict _ => cases h; rfl
  | _ => exact no_none h
noncomputable def isSd (objs : Sto) (l : Nat) : Bool := (bind2 (sget objs l) sdO).isSome
noncomputable def getV (objs : Sto) (l : Nat) (vs : List V) : Option V := bind2 (twoL vs) fun q => bind2 (strV q.1) fun k => bind2 (sget objs l) fun o => bind2 (sdO o) fun es => match lk k es with
  | some v => some v
  | none => some q.2
noncomputable def keyLit : Option Expr → Option Str
  | some (.Constant (.str k) _ _) => some k
  | _ => none
noncomputable def intLit : Expr → Option Int
  | .Constant (.int i) _ _ => some i
  | _ => none
noncomputable def constPairs : List (Option Expr) → List Expr → Option (List (Str × Int))
  | [], [] => some []
  | k :: r, v :: s => match keyLit k, intLit v with
    | some x, some i => match constPairs r s with
      | some t => match (t.map (·.1)).contains x with
        | true => none
        | false => some ((x, i) :: t)
      | none => none
    | _, _ => none
  | _, _ => none
noncomputable def compOk (sc : Scope) : Bool := (sc.kind == .function) && sc.names.all (fun x => (x.2 == .local) && (sc.names.lookup x.1 == some .local))
noncomputable def scs : List V → Option (List S)
  | [] => some []
  | v :: r => bind2 (scV v) fun s => bind2 (scs r) fun t => some (s :: t)

structure Ev where
  e : Expr → St → Option (V × St)
  es : List Expr → St → Option (List V × St)
  t : Expr → St → Option (Bool × St)
  s : Stmt → St → Option (Ou × St)
  ss : List Stmt → St → Option (Ou × St)
  c : Value → List V → St → Option (V × St)

noncomputable def nameV (gt : List (Str × Value)) (x : Str) (σ : St) : Option V :=
  match lk x σ.sc.names with
  | some .local => lk x σ.loc
  | some .globalImplicit => match lk x gt with
    | some v => some (.sc (.raw v))
    | none => none
  | _ => none
noncomputable def hasN (a : Nat) : List Nat → Bool
  | [] => false
  | b :: r => match Nat.beq a b with
    | true => true
    | false => hasN a r
noncomputable def klk (a : Addr) : Frag → Option Obj
  | [] => none
  | (b, o) :: r => match Nat.beq a b with
    | true => some o
    | false => klk a r
theorem klk_eq (a : Addr) : ∀ K : Frag, klk a K = K.lookup a
  | [] => rfl
  | (b, o) :: r => by
    unfold klk
    rw [List.lookup_cons]
    cases h : Nat.beq a b with
    | true => rw [show (a == b) = true from by rw [Nat.eq_of_beq_eq_true h]; simp]
    | false =>
      have : (a == b) = false := by
        rw [beq_eq_false_iff_ne]
        intro e
        rw [e, Nat.beq_refl] at h
        cases h
      rw [this]
      exact klk_eq a r
theorem hasN_mem {a : Nat} : ∀ {l : List Nat}, hasN a l = true → a ∈ l
  | b :: r, h => by
    unfold hasN at h
    split at h
    · rename_i e; rw [Nat.eq_of_beq_eq_true e]; exact .head _
    · exact .tail _ (hasN_mem h)
  | [], h => by cases h
noncomputable def callOk (T : Tab) (fn : List Addr) (a : Addr) : Bool := match tabFind T a with
  | some _ => true
  | none => hasN a fn
noncomputable def gtOk (K : Frag) (x : Str × Value) : Bool := match x.2 with
  | .ref a => nsIn K mainGlobals x.1 == some (some (.ref a))
  | .builtin i => (nsIn K mainGlobals x.1 == some none) && !(x.1 == ("__name__" : Str)) && (bootBuiltins x.1 == some (.builtin i))
  | .type i => (nsIn K mainGlobals x.1 == some none) && !(x.1 == ("__name__" : Str)) && (bootBuiltins x.1 == some (.type i))
  | _ => false
noncomputable def tName : Expr → Option Str
  | .Name x _ => some x
  | _ => none
noncomputable def tNames : List Expr → Option (List Str)
  | [] => some []
  | e :: r => match tName e, tNames r with
    | some x, some y => some (x :: y)
    | _, _ => none
noncomputable def isLocal (σ : St) (x : Str) : Bool := match lk x σ.sc.names with
  | some .local => true
  | _ => false
noncomputable def isLoc (sc : Scope) (x : Str) : Bool := match sc.names.lookup x with
  | some .local => true
  | _ => false
noncomputable def storeAll : List Str → List S → St → Option St
  | [], [], σ => some σ
  | x :: xs, v :: vs, σ => match isLocal σ x with
    | true => storeAll xs vs { σ with loc := aset x (.sc v) σ.loc }
    | false => none
  | _, _, _ => none
noncomputable def storeV (t : Expr) (v : V) (σ : St) : Option St :=
  match t with
  | .Name x _ => match isLocal σ x with
    | true => some { σ with loc := aset x v σ.loc }
    | false => none
  | .Tuple es _ _ => match tNames es with
    | some xs => match v with
      | .tup vs => storeAll xs vs σ
      | _ => none
    | none => none
  | _ => none

noncomputable def notSlice (e : Expr) : Bool := !(Nat.beq (ek e) 7)
section
variable (K : Frag) (T : Tab) (gt : List (Str × Value)) (fn : List Addr) (ih : Ev)
noncomputable def bltOf : Value → Option String
  | .builtin i => some i
  | _ => none
theorem bltOf_some {f : Value} {i : String} (h : bltOf f = some i) : f = .builtin i := by
  cases f with
  | builtin _ => exact congrArg Value.builtin (Option.some.inj h)
  | _ => exact no_none h
noncomputable def listO : O → Option (List V)
  | .list xs => some xs
  | _ => none
theorem listO_some {o : O} {xs : List V} (h : listO o = some xs) : o = .list xs := by
  cases o with
  | list _ => exact congrArg O.list (Option.some.inj h)
  | _ => exact no_none h
noncomputable def lenS (σ : St) : S → Option V
  | .str s => onlyIf (decide (s.length ≤ 4096)) (some (.sc (.int s.length)))
  | .sstr s _ => some (.sc (.sint s.length))
  | .ref l => bind2 (sget σ.objs l) fun o => bind2 (listO o) fun xs => some (.sc (.int xs.length))
  | _ => none
noncomputable def callB (f : Value) (vs : List V) (σ : St) : Option (V × St) := bind2 (bltOf f) fun i => match i == "len" with
  | true => bind2 (oneL vs) fun v => bind2 (scV v) fun x => bind2 (lenS σ x) fun o => some (o, σ)
  | false => match i == "ord" with
    | true => bind2 (oneL vs) fun v => bind2 (strV v) fun s => bind2 (oneL s.cps.toList) fun c => some (.sc (.int c), σ)
    | false => onlyIf (i == "max") (bind2 (twoL vs) fun q => bind2 (intV q.1) fun x => bind2 (intV q.2) fun y => some (.sc (.int (if y > x then y else x)), σ))

noncomputable def rangeV (t : String) (vs : List V) (σ : St) : Option (V × St) := onlyIf (t == "range") (bind2 (oneL vs) fun v => bind2 (intV v) fun n => some (.sc (.ref (slen σ.objs)), { σ with objs := spush σ.objs (.rng n) }))
noncomputable def argsV (es : List Expr) (σ : St) : Option (List V × St) := match es with
  | [] => some ([], σ)
  | e :: r => ih.es (e :: r) σ
noncomputable def plainIter (e : Expr) : Bool := Nat.ble (ek e) 2 || (Nat.beq (ek e) 4 || Nat.beq (ek e) 5)

noncomputable def stConst (c : Const) (σ : St) : Option (V × St) := match c with
    | .none => some (.sc .none, σ)
    | .bool b => some (.sc (.bool b), σ)
    | .int i => some (.sc (.int i), σ)
    | .str s => some (.sc (.str s), σ)
    | _ => none
noncomputable def stName (x : Str) (σ : St) : Option (V × St) := onlyIf (!seq x ("__debug__" : Str)) (bind2 (nameV gt x σ) fun v => some (v, σ))
noncomputable def stAttr (o : Expr) (f : Str) (σ : St) : Option (V × St) := onlyIf (plainBase o) (bind2 (ih.e o σ) fun q => bind2 (vAttr T q.2.objs q.1 f) fun u => some (u, q.2))
noncomputable def cmpT (l : Expr) (ops : List CmpOp) (rs : List Expr) (σ : St) : Option (Bool × St) :=
  bind2 (oneL ops) fun op => bind2 (oneL rs) fun r => onlyIf (!behindInMarks op r) (bind2 (ih.e l σ) fun p => bind2 (ih.e r p.2) fun q => bind2 (cmpV op q.2.objs p.1 q.1) fun b => some (b, q.2))
noncomputable def stCmp (l : Expr) (ops : List CmpOp) (rs : List Expr) (σ : St) : Option (V × St) := bind2 (cmpT ih l ops rs σ) fun q => some (.sc (.bool q.1), q.2)
noncomputable def boolS : S → Option Bool
  | .bool b => some b
  | _ => none
noncomputable def boolV (v : V) : Option Bool := bind2 (scV v) boolS
theorem boolV_some {v : V} {b : Bool} (h : boolV v = some b) : v = .sc (.bool b) := by
  obtain ⟨s, h1, h2⟩ := bind2_some h
  rw [scV_some h1]
  cases s with
  | bool _ => exact congrArg (fun b => V.sc (S.bool b)) (Option.some.inj h2)
  | _ => exact no_none h2
noncomputable def stAnd (pos : Pos) (xs : List Expr) (σ : St) : Option (V × St) := match xs with
  | [] => none
  | x :: r => match r with
    | [] => ih.e x σ
    | y :: r => bind2 (ih.e x σ) fun p => bind2 (boolV p.1) fun b => match b with
      | true => ih.e (.BoolOp .And (y :: r) pos) p.2
      | false => some (.sc (.bool false), p.2)
noncomputable def stOr (pos : Pos) (xs : List Expr) (σ : St) : Option (V × St) := match xs with
  | [] => none
  | x :: r => match r with
    | [] => ih.e x σ
    | y :: r => bind2 (ih.e x σ) fun p => bind2 (boolV p.1) fun b => match b with
      | true => some (.sc (.bool true), p.2)
      | false => ih.e (.BoolOp .Or (y :: r) pos) p.2
noncomputable def stBin (l : Expr) (op : Operator) (r : Expr) (σ : St) : Option (V × St) := bind2 (ih.e l σ) fun p => bind2 (ih.e r p.2) fun q => bind2 (binV op p.1 q.1) fun v => some (v, q.2)
noncomputable def stMinus (x : Expr) (σ : St) : Option (V × St) := bind2 (ih.e x σ) fun p => bind2 (intV p.1) fun i => some (.sc (.int (-i)), p.2)
noncomputable def stIf (t b o : Expr) (σ : St) : Option (V × St) := bind2 (ih.t t σ) fun p => match p.1 with
    | true => ih.e b p.2
    | false => ih.e o p.2
noncomputable def cutArgs : Expr → Option (Expr × Expr)
  | .Slice lo hi st _ => bind2 lo fun i => bind2 hi fun j => match st with
    | none => some (i, j)
    | some _ => none
  | _ => none
noncomputable def stCut (a i j : Expr) (σ : St) : Option (V × St) := bind2 (ih.e a σ) fun p => bind2 (ih.e i p.2) fun q => bind2 (ih.e j q.2) fun r => bind2 (cutV p.1 q.1 r.1) fun v => some (v, r.2)
noncomputable def stItem (a i : Expr) (σ : St) : Option (V × St) := onlyIf (notSlice i) (bind2 (ih.e a σ) fun p => bind2 (ih.e i p.2) fun q => bind2 (itemV q.2.objs p.1 q.1) fun v => some (v, q.2))
noncomputable def stSub (a i : Expr) (σ : St) : Option (V × St) := match cutArgs i with
  | some x => stCut ih a x.1 x.2 σ
  | none => stItem ih a i σ
noncomputable def stList (es : List Expr) (σ : St) : Option (V × St) := onlyIf (unstarred es) (bind2 (ih.es es σ) fun p => onlyIf (decide (p.1.length ≤ 1000)) (some (.sc (.ref (slen p.2.objs)), { p.2 with objs := spush p.2.objs (.list p.1) })))
noncomputable def stTup (es : List Expr) (σ : St) : Option (V × St) := onlyIf (unstarred es) (bind2 (ih.es es σ) fun p => bind2 (scs p.1) fun ss => onlyIf (decide (ss.length ≤ 1000)) (some (.tup ss, p.2)))
noncomputable def stDict (ks : List (Option Expr)) (vs : List Expr) (σ : St) : Option (V × St) := match ks with
  | [] => match vs with
    | [] => some (.sc (.ref (slen σ.objs)), { σ with objs := spush σ.objs (.sdict []) })
    | _ :: _ => none
  | k :: ks => match vs with
    | [] => none
    | v :: vs => bind2 (constPairs (k :: ks) (v :: vs)) fun ps => onlyIf (Nat.ble ps.length 10) (some (.sc (.ref (slen σ.objs)), { σ with objs := spush σ.objs (.sdict (ps.map fun x => (x.1, .sc (.int x.2)))) }))
noncomputable def stComp (gens : List Comprehension) (scope : Scope) (σ : St) : Option (V × St) := bind2 (oneL gens) fun c => onlyIf (c.ifs.isEmpty && c.is_async == 0 && (compOk scope && plainIter c.iter)) (bind2 (ih.e c.iter σ) fun p => bind2 (refV p.1) fun l =>
  bind2 (sget p.2.objs l) fun o => bind2 (listO o) fun xs => onlyIf xs.isEmpty (some (.sc (.ref (slen p.2.objs)), { p.2 with objs := spush p.2.objs (.list []) })))
noncomputable def mAppend (l : Nat) (args : List Expr) (σ : St) : Option (V × St) := bind2 (argsV ih args σ) fun q => bind2 (oneL q.1) fun v => bind2 (pushV q.2.objs l v) fun os => some (.sc .none, { q.2 with objs := os })
noncomputable def mGet (l : Nat) (args : List Expr) (σ : St) : Option (V × St) := bind2 (argsV ih args σ) fun q => bind2 (getV q.2.objs l q.1) fun v => some (v, q.2)
noncomputable def mList (l : Nat) (m : Str) (args : List Expr) (σ : St) : Option (V × St) := match seq m ("append" : Str) && isL σ.objs l with
  | true => mAppend ih l args σ
  | false => onlyIf (seq m ("get" : Str) && isSd σ.objs l) (mGet ih l args σ)
noncomputable def mDef (g : Addr) (v : V) (args : List Expr) (σ : St) : Option (V × St) := bind2 (argsV ih args σ) fun q => ih.c (.ref g) (v :: q.1) q.2
noncomputable def stMeth (o : Expr) (m : Str) (ap : Pos) (args : List Expr) (pos : Pos) (σ : St) : Option (V × St) := onlyIf (plainBase o && unstarred args && (Nat.blt args.length 20 && ap.endLine == pos.line))
  (bind2 (ih.e o σ) fun p => match vMeth T p.2.objs p.1 m with
    | some g => mDef ih g p.1 args p.2
    | none => bind2 (refV p.1) fun l => mList ih l m args p.2)
noncomputable def rawS : S → Option Value
  | .raw f => some f
  | _ => none
noncomputable def rawV (v : V) : Option Value := bind2 (scV v) rawS
theorem rawV_some {v : V} {f : Value} (h : rawV v = some f) : v = .sc (.raw f) := by
  obtain ⟨s, h1, h2⟩ := bind2_some h
  rw [scV_some h1]
  cases s with
  | raw _ => exact congrArg (fun b => V.sc (S.raw b)) (Option.some.inj h2)
  | _ => exact no_none h2
noncomputable def callF (f : Value) (vs : List V) (σ : St) : Option (V × St) := match f with
  | .type t => rangeV t vs σ
  | .ref a => onlyIf (callOk T fn a) (ih.c (.ref a) vs σ)
  | .builtin i => callB (.builtin i) vs σ
  | _ => none
noncomputable def stFn (x : Str) (xp : Pos) (args : List Expr) (σ : St) : Option (V × St) := onlyIf (unstarred args) (bind2 (ih.e (.Name x xp) σ) fun p => bind2 (rawV p.1) fun f => bind2 (argsV ih args p.2) fun q => callF T fn ih f q.1 q.2)
noncomputable def stCall (f : Expr) (args : List Expr) (kws : List Keyword) (pos : Pos) (σ : St) : Option (V × St) := match kws with
  | [] => match f with
    | .Attribute o m ap => stMeth T ih o m ap args pos σ
    | .Name x xp => stFn T fn ih x xp args σ
    | _ => none
  | _ => none
noncomputable def stepE (e : Expr) (σ : St) : Option (V × St) :=
  match e with
  | .Constant c _ _ => stConst c σ
  | .Name x _ => stName gt x σ
  | .Attribute o f _ => stAttr T ih o f σ
  | .Compare l ops rs _ => stCmp ih l ops rs σ
  | .BoolOp op xs pos => match op with
    | .And => stAnd ih pos xs σ
    | .Or => stOr ih pos xs σ
  | .BinOp l op r _ => stBin ih l op r σ
  | .UnaryOp op x _ => match op with
    | .USub => stMinus ih x σ
    | _ => none
  | .IfExp t b o _ => stIf ih t b o σ
  | .Subscript a i _ => stSub ih a i σ
  | .List es _ => stList ih es σ
  | .Tuple es _ _ => stTup ih es σ
  | .Dict ks vs _ => stDict ks vs σ
  | .ListComp _ gens scope _ => stComp ih gens scope σ
  | .Call f args kws pos => stCall T fn ih f args kws pos σ
  | _ => none

noncomputable def stepEs : List Expr → St → Option (List V × St)
  | [], σ => some ([], σ)
  | e :: r, σ => bind2 (ih.e e σ) fun p => bind2 (ih.es r p.2) fun q => some (p.1 :: q.1, q.2)

noncomputable def tPlain (e : Expr) (σ : St) : Option (Bool × St) := bind2 (ih.e e σ) fun p => bind2 (boolV p.1) fun b => some (b, p.2)
noncomputable def tAnd (pos : Pos) (xs : List Expr) (σ : St) : Option (Bool × St) := match xs with
  | [] => some (true, σ)
  | x :: r => bind2 (ih.t x σ) fun p => match p.1 with
    | true => ih.t (.BoolOp .And r pos) p.2
    | false => some (false, p.2)
noncomputable def tOr (pos : Pos) (xs : List Expr) (σ : St) : Option (Bool × St) := match xs with
  | [] => some (false, σ)
  | x :: r => bind2 (ih.t x σ) fun p => match p.1 with
    | true => some (true, p.2)
    | false => ih.t (.BoolOp .Or r pos) p.2
noncomputable def stepT (e : Expr) (σ : St) : Option (Bool × St) :=
  match e with
  | .Compare l ops rs _ => cmpT ih l ops rs σ
  | .BoolOp op xs pos => match op with
    | .And => tAnd ih pos xs σ
    | .Or => tOr ih pos xs σ
  | .UnaryOp op x _ => match op with
    | .Not => bind2 (ih.t x σ) fun p => some (!p.1, p.2)
    | _ => none
  | .Name x p => tPlain ih (.Name x p) σ
  | .Attribute o f p => tPlain ih (.Attribute o f p) σ
  | .Call f as ks p => tPlain ih (.Call f as ks p) σ
  | .Constant c k p => tPlain ih (.Constant c k p) σ
  | _ => none

noncomputable def stepW (test : Expr) (body : List Stmt) : Nat → St → Option (Ou × St)
  | 0, _ => none
  | k + 1, σ => bind2 (ih.t test σ) fun p => match p.1 with
    | true => bind2 (ih.ss body p.2) fun q => match q.1 with
      | .ret v => some (.ret v, q.2)
      | _ => stepW test body k q.2
    | false => some (.next, p.2)
inductive Src where
  | lst (l : Nat) | tup (xs : List S) | rng (n : Int)
noncomputable def srcOf (objs : Sto) (v : V) : Option Src := match v with
  | .sc (.ref l) => match sget objs l with
    | some (.list _) => some (.lst l)
    | some (.rng n) => match decide (0 ≤ n) && decide (n ≤ 1000) with
      | true => some (.rng n)
      | false => none
    | _ => none
  | .tup xs => some (.tup xs)
  | _ => none
noncomputable def srcGet (src : Src) (objs : Sto) (k : Nat) : Option (Option V) := match src with
  | .lst l => match sget objs l with
    | some (.list xs) => some xs[k]?
    | _ => none
  | .tup xs => match xs[k]? with
    | some v => some (some (.sc v))
    | none => some none
  | .rng n => match decide ((k : Int) < n) with
    | true => some (some (.sc (.int k)))
    | false => some none
noncomputable def stepF (target : Expr) (body : List Stmt) (src : Src) : Nat → Nat → St → Option (Ou × St)
  | 0, _, _ => none
  | f + 1, k, σ => match srcGet src σ.objs k with
    | some (some v) => bind2 (storeV target v σ) fun τ => bind2 (ih.ss body τ) fun q => match q.1 with
      | .ret v => some (.ret v, q.2)
      | _ => stepF target body src f (k + 1) q.2
    | some none => some (.next, σ)
    | none => none
noncomputable def asName (x : Str) (p : Pos) (value : Expr) (σ : St) : Option (Ou × St) := match plainVal value with
    | true => bind2 (ih.e value σ) fun q => bind2 (storeV (.Name x p) q.1 q.2) fun τ => some (.next, τ)
    | false => none
noncomputable def asAttr (o : Expr) (f : Str) (value : Expr) (σ : St) : Option (Ou × St) := match plainVal value with
    | true => bind2 (ih.e value σ) fun p => bind2 (ih.e o p.2) fun q => bind2 (vSetAttr T q.2.objs q.1 f p.1) fun os => some (.next, { q.2 with objs := os })
    | false => none
noncomputable def asSub (o i : Expr) (value : Expr) (σ : St) : Option (Ou × St) := match plainVal value with
    | true => bind2 (ih.e value σ) fun p => bind2 (ih.e o p.2) fun q => bind2 (ih.e i q.2) fun r => bind2 (putV r.2.objs q.1 r.1 p.1) fun os => some (.next, { r.2 with objs := os })
    | false => none
noncomputable def asTup (es : List Expr) (k : Nat) (p : Pos) (value : Expr) (σ : St) : Option (Ou × St) := match plainSwap value with
    | true => bind2 (ih.e value σ) fun q => bind2 (storeV (.Tuple es k p) q.1 q.2) fun τ => some (.next, τ)
    | false => none
noncomputable def asOne (t value : Expr) (σ : St) : Option (Ou × St) := match t with
  | .Name x p => asName ih x p value σ
  | .Attribute o f _ => asAttr T ih o f value σ
  | .Subscript o i _ => asSub ih o i value σ
  | .Tuple es k p => asTup ih es k p value σ
  | _ => none
noncomputable def asAll (ts : List Expr) (value : Expr) (σ : St) : Option (Ou × St) := match ts with
  | t :: r => match r with
    | [] => asOne T ih t value σ
    | _ => none
  | _ => none
noncomputable def augAttr (o : Expr) (f : Str) (value : Expr) (σ : St) : Option (Ou × St) := bind2 (ih.e o σ) fun p => bind2 (vAttr T p.2.objs p.1 f) fun old => bind2 (ih.e value p.2) fun q => bind2 (binV .Add old q.1) fun v =>
      match notText v with
      | true => bind2 (vSetAttr T q.2.objs p.1 f v) fun os => some (.next, { q.2 with objs := os })
      | false => none
noncomputable def augName (x : Str) (value : Expr) (σ : St) : Option (Ou × St) := match isLocal σ x with
    | true => bind2 (lk x σ.loc) fun old => bind2 (ih.e value σ) fun q => bind2 (binV .Add old q.1) fun v =>
      match notText v && isLocal q.2 x with
      | true => some (.next, { q.2 with loc := aset x v q.2.loc })
      | false => none
    | false => none
noncomputable def augTo (t value : Expr) (σ : St) : Option (Ou × St) := match t with
  | .Name x _ => augName ih x value σ
  | .Attribute o f _ => augAttr T ih o f value σ
  | _ => none
noncomputable def augOp (t : Expr) (op : Operator) (value : Expr) (σ : St) : Option (Ou × St) := match op with
  | .Add => augTo T ih t value σ
  | _ => none
noncomputable def forS (target iter : Expr) (body : List Stmt) (σ : St) : Option (Ou × St) := match plainIter iter with
    | true => bind2 (ih.e iter σ) fun p => bind2 (srcOf p.2.objs p.1) fun src => stepF ih target body src 40 0 p.2
    | false => none
noncomputable def exprS (e : Expr) (σ : St) : Option (Ou × St) := match plainVal e with
    | true => bind2 (ih.e e σ) fun p => some (.next, p.2)
    | false => none
noncomputable def ifS (test : Expr) (body orelse : List Stmt) (σ : St) : Option (Ou × St) := bind2 (ih.t test σ) fun p => match p.1 with
    | true => ih.ss body p.2
    | false => ih.ss orelse p.2
noncomputable def stepS (st : Stmt) (σ : St) : Option (Ou × St) :=
  match st with
  | .Assign ts value _ => asAll T ih ts value σ
  | .AugAssign t op value _ => augOp T ih t op value σ
  | .For target iter body orelse _ => match orelse with
    | [] => forS ih target iter body σ
    | _ => none
  | .Expr e _ => exprS ih e σ
  | .If test body orelse _ => ifS ih test body orelse σ
  | .While test body orelse _ => match orelse with
    | [] => stepW ih test body 24 σ
    | _ => none
  | .Return x _ => match x with
    | none => some (.ret (.sc .none), σ)
    | some e => bind2 (ih.e e σ) fun p => some (.ret p.1, p.2)
  | .Continue _ => some (.cont, σ)
  | .Pass _ => some (.next, σ)
  | _ => none
noncomputable def stepSs : List Stmt → St → Option (Ou × St)
  | [], σ => some (.next, σ)
  | s :: r, σ => bind2 (ih.s s σ) fun p => match p.1 with
    | .next => ih.ss r p.2
    | o => some (o, p.2)

noncomputable def fillS {α : Type} : List (Str × α) → List (Str × α) → List (Str × α)
  | sl, [] => sl
  | sl, (x, d) :: r => match sl.lookup x with
    | none => fillS (sl ++ [(x, d)]) r
    | some _ => fillS sl r
noncomputable def bindsOf {α : Type} (ns : List Str) (vs ds : List α) : List (Str × α) :=
  ns.filterMap fun n => ((fillS (ns.zip vs) ((ns.drop (ns.length - ds.length)).zip ds)).lookup n).map (n, ·)
noncomputable def dfltsV (dV : Value) : Option (List V) := match dV with
  | .none => some []
  | .ref d => match klk d K with
    | some ⟨_, _, .seq items _, _⟩ => ofVals items.toList
    | _ => none
  | _ => none
noncomputable def fillOk {α : Type} (ns : List Str) (vs : List α) (ds : List α) : Bool := Nat.ble vs.length ns.length && Nat.ble ds.length ns.length && ((ns.take (ns.length - ds.length)).filter fun x => ((ns.zip vs).lookup x).isNone).isEmpty
noncomputable def argsOk (p : Arguments) : Bool := p.posonlyargs.isEmpty && p.vararg.isNone && p.kwonlyargs.isEmpty && p.kwarg.isNone
noncomputable def scopeOk (sc : Scope) (ns : List Str) : Bool := !sc.isCoroutine && !sc.isGenerator && (sc.kind == .function) && sc.names.all (fun x => !(x.2 == .cell)) && ns.all fun x => lk x sc.names == some .local
noncomputable def stepC (f : Value) (vs : List V) (σ : St) : Option (V × St) :=
  match f with
  | .ref a => match tabFind T a with
    | some c => bind2 (ih.c (.ref c.init) (.sc (.ref (slen σ.objs + 1)) :: vs) { σ with objs := spush (spush σ.objs (.idict [])) (.inst a (slen σ.objs)) }) fun q => match q.1 with
      | .sc .none => some (.sc (.ref (slen σ.objs + 1)), q.2)
      | _ => none
    | none => match hasN a fn with
      | true => match klk a K with
        | some ⟨_, _, .func fd, _⟩ => match fd.body with
          | .stmts body => bind2 (dfltsV K fd.defaults) fun ds => match fillOk (fd.params.args.map (·.arg)) vs ds with
            | true => bind2 (ih.ss body { σ with sc := fd.scope, loc := (bindsOf (fd.params.args.map (·.arg)) vs ds).reverse }) fun q =>
              some (match q.1 with | .ret v => v | _ => .sc .none, { q.2 with sc := σ.sc, loc := σ.loc })
            | false => none
          | _ => none
        | _ => none
      | false => none
  | _ => none
noncomputable def fnOk (K : Frag) (a : Addr) : Bool := match K.lookup a with
  | some ⟨_, _, .func fd, _⟩ => argsOk fd.params && scopeOk fd.scope (fd.params.args.map (·.arg)) && codeIn K fd.code fd.qualname && (fd.globals == mainGlobals) && fd.closure.isEmpty && (fd.builtins == builtinsNs) && keepIn K (.ref a)
  | _ => false
noncomputable def step : Ev := ⟨stepE T gt fn ih, stepEs ih, stepT ih, stepS T ih, stepSs ih, stepC K T fn ih⟩
end
noncomputable def ev (K : Frag) (T : Tab) (gt : List (Str × Value)) (fn : List Addr) : Nat → Ev
  | 0 => ⟨fun _ _ => none, fun _ _ => none, fun _ _ => none, fun _ _ => none, fun _ _ => none, fun _ _ _ => none⟩
  | n + 1 => step K T gt fn (ev K T gt fn n)
end Mine
-- M3
namespace Mine

section
variable {prog : Program} {w : World}
noncomputable def ROs (prog : Program) (w : World) (p : P) : List O → List Obj → Prop
  | [], [] => True
  | o :: r, x :: y => RO prog w p o x ∧ ROs prog w p r y
  | _, _ => False

theorem ROinst.mono {p q : P} (h : p.lw q) {d : Nat} {C : Addr} {x : Obj} : RO prog w p (.inst C d) x → RO prog w q (.inst C d) x
  | ⟨a, h1, h2⟩ => by
    obtain ⟨a', h3, h4⟩ := RS.monoW (s := .ref d) (x := .ref a) h ⟨a, h1, rfl⟩
    cases h4
    exact ⟨a, h3, h2⟩
theorem ROidict.mono {p q : P} (h : p.lw q) {es x} : ROidict w p es x → ROidict w q es x
  | ⟨es', n, h1, h2, h3⟩ => ⟨es', n, h1, h2.monoW h, h3⟩
theorem ROlist.mono {p q : P} (h : p.lw q) {xs x} : ROlist p xs x → ROlist q xs x
  | ⟨vs, n, h1, h2, h3⟩ => ⟨vs, n, h1, h2.monoW h, h3⟩
theorem ROslist.mono {p q : P} (h : p.lw q) {ss n kn x} : ROslist p ss n kn x → ROslist q ss n kn x
  | ⟨vs, n, h1, h2, h3⟩ => ⟨vs, n, h1, h2.monoW h, h3⟩
theorem ROsdict.mono {p q : P} (h : p.lw q) {es x} : ROsdict prog w p es x → ROsdict prog w q es x
  | ⟨kvs, h1, h2, h3, h4⟩ => ⟨kvs, h1, h2, h3.monoW h, h4⟩
theorem ROxdict.mono {p q : P} (h : p.lw q) {ks n kn x} : ROxdict prog w p ks n kn x → ROxdict prog w q ks n kn x
  | ⟨kvs, h1, h2, h3, h4⟩ => ⟨kvs, h1, h2, h3, fun x hx => by
      have := h4 x hx
      revert this
      cases x.2 with
      | none => exact id
      | some v => exact fun ⟨y, a, b⟩ => ⟨y, a, b.monoW h⟩⟩
theorem ROjdict.mono {p q : P} (h : p.lw q) {is n lt x} : ROjdict prog w p is n lt x → ROjdict prog w q is n lt x
  | ⟨kvs, h1, h2, h3, h4⟩ => ⟨kvs, h1, h2, h3, h.β ▸ h4⟩
theorem ROjnew.mono {p q : P} (h : p.lw q) {is n k x} : ROjnew prog w p is n k x → ROjnew prog w q is n k x
  | ⟨kvs, h1, h2, h3⟩ => ⟨kvs, h1, h.β ▸ h2, h3⟩
theorem ROtdict.mono {p q : P} (h : p.lw q) {n x} : ROtdict prog w p n x → ROtdict prog w q n x
  | ⟨xs, es, ep, h1, h2, h3, h4, h5, h6⟩ => ⟨xs, es, ep, h1, h2, h3, h4, fun x hx => let ⟨ys, a, b⟩ := h5 x hx; ⟨ys, h.fr _ a (isIt_tup _), b⟩, h.β ▸ h6⟩
theorem ROslst.mono {p q : P} (h : p.lw q) {xs n x} : ROslst p xs n x → ROslst q xs n x
  | ⟨vs, n, h1, h2, h3⟩ => ⟨vs, n, h1, h2.monoW h, h3⟩
theorem ROalist.mono {p q : P} (h : p.lw q) {n x} : ROalist p n x → ROalist q n x
  | ⟨vs, n, h1, h2⟩ => ⟨vs, n, h1, h.β ▸ h2⟩
theorem ROdice.mono {p q : P} (h : p.lw q) {fut xs k x} : ROdice p fut xs k x → ROdice q fut xs k x
  | ⟨row, n, t, j, ys, h1, h2, h3⟩ => ⟨row, n, t, j, ys, h1, h.fr _ h2 (isIt_list _ _), h3⟩
theorem RO.monoW {p q : P} (h : p.lw q) : ∀ {o x}, RO prog w p o x → RO prog w q o x
  | .gone, _, _ => trivial
  | .inst _ _, _, e => ROinst.mono h e
  | .idict _, _, e => ROidict.mono h e
  | .list _, _, e => ROlist.mono h e
  | .slist _ _ _, _, e => ROslist.mono h e
  | .sdict _, _, e => ROsdict.mono h e
  | .xdict _ _ _, _, e => ROxdict.mono h e
  | .jdict _ _ _, _, e => ROjdict.mono h e
  | .jnew _ _ _, _, e => ROjnew.mono h e
  | .tdict _, _, e => ROtdict.mono h e
  | .slst _ _, _, e => ROslst.mono h e
  | .alist _, _, e => ROalist.mono h e
  | .dice _ _ _, _, e => ROdice.mono h e
  | .rng _, _, e => e
theorem ROs.monoW {p q : P} (h : p.lw q) : ∀ {o x}, ROs prog w p o x → ROs prog w q o x
  | [], [], _ => trivial
  | _ :: _, _ :: _, e => ⟨e.1.monoW h, ROs.monoW h e.2⟩
  | [], _ :: _, e => e.elim
  | _ :: _, [], e => e.elim
theorem RO.mono {p q : P} (h : p.le q) {o x} (e : RO prog w p o x) : RO prog w q o x := RO.monoW h.lw e
theorem ROs.mono {p q : P} (h : p.le q) {o x} (e : ROs prog w p o x) : ROs prog w q o x := ROs.monoW h.lw e
theorem ROs.length {p : P} : ∀ {o x}, ROs prog w p o x → o.length = x.length
  | [], [], _ => rfl
  | _ :: _, _ :: _, e => congrArg Nat.succ (ROs.length e.2)
  | [], _ :: _, e => e.elim
  | _ :: _, [], e => e.elim
theorem ROs.get {p : P} : ∀ {o x} {l : Nat} {b}, ROs prog w p o x → o[l]? = some b → ∃ y, x[l]? = some y ∧ RO prog w p b y
  | _ :: _, _ :: _, 0, _, e, h => by cases h; exact ⟨_, rfl, e.1⟩
  | _ :: _, _ :: _, l + 1, _, e, h => ROs.get (l := l) e.2 h
  | [], _, _, _, _, h => by cases h
  | _ :: _, [], _, _, e, _ => e.elim
theorem ROs.set {p : P} {b : O} {y : Obj} (hb : RO prog w p b y) : ∀ {o x} {l : Nat}, ROs prog w p o x → ROs prog w p (o.set l b) (x.set l y)
  | [], [], _, _ => trivial
  | _ :: _, _ :: _, 0, e => ⟨hb, e.2⟩
  | _ :: _, _ :: _, l + 1, e => ⟨e.1, ROs.set hb (l := l) e.2⟩
  | [], _ :: _, _, e => e.elim
  | _ :: _, [], _, e => e.elim
theorem ROs.append {p : P} {b : O} {y : Obj} (hb : RO prog w p b y) : ∀ {o x}, ROs prog w p o x → ROs prog w p (o ++ [b]) (x ++ [y])
  | [], [], _ => ⟨hb, trivial⟩
  | _ :: _, _ :: _, e => ⟨e.1, ROs.append hb e.2⟩
  | [], _ :: _, e => e.elim
  | _ :: _, [], e => e.elim

noncomputable def RL (p : P) (loc : List (Str × V)) (m : Str → Option Value) : Prop := ∀ x v, loc.lookup x = some v → ∃ y, m x = some y ∧ RV p v y
theorem RL.monoW {p q : P} {loc m} (h : p.lw q) (x : RL p loc m) : RL q loc m := fun y v e => let ⟨z, a, b⟩ := x y v e; ⟨z, a, b.monoW h⟩
theorem RL.mono {p q : P} {loc m} (h : p.le q) (x : RL p loc m) : RL q loc m := x.monoW h.lw
theorem lookup_aset (x : Str) (v : V) : ∀ (l : List (Str × V)) (y : Str), (aset x v l).lookup y = if y = x then some v else l.lookup y
  | [], y => by
    show (match y == x with | true => some v | false => none) = _
    by_cases h : y = x
    · subst h; simp
    · have : (y == x) = false := by simpa using h
      rw [this, if_neg h]; rfl
  | (z, u) :: r, y => by
    unfold aset
    rw [seq_eq]
    cases hz : (z == x) with
    | true =>
      have : z = x := by simpa using hz
      subst this
      simp only [List.lookup_cons]
      by_cases h : y = z
      · subst h; simp
      · have : (y == z) = false := by simpa using h
        rw [this, if_neg h]
    | false =>
      have hzx : z ≠ x := by simpa using hz
      simp only [List.lookup_cons]
      by_cases h : y = z
      · subst h; simp [hzx]
      · have : (y == z) = false := by simpa using h
        simp only [this]
        exact lookup_aset x v r y
theorem RL.aset {p : P} {loc m} {x : Str} {v : V} {y : Value} (R : RL p loc m) (h : RV p v y) : RL p (aset x v loc) fun z => if z = x then some y else m z := by
  intro z u e
  rw [lookup_aset] at e
  by_cases hz : z = x
  · rw [if_pos hz] at e
    cases e
    exact ⟨y, if_pos hz, h⟩
  · rw [if_neg hz] at e
    obtain ⟨q, a, b⟩ := R z u e
    exact ⟨q, (if_neg hz).trans a, b⟩

noncomputable def isD : O → Bool
  | .sdict _ | .xdict _ _ _ | .jdict _ _ _ | .jnew _ _ _ | .tdict _ => true
  | _ => false
noncomputable def Big (r : List Addr) (os : List O) : Prop := ∀ (l : Nat) (a : Addr) (o : O), r[l]? = some a → os[l]? = some o → isD o = true → (a == sysModules) = false
theorem Big.set {r : List Addr} {os : List O} (B : Big r os) {i : Nat} {b : O} (hb : isD b = true → ∃ o, os[i]? = some o ∧ isD o = true) : Big r (os.set i b) := by
  intro l a o h1 h2 h3
  by_cases e : i = l
  · subst e
    rw [List.getElem?_set] at h2
    simp only [if_true] at h2
    split at h2
    · cases h2
      obtain ⟨o', h4, h5⟩ := hb h3
      exact B i a o' h1 h4 h5
    · cases h2
  · rw [List.getElem?_set_ne e] at h2
    exact B l a o h1 h2 h3
theorem Big.append {r : List Addr} {os : List O} (B : Big r os) (hl : r.length = os.length) {x : Addr} {b : O} (hb : isD b = true → (x == sysModules) = false) : Big (r ++ [x]) (os ++ [b]) := by
  intro l a o h1 h2 h3
  by_cases e : l < os.length
  · rw [List.getElem?_append_left (by omega)] at h1
    rw [List.getElem?_append_left e] at h2
    exact B l a o h1 h2 h3
  · rw [List.getElem?_append_right (by omega)] at h1
    rw [List.getElem?_append_right (by omega)] at h2
    have : l - os.length = 0 := by
      have := (List.getElem?_eq_some_iff.mp h2).1
      simp at this; omega
    rw [this] at h2
    have : l - r.length = 0 := by omega
    rw [this] at h1
    cases h1; cases h2
    exact hb h3

structure RepX (prog : Program) (w : World) (h₀ : Heap) (L : Addr) (p : P) (σ : St) (h : Heap) (m : Str → Option Value) (obs : List Obj) : Prop where
  F : Fr h₀ L h m
  N : News h₀ L h (p.r.zip obs ++ p.fr)
  loc : RL p σ.loc m
  len : p.r.length = obs.length
  ob : ROs prog w p (toL σ.objs) obs
  nd : p.r.Nodup
  off : ∀ a ∈ p.r, ∀ q ∈ p.fr, a ≠ q.1
  big : Big p.r (toL σ.objs)
inductive Rep (prog : Program) (w : World) (h₀ : Heap) (L : Addr) (p : P) (σ : St) (h : Heap) : Prop
  | mk (m : Str → Option Value) (obs : List Obj) (R : RepX prog w h₀ L p σ h m obs)
inductive Got (prog : Program) (w : World) (p : P) (obs : List Obj) (l : Nat) (o : O) : Prop
  | mk (a : Addr) (ob : Obj) (h1 : p.r[l]? = some a) (h2 : obs[l]? = some ob) (h3 : RO prog w p o ob) (h4 : (a, ob) ∈ p.r.zip obs)

section
variable {h₀ h h' : Heap} {L : Addr} {p : P} {σ : St} {m : Str → Option Value} {obs : List Obj}
theorem zip_get {α β : Type} : ∀ {r : List α} {s : List β} {l : Nat} {a b}, r[l]? = some a → s[l]? = some b → (r.zip s)[l]? = some (a, b)
  | _ :: _, _ :: _, 0, _, _, h, g => by cases h; cases g; rfl
  | _ :: _, _ :: _, l + 1, _, _, h, g => zip_get (l := l) h g
  | [], _, _, _, _, h, _ => by cases h
  | _ :: _, [], _, _, _, _, g => by cases g
theorem RepX.get (R : RepX prog w h₀ L p σ h m obs) {l : Nat} {o : O} (e : sget σ.objs l = some o) : Got prog w p obs l o := by
  obtain ⟨ob, h1, h2⟩ := R.ob.get ((toL_get _ _).trans e)
  have hl : l < p.r.length := by rw [R.len]; exact (List.getElem?_eq_some_iff.mp h1).1
  refine ⟨p.r[l], ob, List.getElem?_eq_getElem hl, h1, h2, ?_⟩
  exact List.mem_of_getElem? (zip_get (List.getElem?_eq_getElem hl) h1)
theorem RepX.bigAt {l : Nat} {a : Addr} {o : O} (R : RepX prog w h₀ L p σ h m obs) (hl : p.r[l]? = some a) (e : sget σ.objs l = some o) (hD : isD o = true) : (a == sysModules) = false := R.big l a o hl ((toL_get _ _).trans e) hD
theorem RepX.mem {a : Addr} {ob : Obj} (_ : RepX prog w h₀ L p σ h m obs) (hm : (a, ob) ∈ p.r.zip obs) : (a, ob) ∈ p.r.zip obs ++ p.fr := List.mem_append_left _ hm
theorem RepX.heap {a : Addr} {ob : Obj} (R : RepX prog w h₀ L p σ h m obs) (hm : (a, ob) ∈ p.r.zip obs) : h.get? a = some ob := (R.N _ (R.mem hm)).1

theorem zip_set {α β : Type} : ∀ (r : List α) (s : List β) (l : Nat) (b : β), r.zip (s.set l b) = match r[l]? with | some a => (r.zip s).set l (a, b) | none => r.zip s
  | [], _, _, _ => by simp
  | _ :: _, [], l, _ => by cases l <;> simp <;> split <;> rfl
  | x :: r, y :: s, 0, b => by simp
  | x :: r, y :: s, l + 1, b => by
    simp only [List.set_cons_succ, List.zip_cons_cons, List.getElem?_cons_succ]
    rw [zip_set r s l b]
    cases r[l]? <;> rfl

theorem upd_at {d : Addr} {o o' : Obj} : ∀ {r : List Addr} {s : List Obj} {l : Nat}, r[l]? = some d → s[l]? = some o → r.Nodup → Upd d o o' (r.zip s) (r.zip (s.set l o'))
  | x :: r, y :: s, 0, h, g, nd => by
    cases h; cases g
    refine .head fun q hq => ?_
    have hq1 : q.1 ∈ r := (List.of_mem_zip (show (q.1, q.2) ∈ r.zip s from hq)).1
    intro e
    exact (List.nodup_cons.mp nd).1 (e ▸ hq1)
  | x :: r, y :: s, l + 1, h, g, nd => by
    refine .tail ?_ (upd_at (l := l) h g (List.nodup_cons.mp nd).2)
    intro (e : x = d)
    have : d ∈ r := List.mem_of_getElem? (show r[l]? = some d from h)
    rw [← e] at this
    exact (List.nodup_cons.mp nd).1 this
  | [], _, _, h, _, _ => by cases h
  | _ :: _, [], _, _, g, _ => by cases g
theorem upd_app {d : Addr} {o o' : Obj} {t : List (Addr × Obj)} (ht : ∀ q ∈ t, q.1 ≠ d) : ∀ {l l' : List (Addr × Obj)}, Upd d o o' l l' → Upd d o o' (l ++ t) (l' ++ t)
  | _, _, .head h => .head fun q hq => by
    rcases List.mem_append.mp hq with z | z
    · exact h q z
    · exact ht q z
  | _, _, .tail h r => .tail h (upd_app ht r)
theorem RepX.upd (R : RepX prog w h₀ L p σ h m obs) {l : Nat} {a : Addr} {o o' : Obj} (hr : p.r[l]? = some a) (ho : obs[l]? = some o) : Upd a o o' (p.r.zip obs ++ p.fr) (p.r.zip (obs.set l o') ++ p.fr) :=
  upd_app (fun q hq e => R.off a (List.mem_of_getElem? hr) q hq e.symm) (upd_at hr ho R.nd)

theorem RepX.set (R : RepX prog w h₀ L p σ h m obs) {l : Nat} {o' : Obj} {b : O} (F : Fr h₀ L h' m) (N : News h₀ L h' (p.r.zip (obs.set l o') ++ p.fr)) (hb : RO prog w p b o') (hD : isD b = true → ∃ o, sget σ.objs l = some o ∧ isD o = true) : RepX prog w h₀ L p { σ with objs := sset σ.objs l b } h' m (obs.set l o') :=
  ⟨F, N, R.loc, by rw [List.length_set]; exact R.len, by rw [toL_set]; exact R.ob.set hb, R.nd, R.off, by rw [toL_set]; exact R.big.set fun h => let ⟨o, e, d⟩ := hD h; ⟨o, (toL_get _ _).trans e, d⟩⟩
theorem RepX.same (R : RepX prog w h₀ L p σ h m obs) (F : Fr h₀ L h' m) (N : News h₀ L h' (p.r.zip obs ++ p.fr)) : RepX prog w h₀ L p σ h' m obs := ⟨F, N, R.loc, R.len, R.ob, R.nd, R.off, R.big⟩
theorem RepX.store (R : RepX prog w h₀ L p σ h m obs) {x : Str} {v : V} {y : Value} (hv : RV p v y) (F : Fr h₀ L h' fun z => if z = x then some y else m z) (N : News h₀ L h' (p.r.zip obs ++ p.fr)) :
    RepX prog w h₀ L p { σ with loc := aset x v σ.loc } h' (fun z => if z = x then some y else m z) obs := ⟨F, N, R.loc.aset hv, R.len, R.ob, R.nd, R.off, R.big⟩

theorem RepX.alloc (R : RepX prog w h₀ L p σ h m obs) {a : Addr} {ob : Obj} {o : O} (F : Fr h₀ L h' m) (N : News h₀ L h' ((a, ob) :: (p.r.zip obs ++ p.fr))) (hlt : ∀ q ∈ p.r.zip obs ++ p.fr, q.1 ≠ a)
    (ho : RO prog w { p with r := p.r ++ [a] } o ob) (hD : isD o = true → (a == sysModules) = false) : p.le { p with r := p.r ++ [a] } ∧ RepX prog w h₀ L { p with r := p.r ++ [a] } { σ with objs := spush σ.objs o } h' m (obs ++ [ob]) := by
  have le : p.le { p with r := p.r ++ [a] } := ⟨rfl, List.prefix_append _ _, fun _ h => h⟩
  refine ⟨le, F, fun q hq => N q ?_, R.loc.mono le, by simp [R.len], by rw [toL_push]; exact (R.ob.mono le).append ho, ?_, ?_, by rw [toL_push]; exact R.big.append (R.len.trans R.ob.length.symm) hD⟩
  · rw [show ({ p with r := p.r ++ [a] } : P).r.zip (obs ++ [ob]) = p.r.zip obs ++ [(a, ob)] from List.zip_append R.len] at hq
    rcases List.mem_append.mp hq with hq | hq
    · rcases List.mem_append.mp hq with hq | hq
      · exact .tail _ (List.mem_append_left _ hq)
      · rw [List.mem_singleton.mp hq]; exact .head _
    · exact .tail _ (List.mem_append_right _ hq)
  · refine List.nodup_append.mpr ⟨R.nd, by simp, fun x hx y hy e => ?_⟩
    rw [List.mem_singleton.mp hy] at e
    subst e
    obtain ⟨l, hl, e⟩ := List.getElem_of_mem hx
    have hl2 : l < obs.length := by rw [← R.len]; exact hl
    have := List.mem_of_getElem? (zip_get (List.getElem?_eq_getElem hl) (List.getElem?_eq_getElem hl2))
    exact hlt _ (List.mem_append_left _ this) e
  · intro x hx q hq
    rcases List.mem_append.mp hx with hx | hx
    · exact R.off x hx q hq
    · rw [List.mem_singleton.mp hx]; exact fun e => hlt q (List.mem_append_right _ hq) e.symm

theorem RepX.freeze (R : RepX prog w h₀ L p σ h m obs) {a : Addr} {ob : Obj} (F : Fr h₀ L h' m) (N : News h₀ L h' ((a, ob) :: (p.r.zip obs ++ p.fr))) (hlt : ∀ q ∈ p.r.zip obs ++ p.fr, q.1 ≠ a) :
    p.le { p with fr := (a, ob) :: p.fr } ∧ RepX prog w h₀ L { p with fr := (a, ob) :: p.fr } σ h' m obs := by
  have le : p.le { p with fr := (a, ob) :: p.fr } := ⟨rfl, List.prefix_refl _, fun _ h => .tail _ h⟩
  refine ⟨le, F, fun q hq => N q ?_, R.loc.mono le, R.len, R.ob.mono le, R.nd, ?_, R.big⟩
  · rcases List.mem_append.mp hq with hq | hq
    · exact .tail _ (List.mem_append_left _ hq)
    · rcases List.mem_cons.mp hq with rfl | hq
      · exact .head _
      · exact .tail _ (List.mem_append_right _ hq)
  · intro x hx q hq
    rcases List.mem_cons.mp hq with rfl | hq
    · obtain ⟨l, hl, e⟩ := List.getElem_of_mem hx
      have hl2 : l < obs.length := by rw [← R.len]; exact hl
      have := List.mem_of_getElem? (zip_get (List.getElem?_eq_getElem hl) (List.getElem?_eq_getElem hl2))
      rw [e] at this
      exact hlt _ (List.mem_append_left _ this)
    · exact R.off x hx q hq
end
end
end Mine
-- M4
namespace Mine

section
variable {p : P} {ps : Params}
theorem isStr_of {v : Value} {k name : Str} (h : ∃ t, v = .str k t) : v.isStr name = (k == name) := by
  obtain ⟨t, rfl⟩ := h; rfl
theorem REs.find {name : Str} : ∀ {es : List (Str × V)} {es' : List DictEntry}, REs p ps es es' →
    (match es.lookup name with | some v => ∃ e, es'.find? (fun e => e.key.isStr name) = some e ∧ RV p v e.val | none => es'.find? (fun e => e.key.isStr name) = none)
  | [], [], _ => rfl
  | (k, v) :: r, e :: es', ⟨h1, _, h3, h4⟩ => by
    have ih := REs.find (name := name) h4
    simp only [List.lookup_cons, List.find?_cons]
    have e1 : e.key.isStr name = (k == name) := isStr_of h1
    have e2 : (name == k) = (k == name) := BEq.comm
    rw [e1, e2]
    cases hk : (k == name) with
    | true => exact ⟨e, rfl, h3⟩
    | false => exact ih
  | [], _ :: _, h => h.elim
  | (_, _) :: _, [], h => h.elim
theorem REs.noRef : ∀ {es : List (Str × V)} {es' : List DictEntry}, REs p ps es es' → es'.any (fun e => e.refKey) = false
  | [], [], _ => rfl
  | (k, v) :: r, e :: es', ⟨h1, _, _, h4⟩ => by
    rw [List.any_cons, REs.noRef h4, Bool.or_false]
    obtain ⟨t, ht⟩ := h1
    unfold DictEntry.refKey
    rw [ht]
  | [], _ :: _, h => h.elim
  | (_, _) :: _, [], h => h.elim
theorem REs.getL_some {name : Str} {es : List (Str × V)} {es' : List DictEntry} {v : V} (h : REs p ps es es') (e : es.lookup name = some v) : ∃ y, getL name es' = some (some y) ∧ RV p v y := by
  have := h.find (name := name)
  rw [e] at this
  obtain ⟨q, h1, h2⟩ := this
  exact ⟨q.val, by unfold getL; rw [h1], h2⟩
theorem REs.getL_none {name : Str} {es : List (Str × V)} {es' : List DictEntry} (h : REs p ps es es') (e : es.lookup name = none) : getL name es' = some none := by
  have := h.find (name := name)
  rw [e] at this
  have h1 : es'.find? (fun e => e.key.isStr name) = none := this
  unfold getL
  rw [h1]
  simp only [h.noRef, Bool.false_eq_true, if_false]
theorem REs.getL_isSome {name : Str} {es : List (Str × V)} {es' : List DictEntry} (h : REs p ps es es') : (getL name es').isSome = true := by
  cases e : es.lookup name with
  | none => rw [h.getL_none e]; rfl
  | some v => obtain ⟨y, a, _⟩ := h.getL_some e; rw [a]; rfl
theorem REs.put {name : Str} {v : V} {y : Value} {t : Tok} (hv : RV p v y) : ∀ {es : List (Str × V)} {es' : List DictEntry}, REs p ps es es' → REs p ps (aset name v es) (putL name (PyData.keyHash ps name) (.str name t) y es')
  | [], [], _ => ⟨⟨t, rfl⟩, rfl, hv, trivial⟩
  | (k, u) :: r, e :: es', ⟨h1, h2, h3, h4⟩ => by
    have e1 : e.key.isStr name = (k == name) := isStr_of h1
    unfold aset putL
    rw [seq_eq]
    rw [e1]
    cases hk : (k == name) with
    | true => exact ⟨h1, h2, hv, h4⟩
    | false => exact ⟨h1, h2, h3, REs.put hv h4⟩
  | [], _ :: _, h => h.elim
  | (_, _) :: _, [], h => h.elim
theorem aset_length (x : Str) (v : V) : ∀ l : List (Str × V), (aset x v l).length ≤ l.length + 1
  | [] => Nat.le_refl _
  | (y, u) :: r => by
    unfold aset
    rw [seq_eq]
    cases (y == x) with
    | true => exact Nat.le_succ _
    | false => exact Nat.succ_le_succ (aset_length x v r)
end

noncomputable def clsOk (K : Frag) (c : CI) : Bool :=
  plainGet K c.C "" && hasDictIn K c.C && (findIn K (.ref c.C) "__setattr__" == some (some (.builtin "object.__setattr__"))) && plainOver K c.C && makesIn K c.C && (findIn K (.ref c.C) "__init__" == some (some (.ref c.init))) && isFn K (.ref c.init) && keepIn K (.ref c.C) &&
  c.fields.all (fun f => findIn K (.ref c.C) f == some none && takerIn K c.C f == some none) && c.meths.all (fun x => findIn K (.ref c.C) x.1 == some (some (.ref x.2)) && isFn K (.ref x.2) && keepIn K (.ref x.2))

structure G where
  prog : Program
  w : World
  K : Frag
  T : Tab
  pv : Program
  loose : List Str
  mean : ExcName → Option Value
  mg : Str → Option Value
  mb : Str → Option Value
  ok : T.all (clsOk K) = true
  gt : List (Str × Value)
  gok : gt.all (gtOk K) = true
  fn : List Addr
  fok : fn.all (fnOk K) = true

structure Cx (g : G) (n : Nat) (A₀ A : Around) (base h₀ : Heap) (outer : List Env) (cn : Str) (cs : Scope) (L a : Addr) (ccd : Value) : Prop where
  B : Below A₀ base outer h₀
  X : g.K.In h₀
  T : Top g.pv g.loose g.mean g.mg g.mb h₀
  fr : A.frames = some (envOf cn cs L a ccd :: outer)
  hd : A.handled = none
  hk : cs.kind = .function
  dep : A.depth + 2 * n < 950
  un : A.units + 8 * n < 9800

noncomputable def SE (g : G) (n : Nat) (e : Expr) (σ : St) (v : V) (σ' : St) : Prop := σ'.sc = σ.sc ∧
  ∀ (A₀ A : Around) (base h₀ : Heap) (outer : List Env) (cn : Str) (L a : Addr) (ccd : Value), Cx g n A₀ A base h₀ outer cn σ.sc L a ccd → ∀ (p : P) (s : Shared) (Q E : Value → Shared → Prop), Rep g.prog g.w h₀ L p σ s.heap →
    (∀ p' y h' tk, p.le p' → Rep g.prog g.w h₀ L p' σ' h' → RV p' v y → Q y { s with heap := h', toks := tk }) → wpAny (model g.prog g.w) A (eval e (envOf cn σ.sc L a ccd)) Q E s
noncomputable def SEs (g : G) (n : Nat) (es : List Expr) (σ : St) (vs : List V) (σ' : St) : Prop := σ'.sc = σ.sc ∧
  ∀ (A₀ A : Around) (base h₀ : Heap) (outer : List Env) (cn : Str) (L a : Addr) (ccd : Value), Cx g n A₀ A base h₀ outer cn σ.sc L a ccd → ∀ (pos : Pos) (p : P) (s : Shared) (Q : List Value → Shared → Prop) (E : Value → Shared → Prop), unstarred es = true → Rep g.prog g.w h₀ L p σ s.heap →
    (∀ p' ys h' tk, p.le p' → Rep g.prog g.w h₀ L p' σ' h' → RVs p' vs ys → Q ys { s with heap := h', toks := tk }) → wpAny (model g.prog g.w) A (spliced (backTo pos (starEach es (envOf cn σ.sc L a ccd)))) Q E s
noncomputable def ST (g : G) (n : Nat) (e : Expr) (σ : St) (b : Bool) (σ' : St) : Prop := σ'.sc = σ.sc ∧
  ∀ (A₀ A : Around) (base h₀ : Heap) (outer : List Env) (cn : Str) (L a : Addr) (ccd : Value), Cx g n A₀ A base h₀ outer cn σ.sc L a ccd → ∀ (p : P) (s : Shared) (Q : Bool → Shared → Prop) (E : Value → Shared → Prop), Rep g.prog g.w h₀ L p σ s.heap →
    (∀ p' h' tk, p.le p' → Rep g.prog g.w h₀ L p' σ' h' → Q b { s with heap := h', toks := tk }) → wpAny (model g.prog g.w) A (isTrue e (envOf cn σ.sc L a ccd) (eval e (envOf cn σ.sc L a ccd))) Q E s
noncomputable def RFl (p : P) : Ou → Flow → Prop
  | .next, f => f = .next
  | .cont, f => f = .cont
  | .ret v, f => ∃ y, f = .ret y ∧ RV p v y
noncomputable def SS (g : G) (n : Nat) (st : Stmt) (σ : St) (o : Ou) (σ' : St) : Prop := σ'.sc = σ.sc ∧
  ∀ (A₀ A : Around) (base h₀ : Heap) (outer : List Env) (cn : Str) (L a : Addr) (ccd : Value), Cx g n A₀ A base h₀ outer cn σ.sc L a ccd → ∀ (p : P) (s : Shared) (Q : Flow → Shared → Prop) (E : Value → Shared → Prop), Rep g.prog g.w h₀ L p σ s.heap →
    (∀ p' f h' tk, p.le p' → Rep g.prog g.w h₀ L p' σ' h' → RFl p' o f → Q f { s with heap := h', toks := tk }) → wpAny (model g.prog g.w) A (exec st (envOf cn σ.sc L a ccd)) Q E s
noncomputable def SSs (g : G) (n : Nat) (st : List Stmt) (σ : St) (o : Ou) (σ' : St) : Prop := σ'.sc = σ.sc ∧
  ∀ (A₀ A : Around) (base h₀ : Heap) (outer : List Env) (cn : Str) (L a : Addr) (ccd : Value), Cx g n A₀ A base h₀ outer cn σ.sc L a ccd → ∀ (p : P) (s : Shared) (Q : Flow → Shared → Prop) (E : Value → Shared → Prop), Rep g.prog g.w h₀ L p σ s.heap →
    (∀ p' f h' tk, p.le p' → Rep g.prog g.w h₀ L p' σ' h' → RFl p' o f → Q f { s with heap := h', toks := tk }) → wpAny (model g.prog g.w) A (execs st (envOf cn σ.sc L a ccd)) Q E s
noncomputable def SC (g : G) (n : Nat) (f : Value) (vs : List V) (σ : St) (v : V) (σ' : St) : Prop := σ'.sc = σ.sc ∧
  ∀ (A₀ A : Around) (base h₀ : Heap) (outer : List Env) (cn : Str) (L a : Addr) (ccd : Value), Cx g n A₀ A base h₀ outer cn σ.sc L a ccd → ∀ (p : P) (s : Shared) (ys : List Value) (R : Result → Shared → Prop), Rep g.prog g.w h₀ L p σ s.heap → RVs p vs ys →
    (∀ p' y h' tk, p.le p' → Rep g.prog g.w h₀ L p' σ' h' → RV p' v y → R (.ok (.ret y)) { s with heap := h', toks := tk }) → codeAny (model g.prog g.w) A (.call f ⟨ys, []⟩) R s

structure Good (g : G) (n : Nat) (x : Ev) : Prop where
  e : ∀ e σ v σ', x.e e σ = some (v, σ') → SE g n e σ v σ'
  es : ∀ e σ v σ', x.es e σ = some (v, σ') → SEs g n e σ v σ'
  t : ∀ e σ v σ', x.t e σ = some (v, σ') → ST g n e σ v σ'
  s : ∀ e σ v σ', x.s e σ = some (v, σ') → SS g n e σ v σ'
  ss : ∀ e σ v σ', x.ss e σ = some (v, σ') → SSs g n e σ v σ'
  c : ∀ f vs σ v σ', x.c f vs σ = some (v, σ') → SC g n f vs σ v σ'

theorem Cx.less {g : G} {n m : Nat} {A₀ A : Around} {base h₀ : Heap} {outer : List Env} {cn : Str} {cs : Scope} {L a : Addr} {ccd : Value} (C : Cx g n A₀ A base h₀ outer cn cs L a ccd) (h : m ≤ n) : Cx g m A₀ A base h₀ outer cn cs L a ccd :=
  ⟨C.B, C.X, C.T, C.fr, C.hd, C.hk, by have := C.dep; omega, by have := C.un; omega⟩
theorem lookup_mem {α : Type} {x : Str} {a : α} : ∀ {l : List (Str × α)}, l.lookup x = some a → (x, a) ∈ l
  | (y, b) :: r, h => by
    rw [List.lookup_cons] at h
    cases e : (x == y) with
    | true =>
      rw [e] at h
      cases h
      have : x = y := by simpa using e
      subst this
      exact .head _
    | false => rw [e] at h; exact .tail _ (lookup_mem h)
  | [], h => by cases h
theorem kindOf_sc {cn : Str} {sc : Scope} {L a : Addr} {ccd : Value} {x : Str} {k : NameKind} (h : sc.names.lookup x = some k) : (envOf cn sc L a ccd).kindOf x = some k := h

section
variable {g : G} {n : Nat} {ih : Ev}
theorem s_name {x : Str} {pos : Pos} {σ : St} {v : V} (hd : (x == ("__debug__" : Str)) = false) (h : nameV g.gt x σ = some v) : SE g n (.Name x pos) σ v σ := by
  refine ⟨rfl, fun A₀ A base h₀ outer cn L a ccd C p s Q E R k => ?_⟩
  obtain ⟨m, obs, R⟩ := R
  unfold nameV at h
  simp only [lk_eq, has_eq, seq_eq] at h
  split at h
  · rename_i hl
    obtain ⟨y, h1, h2⟩ := R.loc _ _ h
    exact ld R.F h1 (k p y s.heap s.toks (.refl _) ⟨m, obs, R⟩ h2) C.hk hl hd
  · rename_i hl
    split at h
    · rename_i u hu
      cases h
      have hg := List.all_eq_true.mp g.gok _ (lookup_mem hu)
      unfold gtOk at hg
      simp only at hg
      split at hg
      · rw [beq_iff_eq] at hg
        exact name_K R.F C.X (topRead_of C.T) hg (k p _ s.heap s.toks (.refl _) ⟨m, obs, R⟩ rfl) C.hk hl hd
      · simp only [Bool.and_eq_true, beq_iff_eq, Bool.not_eq_true'] at hg
        obtain ⟨⟨hb, hn⟩, hi⟩ := hg
        exact name_B R.F C.X (topRead_of C.T) hb hi (by simpa using hn) (k p _ s.heap s.toks (.refl _) ⟨m, obs, R⟩ rfl) C.hk hl hd
      · simp only [Bool.and_eq_true, beq_iff_eq, Bool.not_eq_true'] at hg
        obtain ⟨⟨hb, hn⟩, hi⟩ := hg
        exact name_B R.F C.X (topRead_of C.T) hb hi (by simpa using hn) (k p _ s.heap s.toks (.refl _) ⟨m, obs, R⟩ rfl) C.hk hl hd
      · cases hg
    · cases h
  · cases h
end
end Mine
-- M5
namespace Mine

structure ClsAt (K : Frag) (c : CI) : Prop where
  hg : ∀ f, plainGet K c.C f = true
  hh : hasDictIn K c.C = true
  hs : findIn K (.ref c.C) "__setattr__" = some (some (.builtin "object.__setattr__"))
  hp : plainOver K c.C = true
  hm : makesIn K c.C = true
  hi : findIn K (.ref c.C) "__init__" = some (some (.ref c.init))
  hif : isFn K (.ref c.init) = true
  hk : keepIn K (.ref c.C) = true
  hf : ∀ f ∈ c.fields, findIn K (.ref c.C) f = some none ∧ takerIn K c.C f = some none
  hme : ∀ x ∈ c.meths, findIn K (.ref c.C) x.1 = some (some (.ref x.2)) ∧ isFn K (.ref x.2) = true ∧ keepIn K (.ref x.2) = true
theorem clsAt_of {K : Frag} {c : CI} (h : clsOk K c = true) : ClsAt K c := by
  unfold clsOk at h
  simp only [Bool.and_eq_true, List.all_eq_true, beq_iff_eq] at h
  obtain ⟨⟨⟨⟨⟨⟨⟨⟨⟨h1, h2⟩, h3⟩, h4⟩, h5⟩, h6⟩, h7⟩, h8⟩, h9⟩, h10⟩ := h
  exact ⟨fun _ => h1, h2, h3, h4, h5, h6, h7, h8, h9, fun x hx => ⟨(h10 x hx).1.1, (h10 x hx).1.2, (h10 x hx).2⟩⟩
theorem G.cls (g : G) {C : Addr} {c : CI} (h : tabFind g.T C = some c) : ClsAt g.K c ∧ c.C = C := by
  unfold tabFind at h
  refine ⟨clsAt_of (List.all_eq_true.mp g.ok _ (List.mem_of_find?_eq_some h)), ?_⟩
  have := List.find?_some h
  exact Nat.eq_of_beq_eq_true this

theorem G.callOk (g : G) {a : Addr} (h : Mine.callOk g.T g.fn a = true) : keepIn g.K (.ref a) = true := by
  unfold Mine.callOk at h
  split at h
  · rename_i c hc
    obtain ⟨cf, e⟩ := g.cls hc
    rw [← e]; exact cf.hk
  · have := List.all_eq_true.mp g.fok _ (hasN_mem h)
    unfold fnOk at this
    split at this
    · simp only [Bool.and_eq_true] at this
      exact this.2
    · cases this
theorem handed_of {p : P} {v : V} {y : Value} (h : RV p v y) (hr : isRaw v = false) : handedIn y = true := by
  cases v with
  | tup xs => obtain ⟨a, ys, rfl, _⟩ := h; rfl
  | sc s =>
    cases s with
    | none => cases h; rfl
    | bool b => cases h; rfl
    | int i => obtain ⟨t, rfl⟩ := h; rfl
    | sint i => obtain ⟨t, rfl⟩ := h; rfl
    | num => obtain ⟨i, t, rfl⟩ := h; rfl
    | off i => obtain ⟨t, rfl⟩ := h; rfl
    | str i => obtain ⟨t, rfl⟩ := h; rfl
    | sstr i j => obtain ⟨⟨t, rfl⟩, _⟩ := h; rfl
    | txt i e k => obtain ⟨⟨t, rfl⟩, _⟩ := h; rfl
    | atx i e k => obtain ⟨⟨t, rfl⟩, _⟩ := h; rfl
    | ref l => obtain ⟨a, _, rfl⟩ := h; rfl
    | iface n k => obtain ⟨a, _, _, _, _, _, _, _, rfl, _⟩ := h; rfl
    | raw w => cases hr
    | any => cases hr

section
variable {g : G} {n : Nat} {A₀ A : Around} {base h₀ : Heap} {outer : List Env} {cn : Str} {cs : Scope} {L a : Addr} {ccd : Value} {p : P} {s : Shared} {σ : St} {Q E : Value → Shared → Prop} {m : Str → Option Value} {obs : List Obj}

inductive GotI (g : G) (p : P) (obs : List Obj) (h : Heap) (l d : Nat) (C : Addr) (es : List (Str × V)) : Prop
  | mk (x dx : Addr) (es' : List DictEntry) (k : Nat) (h1 : p.r[l]? = some x) (h2 : p.r[d]? = some dx) (h3 : obs[d]? = some (dictOf es' k)) (h4 : REs p g.w.params es es') (h5 : es.length ≤ 100) (h6 : InstAt h x ⟨.ref C, some dx, .plain, #[]⟩ C (some (dictOf es' k)))
theorem RepX.inst (R : RepX g.prog g.w h₀ L p σ s.heap m obs) {l d : Nat} {C : Addr} {es : List (Str × V)} (hl : sget σ.objs l = some (.inst C d)) (hd : sget σ.objs d = some (.idict es)) :
    GotI g p obs s.heap l d C es := by
  obtain ⟨x, ob, h1, h2, ⟨dx, h3, rfl⟩, h4⟩ := R.get hl
  obtain ⟨dx', ob', h5, h6, ⟨es', k, rfl, h7, h7'⟩, h8⟩ := R.get hd
  rw [h3] at h5
  cases h5
  exact ⟨x, dx, es', k, h1, h3, h6, h7, h7', InstAt.of_news R.N (R.mem h4) (R.mem h8)⟩

inductive ClsI (g : G) (p : P) (σ : St) (obs : List Obj) (h : Heap) (y : Value) (c : CI) (d : Nat) (es : List (Str × V)) : Prop
  | mk (x dx : Addr) (es' : List DictEntry) (k : Nat) (h0 : y = .ref x) (h2 : p.r[d]? = some dx) (h3 : obs[d]? = some (dictOf es' k)) (h4 : REs p g.w.params es es') (h5 : es.length ≤ 100) (h6 : InstAt h x ⟨.ref c.C, some dx, .plain, #[]⟩ c.C (some (dictOf es' k))) (cf : ClsAt g.K c)
theorem RepX.cls (R : RepX g.prog g.w h₀ L p σ s.heap m obs) {l : Nat} {y : Value} {c : CI} {d : Nat} {es : List (Str × V)} (hy : RV p (.sc (.ref l)) y) (h : instV g.T σ.objs l = some (c, d, es)) : ClsI g p σ obs s.heap y c d es := by
  obtain ⟨C, q1, q2, q3⟩ := instV_some h
  obtain ⟨cf, rfl⟩ := g.cls q3
  obtain ⟨x, dx, es', j, h1, h2, h3, h4, h5, I⟩ := R.inst q1 q2
  obtain ⟨x', hx, e⟩ := hy
  rw [h1] at hx
  exact ⟨x, dx, es', j, e.trans (congrArg Value.ref (Option.some.inj hx).symm), h2, h3, h4, h5, I, cf⟩
theorem has_mem {f : Str} {l : List Str} (h : has f l = true) : f ∈ l := by
  rw [has_eq] at h
  exact List.contains_iff_mem.mp h
theorem get_iface {nm : Str} {ky : Int} {u : V} {f : Str} {y : Value} {expr : Bool} (R : RepX g.prog g.w h₀ L p σ s.heap m obs) (hy : RIface p nm ky y)
    (h : (bind2 (tabFind g.T 87) fun c => onlyIf (has f c.fields) (match seq f ("name" : Str) with
      | true => some (.sc (.str nm))
      | false => onlyIf (seq f ("key" : Str)) (some (.sc (.int ky))))) = some u)
    (k : ∀ y' tk, RV p u y' → Q y' { s with toks := tk }) (X : g.K.In h₀) : wpAny (model g.prog g.w) A (getAttr y f expr) Q E s := by
  obtain ⟨c, hc, h⟩ := bind2_some h
  obtain ⟨hf, h⟩ := onlyIf_some h
  obtain ⟨x, dx, im, es, j, t, t', sl, rfl, h1, h2, h3, h4, h5, h6⟩ := hy
  have I : InstAt s.heap x ⟨.ref 87, some dx, .plain, sl⟩ 87 (some (dictOf es j)) := InstAt.of_news R.N (List.mem_append_right _ h1) (List.mem_append_right _ h2)
  obtain ⟨cf, hC⟩ := g.cls hc
  have ha := (cf.hf f (has_mem hf)).1
  have hg := cf.hg f
  have hh := cf.hh
  rw [hC] at ha hg hh
  cases e1 : seq f ("name" : Str) with
  | true =>
    rw [e1] at h
    have e' : f = "name" := beq_iff_eq.mp ((seq_eq _ _).symm.trans e1)
    subst e'
    exact get_own R.F X I hg hh ha rfl h3 rfl (k _ _ (Option.some.inj h ▸ ⟨_, rfl⟩))
  | false =>
    rw [e1] at h
    obtain ⟨e2, h⟩ := onlyIf_some h
    have e' : f = "key" := beq_iff_eq.mp ((seq_eq _ _).symm.trans e2)
    subst e'
    exact get_own R.F X I hg hh ha rfl h4 rfl (k _ _ (Option.some.inj h ▸ ⟨_, rfl⟩))
theorem s_getAttr {v u : V} {f : Str} {y : Value} {expr : Bool} (C : Cx g n A₀ A base h₀ outer cn cs L a ccd) (R : RepX g.prog g.w h₀ L p σ s.heap m obs) (hy : RV p v y) (h : vAttr g.T σ.objs v f = some u)
    (k : ∀ y' tk, RV p u y' → Q y' { s with toks := tk }) : wpAny (model g.prog g.w) A (getAttr y f expr) Q E s := by
  obtain ⟨sv, hs, g1⟩ := bind2_some h
  clear h
  cases scV_some hs
  cases sv with
  | ref l =>
    obtain ⟨⟨c, d, es⟩, q1, g2⟩ := bind2_some g1
    obtain ⟨hf, g3⟩ := onlyIf_some g2
    obtain ⟨u', hu, g4⟩ := bind2_some g3
    obtain ⟨hraw, g5⟩ := onlyIf_some g4
    cases g5
    obtain ⟨x, dx, es', j, rfl, _, _, h4, _, I, cf⟩ := R.cls hy q1
    obtain ⟨y', hg, hv⟩ := h4.getL_some ((lk_eq _ _).symm.trans hu)
    exact get_own R.F C.X I (cf.hg f) cf.hh (cf.hf f (has_mem hf)).1 rfl hg (handed_of hv ((Bool.not_eq_true' _).mp hraw)) (k _ _ hv)
  | iface nm ky => exact get_iface R hy g1 k C.X
  | _ => exact no_none g1

theorem s_setAttr {v u : V} {f : Str} {y z : Value} {os : Sto} {Q : Unit → Shared → Prop} (C : Cx g n A₀ A base h₀ outer cn cs L a ccd) (R : RepX g.prog g.w h₀ L p σ s.heap m obs) (hy : RV p v y) (hz : RV p u z) (h : vSetAttr g.T σ.objs v f u = some os)
    (k : ∀ obs' h' tk, RepX g.prog g.w h₀ L p { σ with objs := os } h' m obs' → Q () { s with heap := h', toks := tk }) : wpAny (model g.prog g.w) A (setAttr y f z) Q E s := by
  obtain ⟨l, hr, g1⟩ := bind2_some h
  obtain ⟨⟨c, d, es⟩, q1, g2⟩ := bind2_some g1
  obtain ⟨hf, g3⟩ := onlyIf_some g2
  obtain ⟨hn, g4⟩ := onlyIf_some g3
  clear h g1 g2 g3
  cases refV_some hr
  replace g4 : some (sset σ.objs d (.idict (aset f u es))) = some os := g4
  cases g4
  obtain ⟨x, dx, es', j, rfl, h2, h3, h4, h5, I, cf⟩ := R.cls hy q1
  have hlen : es.length < 90 := Nat.le_of_ble_eq_true hn
  have hput := h4.put (name := f) (t := s.toks + 1) hz
  have hl1 := hput.length
  have hl2 := aset_length f u es
  refine set_dict R.F C.X R.N I rfl cf.hs cf.hp (cf.hf f (has_mem hf)).2 cf.hh h4.getL_isSome rfl (R.upd h2 h3) (by omega) fun h' F' N' => ?_
  exact k _ h' _ (R.set F' N' ⟨_, _, rfl, hput, by omega⟩ fun e => by cases e)

theorem s_getMethod {v : V} {f : Str} {y : Value} {fa : Addr} {pl : Sem Bool} {Q : Value × List Value → Shared → Prop} (C : Cx g n A₀ A base h₀ outer cn cs L a ccd) (R : RepX g.prog g.w h₀ L p σ s.heap m obs) (hy : RV p v y) (h : vMeth g.T σ.objs v f = some fa)
    (k : keepIn g.K (.ref fa) = true → Q (.ref fa, [y]) s) : wpAny (model g.prog g.w) A (getMethod y f pl) Q E s := by
  obtain ⟨l, hr, g1⟩ := bind2_some h
  obtain ⟨⟨c, d, es⟩, q1, g2⟩ := bind2_some g1
  clear h g1
  cases refV_some hr
  obtain ⟨x, dx, es', j, rfl, _, _, h4, _, I, cf⟩ := R.cls hy q1
  cases hu : lk f es with
  | some _ =>
    have h : (match lk f es with | none => lk f c.meths | some _ => none) = some fa := g2
    rw [hu] at h
    exact no_none h
  | none =>
    have h : (match lk f es with | none => lk f c.meths | some _ => none) = some fa := g2
    rw [hu] at h
    obtain ⟨q1, q2, q3⟩ := cf.hme _ (lookup_mem ((lk_eq _ _).symm.trans h))
    exact method_inst R.F C.X I (cf.hg f) q1 q2 (h4.getL_none ((lk_eq _ _).symm.trans hu)) (k q3)
end
end Mine
-- M6
namespace Mine

section
variable {p : P}
theorem strs_of : ∀ {xs : List S} {ss : List Str} {ys : List Value}, strsOf xs = some ss → RSs p xs ys → StrsAre ys ss
  | [], _, [], h, _ => Option.some.inj h ▸ .nil
  | _ :: _, _, _ :: _, h, e => by
    obtain ⟨s, q1, g1⟩ := bind2_some h
    obtain ⟨t, q2, g2⟩ := bind2_some g1
    obtain ⟨tk, h3⟩ := strS_some q1 ▸ e.1
    rw [h3, ← Option.some.inj g2]
    exact .cons s tk (strs_of q2 e.2)
  | [], _, _ :: _, _, h => h.elim
  | _ :: _, _, [], _, h => h.elim
theorem strs_map : ∀ {ss : List Str} {ys : List Value}, RVs p (ss.map fun s => V.sc (.str s)) ys → StrsAre ys ss
  | [], [], _ => .nil
  | s :: _, _ :: _, ⟨⟨t, h1⟩, h2⟩ => by rw [h1]; exact .cons s t (strs_map h2)
  | [], _ :: _, h => h.elim
  | _ :: _, [], h => h.elim
theorem valueAt_nil {K : Type} [DecidableEq K] (k : K) : valueAt ([] : List (K × Value)) k = none := rfl
theorem valueAt_cons {K : Type} [DecidableEq K] (x : K × Value) (r : List (K × Value)) (k : K) : valueAt (x :: r) k = if x.1 = k then some x.2 else valueAt r k := by
  unfold valueAt
  rw [List.find?_cons]
  by_cases h : x.1 = k
  · simp [h]
  · simp [h]
theorem sd_look : ∀ {es : List (Str × V)} {kvs : List (Str × Value)}, kvs.map (·.1) = es.map (·.1) → RVs p (es.map (·.2)) (kvs.map (·.2)) → ∀ k : Str,
    (match es.lookup k with | some v => ∃ y, valueAt kvs k = some y ∧ RV p v y | none => valueAt kvs k = none)
  | [], [], _, _, _ => rfl
  | (a, v) :: es, (b, y) :: kvs, h1, h2, k => by
    rw [List.map_cons, List.map_cons, List.cons.injEq] at h1
    obtain ⟨h1, h3⟩ := h1
    have ih := sd_look h3 h2.2 k
    have h1' : b = a := h1
    subst h1'
    rw [List.lookup_cons, valueAt_cons]
    by_cases e : b = k
    · subst e
      simp only [beq_self_eq_true, if_true]
      exact ⟨y, rfl, h2.1⟩
    · have : (k == b) = false := by simpa using fun z : k = b => e z.symm
      rw [this, if_neg e]
      exact ih
  | [], _ :: _, h, _, _ => by cases h
  | _ :: _, [], h, _, _ => by cases h
theorem valueAt_none {K : Type} [DecidableEq K] {k : K} : ∀ {kvs : List (K × Value)}, (∀ i ∈ kvs.map (·.1), i ≠ k) → valueAt kvs k = none
  | [], _ => rfl
  | x :: r, h => by
    rw [valueAt_cons, if_neg (h x.1 (.head _))]
    exact valueAt_none fun i hi => h i (.tail _ hi)
end

section
variable {g : G} {n : Nat} {A₀ A : Around} {base h₀ : Heap} {outer : List Env} {cn : Str} {cs : Scope} {L a : Addr} {ccd : Value} {p : P} {s : Shared} {σ : St} {Q E : Value → Shared → Prop} {m : Str → Option Value} {obs : List Obj}

theorem RepX.fr (R : RepX g.prog g.w h₀ L p σ s.heap m obs) {a : Addr} {o : Obj} (h : (a, o) ∈ p.fr) : s.heap.get? a = some o := (R.N _ (List.mem_append_right _ h)).1
theorem RepX.tup (R : RepX g.prog g.w h₀ L p σ s.heap m obs) {a : Addr} {ys : List Value} (h : (a, ({ cls := .type "tuple", data := .seq (List.toArray ys) } : Obj)) ∈ p.fr) : IsTup s.heap a ys.toArray := ⟨_, R.fr h, rfl, 0, rfl⟩

noncomputable def BothIn (g : G) (A : Around) (s : Shared) (Q E : Value → Shared → Prop) (y z : Value) (b : Bool) : Prop :=
  ((∀ tk, Q (.bool b) { s with toks := tk }) → wpAny (model g.prog g.w) A (compareOp .In y z) Q E s) ∧ ((∀ tk, Q (.bool (!b)) { s with toks := tk }) → wpAny (model g.prog g.w) A (compareOp .NotIn y z) Q E s)
theorem in_nil {x : Str} {t : Tok} {ad : Addr} {l : Nat} (R : RepX g.prog g.w h₀ L p σ s.heap m obs) (hl : p.r[l]? = some ad) (ho : sget σ.objs l = some (.list [])) : BothIn g A s Q E (.str x t) (.ref ad) false := by
  obtain ⟨ad', ob, h1, h2, ⟨vs, j, rfl, h3, _⟩, h4⟩ := R.get ho
  cases Option.some.inj (hl.symm.trans h1)
  cases List.length_eq_zero_iff.mp h3.length.symm
  have hL : s.heap.IsList ad (List.toArray []) := ⟨_, R.heap h4, rfl, j, rfl⟩
  exact ⟨fun k => in_list_strs hL .nil (k _), fun k => notin_list_strs hL .nil (k _)⟩
theorem in_slist {x : Str} {t : Tok} {ad : Addr} {l : Nat} {ss : List Str} {nn : Nat} {kn : List (Str × Bool)} {b : Bool} (R : RepX g.prog g.w h₀ L p σ s.heap m obs) (hl : p.r[l]? = some ad) (ho : sget σ.objs l = some (.slist ss nn kn)) (h : (x, b) ∈ kn) : BothIn g A s Q E (.str x t) (.ref ad) b := by
  obtain ⟨ad', ob, h1, h2, ⟨vs, j, rfl, h3, _, h5⟩, h4⟩ := R.get ho
  cases Option.some.inj (hl.symm.trans h1)
  have hL : s.heap.IsList ad (List.toArray vs) := ⟨_, R.heap h4, rfl, j, rfl⟩
  have hb : (ss.any fun y => y == x) = b := h5 _ h
  subst hb
  exact ⟨fun k => in_list_strs hL (strs_map h3) (k _), fun k => notin_list_strs hL (strs_map h3) (k _)⟩
theorem in_sdict {x : Str} {t : Tok} {ad : Addr} {l : Nat} {es : List (Str × V)} (R : RepX g.prog g.w h₀ L p σ s.heap m obs) (hl : p.r[l]? = some ad) (ho : sget σ.objs l = some (.sdict es)) : BothIn g A s Q E (.str x t) (.ref ad) (es.lookup x).isSome := by
  obtain ⟨ad', ob, h1, h2, ⟨kvs, h3, h4, h5, _⟩, h6⟩ := R.get ho
  cases Option.some.inj (hl.symm.trans h1)
  have hD : s.heap.DictOf (strKind g.prog g.w) ad kvs := Heap.dictOf_iff.mpr ⟨ob, R.heap h6, h3⟩
  have hbig := R.bigAt hl ho rfl
  have hb : (es.lookup x).isSome = (valueAt kvs x).isSome := by
    have := sd_look h4 h5 x
    cases e : es.lookup x with
    | none => rw [e] at this; rw [this]; rfl
    | some v => rw [e] at this; obtain ⟨y, e2, _⟩ := this; rw [e2]; rfl
  rw [hb]
  exact ⟨fun k => wpAny_in_of (strKind_is _ _ x t) hbig hD.mapOf (k _), fun k => wpAny_notIn_of (strKind_is _ _ x t) hbig hD.mapOf (k _)⟩
theorem in_xdict {x : Str} {t : Tok} {ad : Addr} {l : Nat} {ks : List Str} {nn : Nat} {kn : List (Str × Option V)} {u : Option V} (R : RepX g.prog g.w h₀ L p σ s.heap m obs) (hl : p.r[l]? = some ad) (ho : sget σ.objs l = some (.xdict ks nn kn)) (hu : (x, u) ∈ kn) : BothIn g A s Q E (.str x t) (.ref ad) u.isSome := by
  obtain ⟨ad', ob, h1, h2, ⟨kvs, h3, h4, h5, h5'⟩, h6⟩ := R.get ho
  cases Option.some.inj (hl.symm.trans h1)
  have hD : s.heap.DictOf (strKind g.prog g.w) ad kvs := Heap.dictOf_iff.mpr ⟨ob, R.heap h6, h3⟩
  have hbig := R.bigAt hl ho rfl
  have hb : u.isSome = (valueAt kvs x).isSome := by
    have := h5' _ hu
    cases u with
    | none => have this : valueAt kvs x = none := this; rw [this]; rfl
    | some v => obtain ⟨y, e2, _⟩ := this; have e2 : valueAt kvs x = some y := e2; rw [e2]; rfl
  rw [hb]
  exact ⟨fun k => wpAny_in_of (strKind_is _ _ x t) hbig hD.mapOf (k _), fun k => wpAny_notIn_of (strKind_is _ _ x t) hbig hD.mapOf (k _)⟩
theorem in_jdict {x : Int} {t : Tok} {ad : Addr} {l : Nat} {is : List Int} {nn : Nat} (R : RepX g.prog g.w h₀ L p σ s.heap m obs) (hl : p.r[l]? = some ad) (ho : sget σ.objs l = some (.jdict is nn true)) (hx : 0 ≤ x) : BothIn g A s Q E (.int (p.β + x) t) (.ref ad) false := by
  obtain ⟨ad', ob, h1, h2, ⟨kvs, h3, h4, h5, h5'⟩, h6⟩ := R.get ho
  cases Option.some.inj (hl.symm.trans h1)
  have hD : s.heap.DictOf (intKind g.prog g.w) ad kvs := Heap.dictOf_iff.mpr ⟨ob, R.heap h6, h3⟩
  have hbig := R.bigAt hl ho rfl
  have hb : valueAt kvs (p.β + x) = none := valueAt_none fun i hi e => Int.lt_irrefl i (Int.lt_of_lt_of_le (h5' rfl i (h4 ▸ hi)) (e ▸ Int.le_add_of_nonneg_right hx))
  exact ⟨fun k => wpAny_in_of (intKind_is _ _ _ t) hbig hD.mapOf (by rw [hb]; exact k _), fun k => wpAny_notIn_of (intKind_is _ _ _ t) hbig hD.mapOf (by rw [hb]; exact k _)⟩
theorem in_tup {x : Str} {t : Tok} {xs : List S} {ss : List Str} {z : Value} (R : RepX g.prog g.w h₀ L p σ s.heap m obs) (hz : RV p (.tup xs) z) (hs : strsOf xs = some ss) : BothIn g A s Q E (.str x t) z (has x ss) := by
  obtain ⟨ad, ys, rfl, h1, h2⟩ := hz
  rw [has_any]
  exact ⟨fun k => in_tuple_strs (R.tup h1) (by simpa using strs_of hs h2) (k _), fun k => notin_tuple_strs (R.tup h1) (by simpa using strs_of hs h2) (k _)⟩
theorem s_inO {v : V} {y : Value} {b : Bool} {o : O} {l : Nat} {ad : Addr} (R : RepX g.prog g.w h₀ L p σ s.heap m obs) (hl : p.r[l]? = some ad) (hy : RV p v y) (ho : sget σ.objs l = some o) (h : inO v o = some b) : BothIn g A s Q E y (.ref ad) b := by
  cases o with
  | list xs =>
    cases xs with
    | cons _ _ => exact no_none h
    | nil =>
      obtain ⟨x, q1, g1⟩ := bind2_some h
      obtain ⟨t, e⟩ := strV_some q1 ▸ hy
      rw [e, ← Option.some.inj g1]
      exact in_nil R hl ho
  | slist ss nn kn =>
    obtain ⟨x, q1, g1⟩ := bind2_some h
    obtain ⟨t, e⟩ := strV_some q1 ▸ hy
    rw [e]
    exact in_slist R hl ho (lookup_mem ((lk_eq _ _).symm.trans g1))
  | sdict es =>
    obtain ⟨x, q1, g1⟩ := bind2_some h
    obtain ⟨t, e⟩ := strV_some q1 ▸ hy
    rw [e, ← Option.some.inj g1, lk_eq]
    exact in_sdict R hl ho
  | xdict ks nn kn =>
    obtain ⟨x, q1, g1⟩ := bind2_some h
    obtain ⟨u, q2, g2⟩ := bind2_some g1
    obtain ⟨t, e⟩ := strV_some q1 ▸ hy
    rw [e, ← Option.some.inj g2]
    exact in_xdict R hl ho (lookup_mem ((lk_eq _ _).symm.trans q2))
  | jdict is nn lt =>
    cases lt with
    | false => exact no_none h
    | true =>
      obtain ⟨x, q1, g1⟩ := bind2_some h
      obtain ⟨q2, g2⟩ := onlyIf_some g1
      obtain ⟨t, e⟩ := offV_some q1 ▸ hy
      rw [e, ← Option.some.inj g2]
      exact in_jdict R hl ho (of_decide_eq_true q2)
  | _ => exact no_none h
theorem s_in {v u : V} {y z : Value} {b : Bool} (R : RepX g.prog g.w h₀ L p σ s.heap m obs) (hy : RV p v y) (hz : RV p u z) (h : inObj σ.objs v u = some b) : BothIn g A s Q E y z b := by
  cases u with
  | tup xs =>
    obtain ⟨x, q1, g1⟩ := bind2_some h
    obtain ⟨ss, q2, g2⟩ := bind2_some g1
    obtain ⟨t, e⟩ := strV_some q1 ▸ hy
    rw [e, ← Option.some.inj g2]
    exact in_tup R hz q2
  | sc u =>
    cases u with
    | str t =>
      obtain ⟨x, q1, g1⟩ := bind2_some h
      obtain ⟨t1, e⟩ := strV_some q1 ▸ hy
      obtain ⟨t2, e2⟩ := hz
      rw [e, e2, ← Option.some.inj g1]
      exact ⟨fun k => in_str (k _), fun k => notIn_str (k _)⟩
    | ref l =>
      obtain ⟨o, q1, g1⟩ := bind2_some h
      obtain ⟨ad, hl, e⟩ := hz
      rw [e]
      exact s_inO R hl hy q1 g1
    | _ => exact no_none h

noncomputable def BothIs (g : G) (A : Around) (s : Shared) (Q E : Value → Shared → Prop) (y : Value) (b : Bool) : Prop :=
  ((∀ tk, Q (.bool b) { s with toks := tk }) → wpAny (model g.prog g.w) A (compareOp .Is y .none) Q E s) ∧ ((∀ tk, Q (.bool (!b)) { s with toks := tk }) → wpAny (model g.prog g.w) A (compareOp .IsNot y .none) Q E s)
theorem is_ref {ad : Addr} : BothIs g A s Q E (.ref ad) false :=
  ⟨fun k => wpAny_is_other rfl (by simp) (k _), fun k => wpAny_isNot_other rfl (by simp) (k _)⟩
theorem s_is {v : V} {y : Value} {b : Bool} (hy : RV p v y) (h : isNone v = some b) : BothIs g A s Q E y b := by
  cases v with
  | tup xs =>
    obtain ⟨ad, _, e, _⟩ := hy
    rw [e, ← Option.some.inj h]
    exact is_ref
  | sc v =>
    cases v with
    | none =>
      rw [show y = .none from hy, ← Option.some.inj h]
      exact ⟨fun k => wpAny_is_self rfl (k _), fun k => wpAny_isNot_self rfl (k _)⟩
    | ref l =>
      obtain ⟨ad, _, e⟩ := hy
      rw [e, ← Option.some.inj h]
      exact is_ref
    | iface a b =>
      obtain ⟨ad, _, _, _, _, _, _, _, e, _⟩ := hy
      rw [e, ← Option.some.inj h]
      exact is_ref
    | str x =>
      obtain ⟨t, e⟩ := hy
      rw [e, ← Option.some.inj h]
      exact ⟨fun k => wpAny_is_other rfl (by simp) (k _), fun k => wpAny_isNot_other rfl (by simp) (k _)⟩
    | _ => exact no_none h

noncomputable def BothEq (g : G) (A : Around) (s : Shared) (Q E : Value → Shared → Prop) (y z : Value) (b : Bool) : Prop :=
  ((∀ tk, Q (.bool b) { s with toks := tk }) → wpAny (model g.prog g.w) A (compareOp .Eq y z) Q E s) ∧ ((∀ tk, Q (.bool (!b)) { s with toks := tk }) → wpAny (model g.prog g.w) A (compareOp .NotEq y z) Q E s)
theorem s_eq {v u : V} {y z : Value} {b : Bool} (hy : RV p v y) (hz : RV p u z) (h : eqV v u = some b) : BothEq g A s Q E y z b := by
  obtain ⟨x, q1, g1⟩ := bind2_some h
  obtain ⟨x', q2, g2⟩ := bind2_some g1
  rw [scV_some q1] at hy
  rw [scV_some q2] at hz
  clear h g1 q1 q2
  cases x with
  | str a =>
    obtain ⟨c, q3, g3⟩ := bind2_some g2
    rw [strS_some q3] at hz
    obtain ⟨t, e⟩ := hy
    obtain ⟨t', e'⟩ := hz
    rw [e, e', ← Option.some.inj g3, seq_eq]
    exact ⟨fun k => eq_str (k _), fun k => PyProof.Rows.ne_str (k _)⟩
  | int a =>
    obtain ⟨c, q3, g3⟩ := bind2_some g2
    rw [intS_some q3] at hz
    obtain ⟨t, e⟩ := hy
    obtain ⟨t', e'⟩ := hz
    rw [e, e', ← Option.some.inj g3]
    exact ⟨fun k => eq_int (k _), fun k => PyProof.Rows.ne_int (k _)⟩
  | _ => exact no_none g2
theorem s_le {v u : V} {y z : Value} {b : Bool} (hy : RV p v y) (hz : RV p u z) (h : leV v u = some b) (k : ∀ tk, Q (.bool b) { s with toks := tk }) : wpAny (model g.prog g.w) A (compareOp .LtE y z) Q E s := by
  obtain ⟨x, q1, g1⟩ := bind2_some h
  obtain ⟨x', q2, g2⟩ := bind2_some g1
  rw [scV_some q1] at hy
  rw [scV_some q2] at hz
  clear h g1 q1 q2
  cases x with
  | str a =>
    obtain ⟨c, q3, g3⟩ := bind2_some g2
    rw [strS_some q3] at hz
    obtain ⟨t, e⟩ := hy
    obtain ⟨t', e'⟩ := hz
    rw [← Option.some.inj g3] at k
    rw [e, e']
    exact PySem.P.le_str (k _)
  | int a =>
    obtain ⟨c, q3, g3⟩ := bind2_some g2
    rw [intS_some q3] at hz
    obtain ⟨t, e⟩ := hy
    obtain ⟨t', e'⟩ := hz
    rw [← Option.some.inj g3] at k
    rw [e, e']
    exact PyProof.Rows.le_int (k _)
  | _ => exact no_none g2
inductive TwoInts (y z : Value) (f : Int → Int → Bool) (b : Bool) : Prop
  | mk (i j : Int) (t u : Tok) (h1 : y = .int i t) (h2 : z = .int j u) (h3 : f i j = b)
theorem two_ints {v u : V} {y z : Value} {f : Int → Int → Bool} {b : Bool} (hy : RV p v y) (hz : RV p u z) (h : (bind2 (intV v) fun x => bind2 (intV u) fun y => some (f x y)) = some b) : TwoInts y z f b := by
  obtain ⟨x, q1, g1⟩ := bind2_some h
  obtain ⟨x', q2, g2⟩ := bind2_some g1
  rw [intV_some q1] at hy
  rw [intV_some q2] at hz
  obtain ⟨t, e⟩ := hy
  obtain ⟨t', e'⟩ := hz
  exact ⟨x, x', t, t', e, e', Option.some.inj g2⟩
theorem s_cmp {op : CmpOp} {v u : V} {y z : Value} {b : Bool} (R : RepX g.prog g.w h₀ L p σ s.heap m obs) (hy : RV p v y) (hz : RV p u z) (h : cmpV op σ.objs v u = some b)
    (k : ∀ tk, Q (.bool b) { s with toks := tk }) : wpAny (model g.prog g.w) A (compareOp op y z) Q E s := by
  cases op with
  | Eq => exact (s_eq hy hz h).1 k
  | NotEq =>
    obtain ⟨r, q1, g1⟩ := bind2_some h
    rw [← Option.some.inj g1] at k
    exact (s_eq hy hz q1).2 k
  | Lt =>
    obtain ⟨i, j, t, t', rfl, rfl, rfl⟩ := two_ints (f := fun x y => decide (x < y)) hy hz h
    exact PyProof.Rows.lt_int (k _)
  | LtE => exact s_le hy hz h k
  | Gt =>
    obtain ⟨i, j, t, t', rfl, rfl, rfl⟩ := two_ints (f := fun x y => decide (x > y)) hy hz h
    exact PyProof.Rows.gt_int (k _)
  | GtE =>
    obtain ⟨i, j, t, t', rfl, rfl, rfl⟩ := two_ints (f := fun x y => decide (x ≥ y)) hy hz h
    exact PyProof.Rows.ge_int (k _)
  | Is =>
    obtain ⟨r, q1, g1⟩ := bind2_some h
    rw [noneV_some q1] at hz
    rw [show z = .none from hz]
    exact (s_is hy g1).1 k
  | IsNot =>
    obtain ⟨r, q1, g1⟩ := bind2_some h
    obtain ⟨r', q2, g2⟩ := bind2_some g1
    rw [noneV_some q1] at hz
    rw [← Option.some.inj g2] at k
    rw [show z = .none from hz]
    exact (s_is hy q2).2 k
  | In => exact (s_in R hy hz h).1 k
  | NotIn =>
    obtain ⟨r, q1, g1⟩ := bind2_some h
    rw [← Option.some.inj g1] at k
    exact (s_in R hy hz q1).2 k
end
end Mine
-- M7
namespace Mine
theorem cps_append (x y : Str) : (x ++ y).cps.toList = x.cps.toList ++ y.cps.toList := by
  show (x.cps ++ y.cps).toList = _
  simp

theorem RSs.append {p : P} : ∀ {a b : List S} {x y : List Value}, RSs p a x → RSs p b y → RSs p (a ++ b) (x ++ y)
  | [], _, [], _, _, h => h
  | _ :: _, _, _ :: _, _, ⟨h1, h2⟩, h => ⟨h1, RSs.append h2 h⟩
  | [], _, _ :: _, _, h, _ => h.elim
  | _ :: _, _, [], _, h, _ => h.elim
theorem RVs.append {p : P} : ∀ {a b : List V} {x y : List Value}, RVs p a x → RVs p b y → RVs p (a ++ b) (x ++ y)
  | [], _, [], _, _, h => h
  | _ :: _, _, _ :: _, _, ⟨h1, h2⟩, h => ⟨h1, RVs.append h2 h⟩
  | [], _, _ :: _, _, h, _ => h.elim
  | _ :: _, _, [], _, h, _ => h.elim
theorem RVs.get {p : P} : ∀ {a : List V} {x : List Value} {i : Nat} {v : V}, RVs p a x → a[i]? = some v → ∃ y, x[i]? = some y ∧ RV p v y
  | _ :: _, _ :: _, 0, _, ⟨h1, _⟩, e => by cases e; exact ⟨_, rfl, h1⟩
  | _ :: _, _ :: _, i + 1, _, ⟨_, h2⟩, e => RVs.get (i := i) h2 e
  | [], _, _, _, _, e => by cases e
  | _ :: _, [], _, _, h, _ => h.elim

section
variable {g : G} {n : Nat} {A₀ A : Around} {base h₀ : Heap} {outer : List Env} {cn : Str} {cs : Scope} {L a : Addr} {ccd : Value} {p : P} {s : Shared} {σ : St} {Q E : Value → Shared → Prop} {m : Str → Option Value} {obs : List Obj}

theorem len_small {x : Str} (h : x.length ≤ 4096) : x.length ≤ sizeLine := by rw [sizeLine_eq]; omega
inductive NumAdd (p : P) (x y : Value) (z : Int) (o : S) : Prop
  | mk (i : Int) (t : Tok) (h1 : x = .int i t) (h2 : ∀ t', RS p o (.int (i + z) t'))
theorem num_add {x : S} {z : Int} {o : S} {y : Value} (h : numAdd x z = some o) (hy : RS p x y) : NumAdd p y y z o := by
  cases x with
  | int i => obtain ⟨t, e⟩ := hy; exact ⟨i, t, e, fun t' => Option.some.inj h ▸ ⟨t', rfl⟩⟩
  | off i => obtain ⟨t, e⟩ := hy; exact ⟨_, t, e, fun t' => Option.some.inj h ▸ ⟨t', by rw [Int.add_assoc]⟩⟩
  | sint i => obtain ⟨t, e⟩ := hy; exact ⟨i, t, e, fun t' => Option.some.inj h ▸ ⟨t', rfl⟩⟩
  | num => obtain ⟨i, t, e⟩ := hy; exact ⟨i, t, e, fun t' => Option.some.inj h ▸ ⟨_, t', rfl⟩⟩
  | _ => exact no_none h
inductive TxtAdd (p : P) (y : Value) (z : Str) (o : S) : Prop
  | mk (x : Str) (t : Tok) (h1 : y = .str x t) (h2 : ∀ t', RS p o (.str (x ++ z) t')) (h3 : x.length + z.length ≤ 8192)
theorem txt_add {x : S} {z : Str} {o : S} {y : Value} (h : txtAdd x z = some o) (hy : RS p x y) : TxtAdd p y z o := by
  cases x with
  | str x =>
    obtain ⟨hc, g1⟩ := onlyIf_some h
    obtain ⟨t, e⟩ := hy
    have hc := Bool.and_eq_true_iff.mp hc
    exact ⟨x, t, e, fun t' => Option.some.inj g1 ▸ ⟨t', rfl⟩, Nat.add_le_add (of_decide_eq_true hc.1) (of_decide_eq_true hc.2)⟩
  | sstr x n =>
    obtain ⟨hc, g1⟩ := onlyIf_some h
    obtain ⟨⟨t, e⟩, h1, h2⟩ := hy
    have h3 := of_decide_eq_true hc
    have h4 := Nat.add_le_add_right h1 z.length
    exact ⟨x, t, e, fun t' => Option.some.inj g1 ▸ ⟨⟨t', rfl⟩, by rw [Str.length_append]; exact h4, h3⟩, Nat.le_trans h4 (Nat.le_trans h3 (by decide))⟩
  | atx x n win =>
    obtain ⟨hc, g1⟩ := onlyIf_some h
    obtain ⟨⟨t, e⟩, ⟨rest, h0⟩, h1, h2⟩ := hy
    have h3 := of_decide_eq_true hc
    have h4 := Nat.add_le_add_right h1 z.length
    exact ⟨x, t, e, fun t' => Option.some.inj g1 ▸ ⟨⟨t', rfl⟩, ⟨rest ++ z.cps.toList, by rw [cps_append, h0, List.append_assoc]⟩, by rw [Str.length_append]; exact h4, h3⟩, Nat.le_trans h4 (Nat.le_trans h3 (by decide))⟩
  | _ => exact no_none h
theorem txt_not {x : S} {z : Str} {o : S} (h : txtAdd x z = some o) : notTextS o = false := by
  cases x with
  | str x => rw [← Option.some.inj (onlyIf_some h).2]; rfl
  | sstr x n => rw [← Option.some.inj (onlyIf_some h).2]; rfl
  | atx x n win => rw [← Option.some.inj (onlyIf_some h).2]; rfl
  | _ => exact no_none h
theorem two_ends {α : Type} {a b : List α} : a.length ≤ 1000 → b.length ≤ 1000 → a.length + b.length ≤ sizeLine := fun h g => by
  rw [sizeLine_eq]
  exact Nat.le_trans (Nat.add_le_add h g) (by decide)
theorem add_tup {x y' : List S} {y z : Value} (R : RepX g.prog g.w h₀ L p σ s.heap m obs) (hy : RV p (.tup x) y) (hz : RV p (.tup y') z) (c1 : x.length ≤ 1000) (c2 : y'.length ≤ 1000)
    (k : ∀ p' y'' h' tk, p.le p' → Rep g.prog g.w h₀ L p' σ h' → RV p' (.tup (x ++ y')) y'' → Q y'' { s with heap := h', toks := tk }) : wpAny (model g.prog g.w) A (binaryOp .Add y z) Q E s := by
  obtain ⟨ad, xs, rfl, h1, h2⟩ := hy
  obtain ⟨bd, ys, rfl, h3, h4⟩ := hz
  have l1 := h2.length
  have l2 := h4.length
  refine add_tuples R.F R.N (R.tup h1) (R.tup h3) (fun e => ?_) (fun _ e => ?_) (fun _ _ h' F' N' => ?_) (two_ends (l1 ▸ c1) (l2 ▸ c2))
  · subst e
    cases List.length_eq_zero_iff.mp l1
    exact k p (.ref bd) s.heap s.toks (.refl _) ⟨m, obs, R⟩ ⟨bd, ys, rfl, h3, h4⟩
  · subst e
    cases List.length_eq_zero_iff.mp l2
    rw [List.append_nil] at k
    exact k p (.ref ad) s.heap s.toks (.refl _) ⟨m, obs, R⟩ ⟨ad, xs, rfl, h1, h2⟩
  · obtain ⟨le, R2⟩ := R.freeze F' N' fun q hq => Nat.ne_of_lt (Heap.lt_size (R.N q hq).1)
    exact k _ _ h' s.toks le ⟨m, obs, R2⟩ ⟨_, _, rfl, .head _, (h2.mono le).append (h4.mono le)⟩
theorem s_mul {v u o : V} {y z : Value} (hy : RV p v y) (hz : RV p u z) (h : mulV v u = some o) (k : ∀ y' tk, RV p o y' → Q y' { s with toks := tk }) : wpAny (model g.prog g.w) A (binaryOp .Mult y z) Q E s := by
  obtain ⟨a, q1, g1⟩ := bind2_some h
  obtain ⟨b, q2, g2⟩ := bind2_some g1
  obtain ⟨hc, g3⟩ := onlyIf_some g2
  rw [intV_some q1] at hy
  rw [intV_some q2] at hz
  obtain ⟨t, e⟩ := hy
  obtain ⟨t', e'⟩ := hz
  have h1 := of_decide_eq_true (Bool.and_eq_true_iff.mp hc).1
  rw [e, e']
  exact PyProof.Rows.mul_int (k _ _ (Option.some.inj g3 ▸ ⟨_, rfl⟩)) (IntMulOk.of_left (intBits_le_64 (by omega) (by omega)))
theorem s_bin {op : Operator} {v u o : V} {y z : Value} (R : RepX g.prog g.w h₀ L p σ s.heap m obs) (hy : RV p v y) (hz : RV p u z) (h : binV op v u = some o)
    (k : ∀ p' y' h' tk, p.le p' → Rep g.prog g.w h₀ L p' σ h' → RV p' o y' → Q y' { s with heap := h', toks := tk }) : wpAny (model g.prog g.w) A (binaryOp op y z) Q E s := by
  have R' : Rep g.prog g.w h₀ L p σ s.heap := ⟨m, obs, R⟩
  cases op with
  | Mult => exact s_mul hy hz h fun y' tk => k p y' s.heap tk (.refl _) R'
  | Add =>
    cases v with
    | tup x =>
      obtain ⟨y', q1, g1⟩ := bind2_some h
      obtain ⟨hc, g2⟩ := onlyIf_some g1
      rw [tupV_some q1] at hz
      rw [← Option.some.inj g2] at k
      exact add_tup R hy hz (of_decide_eq_true (Bool.and_eq_true_iff.mp hc).1) (of_decide_eq_true (Bool.and_eq_true_iff.mp hc).2) k
    | sc x =>
      obtain ⟨y', q1, g1⟩ := bind2_some h
      obtain ⟨o', q2, g2⟩ := bind2_some g1
      rw [scV_some q1] at hz
      rw [← Option.some.inj g2] at k
      clear h g1 g2 q1
      cases y' with
      | int b =>
        obtain ⟨i, t, e, f⟩ := num_add q2 hy
        obtain ⟨t', e'⟩ := hz
        rw [e, e']
        exact add_int (k _ _ _ _ (.refl _) R' (f _))
      | str b =>
        obtain ⟨i, t, e, f, hs⟩ := txt_add q2 hy
        obtain ⟨t', e'⟩ := hz
        rw [e, e']
        exact add_str (fun t' tk => k _ _ _ _ (.refl _) R' (f _)) (by rw [sizeLine_eq]; exact Nat.le_trans hs (by decide))
      | _ => exact no_none q2
  | _ => exact no_none h

theorem s_iadd {v u o : V} {y z : Value} (R : RepX g.prog g.w h₀ L p σ s.heap m obs) (hy : RV p v y) (hz : RV p u z) (h : binV .Add v u = some o) (hn : notText o = true)
    (k : ∀ y' tk, RV p o y' → Q y' { s with toks := tk }) : wpAny (model g.prog g.w) A (inplaceOp .Add y z) Q E s := by
  cases v with
  | tup x =>
    obtain ⟨y', q1, g1⟩ := bind2_some h
    obtain ⟨hc, g2⟩ := onlyIf_some g1
    rw [← Option.some.inj g2] at hn
    cases hn
  | sc x =>
    obtain ⟨y', q1, g1⟩ := bind2_some h
    obtain ⟨o', q2, g2⟩ := bind2_some g1
    rw [scV_some q1] at hz
    rw [← Option.some.inj g2] at k hn
    clear h g1 g2 q1
    cases y' with
    | int b =>
      obtain ⟨i, t, e, f⟩ := num_add q2 hy
      obtain ⟨t', e'⟩ := hz
      rw [e, e']
      exact PyProof.Rows.iadd_int (k _ _ (f _))
    | str b => cases (txt_not q2).symm.trans hn
    | _ => exact no_none q2
end
end Mine
-- M8
namespace Mine
open PySem.Builtin.Str

theorem cut_min (l : List Nat) (a b : Nat) : (l.drop (min a l.length)).take (min b l.length - min a l.length) = (l.drop a).take (b - a) := by
  rw [← List.drop_take, ← List.drop_take]
  have e : l.take (min b l.length) = l.take b := by
    rcases Nat.le_total b l.length with h | h
    · rw [Nat.min_eq_left h]
    · rw [Nat.min_eq_right h, List.take_of_length_le (Nat.le_refl _), List.take_of_length_le h]
  rw [e]
  rcases Nat.le_total a l.length with h | h
  · rw [Nat.min_eq_left h]
  · rw [Nat.min_eq_right h, List.drop_eq_nil_of_le (List.length_take_le' _ _), List.drop_eq_nil_of_le (Nat.le_trans (List.length_take_le' _ _) h)]
theorem clip_min (a n : Nat) : (if (a : Int) < 0 then (a : Int) + n else a) = a ∧ min (((min a n : Nat)) : Int) (n : Int) = min (a : Int) n :=
  ⟨if_neg (Int.not_lt.mpr (Int.natCast_nonneg a)), by
    rcases Nat.le_total a n with h | h
    · rw [Nat.min_eq_left h]
    · rw [Nat.min_eq_right h, Int.min_eq_right (Int.ofNat_le.mpr h), Int.min_eq_right (Int.le_refl _)]⟩
theorem slice_min (a b n : Nat) : strSliceIndices (some (a : Int)) (some (b : Int)) 1 n = strSliceIndices (some ((min a n : Nat) : Int)) (some ((min b n : Nat) : Int)) 1 n := by
  have f (a : Nat) := (clip_min a n).1
  have g (a : Nat) := (clip_min a n).2
  show sliceRange (max 0 (min (if (a : Int) < 0 then (a : Int) + n else a) (n : Int))) (max 0 (min (if (b : Int) < 0 then (b : Int) + n else b) (n : Int))) 1 =
    sliceRange (max 0 (min (if ((min a n : Nat) : Int) < 0 then ((min a n : Nat) : Int) + n else (min a n : Nat)) (n : Int))) (max 0 (min (if ((min b n : Nat) : Int) < 0 then ((min b n : Nat) : Int) + n else (min b n : Nat)) (n : Int))) 1
  rw [f, f, f, f, g, g]
theorem slice_nat (x : Str) {a b : Nat} (hab : a ≤ b) : Txt.slice x (some (a : Int)) (some (b : Int)) = ⟨((x.cps.toList.drop a).take (b - a)).toArray⟩ := by
  have hab' : min a x.length ≤ min b x.length := Nat.le_min.mpr ⟨Nat.le_trans (Nat.min_le_left _ _) hab, Nat.min_le_right _ _⟩
  have c : (x.cps.toList.drop (min a x.length)).take (min b x.length - min a x.length) = _ := cut_min x.cps.toList a b
  unfold Txt.slice
  rw [slice_min a b x.length, StrLaws.sliced_plain x hab' (Nat.min_le_right _ _), c, StrLaws.strSliceIndices_plain hab' (Nat.min_le_right _ _), List.length_map, List.length_range]
  split
  · rename_i h
    have h : min b x.length - min a x.length = x.length := beq_iff_eq.mp (Bool.and_eq_true_iff.mp h).2
    have h2 : x.length ≤ x.length - min a x.length := by
      have := Nat.sub_le_sub_right (Nat.min_le_right b x.length) (min a x.length)
      rwa [h] at this
    have e0 : min a x.length = 0 := by omega
    rw [← c, h, e0, List.drop_zero, show x.length = x.cps.toList.length from rfl, List.take_length]
  · rfl
theorem slice_is (x : Str) {i j : Int} (h0 : 0 ≤ i) (h1 : i ≤ j) : Txt.slice x (some i) (some j) = ⟨((x.cps.toList.drop i.toNat).take (j - i).toNat).toArray⟩ := by
  obtain ⟨a, rfl⟩ := Int.eq_ofNat_of_zero_le h0
  obtain ⟨b, rfl⟩ := Int.eq_ofNat_of_zero_le (Int.le_trans h0 h1)
  rw [slice_nat x (Int.ofNat_le.mp h1), Int.toNat_sub]
  rfl
theorem cut_app {win rest : List Nat} {x y : Int} (h0 : 0 ≤ x) (h1 : x ≤ y) (h2 : y ≤ win.length) : (List.drop x.toNat (win ++ rest)).take (y - x).toNat = (win.drop x.toNat).take (y - x).toNat := by
  obtain ⟨x, rfl⟩ := Int.eq_ofNat_of_zero_le h0
  obtain ⟨y, rfl⟩ := Int.eq_ofNat_of_zero_le (Int.le_trans h0 h1)
  have h1 := Int.ofNat_le.mp h1
  have h2 := Int.ofNat_le.mp h2
  rw [Int.toNat_sub, show ((x : Nat) : Int).toNat = x from rfl, List.drop_append_of_le_length (Nat.le_trans h1 h2), List.take_append_of_le_length (by rw [List.length_drop]; exact Nat.sub_le_sub_right h2 x)]
theorem win_cut {s : Str} {β : Int} {e : Bool} {win : List Nat} (W : Window s β e win) {x y : Int} (h0 : 0 ≤ x) (h1 : x ≤ y) (h2 : y ≤ win.length ∨ e = true) :
    (s.cps.toList.drop (β + x).toNat).take (β + y - (β + x)).toNat = (win.drop x.toNat).take (y - x).toNat := by
  obtain ⟨hb, ⟨rest, hr, he⟩, _⟩ := W
  obtain ⟨b, rfl⟩ := Int.eq_ofNat_of_zero_le hb
  obtain ⟨x, rfl⟩ := Int.eq_ofNat_of_zero_le h0
  obtain ⟨y, rfl⟩ := Int.eq_ofNat_of_zero_le (Int.le_trans h0 h1)
  show (s.cps.toList.drop (b + x)).take (((b + y : Nat) : Int) - ((b + x : Nat) : Int)).toNat = (win.drop x).take (((y : Nat) : Int) - ((x : Nat) : Int)).toNat
  rw [Int.toNat_sub, Int.toNat_sub, Nat.add_sub_add_left, ← List.drop_drop, show s.cps.toList.drop b = win ++ rest from hr]
  rcases h2 with h2 | h2
  · have := cut_app (rest := rest) h0 h1 h2
    rwa [Int.toNat_sub] at this
  · rw [he h2, List.append_nil]

section
variable {g : G} {n : Nat} {A₀ A : Around} {base h₀ : Heap} {outer : List Env} {cn : Str} {cs : Scope} {L a : Addr} {ccd : Value} {p : P} {s : Shared} {σ : St} {Q E : Value → Shared → Prop} {m : Str → Option Value} {obs : List Obj}

theorem cut_len {k : Nat} (h : k ≤ 4096) : k ≤ sizeLine := by rw [sizeLine_eq]; exact Nat.le_trans h (by decide)
theorem s_cut {v vi vj o : V} {y yi yj : Value} {value : Expr} {lo hi : Option Expr} {pp : Pos} (R : RepX g.prog g.w h₀ L p σ s.heap m obs) (hy : RV p v y) (hi' : RV p vi yi) (hj : RV p vj yj) (h : cutV v vi vj = some o)
    (k : ∀ p' y' h' tk, p.le p' → Rep g.prog g.w h₀ L p' σ h' → RV p' o y' → Q y' { s with heap := h', toks := tk }) :
    wpAny (model g.prog g.w) A (subscriptTail value (.Slice lo hi none pp) y (.ref s.heap.objs.size)) Q E { s with heap := s.heap.push { cls := .type "slice", data := .fields #[yi, yj, .none] } } := by
  obtain ⟨sv, q0, g0⟩ := bind2_some h
  rw [scV_some q0] at hy
  clear h q0
  cases sv with
  | str x =>
    obtain ⟨i, q1, g1⟩ := bind2_some g0
    obtain ⟨j, q2, g2⟩ := bind2_some g1
    obtain ⟨hc, g3⟩ := onlyIf_some g2
    rw [intV_some q1] at hi'
    rw [intV_some q2] at hj
    obtain ⟨c1, c2, c3⟩ := of_decide_eq_true hc
    obtain ⟨t, rfl⟩ := hy
    obtain ⟨ti, rfl⟩ := hi'
    obtain ⟨tj, rfl⟩ := hj
    exact slice_strN_ss R.F R.N (fun h' t' tk F' N' => k p _ h' tk (.refl _) ⟨m, obs, R.same F' N'⟩ (Option.some.inj g3 ▸ ⟨t', by rw [slice_is x c1 c2]⟩)) rfl (by intro r; cases value <;> rfl) (cut_len c3)
  | atx x nn win =>
    obtain ⟨i, q1, g1⟩ := bind2_some g0
    obtain ⟨j, q2, g2⟩ := bind2_some g1
    obtain ⟨hc, g3⟩ := onlyIf_some g2
    rw [intV_some q1] at hi'
    rw [intV_some q2] at hj
    obtain ⟨c1, c2, c3⟩ := of_decide_eq_true hc
    obtain ⟨⟨t, rfl⟩, ⟨rest, h0⟩, l1, l2⟩ := hy
    obtain ⟨ti, rfl⟩ := hi'
    obtain ⟨tj, rfl⟩ := hj
    exact slice_strN_ss R.F R.N (fun h' t' tk F' N' => k p _ h' tk (.refl _) ⟨m, obs, R.same F' N'⟩ (Option.some.inj g3 ▸ ⟨t', by rw [slice_is x c1 c2, h0, cut_app c1 c2 c3]⟩)) rfl (by intro r; cases value <;> rfl) (cut_len (Nat.le_trans l1 l2))
  | txt x e win =>
    obtain ⟨i, q1, g1⟩ := bind2_some g0
    obtain ⟨j, q2, g2⟩ := bind2_some g1
    obtain ⟨hc, g3⟩ := onlyIf_some g2
    rw [offV_some q1] at hi'
    rw [offV_some q2] at hj
    have hc := Bool.and_eq_true_iff.mp hc
    obtain ⟨c1, c2⟩ := of_decide_eq_true hc.1
    obtain ⟨⟨t, rfl⟩, W⟩ := hy
    obtain ⟨ti, rfl⟩ := hi'
    obtain ⟨tj, rfl⟩ := hj
    exact slice_strN_ss R.F R.N (fun h' t' tk F' N' => k p _ h' tk (.refl _) ⟨m, obs, R.same F' N'⟩ (Option.some.inj g3 ▸ ⟨t', by rw [slice_is x (Int.add_nonneg W.1 c1) (Int.add_le_add_left c2 p.β), win_cut W c1 c2 ((Bool.or_eq_true_iff.mp hc.2).imp of_decide_eq_true id)]⟩)) rfl (by intro r; cases value <;> rfl) (cut_len W.2.2)
  | _ => exact no_none g0

inductive Plain' : Expr → Prop
  | mk {e : Expr} (h : ∀ o i, subscripted e false o i = operate [o, i] (getItem o i)) : Plain' e
theorem item_list {xs : List V} {l : Nat} {ad : Addr} {i : Int} {t : Tok} {o : V} {value slice : Expr} (R : RepX g.prog g.w h₀ L p σ s.heap m obs) (hl : p.r[l]? = some ad) (ho : sget σ.objs l = some (.list xs)) (hsub : Plain' slice)
    (h : (match decide (0 ≤ i) with | true => xs[i.toNat]? | false => onlyIf (decide (0 ≤ i + xs.length)) xs[(i + xs.length).toNat]?) = some o)
    (k : ∀ y' tk, RV p o y' → Q y' { s with toks := tk }) : wpAny (model g.prog g.w) A (subscriptTail value slice (.ref ad) (.int i t)) Q E s := by
  obtain ⟨hsub⟩ := hsub
  obtain ⟨ad', ob, h1, h2, ⟨vs, j, rfl, h3, h3'⟩, h4⟩ := R.get ho
  cases Option.some.inj (hl.symm.trans h1)
  have hL : s.heap.IsList ad (List.toArray vs) := ⟨_, R.heap h4, rfl, j, rfl⟩
  have hlen := h3.length
  cases hq : decide (0 ≤ i) with
  | true =>
    rw [hq] at h
    obtain ⟨y', e1, e2⟩ := h3.get h
    have hlt := (List.getElem?_eq_some_iff.mp e1).1
    exact tail_any hL.typeIs slot_list_getitem.lookup (wpAny_getItem_list hL (of_decide_eq_true hq) (by omega) (by simpa using e1) (k y' s.toks e2)) (hsub _ _)
  | false =>
    rw [hq] at h
    obtain ⟨hq2, h⟩ := onlyIf_some h
    have hq' := of_decide_eq_false hq
    have hq2' := of_decide_eq_true hq2
    obtain ⟨y', e1, e2⟩ := h3.get h
    refine tail_any hL.typeIs slot_list_getitem.lookup (wpAny_getItem_list_neg hL (Int.not_le.mp hq') (by simp only [List.size_toArray]; omega) (by omega) ?_ (k y' s.toks e2)) (hsub _ _)
    simp only [List.size_toArray]
    rw [← hlen]
    simpa using e1
theorem s_item {v vi o : V} {y yi : Value} {value slice : Expr} (R : RepX g.prog g.w h₀ L p σ s.heap m obs) (hy : RV p v y) (hi' : RV p vi yi) (h : itemV σ.objs v vi = some o) (hs : match slice with | .Slice .. => False | _ => True)
    (k : ∀ y' tk, RV p o y' → Q y' { s with toks := tk }) : wpAny (model g.prog g.w) A (subscriptTail value slice y yi) Q E s := by
  have hsub : Plain' slice := ⟨fun o' i' => by cases slice <;> first | rfl | exact hs.elim⟩
  obtain ⟨l, q0, g0⟩ := bind2_some h
  obtain ⟨ob, ho, g1⟩ := bind2_some g0
  rw [refV_some q0] at hy
  clear h q0 g0
  obtain ⟨ad, hl, rfl⟩ := hy
  cases ob with
  | list xs =>
    obtain ⟨i, q2, g2⟩ := bind2_some g1
    rw [intV_some q2] at hi'
    obtain ⟨t, rfl⟩ := hi'
    exact item_list R hl ho hsub g2 k
  | sdict es =>
    obtain ⟨x, q2, g2⟩ := bind2_some g1
    rw [strV_some q2] at hi'
    obtain ⟨t, rfl⟩ := hi'
    obtain ⟨ad', ob, h1, h2, ⟨kvs, h3, h4, h5, _⟩, h6⟩ := R.get ho
    cases Option.some.inj (hl.symm.trans h1)
    have hD : s.heap.DictOf (strKind g.prog g.w) ad kvs := Heap.dictOf_iff.mpr ⟨ob, R.heap h6, h3⟩
    have := sd_look h4 h5 x
    rw [← lk_eq, g2] at this
    obtain ⟨y', e1, e2⟩ := this
    obtain ⟨hsub⟩ := hsub
    exact tail_any hD.typeIs slot_dict_getitem.lookup (wpAny_getItem_of (strKind_is _ _ x t) hD.mapOf e1 (k y' _ e2)) (hsub _ _)
  | xdict ks nn kn =>
    obtain ⟨x, q2, g2⟩ := bind2_some g1
    obtain ⟨u, q3, g3⟩ := bind2_some g2
    rw [strV_some q2] at hi'
    rw [g3] at q3
    obtain ⟨t, rfl⟩ := hi'
    obtain ⟨ad', ob, h1, h2, ⟨kvs, h3, h4, h5, h5'⟩, h6⟩ := R.get ho
    cases Option.some.inj (hl.symm.trans h1)
    have hD : s.heap.DictOf (strKind g.prog g.w) ad kvs := Heap.dictOf_iff.mpr ⟨ob, R.heap h6, h3⟩
    obtain ⟨y', e1, e2⟩ := h5' _ (lookup_mem ((lk_eq _ _).symm.trans q3))
    obtain ⟨hsub⟩ := hsub
    exact tail_any hD.typeIs slot_dict_getitem.lookup (wpAny_getItem_of (strKind_is _ _ x t) hD.mapOf e1 (k y' _ e2)) (hsub _ _)
  | _ => exact no_none g1
end
end Mine
-- M9
namespace Mine

theorem stored_new {K : Type} [DecidableEq K] {kvs : List (K × Value)} {k : K} {v : Value} (h : valueAt kvs k = none) : stored kvs k v = kvs ++ [(k, v)] := by
  unfold stored
  have : kvs.any (fun kv => decide (kv.1 = k)) = false := by
    unfold valueAt at h
    rw [Option.map_eq_none_iff, List.find?_eq_none] at h
    rw [List.any_eq_false]
    intro x hx
    simpa using h x hx
  rw [if_neg (by rw [this]; exact Bool.false_ne_true)]
theorem valueAt_app {K : Type} [DecidableEq K] (kvs : List (K × Value)) (k x : K) (y : Value) : valueAt (kvs ++ [(k, y)]) x = match valueAt kvs x with | some v => some v | none => if k = x then some y else none := by
  unfold valueAt
  rw [List.find?_append]
  cases h : kvs.find? (fun kv => decide (kv.1 = x)) with
  | some v => simp
  | none => simp only [Option.none_or, Option.map_none, List.find?_cons, List.find?_nil]; by_cases e : k = x <;> simp [e]

section
variable {g : G} {n : Nat} {A₀ A : Around} {base h₀ h' : Heap} {outer : List Env} {cn : Str} {cs : Scope} {L a : Addr} {ccd : Value} {p : P} {s : Shared} {σ : St} {m : Str → Option Value} {obs : List Obj}

theorem RepX.change (R : RepX g.prog g.w h₀ L p σ s.heap m obs) {l : Nat} {ad : Addr} {ob ob' : Obj} {b : O} (hr : p.r[l]? = some ad) (ho : obs[l]? = some ob) (hs : Heap.SameBut ad s.heap h') (hg : h'.get? ad = some ob') (hb : RO g.prog g.w p b ob')
    (hD : isD b = true → ∃ o, sget σ.objs l = some o ∧ isD o = true) : RepX g.prog g.w h₀ L p { σ with objs := sset σ.objs l b } h' m (obs.set l ob') := by
  obtain ⟨pre, post, e1, e2, q1, q2⟩ := (R.upd (o' := ob') hr ho).split
  have N := R.N
  rw [e1] at N
  have z := N (ad, ob) (List.mem_append.mpr (.inr (.head _)))
  refine R.set (R.F.change hs z.2.1 z.2.2) ?_ hb hD
  rw [e2]
  exact news_set N q1 q2 hs hg

theorem items_of {prog : Program} {w : World} : ∀ {ss : List Str} {ys : List Value}, StrsAre ys ss → ItemsAre (strKind prog w) ss ys
  | _, _, .nil => .nil
  | _, _, .cons s t h => .cons (strKind_is _ _ s t) (items_of h)
theorem map_fst_app {K : Type} (kvs : List (K × Value)) (k : K) (y : Value) : (kvs ++ [(k, y)]).map (·.1) = kvs.map (·.1) ++ [k] := by simp
theorem size_of {k n : Nat} (h : k ≤ n) (g : n ≤ 4000) : k ≤ sizeLine := by rw [sizeLine_eq]; exact Nat.le_trans h (Nat.le_trans g (by decide))
theorem map_len {α β γ : Type} {f : α → γ} {g : β → γ} {a : List α} {b : List β} (h : a.map f = b.map g) : a.length = b.length := by
  have := congrArg List.length h
  rwa [List.length_map, List.length_map] at this
theorem map_len' {α γ : Type} {f : α → γ} {a : List α} {b : List γ} (h : a.map f = b) : a.length = b.length := by
  have := congrArg List.length h
  rwa [List.length_map] at this
theorem len_snoc {α : Type} {xs : List α} {y : α} {n : Nat} (h : xs.length ≤ n) : (xs ++ [y]).length ≤ n + 1 := by
  rw [List.length_append]
  exact Nat.add_le_add_right h 1
theorem put_sdict {l : Nat} {ad : Addr} {x : Str} {t : Tok} {es : List (Str × V)} {vx : V} {yx : Value} {Q : Unit → Shared → Prop} {E : Value → Shared → Prop} (R : RepX g.prog g.w h₀ L p σ s.heap m obs) (hl : p.r[l]? = some ad) (ho : sget σ.objs l = some (.sdict es)) (hx : RV p vx yx) (hc : es.length ≤ 900) (hn : es.lookup x = none)
    (k : ∀ h' tk, Rep g.prog g.w h₀ L p { σ with objs := sset σ.objs l (.sdict (es ++ [(x, vx)])) } h' → Q () { s with heap := h', toks := tk }) : wpAny (model g.prog g.w) A (setItem (.ref ad) (.str x t) yx) Q E s := by
  obtain ⟨ad', ob, h1, h2, ⟨kvs, h3, h4, h5, _⟩, h6⟩ := R.get ho
  cases Option.some.inj (hl.symm.trans h1)
  have hD : s.heap.DictOf (strKind g.prog g.w) ad kvs := Heap.dictOf_iff.mpr ⟨ob, R.heap h6, h3⟩
  have hv := sd_look h4 h5 x
  rw [hn] at hv
  have hv : valueAt kvs x = none := hv
  refine wpAny_setItem_pairs (strKind_is _ _ x t) hD (fun h' hd hs => ?_) (size_of (Nat.le_of_eq (map_len h4)) (Nat.le_trans hc (by decide)))
  obtain ⟨ob', hg, hk⟩ := Heap.dictOf_iff.mp hd
  rw [stored_new hv] at hk
  refine k h' _ ⟨m, _, R.change hl h2 hs hg ⟨_, hk, ?_, ?_, Nat.le_trans (len_snoc hc) (by decide)⟩ fun _ => ⟨_, ho, rfl⟩⟩
  · rw [List.map_append, List.map_append, h4]; rfl
  · rw [List.map_append, List.map_append]
    exact h5.append ⟨hx, trivial⟩
theorem put_xdict {l : Nat} {ad : Addr} {x : Str} {t : Tok} {ks : List Str} {nn : Nat} {kn : List (Str × Option V)} {vx : V} {yx : Value} {Q : Unit → Shared → Prop} {E : Value → Shared → Prop} (R : RepX g.prog g.w h₀ L p σ s.heap m obs) (hl : p.r[l]? = some ad) (ho : sget σ.objs l = some (.xdict ks nn kn)) (hx : RV p vx yx) (hc : nn ≤ 900) (hn : (x, none) ∈ kn)
    (k : ∀ h' tk, Rep g.prog g.w h₀ L p { σ with objs := sset σ.objs l (.xdict (ks ++ [x]) (nn + 1) (kset x vx kn)) } h' → Q () { s with heap := h', toks := tk }) : wpAny (model g.prog g.w) A (setItem (.ref ad) (.str x t) yx) Q E s := by
  obtain ⟨ad', ob, h1, h2, ⟨kvs, h3, h4, h5, h5'⟩, h6⟩ := R.get ho
  cases Option.some.inj (hl.symm.trans h1)
  have hD : s.heap.DictOf (strKind g.prog g.w) ad kvs := Heap.dictOf_iff.mpr ⟨ob, R.heap h6, h3⟩
  have hv : valueAt kvs x = none := h5' _ hn
  refine wpAny_setItem_pairs (strKind_is _ _ x t) hD (fun h' hd hs => ?_) (size_of (Nat.le_trans (Nat.le_of_eq (map_len' h4)) h5.1) (Nat.le_trans h5.2 (by decide)))
  obtain ⟨ob', hg, hk⟩ := Heap.dictOf_iff.mp hd
  rw [stored_new hv] at hk
  refine k h' _ ⟨m, _, R.change hl h2 hs hg ⟨_, hk, ?_, ⟨len_snoc h5.1, Nat.le_trans (Nat.add_le_add_right hc 1) (by decide)⟩, ?_⟩ fun _ => ⟨_, ho, rfl⟩⟩
  · rw [List.map_append, h4]; rfl
  · intro q hq
    rcases List.mem_cons.mp hq with rfl | hq
    · refine ⟨yx, ?_, hx⟩
      rw [valueAt_app, hv]; simp
    · obtain ⟨hq1, hq2⟩ := List.mem_filter.mp hq
      have hne : x ≠ q.1 := by
        intro e
        rw [e] at hq2
        simp at hq2
      have := h5' q hq1
      rw [valueAt_app]
      revert this
      cases q.2 with
      | none => intro z; have z : valueAt kvs q.1 = none := z; rw [z]; exact if_neg hne
      | some u => rintro ⟨y', e1, e2⟩; exact ⟨y', by rw [e1], e2⟩
theorem put_jdict {l : Nat} {ad : Addr} {x : Int} {t : Tok} {is : List Int} {nn : Nat} {yx : Value} {Q : Unit → Shared → Prop} {E : Value → Shared → Prop} (R : RepX g.prog g.w h₀ L p σ s.heap m obs) (hl : p.r[l]? = some ad) (ho : sget σ.objs l = some (.jdict is nn true)) (hc : nn ≤ 900) (hx : 0 ≤ x)
    (k : ∀ h' tk, Rep g.prog g.w h₀ L p { σ with objs := sset σ.objs l (.jnew is (nn + 1) x) } h' → Q () { s with heap := h', toks := tk }) : wpAny (model g.prog g.w) A (setItem (.ref ad) (.int (p.β + x) t) yx) Q E s := by
  obtain ⟨ad', ob, h1, h2, ⟨kvs, h3, h4, h5, h5'⟩, h6⟩ := R.get ho
  cases Option.some.inj (hl.symm.trans h1)
  have hD : s.heap.DictOf (intKind g.prog g.w) ad kvs := Heap.dictOf_iff.mpr ⟨ob, R.heap h6, h3⟩
  have hv : valueAt kvs (p.β + x) = none := valueAt_none fun i hi e => Int.lt_irrefl i (Int.lt_of_lt_of_le (h5' rfl i (h4 ▸ hi)) (e ▸ Int.le_add_of_nonneg_right hx))
  refine wpAny_setItem_pairs (intKind_is _ _ _ t) hD (fun h' hd hs => ?_) (size_of (Nat.le_trans (Nat.le_of_eq (map_len' h4)) h5.1) (Nat.le_trans h5.2 (by decide)))
  obtain ⟨ob', hg, hk⟩ := Heap.dictOf_iff.mp hd
  rw [stored_new hv] at hk
  exact k h' _ ⟨m, _, R.change hl h2 hs hg ⟨_, hk, by rw [map_fst_app, h4], ⟨Nat.le_succ_of_le h5.1, Nat.le_trans (Nat.add_le_add_right hc 1) (by decide)⟩⟩ fun _ => ⟨_, ho, rfl⟩⟩
theorem put_tdict (C : Cx g n A₀ A base h₀ outer cn cs L a ccd) {l : Nat} {ad : Addr} {xs : List S} {ss : List Str} {nn : Nat} {yi yx : Value} {Q : Unit → Shared → Prop} {E : Value → Shared → Prop} (R : RepX g.prog g.w h₀ L p σ s.heap m obs) (hl : p.r[l]? = some ad) (ho : sget σ.objs l = some (.tdict nn)) (hi' : RV p (.tup xs) yi) (hs : strsOf xs = some ss) (hc' : nn ≤ 100)
    (k : ∀ h' tk, Rep g.prog g.w h₀ L p { σ with objs := sset σ.objs l (.tdict (nn + 1)) } h' → Q () { s with heap := h', toks := tk }) : wpAny (model g.prog g.w) A (setItem (.ref ad) yi yx) Q E s := by
  obtain ⟨ta, ys, rfl, ht1, ht2⟩ := hi'
  obtain ⟨ad', ob, h1, h2, ⟨ks, es, ep, q1, q2, q3, q4, q5, q6⟩, h6⟩ := R.get ho
  cases Option.some.inj (hl.symm.trans h1)
  have hit : ItemsAre (strKind g.prog g.w) ss ys := items_of (strs_of hs ht2)
  have hD : s.heap.DictOfH (tupleKind (strKind g.prog g.w)) ad ks := ⟨ob, es, ep, R.heap h6, q1, q2, q3, fun x hx => by
    obtain ⟨zs, z1, z2⟩ := q5 x hx
    exact ⟨_, _, 0, R.fr z1, rfl, rfl, by simpa using z2⟩, q4⟩
  have q6' : (ks.length : Int) ≤ p.β + nn := q6.1
  refine wpAny_setItem_heap (knd := tupleKind (strKind g.prog g.w)) (by have := C.un; show A.units + 1 < 9900; omega) ⟨_, _, 0, R.fr ht1, rfl, rfl, by simpa using hit⟩ hD (fun h' hd hs => ?_) (by have := q6.2.1; rw [sizeLine_eq]; omega)
  obtain ⟨ob', es', ep', hg, w1, w2, w3, _, w5⟩ := hd
  refine k h' _ ⟨m, _, R.change hl h2 hs hg ⟨_, es', ep', w1, w2, w3, w5, fun x hx => ?_, ?_, q6.2.1, Nat.le_trans (Nat.add_le_add_right hc' 1) (by decide)⟩ fun _ => ⟨_, ho, rfl⟩⟩
  · unfold storedH at hx
    split at hx
    · obtain ⟨z, hz, rfl⟩ := List.mem_map.mp hx
      obtain ⟨zs, z1, z2⟩ := q5 z hz
      refine ⟨zs, ?_, ?_⟩ <;> (unfold putAt; split <;> assumption)
    · rcases List.mem_append.mp hx with hx | hx
      · exact q5 x hx
      · rw [List.mem_singleton.mp hx]; exact ⟨ys, ht1, hit⟩
  · unfold storedH
    split
    · rw [List.length_map]; push_cast; omega
    · rw [List.length_append, List.length_singleton]; omega
theorem s_put (C : Cx g n A₀ A base h₀ outer cn cs L a ccd) {v vi vx : V} {y yi yx : Value} {os : Sto} {Q : Unit → Shared → Prop} {E : Value → Shared → Prop} (R : RepX g.prog g.w h₀ L p σ s.heap m obs) (hy : RV p v y) (hi' : RV p vi yi) (hx : RV p vx yx) (h : putV σ.objs v vi vx = some os)
    (k : ∀ h' tk, Rep g.prog g.w h₀ L p { σ with objs := os } h' → Q () { s with heap := h', toks := tk }) : wpAny (model g.prog g.w) A (setItem y yi yx) Q E s := by
  obtain ⟨l, q0, g0⟩ := bind2_some h
  obtain ⟨o, ho, g1⟩ := bind2_some g0
  obtain ⟨o', q1, g2⟩ := bind2_some g1
  rw [refV_some q0] at hy
  obtain ⟨ad, hl, rfl⟩ := hy
  rw [← Option.some.inj g2] at k
  clear h q0 g0 g1 g2
  cases o with
  | sdict es =>
    obtain ⟨x, q2, g3⟩ := bind2_some q1
    obtain ⟨hc, g4⟩ := onlyIf_some g3
    rw [strV_some q2] at hi'
    obtain ⟨t, rfl⟩ := hi'
    cases hn : lk x es with
    | some _ => rw [hn] at g4; exact no_none g4
    | none =>
      rw [hn] at g4
      rw [← Option.some.inj g4] at k
      exact put_sdict R hl ho hx (of_decide_eq_true hc) ((lk_eq _ _).symm.trans hn) k
  | xdict ks nn kn =>
    obtain ⟨x, q2, g3⟩ := bind2_some q1
    obtain ⟨u, q3, g4⟩ := bind2_some g3
    rw [strV_some q2] at hi'
    obtain ⟨t, rfl⟩ := hi'
    cases u with
    | some _ => exact no_none g4
    | none =>
      obtain ⟨hc, g5⟩ := onlyIf_some g4
      rw [← Option.some.inj g5] at k
      exact put_xdict R hl ho hx (Nat.le_of_ble_eq_true hc) (lookup_mem ((lk_eq _ _).symm.trans q3)) k
  | tdict nn =>
    obtain ⟨xs, q2, g3⟩ := bind2_some q1
    obtain ⟨ss, q3, g4⟩ := bind2_some g3
    obtain ⟨hc, g5⟩ := onlyIf_some g4
    rw [tupV_some q2] at hi'
    rw [← Option.some.inj g5] at k
    exact put_tdict C R hl ho hi' q3 (Nat.le_of_ble_eq_true hc) k
  | jdict is nn lt =>
    cases lt with
    | false => exact no_none q1
    | true =>
      obtain ⟨x, q2, g3⟩ := bind2_some q1
      obtain ⟨hc, g4⟩ := onlyIf_some g3
      have hc := Bool.and_eq_true_iff.mp hc
      rw [offV_some q2] at hi'
      obtain ⟨t, rfl⟩ := hi'
      rw [← Option.some.inj g4] at k
      exact put_jdict R hl ho (Nat.le_of_ble_eq_true hc.2) (of_decide_eq_true hc.1) k
  | _ => exact no_none q1

theorem push_vs {l : Nat} {ad : Addr} {vs : List Value} {j : Nat} {o' : O} {y : Value} {Q E : Value → Shared → Prop} (R : RepX g.prog g.w h₀ L p σ s.heap m obs) (hl : p.r[l]? = some ad) (h2 : obs[l]? = some (listOf (List.toArray vs) j)) (k : ∀ h' tk, Rep g.prog g.w h₀ L p { σ with objs := sset σ.objs l o' } h' → Q .none { s with heap := h', toks := tk }) (hc : vs.length ≤ 4000) (hD : isD o' = true → False) (hb : ∀ ob, ob = listOf (List.toArray (vs ++ [y])) (j + 1) → RO g.prog g.w p o' ob)
     : wpAny (model g.prog g.w) A (call (.builtin "list.append") [.ref ad, y]) Q E s :=
  append_K R.F R.N (R.upd hl h2) (fun h' F' N' => k h' _ ⟨m, _, R.set F' N' (hb _ (by simp)) fun e => (hD e).elim⟩) (by simp only [List.size_toArray]; exact size_of hc (Nat.le_refl _))
theorem s_push {l : Nat} {ad : Addr} {v : V} {y : Value} {os : Sto} {Q E : Value → Shared → Prop} (R : RepX g.prog g.w h₀ L p σ s.heap m obs) (hl : p.r[l]? = some ad) (hy : RV p v y) (h : pushV σ.objs l v = some os)
    (k : ∀ h' tk, Rep g.prog g.w h₀ L p { σ with objs := os } h' → Q .none { s with heap := h', toks := tk }) : wpAny (model g.prog g.w) A (call (.builtin "list.append") [.ref ad, y]) Q E s := by
  obtain ⟨o, ho, g0⟩ := bind2_some h
  obtain ⟨o', q1, g1⟩ := bind2_some g0
  rw [← Option.some.inj g1] at k
  clear h g0 g1
  cases o with
  | list xs =>
    obtain ⟨hc, g2⟩ := onlyIf_some q1
    rw [← Option.some.inj g2] at k
    have hc' := of_decide_eq_true hc
    obtain ⟨ad', ob, h1, h2, ⟨vs, j, rfl, h3, h3'⟩, h4⟩ := R.get ho
    cases Option.some.inj (hl.symm.trans h1)
    exact push_vs R hl h2 k (h3.length ▸ Nat.le_trans h3' (by decide)) (fun e => by cases e) (fun ob e => ⟨_, _, e, h3.append ⟨hy, trivial⟩, Nat.le_trans (len_snoc hc') (by decide)⟩)
  | slist ss nn kn =>
    obtain ⟨x, q2, g2⟩ := bind2_some q1
    obtain ⟨hc, g3⟩ := onlyIf_some g2
    rw [← Option.some.inj g3] at k
    rw [strV_some q2] at hy
    have hc' := Nat.le_of_ble_eq_true hc
    obtain ⟨ad', ob, h1, h2, ⟨vs, j, rfl, h3, h3', h3''⟩, h4⟩ := R.get ho
    cases Option.some.inj (hl.symm.trans h1)
    have hlen := h3.length
    rw [List.length_map] at hlen
    refine push_vs R hl h2 k (hlen ▸ Nat.le_trans h3'.1 (Nat.le_trans h3'.2 (by decide))) (fun e => by cases e) (fun ob e => ⟨_, _, e, ?_, ⟨len_snoc h3'.1, Nat.le_trans (Nat.add_le_add_right hc' 1) (by decide)⟩, ?_⟩)
    · rw [List.map_append]; exact h3.append ⟨hy, trivial⟩
    · intro q hq
      rcases List.mem_cons.mp hq with rfl | hq
      · simp
      · obtain ⟨hq1, hq2⟩ := List.mem_filter.mp hq
        have hne : (x == q.1) = false := by
          have : (q.1 == x) = false := by simpa using hq2
          rw [BEq.comm]; exact this
        rw [List.any_append, h3'' q hq1]
        simp [hne]
  | slst xs nn =>
    obtain ⟨hc, g2⟩ := onlyIf_some q1
    rw [← Option.some.inj g2] at k
    have hc' := Nat.le_of_ble_eq_true hc
    obtain ⟨ad', ob, h1, h2, ⟨vs, j, rfl, h3, h3'⟩, h4⟩ := R.get ho
    cases Option.some.inj (hl.symm.trans h1)
    exact push_vs R hl h2 k (h3.length ▸ Nat.le_trans h3'.1 (Nat.le_trans h3'.2 (by decide))) (fun e => by cases e) (fun ob e => ⟨_, _, e, h3.append ⟨hy, trivial⟩, len_snoc h3'.1, Nat.le_trans (Nat.add_le_add_right hc' 1) (by decide)⟩)
  | alist nn =>
    obtain ⟨hc, g2⟩ := onlyIf_some q1
    rw [← Option.some.inj g2] at k
    have hc' := Nat.le_of_ble_eq_true hc
    obtain ⟨ad', ob, h1, h2, ⟨vs, j, rfl, h3, h3'⟩, h4⟩ := R.get ho
    cases Option.some.inj (hl.symm.trans h1)
    exact push_vs R hl h2 k (by have := h3'.1; omega) (fun e => by cases e) (fun ob e => ⟨_, _, e, by rw [List.length_append, List.length_singleton]; push_cast; omega, h3'.1, Nat.le_trans (Nat.add_le_add_right hc' 1) (by decide)⟩)
  | _ => exact no_none q1
end
end Mine
-- M10
namespace Mine

section
variable {g : G} {n : Nat} {A₀ A : Around} {base h₀ : Heap} {outer : List Env} {cn : Str} {cs : Scope} {L a : Addr} {ccd : Value} {p : P} {s : Shared} {σ : St} {m : Str → Option Value} {obs : List Obj} {env : Env} {M : Model} {Q E : Value → Shared → Prop}

theorem base_plain {o : Expr} {attr : Str} {whole : Sem Value} (h : plainBase o = true) : attributeBase o attr env whole = whole := by
  cases o <;> first
    | rfl
    | (rename_i f args kws pos
       cases f <;> first
        | rfl
        | (cases args <;> first | rfl | cases h))
    | cases h
theorem star_plain : ∀ {es : List Expr}, unstarred es = true → starEach es env = es.map fun e => (false, eval e env)
  | [], _ => rfl
  | e :: r, h => by
    cases e <;> first
      | (cases h; done)
      | (have h' : unstarred r = true := h
         show _ = (false, _) :: r.map _
         rw [← star_plain h']; rfl)
theorem back_plain {es : List Expr} {pos : Pos} (h : unstarred es = true) : backTo pos (starEach es env) = es.map fun e => (false, eval e env) := by
  rw [star_plain h]
  unfold backTo
  rw [List.map_map]
  rfl
theorem unstarred_tail {e : Expr} {r : List Expr} (h : unstarred (e :: r) = true) : unstarred r = true := by
  cases e <;> first | (cases h; done) | exact h
theorem any_plain (es : List Expr) : (es.map fun e => (false, eval e env)).any (·.1) = false := by
  rw [List.any_map]; simp

theorem w_methodCall {o : Expr} {name : Str} {apos pos : Pos} {args : List Expr} (hb : plainBase o = true) (hu : unstarred args = true) (hn : args.length < 20) (hl : (apos.endLine == pos.line) = true)
    (h : wpAny M A (eval o env) (fun ov s₁ => ∀ pl, wpAny M A (getMethod ov name pl) (fun fx s₂ => wpAny M A (callWith pos fx.1 fx.2 (args.map fun e => (false, eval e env)) []) Q E s₂) E s₁) E s) :
    wpAny M A (eval (.Call (.Attribute o name apos) args [] pos) env) Q E s := by
  have hform : methodCallForm (args.length + ([] : List Keyword).length) (args.map fun e => (false, eval e env)) (backToKw pos (keywordEach [] env)) = true := by
    unfold methodCallForm
    have e1 : ((args.map fun e => (false, eval e env)).all fun x => !x.1) = true := by rw [List.all_map]; simp
    rw [e1]
    show (true && true && decide (args.length + 0 + 0 < 30)) = true
    simp; omega
  rw [arm_eval_Call, base_plain hb, back_plain hu]
  refine wpAny_bind (wpAny_mono h (fun ov s₁ h₁ => wpAny_bind (wpAny_standAt ?_)) fun _ _ e => e)
  unfold methodCall
  rw [hform]
  refine wpAny_bind (wpAny_holding (wpAny_mono (h₁ (do return (← importBound o env).getD true)) (fun fx s₂ h₂ => ?_) fun _ _ e => e))
  unfold methodCallPos
  simp only [hl, Bool.not_true, Bool.false_or, if_true]
  exact wpAny_bind (wpAny_pure h₂)

theorem w_callWith {fa : Addr} {first : List Value} {args : List Expr} {pos : Pos} {K : Frag} (X : K.In s.heap) (hk : keepIn K (.ref fa) = true) (hu : unstarred args = true)
    (h0 : args = [] → wpAny M A (call (.ref fa) (first ++ [])) Q E s)
    (h : ∀ e r, args = e :: r → wpAny M A (spliced (args.map fun e => (false, eval e env))) (fun vs s₁ => K.In s₁.heap ∧ wpAny M A (call (.ref fa) (first ++ vs)) Q E s₁) E s) :
    wpAny M A (callWith pos (.ref fa) first (args.map fun e => (false, eval e env)) []) Q E s := by
  cases args with
  | nil => exact callWith_of rfl (keeps_K hk) (evalArgs_nil3 ⟨X, h0 rfl⟩)
  | cons e r =>
    refine callWith_of ?_ (keeps_K hk) (evalArgs_plain (h e r rfl))
    rw [any_plain]; rfl
theorem w_callWithB {i : String} {first : List Value} {e : Expr} {r : List Expr} {pos : Pos} (h : wpAny M A (spliced ((e :: r).map fun e => (false, eval e env))) (fun vs s₁ => wpAny M A (call (.builtin i) (first ++ vs)) Q E s₁) E s) :
    wpAny M A (callWith pos (.builtin i) first ((e :: r).map fun e => (false, eval e env)) []) Q E s :=
  callWith_builtin (any_plain _) (evalArgs_plain h)
end

section
variable {g : G} {n : Nat} {ih : Ev}
theorem Rep.set0 {prog : Program} {w : World} {h₀ h : Heap} {L : Addr} {p : P} {σ : St} (R : Rep prog w h₀ L p σ h) : Rep prog w h₀ L p σ h := R

theorem s_const {c : Const} {kd : Nat} {pos : Pos} {σ : St} {v : V} (h : stepE g.T g.gt g.fn ih (.Constant c kd pos) σ = some (v, σ)) : SE g n (.Constant c kd pos) σ v σ := by
  refine ⟨rfl, fun A₀ A base h₀ outer cn L a ccd C p s Q E R k => ?_⟩
  unfold stepE at h
  cases c <;> simp only at h
  all_goals first | (cases h; done) | skip
  · cases h; exact wpAny_Constant_none (k p _ _ _ (.refl _) R rfl)
  · cases h; exact wpAny_Constant_bool (k p _ _ _ (.refl _) R rfl)
  · cases h; exact wpAny_Constant_int (k p _ _ _ (.refl _) R ⟨_, rfl⟩)
  · cases h; exact wpAny_Constant_str (k p _ _ _ (.refl _) R ⟨_, rfl⟩)
end
end Mine
-- M11
namespace Mine

section
variable {g : G} {n : Nat} {ih : Ev}
theorem Cx.sc {A₀ A : Around} {base h₀ : Heap} {outer : List Env} {cn : Str} {cs cs' : Scope} {L a : Addr} {ccd : Value} (C : Cx g n A₀ A base h₀ outer cn cs L a ccd) (e : cs' = cs) : Cx g n A₀ A base h₀ outer cn cs' L a ccd := e ▸ C
theorem SE.run {e : Expr} {σ σ' : St} {v : V} {sc : Scope} (S : SE g n e σ v σ') (es : σ.sc = sc) {A₀ A : Around} {base h₀ : Heap} {outer : List Env} {cn : Str} {L a : Addr} {ccd : Value} (C : Cx g n A₀ A base h₀ outer cn sc L a ccd) {p : P} {s : Shared} {Q E : Value → Shared → Prop} (R : Rep g.prog g.w h₀ L p σ s.heap)
    (k : ∀ p' y h' tk, p.le p' → Rep g.prog g.w h₀ L p' σ' h' → RV p' v y → Q y { s with heap := h', toks := tk }) : wpAny (model g.prog g.w) A (eval e (envOf cn sc L a ccd)) Q E s := by
  subst es
  exact S.2 A₀ A base h₀ outer cn L a ccd C p s Q E R k
theorem ST.run {e : Expr} {σ σ' : St} {b : Bool} {sc : Scope} (S : ST g n e σ b σ') (es : σ.sc = sc) {A₀ A : Around} {base h₀ : Heap} {outer : List Env} {cn : Str} {L a : Addr} {ccd : Value} (C : Cx g n A₀ A base h₀ outer cn sc L a ccd) {p : P} {s : Shared} {Q : Bool → Shared → Prop} {E : Value → Shared → Prop} (R : Rep g.prog g.w h₀ L p σ s.heap)
    (k : ∀ p' h' tk, p.le p' → Rep g.prog g.w h₀ L p' σ' h' → Q b { s with heap := h', toks := tk }) : wpAny (model g.prog g.w) A (isTrue e (envOf cn sc L a ccd) (eval e (envOf cn sc L a ccd))) Q E s := by
  subst es
  exact S.2 A₀ A base h₀ outer cn L a ccd C p s Q E R k
theorem SEs.run {e : List Expr} {σ σ' : St} {v : List V} {sc : Scope} (S : SEs g n e σ v σ') (es : σ.sc = sc) {A₀ A : Around} {base h₀ : Heap} {outer : List Env} {cn : Str} {L a : Addr} {ccd : Value} (C : Cx g n A₀ A base h₀ outer cn sc L a ccd) (hu : unstarred e = true) {p : P} {s : Shared} {Q : List Value → Shared → Prop} {E : Value → Shared → Prop} (R : Rep g.prog g.w h₀ L p σ s.heap)
    (k : ∀ p' y h' tk, p.le p' → Rep g.prog g.w h₀ L p' σ' h' → RVs p' v y → Q y { s with heap := h', toks := tk }) : wpAny (model g.prog g.w) A (spliced (e.map fun e => (false, eval e (envOf cn sc L a ccd)))) Q E s := by
  subst es
  have := S.2 A₀ A base h₀ outer cn L a ccd C theWindowsPlace p s Q E hu R k
  rwa [back_plain hu] at this
theorem SSs.run {e : List Stmt} {σ σ' : St} {v : Ou} {sc : Scope} (S : SSs g n e σ v σ') (es : σ.sc = sc) {A₀ A : Around} {base h₀ : Heap} {outer : List Env} {cn : Str} {L a : Addr} {ccd : Value} (C : Cx g n A₀ A base h₀ outer cn sc L a ccd) {p : P} {s : Shared} {Q : Flow → Shared → Prop} {E : Value → Shared → Prop} (R : Rep g.prog g.w h₀ L p σ s.heap)
    (k : ∀ p' f h' tk, p.le p' → Rep g.prog g.w h₀ L p' σ' h' → RFl p' v f → Q f { s with heap := h', toks := tk }) : wpAny (model g.prog g.w) A (execs e (envOf cn sc L a ccd)) Q E s := by
  subst es
  exact S.2 A₀ A base h₀ outer cn L a ccd C p s Q E R k
theorem SC.run {f : Value} {vs : List V} {σ σ' : St} {v : V} {sc : Scope} (S : SC g n f vs σ v σ') (es : σ.sc = sc) {A₀ A : Around} {base h₀ : Heap} {outer : List Env} {cn : Str} {L a : Addr} {ccd : Value} (C : Cx g n A₀ A base h₀ outer cn sc L a ccd) {p : P} {s : Shared} {ys : List Value} {Q E : Value → Shared → Prop} (R : Rep g.prog g.w h₀ L p σ s.heap) (hv : RVs p vs ys)
    (k : ∀ p' y h' tk, p.le p' → Rep g.prog g.w h₀ L p' σ' h' → RV p' v y → Q y { s with heap := h', toks := tk }) : wpAny (model g.prog g.w) A (call f ys) Q E s := by
  subst es
  exact wpAny_call (S.2 A₀ A base h₀ outer cn L a ccd C p s ys _ R hv k)
theorem Rep.inK {σ : St} {A₀ A : Around} {base h₀ h : Heap} {outer : List Env} {cn : Str} {sc : Scope} {L a : Addr} {ccd : Value} {p : P} (R : Rep g.prog g.w h₀ L p σ h) (C : Cx g n A₀ A base h₀ outer cn sc L a ccd) : g.K.In h := by
  obtain ⟨m, obs, R⟩ := R
  exact C.X.keeps R.F.keep

theorem SE_of {e : Expr} {σ σ0 σ' : St} {v0 v : V} (h : some (v0, σ0) = some (v, σ')) (S : SE g n e σ v0 σ0) : SE g n e σ v σ' := by cases h; exact S
theorem ST_of {e : Expr} {σ σ0 σ' : St} {v0 v : Bool} (h : some (v0, σ0) = some (v, σ')) (S : ST g n e σ v0 σ0) : ST g n e σ v σ' := by cases h; exact S
theorem SEs_of {e : List Expr} {σ σ0 σ' : St} {v0 v : List V} (h : some (v0, σ0) = some (v, σ')) (S : SEs g n e σ v0 σ0) : SEs g n e σ v σ' := by cases h; exact S
theorem sound_Es (I : Good g n ih) : ∀ es σ vs σ', stepEs ih es σ = some (vs, σ') → SEs g (n + 1) es σ vs σ'
  | [], σ, vs, σ', h => SEs_of h ⟨rfl, fun A₀ A base h₀ outer cn L a ccd C pos p s Q E hu R k => spliced_nil (k p _ _ _ (.refl _) R trivial)⟩
  | e :: r, σ, vs, σ', h => by
    obtain ⟨v, σ1, h1, g1⟩ := bind2_pair h
    obtain ⟨ws, σ2, h2, g2⟩ := bind2_pair g1
    have S1 := I.e _ _ _ _ h1
    have S2 := I.es _ _ _ _ h2
    refine SEs_of g2 ⟨S2.1.trans S1.1, fun A₀ A base h₀ outer cn L a ccd C pos p s Q E hu R k => ?_⟩
    clear h g1 g2
    rw [back_plain hu, List.map_cons]
    refine spliced_cons (S1.run rfl (C.less (Nat.le_succ n)) R fun p1 y1 h1 tk1 le1 R1 hy1 => ?_)
    exact S2.run S1.1 (C.less (Nat.le_succ n)) (unstarred_tail hu) R1 fun p2 y2 h2 tk2 le2 R2 hy2 => k p2 (y1 :: y2) h2 tk2 (le1.trans le2) R2 ⟨hy1.mono le2, hy2⟩
inductive CmpT (g : G) (n : Nat) (l : Expr) (ops : List CmpOp) (rs : List Expr) (σ : St) (b : Bool) (σ' : St) : Prop
  | mk (op : CmpOp) (r : Expr) (v1 v2 : V) (σ1 : St) (h1 : ops = [op]) (h2 : rs = [r]) (h3 : behindInMarks op r = false) (S1 : SE g n l σ v1 σ1) (S2 : SE g n r σ1 v2 σ') (h4 : cmpV op σ'.objs v1 v2 = some b)
theorem cmp_of (I : Good g n ih) {l : Expr} {ops : List CmpOp} {rs : List Expr} {σ σ' : St} {b : Bool} (h : cmpT ih l ops rs σ = some (b, σ')) : CmpT g n l ops rs σ b σ' := by
  obtain ⟨op, q1, g1⟩ := bind2_some h
  obtain ⟨r, q2, g2⟩ := bind2_some g1
  obtain ⟨q3, g3⟩ := onlyIf_some g2
  obtain ⟨v1, σ1, h1, g4⟩ := bind2_pair g3
  obtain ⟨v2, σ2, h2, g5⟩ := bind2_pair g4
  obtain ⟨b', h3, g6⟩ := bind2_some g5
  have e := Prod.mk.inj (Option.some.inj g6)
  exact ⟨op, r, v1, v2, σ1, oneL_some q1, oneL_some q2, (Bool.not_eq_true' _).mp q3, I.e _ _ _ _ h1, e.2 ▸ I.e _ _ _ _ h2, e.1 ▸ e.2 ▸ h3⟩
theorem sT_cmp (I : Good g n ih) {l : Expr} {ops : List CmpOp} {rs : List Expr} {pos : Pos} {σ σ' : St} {b : Bool} (h : cmpT ih l ops rs σ = some (b, σ')) : ST g (n + 1) (.Compare l ops rs pos) σ b σ' := by
  obtain ⟨op, r, v1, v2, σ1, rfl, rfl, hm, S1, S2, h3⟩ := cmp_of I h
  refine ⟨S2.1.trans S1.1, fun A₀ A base h₀ outer cn L a ccd C p s Q E R k => wpAny_isTrue_Compare1 (S1.run rfl (C.less (Nat.le_succ n)) R fun p1 y1 h1 tk1 le1 R1 hy1 => ?_) hm⟩
  refine S2.run S1.1 (C.less (Nat.le_succ n)) R1 fun p2 y2 h2 tk2 le2 R2 hy2 => ?_
  obtain ⟨m, obs, R2'⟩ := id R2
  exact s_cmp R2' (hy1.mono le2) hy2 h3 fun tk => wpAny_truthy_bool (k p2 h2 tk (le1.trans le2) R2)
theorem sT_and (I : Good g n ih) {pos : Pos} {xs : List Expr} {σ σ' : St} {b : Bool} (h : tAnd ih pos xs σ = some (b, σ')) : ST g (n + 1) (.BoolOp .And xs pos) σ b σ' := by
  cases xs with
  | nil => exact ST_of h ⟨rfl, fun A₀ A base h₀ outer cn L a ccd C p s Q E R k => isTrue_and_nil (k p _ _ (.refl _) R)⟩
  | cons x r =>
    obtain ⟨b1, σ1, h1, g1⟩ := bind2_pair h
    have S1 := I.t _ _ _ _ h1
    clear h
    cases b1 with
    | true =>
      have S2 := I.t _ _ _ _ g1
      exact ⟨S2.1.trans S1.1, fun A₀ A base h₀ outer cn L a ccd C p s Q E R k => isTrue_and (S1.run rfl (C.less (Nat.le_succ n)) R fun p1 h1 tk1 le1 R1 =>
        S2.run S1.1 (C.less (Nat.le_succ n)) R1 fun p2 h2 tk2 le2 R2 => k p2 h2 tk2 (le1.trans le2) R2)⟩
    | false => exact ST_of g1 ⟨S1.1, fun A₀ A base h₀ outer cn L a ccd C p s Q E R k => isTrue_and (S1.run rfl (C.less (Nat.le_succ n)) R fun p1 h1 tk1 le1 R1 => k p1 h1 tk1 le1 R1)⟩
theorem sT_or (I : Good g n ih) {pos : Pos} {xs : List Expr} {σ σ' : St} {b : Bool} (h : tOr ih pos xs σ = some (b, σ')) : ST g (n + 1) (.BoolOp .Or xs pos) σ b σ' := by
  cases xs with
  | nil => exact ST_of h ⟨rfl, fun A₀ A base h₀ outer cn L a ccd C p s Q E R k => isTrue_or_nil (k p _ _ (.refl _) R)⟩
  | cons x r =>
    obtain ⟨b1, σ1, h1, g1⟩ := bind2_pair h
    have S1 := I.t _ _ _ _ h1
    clear h
    cases b1 with
    | true => exact ST_of g1 ⟨S1.1, fun A₀ A base h₀ outer cn L a ccd C p s Q E R k => isTrue_or (S1.run rfl (C.less (Nat.le_succ n)) R fun p1 h1 tk1 le1 R1 => k p1 h1 tk1 le1 R1)⟩
    | false =>
      have S2 := I.t _ _ _ _ g1
      exact ⟨S2.1.trans S1.1, fun A₀ A base h₀ outer cn L a ccd C p s Q E R k => isTrue_or (S1.run rfl (C.less (Nat.le_succ n)) R fun p1 h1 tk1 le1 R1 =>
        S2.run S1.1 (C.less (Nat.le_succ n)) R1 fun p2 h2 tk2 le2 R2 => k p2 h2 tk2 (le1.trans le2) R2)⟩
theorem sT_plain (I : Good g n ih) {e : Expr} {σ σ' : St} {b : Bool} (h : tPlain ih e σ = some (b, σ')) (hp : ∀ env : Env, isTrue e env (eval e env) = (do let v ← eval e env; standAt e.pos; holding [v] (truthy v))) : ST g (n + 1) e σ b σ' := by
  obtain ⟨v1, σ1, h1, g1⟩ := bind2_pair h
  obtain ⟨b1, q1, g2⟩ := bind2_some g1
  have S1 := I.e _ _ _ _ h1
  rw [show v1 = _ from boolV_some q1] at S1
  refine ST_of g2 ⟨S1.1, fun A₀ A base h₀ outer cn L a ccd C p s Q E R k => isTrue_plain (S1.run rfl (C.less (Nat.le_succ n)) R fun p1 y1 h1 tk1 le1 R1 hy1 => ?_) (hp _)⟩
  rw [show y1 = .bool _ from hy1]
  exact wpAny_truthy_bool (k p1 h1 tk1 le1 R1)
theorem sound_T (I : Good g n ih) : ∀ e σ b σ', stepT ih e σ = some (b, σ') → ST g (n + 1) e σ b σ' := by
  intro e σ b σ' h
  cases e with
  | Compare l ops rs pos => exact sT_cmp I h
  | BoolOp op xs pos =>
    cases op with
    | And => exact sT_and I h
    | Or => exact sT_or I h
  | UnaryOp op x pos =>
    cases op with
    | Not =>
      obtain ⟨b1, σ1, h1, g1⟩ := bind2_pair h
      have S1 := I.t _ _ _ _ h1
      exact ST_of g1 ⟨S1.1, fun A₀ A base h₀ outer cn L a ccd C p s Q E R k => isTrue_not (S1.run rfl (C.less (Nat.le_succ n)) R k)⟩
    | _ => exact no_none h
  | Name x p => exact sT_plain I h fun _ => rfl
  | Attribute o f p => exact sT_plain I h fun _ => rfl
  | Call f as ks p => exact sT_plain I h fun _ => rfl
  | Constant c kd p => exact sT_plain I h fun _ => rfl
  | _ => exact no_none h
end
end Mine
-- M12
namespace Mine

section
variable {g : G} {n : Nat} {ih : Ev}
theorem RVs_1 {p : P} {v : V} {ys : List Value} (h : RVs p [v] ys) : ∃ y, ys = [y] ∧ RV p v y := by
  cases ys with
  | nil => exact h.elim
  | cons y r =>
    cases r with
    | nil => exact ⟨y, rfl, h.1⟩
    | cons _ _ => exact h.2.elim
theorem RVs_2 {p : P} {v u : V} {ys : List Value} (h : RVs p [v, u] ys) : ∃ y z, ys = [y, z] ∧ RV p v y ∧ RV p u z := by
  cases ys with
  | nil => exact h.elim
  | cons y r =>
    obtain ⟨z, rfl, h2⟩ := RVs_1 h.2
    exact ⟨y, z, rfl, h.1, h2⟩
theorem len_S {x : S} {σ : St} {v : V} {A : Around} {h₀ : Heap} {L : Addr} {p : P} {s : Shared} {y : Value} {Q E : Value → Shared → Prop} (h : lenS σ x = some v) (R : Rep g.prog g.w h₀ L p σ s.heap) (hy : RS p x y) (k : ∀ y' tk, RV p v y' → Q y' { s with toks := tk }) : wpAny (model g.prog g.w) A (call (.builtin "len") [y]) Q E s := by
  cases x with
  | str x =>
    obtain ⟨hc, g1⟩ := onlyIf_some h
    obtain ⟨t, rfl⟩ := hy
    have hc := of_decide_eq_true hc
    exact len_str (by omega) (k _ _ (Option.some.inj g1 ▸ ⟨_, rfl⟩))
  | sstr x n =>
    obtain ⟨⟨t, rfl⟩, h1, h2⟩ := hy
    exact len_str (by omega) (k _ _ (Option.some.inj h ▸ ⟨_, rfl⟩))
  | ref l =>
    obtain ⟨o, ho, g1⟩ := bind2_some h
    obtain ⟨xs, q1, g2⟩ := bind2_some g1
    rw [listO_some q1] at ho
    obtain ⟨ad, had, rfl⟩ := hy
    obtain ⟨m, obs, R'⟩ := R
    obtain ⟨ad', ob, h1, h2, ⟨vs, j, rfl, h3, h3'⟩, h4⟩ := R'.get ho
    cases Option.some.inj (had.symm.trans h1)
    have hlen := h3.length
    have hL : s.heap.IsList ad (List.toArray vs) := ⟨_, R'.heap h4, rfl, j, rfl⟩
    exact len_list hL (by simp; omega) (k _ _ (Option.some.inj g2 ▸ ⟨_, by simp [hlen]; rfl⟩))
  | _ => exact no_none h
theorem one_cps {x : Str} {c : Nat} (h : oneL x.cps.toList = some c) : x = ⟨⟨[c]⟩⟩ := by
  obtain ⟨⟨l⟩⟩ := x
  have : l = [c] := oneL_some h
  rw [this]
inductive SoundB (g : G) (σ : St) (v : V) (vs : List V) (f : Value) : Prop
  | mk (i : String) (hf : f = .builtin i) (hn : vs ≠ []) (H : ∀ (A₀ A : Around) (base h₀ : Heap) (outer : List Env) (cn : Str) (cs : Scope) (L a : Addr) (ccd : Value) (n : Nat), Cx g n A₀ A base h₀ outer cn cs L a ccd →
      ∀ (p : P) (s : Shared) (ys : List Value) (Q E : Value → Shared → Prop), Rep g.prog g.w h₀ L p σ s.heap → RVs p vs ys → (∀ p' y h' tk, p.le p' → Rep g.prog g.w h₀ L p' σ h' → RV p' v y → Q y { s with heap := h', toks := tk }) → wpAny (model g.prog g.w) A (call (.builtin i) ys) Q E s)
theorem B_len {vs : List V} {σ σ' : St} {v : V} (h : (bind2 (oneL vs) fun v => bind2 (scV v) fun x => bind2 (lenS σ x) fun o => some (o, σ)) = some (v, σ')) : σ' = σ ∧ SoundB g σ v vs (.builtin "len") := by
  obtain ⟨u, q1, g1⟩ := bind2_some h
  obtain ⟨x, q2, g2⟩ := bind2_some g1
  obtain ⟨o, q3, g3⟩ := bind2_some g2
  rw [oneL_some q1, scV_some q2]
  cases g3
  refine ⟨rfl, _, rfl, (fun e => by cases e), fun A₀ A base h₀ outer cn cs L a ccd n C p s ys Q E R hv k => ?_⟩
  obtain ⟨y, rfl, hy⟩ := RVs_1 hv
  exact len_S q3 R hy fun y' tk => k p y' _ tk (.refl _) R
theorem B_ord {vs : List V} {σ σ' : St} {v : V} (h : (bind2 (oneL vs) fun v => bind2 (strV v) fun s => bind2 (oneL s.cps.toList) fun c => some (V.sc (.int c), σ)) = some (v, σ')) : σ' = σ ∧ SoundB g σ v vs (.builtin "ord") := by
  obtain ⟨u, q1, g1⟩ := bind2_some h
  obtain ⟨x, q2, g2⟩ := bind2_some g1
  obtain ⟨c, q3, g3⟩ := bind2_some g2
  rw [oneL_some q1, strV_some q2, one_cps q3]
  cases g3
  refine ⟨rfl, _, rfl, (fun e => by cases e), fun A₀ A base h₀ outer cn cs L a ccd n C p s ys Q E R hv k => ?_⟩
  obtain ⟨y, rfl, ⟨t, rfl⟩⟩ := RVs_1 hv
  exact PySem.P.ord_of_char (k p _ _ _ (.refl _) R ⟨_, rfl⟩)
theorem B_max {vs : List V} {σ σ' : St} {v : V} (h : (bind2 (twoL vs) fun q => bind2 (intV q.1) fun x => bind2 (intV q.2) fun y => some (V.sc (.int (if y > x then y else x)), σ)) = some (v, σ')) : σ' = σ ∧ SoundB g σ v vs (.builtin "max") := by
  obtain ⟨u, u', q1, g1⟩ := bind2_pair h
  obtain ⟨x, q2, g2⟩ := bind2_some g1
  obtain ⟨x', q3, g3⟩ := bind2_some g2
  rw [twoL_some q1, show u = _ from intV_some q2, show u' = _ from intV_some q3]
  cases g3
  refine ⟨rfl, _, rfl, (fun e => by cases e), fun A₀ A base h₀ outer cn cs L a ccd n C p s ys Q E R hv k => ?_⟩
  obtain ⟨y, z, rfl, ⟨t, rfl⟩, ⟨t', rfl⟩⟩ := RVs_2 hv
  obtain ⟨m, obs, R⟩ := R
  exact max_two_N C.hd R.F R.N fun h' tk F' N' => k p _ h' tk (.refl _) ⟨m, obs, R.same F' N'⟩ ⟨_, rfl⟩
theorem sound_B {f : Value} {vs : List V} {σ σ' : St} {v : V} (h : callB f vs σ = some (v, σ')) : σ' = σ ∧ SoundB g σ v vs f := by
  obtain ⟨i, q0, g0⟩ := bind2_some h
  rw [bltOf_some q0]
  clear h q0
  cases e1 : i == "len" with
  | true =>
    rw [e1] at g0
    rw [beq_iff_eq.mp e1]
    exact B_len g0
  | false =>
    rw [e1] at g0
    cases e2 : i == "ord" with
    | true =>
      have g0 : (match i == "ord" with | true => _ | false => _) = _ := g0
      rw [e2] at g0
      rw [beq_iff_eq.mp e2]
      exact B_ord g0
    | false =>
      have g0 : (match i == "ord" with | true => _ | false => _) = _ := g0
      rw [e2] at g0
      obtain ⟨e3, g1⟩ := onlyIf_some g0
      rw [beq_iff_eq.mp e3]
      exact B_max g1

theorem scs_of {p : P} : ∀ {vs : List V} {ss : List S} {ys : List Value}, scs vs = some ss → RVs p vs ys → RSs p ss ys
  | [], _, [], h, _ => Option.some.inj h ▸ trivial
  | _ :: _, _, _ :: _, h, e => by
    obtain ⟨s, q1, g1⟩ := bind2_some h
    obtain ⟨t, q2, g2⟩ := bind2_some g1
    rw [← Option.some.inj g2]
    have e1 := e.1
    rw [scV_some q1] at e1
    exact ⟨e1, scs_of q2 e.2⟩
  | [], _, _ :: _, _, h => h.elim
  | _ :: _, _, [], _, h => h.elim

theorem getAppend {h₀ : Heap} {L : Addr} {p : P} {s : Shared} {σ : St} {m : Str → Option Value} {obs : List Obj} {M : Model} {A : Around} {E : Value → Shared → Prop} (R : RepX g.prog g.w h₀ L p σ s.heap m obs) {l : Nat} {ad : Addr} (hl : p.r[l]? = some ad) (ho : isL σ.objs l = true) {pl : Sem Bool} {Q : Value × List Value → Shared → Prop}
    (k : Q (.builtin "list.append", [.ref ad]) s) : wpAny M A (getMethod (.ref ad) "append" pl) Q E s := by
  have go : ∀ {o : O}, sget σ.objs l = some o → (∀ ob, RO g.prog g.w p o ob → ∃ vs j, ob = listOf (List.toArray vs) j) → wpAny M A (getMethod (.ref ad) "append" pl) Q E s := by
    intro o ho f
    obtain ⟨ad', ob, h1, h2, h3, h4⟩ := R.get ho
    cases Option.some.inj (hl.symm.trans h1)
    obtain ⟨vs, j, rfl⟩ := f _ h3
    exact getMethod_list_append (R.heap h4) rfl rfl k
  obtain ⟨u, hu⟩ := Option.isSome_iff_exists.mp ho
  obtain ⟨o, q1, g1⟩ := bind2_some hu
  cases o with
  | list _ => exact go q1 fun ob ⟨vs, j, e, _, _⟩ => ⟨vs, j, e⟩
  | slist _ _ _ => exact go q1 fun ob ⟨vs, j, e, _, _⟩ => ⟨vs, j, e⟩
  | slst _ _ => exact go q1 fun ob ⟨vs, j, e, _, _⟩ => ⟨vs, j, e⟩
  | alist _ => exact go q1 fun ob ⟨vs, j, e, _⟩ => ⟨vs, j, e⟩
  | _ => exact no_none g1

theorem big_new {A₀ A : Around} {base h₀ h : Heap} {outer : List Env} {cn : Str} {cs : Scope} {L a : Addr} {ccd : Value} {m : Str → Option Value} (C : Cx g n A₀ A base h₀ outer cn cs L a ccd) (F : Fr h₀ L h m) : (h.objs.size == sysModules) = false :=
  Fr.notModules F (modules_low C.T.nolimit)
theorem dict_nil {K : Type} [DecidableEq K] (knd : KeyKind g.prog g.w K) : Obj.IsDictOf knd ({ cls := .type "dict", data := .dict #[] } : Obj) [] :=
  ⟨#[], 0, ⟨rfl, rfl, rfl⟩, rfl, fun _ h => by simp at h, by first | exact .nil | trivial | constructor, by simp⟩
end
end Mine
-- MC
namespace Mine

theorem closure_nil {scope : Scope} {env : Env} (h : ∀ x ∈ scope.names, x.2 = .local) : closureFor scope env = pure [] := by
  unfold closureFor
  have : ∀ (l : List (Str × NameKind)) (cs : List (Str × Addr)), (∀ x ∈ l, x.2 = .local) → (forIn l cs fun x r => (match x with | (name, kind) => if (kind == .free) = true then do let c ← cellOf env name; pure (ForInStep.yield ((name, c) :: r)) else pure (ForInStep.yield r) : Sem (ForInStep (List (Str × Addr))))) = pure cs := by
    intro l
    induction l with
    | nil => intro cs _; rfl
    | cons x r ih =>
      intro cs hx
      rw [List.forIn_cons]
      have hx1 := hx x (.head _)
      obtain ⟨nm, kd⟩ := x
      simp only at hx1
      subst hx1
      simp only [show ((NameKind.local == NameKind.free) = true) = False by simp, if_false, pure_bind]
      exact ih cs fun y hy => hx y (.tail _ hy)
  exact (congrArg (fun z => z >>= fun cs => (pure cs : Sem (List (Str × Addr)))) (this scope.names [] h)).trans (pure_bind _ _)

theorem fold_plain {iter : Expr} {env : Env} (h : plainIter iter = true) (x : Value) : foldedSetIterable iter env x = pure x := by
  cases iter <;> first | rfl | cases h
theorem comp_nil {prog : Program} {w : World} {A : Around} {E : Value → Shared → Prop} {s : Shared} {env : Env} {elt target iter : Expr} {scope : Scope} {pos : Pos} {Q : Value → Shared → Prop} (hc : compOk scope = true) (hs : ∀ x, foldedSetIterable iter env x = pure x)
    (h : wpAny (model prog w) A (eval iter env) (fun xv s₁ => ∃ ax h₀ L m news, xv = .ref ax ∧ A.handled = none ∧ Fr h₀ L s₁.heap m ∧ News h₀ L s₁.heap news ∧ s₁.heap.IsList ax #[] ∧
      ∀ D h' tk, Fr h₀ L h' m → News h₀ L h' ((D, listOf #[] 0) :: news) → (∀ q ∈ news, q.1 ≠ D) → Q (.ref D) { s₁ with heap := h', toks := tk }) E s) :
    wpAny (model prog w) A (eval (.ListComp elt [⟨target, iter, [], 0⟩] scope pos) env) Q E s := by
  unfold compOk at hc
  simp only [Bool.and_eq_true, List.all_eq_true, beq_iff_eq] at hc
  obtain ⟨hkind, hall⟩ := hc
  have hcell : ∀ y ∈ scope.names, y.2 ≠ .cell := fun y hy e => by rw [(hall y hy).1] at e; cases e
  rw [eval_ListComp]
  refine wpAny_comprehension_free (use := none) rfl hs (closure_nil fun x hx => (hall x hx).1) hkind (fun x hx _ => (hall x hx).2) (wpAny_mono h (fun xv s₁ h₁ => ?_) fun _ _ e => e)
  obtain ⟨ax, h₀, L, m, news, rfl, hh, F, N, hl, K⟩ := h₁
  have hlt : ax < s₁.heap.objs.size := by obtain ⟨_, e, _⟩ := hl; exact Heap.lt_size e
  refine wpAny_pyIter_list hl ?_
  have hI : s₁.heap.objs.size ≠ ax := fun e => Nat.lt_irrefl _ (e ▸ hlt)
  have up : ∀ b o, s₁.heap.get? b = some o → (s₁.heap.push { cls := .type "list_iterator", data := .fields #[.ref ax, .int 0 0] }).get? b = some o := fun b o e => Heap.get?_push_of_some _ e
  have hit : (s₁.heap.push { cls := .type "list_iterator", data := .fields #[.ref ax, .int 0 0] }).IsListIter s₁.heap.objs.size ax 0 := ⟨_, Heap.get?_push_size _ rfl, rfl, rfl⟩
  have F1 := F.keeps up
  have N1 := N.grown up
  have hlt1 : ∀ q ∈ news, q.1 < (s₁.heap.push { cls := .type "list_iterator", data := .fields #[.ref ax, .int 0 0] }).objs.size := fun q hq => Heap.lt_size (N1 q hq).1
  have hneI : ∀ q ∈ news, q.1 ≠ s₁.heap.objs.size := fun q hq => Nat.ne_of_lt (Heap.lt_size (N q hq).1)
  have hLI : L ≠ s₁.heap.objs.size := Nat.ne_of_lt F.ns.lt
  have hI₀ := next_is_new F
  have hsz1 : (s₁.heap.push { cls := .type "list_iterator", data := .fields #[.ref ax, .int 0 0] }).objs.size = s₁.heap.objs.size + 1 := Heap.size_push ..
  have hl1 := hl.push { cls := .type "list_iterator", data := .fields #[.ref ax, .int 0 0] }
  generalize s₁.heap.push { cls := .type "list_iterator", data := .fields #[.ref ax, .int 0 0] } = H1 at hit F1 N1 hlt1 hsz1 hl1 ⊢
  have hD₀ := next_is_new F1
  refine wpAny_newObj_type (wpAny_newFunctionEnv hcell (by intro y hy; simp at hy) (fun h₁ hns₁ hsb₁ => ?_) hkind)
  dsimp only at hns₁ hsb₁ ⊢
  have hlD : (H1.push { cls := .type "list", dict := none, data := .seq ([] : List Value).toArray }).get? H1.objs.size = some (listOf #[] 0) := Heap.get?_push_size _ rfl
  have F2 := F1.push { cls := .type "list", dict := none, data := .seq ([] : List Value).toArray }
  have N2 : News h₀ L (H1.push { cls := .type "list", dict := none, data := .seq ([] : List Value).toArray }) ((H1.objs.size, listOf #[] 0) :: news) := fun q hq => by
    rcases List.mem_cons.mp hq with rfl | hq
    · exact ⟨hlD, (fun e => Nat.ne_of_lt F1.ns.lt (show L = H1.objs.size from Eq.symm e)), hD₀⟩
    · exact ⟨Heap.get?_push_of_some _ (N1 q hq).1, (N1 q hq).2⟩
  have hl2 := hl1.push { cls := .type "list", dict := none, data := .seq ([] : List Value).toArray }
  have hit2 : (H1.push { cls := .type "list", dict := none, data := .seq ([] : List Value).toArray }).IsListIter s₁.heap.objs.size ax 0 := hit.at fun o e => Heap.get?_push_of_some _ e
  have hC₀ := next_is_new F2
  have hsz2 : (H1.push { cls := .type "list", dict := none, data := .seq ([] : List Value).toArray }).objs.size = H1.objs.size + 1 := Heap.size_push ..
  generalize hH2 : H1.push { cls := .type "list", dict := none, data := .seq ([] : List Value).toArray } = H2 at hns₁ hsb₁ hlD F2 N2 hl2 hit2 hC₀ hsz2 ⊢
  have below : ∀ b o, H2.get? b = some o → h₁.get? b = some o := fun b o e => hsb₁.extBut b o (Nat.ne_of_lt (Heap.lt_size e)) (Heap.get?_push_of_some _ e)
  have hit3 : h₁.IsListIter s₁.heap.objs.size ax 0 := hit2.at fun o e => below _ _ e
  have hl3 : h₁.IsList ax #[] := hl2.at fun o e => below _ _ e
  have F3 : Fr h₀ L h₁ m := F2.keeps below
  have N3 : News h₀ L h₁ ((H1.objs.size, listOf #[] 0) :: news) := N2.grown below
  have loop : ∀ s₃ : Shared, s₃ = { s₁ with heap := h₁, toks := s₁.toks + ([] : List (Str × Value)).length } →
      codeAny (model prog w) A (.compLoop (.ListComp elt [⟨target, iter, [], 0⟩] scope pos) 0 (.ref s₁.heap.objs.size) (.ref H1.objs.size) (compEnvC scope [] H2.objs.size env))
        (compPost (model prog w) A E none Q (.ref H1.objs.size) H2.objs.size) s₃ := by
    rintro s₃ rfl
    refine kcp_loop (fun _ s' => s' = { s₁ with heap := h₁, toks := s₁.toks + ([] : List (Str × Value)).length }) ?_ 0 rfl
    rintro _ _ rfl
    refine wpAny_pyNext_list_end hh hit3 hl3 rfl fun h' he => ?_
    have hCI : H2.objs.size ≠ s₁.heap.objs.size := by omega
    refine ⟨_, hns₁.at' fun o e => he _ o hCI e, fun h'' hs'' => ?_⟩
    have hDI : H1.objs.size ≠ s₁.heap.objs.size := by omega
    have F4 : Fr h₀ L h' m := ⟨F3.ns.at' fun o e => he L o hLI e, fun b o e => he b o (fun q => by rw [q, hI₀] at e; cases e) (F3.keep b o e), F3.above⟩
    have hLC : H2.objs.size ≠ L := fun e => Nat.ne_of_lt F2.ns.lt e.symm
    refine K _ h'' _ (F4.change hs'' hLC hC₀) (fun q hq => ?_) fun q hq => Nat.ne_of_lt (hlt1 q hq)
    have z := N3 q hq
    have z2 := Heap.lt_size (N2 q hq).1
    refine ⟨hs''.extBut _ _ (Nat.ne_of_lt z2) (he _ _ ?_ z.1), z.2⟩
    rcases List.mem_cons.mp hq with rfl | hq
    · exact hDI
    · exact hneI q hq
  exact codeAny_compStart_list (loop _ rfl) (wpAny_pyIter_listiter hit3 (loop _ rfl))

section
variable {g : G} {n : Nat}
theorem getGet {h₀ : Heap} {L : Addr} {p : P} {s : Shared} {σ : St} {m : Str → Option Value} {obs : List Obj} {A : Around} {E : Value → Shared → Prop} (R : RepX g.prog g.w h₀ L p σ s.heap m obs) {l : Nat} {ad : Addr} (hl : p.r[l]? = some ad) (ho : isSd σ.objs l = true) {pl : Sem Bool} {Q : Value × List Value → Shared → Prop}
    (k : Q (.builtin "dict.get", [.ref ad]) s) : wpAny (model g.prog g.w) A (getMethod (.ref ad) "get" pl) Q E s := by
  obtain ⟨u, hu⟩ := Option.isSome_iff_exists.mp ho
  obtain ⟨o, q1, g1⟩ := bind2_some hu
  obtain ⟨ad', ob, h1, h2, ⟨kvs, h3, _⟩, h4⟩ := R.get (q1.trans (congrArg some (sdO_some g1)))
  cases Option.some.inj (hl.symm.trans h1)
  exact kdg_method R.N (R.mem h4) h3 k
theorem s_get {h₀ : Heap} {L : Addr} {p : P} {s : Shared} {σ : St} {m : Str → Option Value} {obs : List Obj} {A : Around} {Q E : Value → Shared → Prop} (R : RepX g.prog g.w h₀ L p σ s.heap m obs) {l : Nat} {ad : Addr} (hl : p.r[l]? = some ad) {vs : List V} {ys : List Value} (hv : RVs p vs ys) {u : V} (h : getV σ.objs l vs = some u)
    (k : ∀ y tk, RV p u y → Q y { s with toks := tk }) : wpAny (model g.prog g.w) A (call (.builtin "dict.get") ([.ref ad] ++ ys)) Q E s := by
  obtain ⟨a, b, q1, g1⟩ := bind2_pair h
  obtain ⟨x, q2, g2⟩ := bind2_some g1
  obtain ⟨o, q3, g3⟩ := bind2_some g2
  obtain ⟨es, q4, g4⟩ := bind2_some g3
  rw [twoL_some q1, show a = _ from strV_some q2] at hv
  clear h g1 g2 g3
  obtain ⟨yk, yd, rfl, ⟨t, rfl⟩, hd⟩ := RVs_2 hv
  rw [sdO_some q4] at q3
  obtain ⟨ad', ob, h1, h2, ⟨kvs, h3, h4, h5, _⟩, h6⟩ := R.get q3
  cases Option.some.inj (hl.symm.trans h1)
  have hbig := R.bigAt hl q3 rfl
  have hw := sd_look h4 h5 x
  rw [← lk_eq] at hw
  cases hu : lk x es with
  | some u' =>
    rw [hu] at g4 hw
    obtain ⟨y, e1, e2⟩ := hw
    exact kdg_get2 R.N (R.mem h6) h3 hbig (strKind_is _ _ x t) _ e1 (k y _ (Option.some.inj g4 ▸ e2))
  | none =>
    rw [hu] at g4 hw
    exact kdg_get2 R.N (R.mem h6) h3 hbig (strKind_is _ _ x t) none hw (k yd _ (Option.some.inj g4 ▸ hd))
theorem keyLit_of {k : Option Expr} {x : Str} (h : keyLit k = some x) : ∃ u pos, k = some (.Constant (.str x) u pos) := by
  unfold keyLit at h
  split at h
  · cases h; exact ⟨_, _, rfl⟩
  · cases h
theorem intLit_of {k : Expr} {x : Int} (h : intLit k = some x) : ∃ u pos, k = .Constant (.int x) u pos := by
  unfold intLit at h
  split at h
  · cases h; exact ⟨_, _, rfl⟩
  · cases h
theorem constPairs_cons {k : Option Expr} {r : List (Option Expr)} {v : Expr} {s : List Expr} {ps : List (Str × Int)} (h : constPairs (k :: r) (v :: s) = some ps) : ∃ x i t, ps = (x, i) :: t ∧ constPairs r s = some t ∧ x ∉ t.map (·.1) ∧ (∃ u pos, k = some (.Constant (.str x) u pos)) ∧ ∃ u pos, v = .Constant (.int i) u pos := by
  unfold constPairs at h
  split at h
  · rename_i x i h1 h2
    split at h
    · rename_i t ht
      split at h
      · cases h
      · rename_i hn
        cases h
        exact ⟨x, i, t, rfl, ht, by simpa using hn, keyLit_of h1, intLit_of h2⟩
    · cases h
  · cases h
theorem constPairs_len : ∀ {ks : List (Option Expr)} {vs : List Expr} {ps : List (Str × Int)}, constPairs ks vs = some ps → ks.length = ps.length ∧ vs.length = ps.length ∧ ks.all (·.isSome) = true ∧ strLits ks = true ∧ (ps.map (·.1)).Nodup
  | [], [], ps, h => by cases h; exact ⟨rfl, rfl, rfl, rfl, List.nodup_nil⟩
  | k :: r, v :: s, ps, h => by
    obtain ⟨x, i, t, rfl, ht, hn, ⟨u, pk, rfl⟩, u', pv, rfl⟩ := constPairs_cons h
    obtain ⟨a, b, c, d, e⟩ := constPairs_len ht
    refine ⟨by simp [a], by simp [b], by simpa using c, d, ?_⟩
    rw [List.map_cons, List.nodup_cons]
    exact ⟨hn, e⟩
  | [], _ :: _, _, h => by cases h
  | _ :: _, [], _, h => by cases h
theorem pairs_lits {prog : Program} {w : World} {A : Around} {E : Value → Shared → Prop} {env : Env} {pos : Pos} : ∀ {ks : List (Option Expr)} {vs : List Expr} {ps : List (Str × Int)}, constPairs ks vs = some ps → ∀ {s : Shared} {Q : List (Value × Value) → Shared → Prop},
    (∀ ws tk, allStrKeys ws = true → (strPairs ws).map (·.1) = ps.map (·.1) → (∀ p : P, RVs p (ps.map fun x => .sc (.int x.2)) ((strPairs ws).map (·.2))) → Q ws { s with toks := tk }) → wpAny (model prog w) A (evalPairs (pairTrees ks vs env pos)) Q E s
  | [], [], ps, h, s, Q, K => by
    cases h
    exact evalPairs_nil (K [] s.toks rfl rfl fun _ => trivial)
  | k :: r, v :: vs, ps, h, s, Q, K => by
    obtain ⟨x, i, t, rfl, ht, hn, ⟨u, pk, rfl⟩, u', pv, rfl⟩ := constPairs_cons h
    refine evalPairs_cons (wpAny_Constant_str (wpAny_bind (wpAny_Constant_int (wpAny_bind (wpAny_standAt (wpAny_pure (pairs_lits ht fun ws tk a b c => ?_)))))))
    exact K _ tk a (by show _ :: _ = _ :: _; rw [b]) fun p => ⟨⟨_, rfl⟩, c p⟩
  | [], _ :: _, _, h, _, _, _ => by cases h
  | _ :: _, [], _, h, _, _, _ => by cases h
theorem s_dict {A₀ A : Around} {base h₀ : Heap} {outer : List Env} {cn : Str} {cs : Scope} {L a : Addr} {ccd : Value} {p : P} {s : Shared} {σ : St} {Q E : Value → Shared → Prop} {m : Str → Option Value} {obs : List Obj} {env : Env} {k : Option Expr} {ks : List (Option Expr)} {v : Expr} {vs : List Expr} {ps : List (Str × Int)} {pos : Pos}
    (C : Cx g n A₀ A base h₀ outer cn cs L a ccd) (R : RepX g.prog g.w h₀ L p σ s.heap m obs) (h : constPairs (k :: ks) (v :: vs) = some ps) (hz : ps.length ≤ 10)
    (K : ∀ d ob h' tk, Fr h₀ L h' m → News h₀ L h' ((d, ob) :: (p.r.zip obs ++ p.fr)) → (∀ q ∈ p.r.zip obs ++ p.fr, q.1 < d) → (d == sysModules) = false → (∃ kvs, ob.IsDictOf (strKind g.prog g.w) kvs ∧ kvs.map (·.1) = ps.map (·.1) ∧ ∀ p : P, RVs p (ps.map fun x => .sc (.int x.2)) (kvs.map (·.2))) → Q (.ref d) { s with heap := h', toks := tk }) :
    wpAny (model g.prog g.w) A (eval (.Dict (k :: ks) (v :: vs) pos) env) Q E s := by
  obtain ⟨c1, c2, c3, c4, c5⟩ := constPairs_len h
  refine kdn_str c4 R.F R.N C.T.nolimit c3 (c1.trans c2.symm) (List.cons_ne_nil _ _) (by omega) fun d h' o F' N' hlt hbig ho => ?_
  refine pairs_lits h fun ws tk a b c => ?_
  refine kdn_made_str (s := { s with heap := h', toks := tk }) F' N' (.head fun q hq => Nat.ne_of_lt (hlt q hq)) ho a (by rw [b]; exact c5) fun h'' o' F'' N'' ho' => ?_
  exact K d o' h'' _ F'' N'' hlt hbig ⟨_, ho', b, c⟩
end
end Mine
-- M13
namespace Mine

section
variable {g : G} {n : Nat} {ih : Ev}
theorem RepX.here {prog : Program} {w : World} {h₀ h : Heap} {L : Addr} {p : P} {σ : St} {m : Str → Option Value} {obs : List Obj} (R : RepX prog w h₀ L p σ h m obs) (a : Addr) : RV { p with r := p.r ++ [a] } (.sc (.ref (slen σ.objs))) (.ref a) := by
  have hr : p.r.length = slen σ.objs := R.len.trans (R.ob.length.symm.trans (toL_len _))
  refine ⟨a, ?_, rfl⟩
  rw [← hr]
  simp
theorem RepX.lts {prog : Program} {w : World} {h₀ h : Heap} {L : Addr} {p : P} {σ : St} {m : Str → Option Value} {obs : List Obj} (R : RepX prog w h₀ L p σ h m obs) : ∀ q ∈ p.r.zip obs ++ p.fr, q.1 ≠ h.objs.size := fun q hq => Nat.ne_of_lt (Heap.lt_size (R.N q hq).1)
theorem ref_mono {p q : P} {l : Nat} {ad : Addr} (le : p.le q) (h : p.r[l]? = some ad) : q.r[l]? = some ad := by
  obtain ⟨a, h1, h2⟩ := RS.mono (s := .ref l) (x := .ref ad) le ⟨ad, h, rfl⟩
  cases h2
  exact h1
theorem argsV_sc (I : Good g n ih) : ∀ {args : List Expr} {σ σ' : St} {vs : List V}, argsV ih args σ = some (vs, σ') → σ'.sc = σ.sc
  | [], _, _, _, h => by cases h; rfl
  | e :: r, σ, σ', vs, h => (I.es _ _ _ _ (show ih.es (e :: r) σ = some (vs, σ') from h)).1
theorem sE_const {c : Const} {kd : Nat} {pos : Pos} {σ σ' : St} {v : V} (h : stConst c σ = some (v, σ')) : SE g (n + 1) (.Constant c kd pos) σ v σ' := by
  cases c with
  | none => exact SE_of h ⟨rfl, fun A₀ A base h₀ outer cn L a ccd C p s Q E R k => wpAny_Constant_none (k p _ _ _ (.refl _) R rfl)⟩
  | bool b => exact SE_of h ⟨rfl, fun A₀ A base h₀ outer cn L a ccd C p s Q E R k => wpAny_Constant_bool (k p _ _ _ (.refl _) R rfl)⟩
  | int i => exact SE_of h ⟨rfl, fun A₀ A base h₀ outer cn L a ccd C p s Q E R k => wpAny_Constant_int (k p _ _ _ (.refl _) R ⟨_, rfl⟩)⟩
  | str x => exact SE_of h ⟨rfl, fun A₀ A base h₀ outer cn L a ccd C p s Q E R k => wpAny_Constant_str (k p _ _ _ (.refl _) R ⟨_, rfl⟩)⟩
  | _ => exact no_none h
theorem sE_name {x : Str} {pos : Pos} {σ σ' : St} {v : V} (h : stName g.gt x σ = some (v, σ')) : SE g (n + 1) (.Name x pos) σ v σ' := by
  obtain ⟨hd, g1⟩ := onlyIf_some h
  obtain ⟨v', h1, g2⟩ := bind2_some g1
  rw [seq_eq] at hd
  exact SE_of g2 (s_name ((Bool.not_eq_true' _).mp hd) h1)
theorem sE_attr (I : Good g n ih) {o : Expr} {f : Str} {pos : Pos} {σ σ' : St} {v : V} (h : stAttr g.T ih o f σ = some (v, σ')) : SE g (n + 1) (.Attribute o f pos) σ v σ' := by
  obtain ⟨hb, g1⟩ := onlyIf_some h
  obtain ⟨v1, σ1, h1, g2⟩ := bind2_pair g1
  obtain ⟨u, h2, g3⟩ := bind2_some g2
  have S1 := I.e _ _ _ _ h1
  refine SE_of g3 ⟨S1.1, fun A₀ A base h₀ outer cn L a ccd C p s Q E R k => Attribute_any_ (S1.run rfl (C.less (Nat.le_succ n)) R fun p1 y1 h1 tk1 le1 R1 hy1 => ?_) ?_⟩
  · obtain ⟨m, obs, R1'⟩ := id R1
    exact s_getAttr (C.less (Nat.le_succ n)) R1' hy1 h2 fun y' tk hy' => k p1 y' h1 tk le1 R1 hy'
  · rw [arm_eval_Attribute, base_plain hb]
theorem sE_cmp (I : Good g n ih) {l : Expr} {ops : List CmpOp} {rs : List Expr} {pos : Pos} {σ σ' : St} {v : V} (h : stCmp ih l ops rs σ = some (v, σ')) : SE g (n + 1) (.Compare l ops rs pos) σ v σ' := by
  obtain ⟨b, σ2, q1, g1⟩ := bind2_pair h
  obtain ⟨op, r, v1, v2, σ1, rfl, rfl, hm, S1, S2, h3⟩ := cmp_of I q1
  refine SE_of g1 ⟨S2.1.trans S1.1, fun A₀ A base h₀ outer cn L a ccd C p s Q E R k => wpAny_Compare1 (S1.run rfl (C.less (Nat.le_succ n)) R fun p1 y1 h1 tk1 le1 R1 hy1 => ?_) hm⟩
  refine S2.run S1.1 (C.less (Nat.le_succ n)) R1 fun p2 y2 h2 tk2 le2 R2 hy2 => ?_
  obtain ⟨m, obs, R2'⟩ := id R2
  exact s_cmp R2' (hy1.mono le2) hy2 h3 fun tk => k p2 _ h2 tk (le1.trans le2) R2 rfl
theorem sE_and (I : Good g n ih) {xs : List Expr} {pos : Pos} {σ σ' : St} {v : V} (h : stAnd ih pos xs σ = some (v, σ')) : SE g (n + 1) (.BoolOp .And xs pos) σ v σ' := by
  cases xs with
  | nil => exact no_none h
  | cons x r =>
    cases r with
    | nil =>
      have S1 := I.e _ _ _ _ h
      exact ⟨S1.1, fun A₀ A base h₀ outer cn L a ccd C p s Q E R k => BoolOp_one (S1.run rfl (C.less (Nat.le_succ n)) R k)⟩
    | cons y r =>
      obtain ⟨v1, σ1, h1, g1⟩ := bind2_pair h
      obtain ⟨b, q1, g2⟩ := bind2_some g1
      have S1 := I.e _ _ _ _ h1
      rw [show v1 = _ from boolV_some q1] at S1
      clear h g1 q1 h1
      cases b with
      | true =>
        have S2 := I.e _ _ _ _ g2
        refine ⟨S2.1.trans S1.1, fun A₀ A base h₀ outer cn L a ccd C p s Q E R k => BoolOp_and (S1.run rfl (C.less (Nat.le_succ n)) R fun p1 y1 h1 tk1 le1 R1 hy1 => ?_)⟩
        rw [show y1 = .bool true from hy1]
        exact wpAny_truthy_bool (S2.run S1.1 (C.less (Nat.le_succ n)) R1 fun p2 y2 h2 tk2 le2 R2 hy2 => k p2 y2 h2 tk2 (le1.trans le2) R2 hy2)
      | false =>
        refine SE_of g2 ⟨S1.1, fun A₀ A base h₀ outer cn L a ccd C p s Q E R k => BoolOp_and (S1.run rfl (C.less (Nat.le_succ n)) R fun p1 y1 h1 tk1 le1 R1 hy1 => ?_)⟩
        rw [show y1 = .bool false from hy1]
        exact wpAny_truthy_bool (k p1 _ h1 tk1 le1 R1 rfl)
theorem sE_or (I : Good g n ih) {xs : List Expr} {pos : Pos} {σ σ' : St} {v : V} (h : stOr ih pos xs σ = some (v, σ')) : SE g (n + 1) (.BoolOp .Or xs pos) σ v σ' := by
  cases xs with
  | nil => exact no_none h
  | cons x r =>
    cases r with
    | nil =>
      have S1 := I.e _ _ _ _ h
      exact ⟨S1.1, fun A₀ A base h₀ outer cn L a ccd C p s Q E R k => BoolOp_one (S1.run rfl (C.less (Nat.le_succ n)) R k)⟩
    | cons y r =>
      obtain ⟨v1, σ1, h1, g1⟩ := bind2_pair h
      obtain ⟨b, q1, g2⟩ := bind2_some g1
      have S1 := I.e _ _ _ _ h1
      rw [show v1 = _ from boolV_some q1] at S1
      clear h g1 q1 h1
      cases b with
      | true =>
        refine SE_of g2 ⟨S1.1, fun A₀ A base h₀ outer cn L a ccd C p s Q E R k => BoolOp_or (S1.run rfl (C.less (Nat.le_succ n)) R fun p1 y1 h1 tk1 le1 R1 hy1 => ?_)⟩
        rw [show y1 = .bool true from hy1]
        exact wpAny_truthy_bool (k p1 _ h1 tk1 le1 R1 rfl)
      | false =>
        have S2 := I.e _ _ _ _ g2
        refine ⟨S2.1.trans S1.1, fun A₀ A base h₀ outer cn L a ccd C p s Q E R k => BoolOp_or (S1.run rfl (C.less (Nat.le_succ n)) R fun p1 y1 h1 tk1 le1 R1 hy1 => ?_)⟩
        rw [show y1 = .bool false from hy1]
        exact wpAny_truthy_bool (S2.run S1.1 (C.less (Nat.le_succ n)) R1 fun p2 y2 h2 tk2 le2 R2 hy2 => k p2 y2 h2 tk2 (le1.trans le2) R2 hy2)
theorem sE_bin (I : Good g n ih) {l : Expr} {op : Operator} {r : Expr} {pos : Pos} {σ σ' : St} {v : V} (h : stBin ih l op r σ = some (v, σ')) : SE g (n + 1) (.BinOp l op r pos) σ v σ' := by
  obtain ⟨v1, σ1, h1, g1⟩ := bind2_pair h
  obtain ⟨v2, σ2, h2, g2⟩ := bind2_pair g1
  obtain ⟨b', h3, g3⟩ := bind2_some g2
  have S1 := I.e _ _ _ _ h1
  have S2 := I.e _ _ _ _ h2
  refine SE_of g3 ⟨S2.1.trans S1.1, fun A₀ A base h₀ outer cn L a ccd C p s Q E R k => wpAny_BinOp (S1.run rfl (C.less (Nat.le_succ n)) R fun p1 y1 h1 tk1 le1 R1 hy1 => ?_)⟩
  refine S2.run S1.1 (C.less (Nat.le_succ n)) R1 fun p2 y2 h2 tk2 le2 R2 hy2 => ?_
  obtain ⟨m, obs, R2'⟩ := R2
  exact s_bin R2' (hy1.mono le2) hy2 h3 fun p3 y3 h3 tk3 le3 R3 hy3 => k p3 y3 h3 tk3 ((le1.trans le2).trans le3) R3 hy3
theorem sE_minus (I : Good g n ih) {x : Expr} {pos : Pos} {σ σ' : St} {v : V} (h : stMinus ih x σ = some (v, σ')) : SE g (n + 1) (.UnaryOp .USub x pos) σ v σ' := by
  obtain ⟨v1, σ1, h1, g1⟩ := bind2_pair h
  obtain ⟨i, q1, g2⟩ := bind2_some g1
  have S1 := I.e _ _ _ _ h1
  rw [show v1 = _ from intV_some q1] at S1
  refine SE_of g2 ⟨S1.1, fun A₀ A base h₀ outer cn L a ccd C p s Q E R k => wpAny_UnaryOp (S1.run rfl (C.less (Nat.le_succ n)) R fun p1 y1 h1 tk1 le1 R1 hy1 => ?_)⟩
  obtain ⟨t, e⟩ := hy1
  rw [e]
  exact PyProof.Rows.neg_int (k p1 _ h1 _ le1 R1 ⟨_, rfl⟩)
theorem sE_if (I : Good g n ih) {t b o : Expr} {pos : Pos} {σ σ' : St} {v : V} (h : stIf ih t b o σ = some (v, σ')) : SE g (n + 1) (.IfExp t b o pos) σ v σ' := by
  obtain ⟨b1, σ1, h1, g1⟩ := bind2_pair h
  have S1 := I.t _ _ _ _ h1
  clear h h1
  cases b1 with
  | true =>
    have S2 := I.e _ _ _ _ g1
    exact ⟨S2.1.trans S1.1, fun A₀ A base h₀ outer cn L a ccd C p s Q E R k => wpAny_IfExp (S1.run rfl (C.less (Nat.le_succ n)) R fun p1 h1 tk1 le1 R1 =>
      S2.run S1.1 (C.less (Nat.le_succ n)) R1 fun p2 y2 h2 tk2 le2 R2 hy2 => k p2 y2 h2 tk2 (le1.trans le2) R2 hy2)⟩
  | false =>
    have S2 := I.e _ _ _ _ g1
    exact ⟨S2.1.trans S1.1, fun A₀ A base h₀ outer cn L a ccd C p s Q E R k => wpAny_IfExp (S1.run rfl (C.less (Nat.le_succ n)) R fun p1 h1 tk1 le1 R1 =>
      S2.run S1.1 (C.less (Nat.le_succ n)) R1 fun p2 y2 h2 tk2 le2 R2 hy2 => k p2 y2 h2 tk2 (le1.trans le2) R2 hy2)⟩
theorem sE_cut (I : Good g n ih) {x i j : Expr} {ppos pos : Pos} {σ σ' : St} {v : V} (h : stCut ih x i j σ = some (v, σ')) : SE g (n + 1) (.Subscript x (.Slice (some i) (some j) none ppos) pos) σ v σ' := by
  obtain ⟨v1, σ1, h1, g1⟩ := bind2_pair h
  obtain ⟨v2, σ2, h2, g2⟩ := bind2_pair g1
  obtain ⟨v3, σ3, h3, g3⟩ := bind2_pair g2
  obtain ⟨u, h4, g4⟩ := bind2_some g3
  have S1 := I.e _ _ _ _ h1
  have S2 := I.e _ _ _ _ h2
  have S3 := I.e _ _ _ _ h3
  clear h g1 g2 g3 h1 h2 h3
  refine SE_of g4 ⟨S3.1.trans (S2.1.trans S1.1), fun A₀ A base h₀ outer cn L a ccd C p s Q E R k => Subscript_ (S1.run rfl (C.less (Nat.le_succ n)) R fun p1 y1 h1 tk1 le1 R1 hy1 => ?_)⟩
  refine wpAny_Slice (S2.run S1.1 (C.less (Nat.le_succ n)) R1 fun p2 y2 h2 tk2 le2 R2 hy2 => ?_)
  refine S3.run (S2.1.trans S1.1) (C.less (Nat.le_succ n)) R2 fun p3 y3 h3 tk3 le3 R3 hy3 => ?_
  refine wpAny_pure ?_
  obtain ⟨m, obs, R3'⟩ := R3
  exact s_cut (s := { s with heap := h3, toks := tk3 }) R3' ((hy1.mono le2).mono le3) (hy2.mono le3) hy3 h4 fun p4 y4 h4 tk4 le4 R4 hy4 => k p4 y4 h4 tk4 (((le1.trans le2).trans le3).trans le4) R4 hy4
theorem not_slice (i : Expr) : notSlice i = true → match i with | .Slice .. => False | _ => True := by
  cases i with
  | Slice _ _ _ _ => exact fun h => by cases h
  | _ => exact fun _ => trivial
theorem sE_item (I : Good g n ih) {x i : Expr} {pos : Pos} {σ σ' : St} {v : V} (h : stItem ih x i σ = some (v, σ')) : SE g (n + 1) (.Subscript x i pos) σ v σ' := by
  obtain ⟨hns, g0⟩ := onlyIf_some h
  obtain ⟨v1, σ1, h1, g1⟩ := bind2_pair g0
  obtain ⟨v2, σ2, h2, g2⟩ := bind2_pair g1
  obtain ⟨u, h3, g3⟩ := bind2_some g2
  have S1 := I.e _ _ _ _ h1
  have S2 := I.e _ _ _ _ h2
  refine SE_of g3 ⟨S2.1.trans S1.1, fun A₀ A base h₀ outer cn L a ccd C p s Q E R k => Subscript_ (S1.run rfl (C.less (Nat.le_succ n)) R fun p1 y1 h1 tk1 le1 R1 hy1 => ?_)⟩
  refine S2.run S1.1 (C.less (Nat.le_succ n)) R1 fun p2 y2 h2 tk2 le2 R2 hy2 => ?_
  obtain ⟨m, obs, R2'⟩ := id R2
  exact s_item (s := { s with heap := h2, toks := tk2 }) R2' (hy1.mono le2) hy2 h3 (not_slice _ hns) fun y' tk hy' => k p2 y' h2 tk (le1.trans le2) R2 hy'
theorem cutArgs_some {e : Expr} {x : Expr × Expr} (h : cutArgs e = some x) : ∃ pos, e = .Slice (some x.1) (some x.2) none pos := by
  cases e with
  | Slice lo hi st pos =>
    obtain ⟨i, q1, g1⟩ := bind2_some h
    obtain ⟨j, q2, g2⟩ := bind2_some g1
    cases st with
    | some _ => exact no_none g2
    | none =>
      rw [q1, q2, ← Option.some.inj g2]
      exact ⟨pos, rfl⟩
  | _ => exact no_none h
theorem sE_sub (I : Good g n ih) {x i : Expr} {pos : Pos} {σ σ' : St} {v : V} (h : stSub ih x i σ = some (v, σ')) : SE g (n + 1) (.Subscript x i pos) σ v σ' := by
  unfold stSub at h
  cases hc : cutArgs i with
  | some q =>
    rw [hc] at h
    obtain ⟨pp, rfl⟩ := cutArgs_some hc
    exact sE_cut I h
  | none =>
    rw [hc] at h
    exact sE_item I h
theorem sE_list (I : Good g n ih) {es : List Expr} {pos : Pos} {σ σ' : St} {v : V} (h : stList ih es σ = some (v, σ')) : SE g (n + 1) (.List es pos) σ v σ' := by
  obtain ⟨hu, g0⟩ := onlyIf_some h
  obtain ⟨vs, σ1, h1, g1⟩ := bind2_pair g0
  obtain ⟨hl, g2⟩ := onlyIf_some g1
  have hl := of_decide_eq_true hl
  have S1 := I.es _ _ _ _ h1
  refine SE_of g2 ⟨S1.1, fun A₀ A base h₀ outer cn L a ccd C p s Q E R k => List_ ?_⟩
  clear h g0 g1 g2 h1
  rw [back_plain hu]
  refine S1.run rfl (C.less (Nat.le_succ n)) hu R fun p1 ys h1 tk1 le1 R1 hy1 => ?_
  obtain ⟨m, obs, R1⟩ := R1
  refine newList_N R1.F R1.N (fun h' F' N' => ?_) (size_of (hy1.length ▸ hl) (by decide))
  obtain ⟨le2, R2⟩ := R1.alloc (o := .list vs) F' N' R1.lts ⟨ys, 0, rfl, RVs.mono (p := p1) (q := { p1 with r := p1.r ++ [h1.objs.size] }) ⟨rfl, List.prefix_append _ _, fun _ h => h⟩ hy1, hl⟩ (fun e => by cases e)
  exact k _ _ h' tk1 (le1.trans le2) ⟨m, _, R2⟩ (R1.here _)
theorem sE_tup (I : Good g n ih) {es : List Expr} {kd : Nat} {pos : Pos} {σ σ' : St} {v : V} (h : stTup ih es σ = some (v, σ')) : SE g (n + 1) (.Tuple es kd pos) σ v σ' := by
  obtain ⟨hu, g0⟩ := onlyIf_some h
  obtain ⟨vs, σ1, h1, g1⟩ := bind2_pair g0
  obtain ⟨ss, h2, g2⟩ := bind2_some g1
  obtain ⟨hl, g3⟩ := onlyIf_some g2
  have hl := of_decide_eq_true hl
  have S1 := I.es _ _ _ _ h1
  refine SE_of g3 ⟨S1.1, fun A₀ A base h₀ outer cn L a ccd C p s Q E R k => Tuple_ ?_⟩
  clear h g0 g1 g2 g3 h1
  rw [back_plain hu]
  refine S1.run rfl (C.less (Nat.le_succ n)) hu R fun p1 ys h1 tk1 le1 R1 hy1 => ?_
  obtain ⟨m, obs, R1⟩ := R1
  have hs := scs_of h2 hy1
  refine newTuple_N R1.F R1.N (fun h' F' N' => ?_) (size_of (hs.length ▸ hl) (by decide))
  obtain ⟨le2, R2⟩ := R1.freeze F' N' R1.lts
  exact k _ _ h' tk1 (le1.trans le2) ⟨m, _, R2⟩ ⟨_, _, rfl, .head _, hs.mono le2⟩
theorem sE_dict {ks : List (Option Expr)} {vs : List Expr} {pos : Pos} {σ σ' : St} {v : V} (h : stDict ks vs σ = some (v, σ')) : SE g (n + 1) (.Dict ks vs pos) σ v σ' := by
  cases ks with
  | nil =>
    cases vs with
    | cons _ _ => exact no_none h
    | nil =>
      refine SE_of h ⟨rfl, fun A₀ A base h₀ outer cn L a ccd C p s Q E R k => wpAny_Dict_empty ?_⟩
      obtain ⟨m, obs, R⟩ := R
      obtain ⟨le2, R2⟩ := R.alloc (o := .sdict []) (R.F.push _) (News.push R.F R.N _) R.lts ⟨[], dict_nil (g := g) _, rfl, trivial, by simp⟩ (fun _ => big_new C R.F)
      exact k _ _ _ s.toks le2 ⟨m, _, R2⟩ (R.here _)
  | cons k ks =>
    cases vs with
    | nil => exact no_none h
    | cons v vs =>
      obtain ⟨ps, hps, g1⟩ := bind2_some h
      obtain ⟨hz, g2⟩ := onlyIf_some g1
      have hz := Nat.le_of_ble_eq_true hz
      refine SE_of g2 ⟨rfl, fun A₀ A base h₀ outer cn L a ccd C p s Q E R K => ?_⟩
      clear h g1 g2
      obtain ⟨m, obs, R⟩ := R
      refine s_dict C R hps hz fun d ob h' tk F' N' hlt hbig ho => ?_
      obtain ⟨kvs, o1, o2, o3⟩ := ho
      obtain ⟨le2, R2⟩ := R.alloc (o := .sdict (ps.map fun x => (x.1, .sc (.int x.2)))) F' N' (fun q hq => Nat.ne_of_lt (hlt q hq)) ⟨kvs, o1, by rw [o2, List.map_map]; rfl, by rw [List.map_map]; exact o3 _, by rw [List.length_map]; exact Nat.le_trans hz (by decide)⟩ (fun _ => hbig)
      exact K _ _ _ tk le2 ⟨m, _, R2⟩ (R.here _)
theorem sE_comp (I : Good g n ih) {elt : Expr} {gens : List Comprehension} {scope : Scope} {pos : Pos} {σ σ' : St} {v : V} (h : stComp ih gens scope σ = some (v, σ')) : SE g (n + 1) (.ListComp elt gens scope pos) σ v σ' := by
  obtain ⟨⟨tgt, iter, ifs, asy⟩, q1, g1⟩ := bind2_some h
  obtain ⟨hc, g2⟩ := onlyIf_some g1
  have hc := Bool.and_eq_true_iff.mp hc
  have hc1 := Bool.and_eq_true_iff.mp hc.1
  have hc2 := Bool.and_eq_true_iff.mp hc.2
  obtain ⟨v1, σ1, h1, g3⟩ := bind2_pair g2
  obtain ⟨l, q2, g4⟩ := bind2_some g3
  obtain ⟨o, q3, g5⟩ := bind2_some g4
  obtain ⟨xs, q4, g6⟩ := bind2_some g5
  obtain ⟨hx, g7⟩ := onlyIf_some g6
  have S1 := I.e _ _ _ _ h1
  have e1 : ifs = [] := List.isEmpty_iff.mp hc1.1
  have e2 : asy = 0 := beq_iff_eq.mp hc1.2
  have q4 := listO_some q4
  rw [oneL_some q1, e1, e2]
  rw [show v1 = _ from refV_some q2] at S1
  rw [q4, List.isEmpty_iff.mp hx] at q3
  clear h g1 g2 g3 g4 g5 g6 q1 q2 q4 hc hc1 h1 e1 e2
  refine SE_of g7 ⟨S1.1, fun A₀ A base h₀ outer cn L a ccd C p s Q E R k => comp_nil hc2.1 (fold_plain hc2.2) (S1.run rfl (C.less (Nat.le_succ n)) R fun p1 y1 h1 tk1 le1 R1 hy1 => ?_)⟩
  obtain ⟨m, obs, R1⟩ := R1
  obtain ⟨ad, had, rfl⟩ := hy1
  obtain ⟨ad', ob, z1, z2, ⟨vs, j, rfl, z3, z3'⟩, z4⟩ := R1.get q3
  cases Option.some.inj (had.symm.trans z1)
  cases List.length_eq_zero_iff.mp z3.length.symm
  refine ⟨ad, h₀, L, m, _, rfl, C.hd, R1.F, R1.N, ⟨_, R1.heap z4, rfl, j, rfl⟩, fun D h' tk F' N' hlt => ?_⟩
  obtain ⟨le2, R2⟩ := R1.alloc (o := .list []) F' N' hlt ⟨[], 0, rfl, trivial, by simp⟩ (fun e => by cases e)
  exact k _ _ h' tk (le1.trans le2) ⟨m, _, R2⟩ (R1.here _)
theorem sE_mDef (I : Good g n ih) {o : Expr} {m : Str} {ap : Pos} {args : List Expr} {pos : Pos} {σ σ1 σ' : St} {v v1 : V} {fa : Addr} (hb : plainBase o = true) (hu : unstarred args = true) (hn : args.length < 20) (hl : (ap.endLine == pos.line) = true) (S1 : SE g n o σ v1 σ1) (hm : vMeth g.T σ1.objs v1 m = some fa)
    (h : mDef ih fa v1 args σ1 = some (v, σ')) : SE g (n + 1) (.Call (.Attribute o m ap) args [] pos) σ v σ' := by
  obtain ⟨vs, σ2, h2, g1⟩ := bind2_pair h
  have S2s := argsV_sc I h2
  have S3 := I.c _ _ _ _ _ g1
  clear h g1
  refine ⟨S3.1.trans (S2s.trans S1.1), fun A₀ A base h₀ outer cn L a ccd C p s Q E R k => w_methodCall hb hu hn hl (S1.run rfl (C.less (Nat.le_succ n)) R fun p1 y1 h1 tk1 le1 R1 hy1 pl => ?_)⟩
  obtain ⟨mm, obs, R1'⟩ := id R1
  refine s_getMethod (C.less (Nat.le_succ n)) R1' hy1 hm fun hk => ?_
  refine w_callWith (K := g.K) (s := { s with heap := h1, toks := tk1 }) (R1.inK C) hk hu (fun e => ?_) (fun e r he => ?_)
  · subst e
    cases h2
    exact S3.run S1.1 (C.less (Nat.le_succ n)) R1 ⟨hy1, trivial⟩ fun p3 y3 h3 tk3 le3 R3 hy3 => k p3 y3 h3 tk3 (le1.trans le3) R3 hy3
  · subst he
    have S2 := I.es _ _ _ _ (show ih.es (e :: r) σ1 = some (vs, σ2) from h2)
    exact S2.run S1.1 (C.less (Nat.le_succ n)) hu R1 fun p2 ys h2 tk2 le2 R2 hy2 => ⟨R2.inK C, S3.run (S2.1.trans S1.1) (C.less (Nat.le_succ n)) R2 ⟨hy1.mono le2, hy2⟩ fun p3 y3 h3 tk3 le3 R3 hy3 => k p3 y3 h3 tk3 ((le1.trans le2).trans le3) R3 hy3⟩
theorem sE_mGet (I : Good g n ih) {o : Expr} {ap : Pos} {args : List Expr} {pos : Pos} {σ σ1 σ' : St} {v : V} {l : Nat} (hb : plainBase o = true) (hu : unstarred args = true) (hn : args.length < 20) (hl : (ap.endLine == pos.line) = true) (S1 : SE g n o σ (.sc (.ref l)) σ1) (hL : isSd σ1.objs l = true)
    (h : mGet ih l args σ1 = some (v, σ')) : SE g (n + 1) (.Call (.Attribute o "get" ap) args [] pos) σ v σ' := by
  obtain ⟨vs, σ2, h2, g1⟩ := bind2_pair h
  obtain ⟨u, h3, g2⟩ := bind2_some g1
  clear h g1
  cases args with
  | nil => cases h2; exact no_none h3
  | cons e r =>
    have S2 := I.es _ _ _ _ (show ih.es (e :: r) σ1 = some (vs, σ2) from h2)
    refine SE_of g2 ⟨S2.1.trans S1.1, fun A₀ A base h₀ outer cn L a ccd C p s Q E R k => w_methodCall hb hu hn hl (S1.run rfl (C.less (Nat.le_succ n)) R fun p1 y1 h1 tk1 le1 R1 hy1 pl => ?_)⟩
    obtain ⟨mm, obs, R1'⟩ := id R1
    obtain ⟨ad, had, rfl⟩ := hy1
    refine getGet (s := { s with heap := h1, toks := tk1 }) R1' had hL ?_
    refine w_callWithB (S2.run S1.1 (C.less (Nat.le_succ n)) hu R1 fun p2 ys h2 tk2 le2 R2 hy2 => ?_)
    obtain ⟨m2, obs2, R2'⟩ := id R2
    exact s_get (s := { s with heap := h2, toks := tk2 }) R2' (ref_mono le2 had) hy2 h3 fun y tk hy => k p2 _ h2 tk (le1.trans le2) R2 hy
theorem sE_mAppend (I : Good g n ih) {o : Expr} {ap : Pos} {args : List Expr} {pos : Pos} {σ σ1 σ' : St} {v : V} {l : Nat} (hb : plainBase o = true) (hu : unstarred args = true) (hn : args.length < 20) (hl : (ap.endLine == pos.line) = true) (S1 : SE g n o σ (.sc (.ref l)) σ1) (hL : isL σ1.objs l = true)
    (h : mAppend ih l args σ1 = some (v, σ')) : SE g (n + 1) (.Call (.Attribute o "append" ap) args [] pos) σ v σ' := by
  obtain ⟨vs, σ2, h2, g1⟩ := bind2_pair h
  obtain ⟨u, h3, g2⟩ := bind2_some g1
  obtain ⟨os, h4, g3⟩ := bind2_some g2
  clear h g1 g2
  cases args with
  | nil => cases h2; exact no_none h3
  | cons e r =>
    have S2 := I.es _ _ _ _ (show ih.es (e :: r) σ1 = some (vs, σ2) from h2)
    rw [show vs = _ from oneL_some h3] at S2
    refine SE_of g3 ⟨S2.1.trans S1.1, fun A₀ A base h₀ outer cn L a ccd C p s Q E R k => w_methodCall hb hu hn hl (S1.run rfl (C.less (Nat.le_succ n)) R fun p1 y1 h1 tk1 le1 R1 hy1 pl => ?_)⟩
    obtain ⟨mm, obs, R1'⟩ := id R1
    obtain ⟨ad, had, rfl⟩ := hy1
    refine getAppend (s := { s with heap := h1, toks := tk1 }) R1' had hL ?_
    refine w_callWithB (S2.run S1.1 (C.less (Nat.le_succ n)) hu R1 fun p2 ys h2 tk2 le2 R2 hy2 => ?_)
    obtain ⟨y2, rfl, hy3⟩ := RVs_1 hy2
    obtain ⟨m2, obs2, R2'⟩ := R2
    exact s_push (s := { s with heap := h2, toks := tk2 }) R2' (ref_mono le2 had) hy3 h4 fun h' tk R3 => k p2 _ h' tk (le1.trans le2) R3 rfl
theorem sE_meth (I : Good g n ih) {o : Expr} {m : Str} {ap : Pos} {args : List Expr} {pos : Pos} {σ σ' : St} {v : V} (h : stMeth g.T ih o m ap args pos σ = some (v, σ')) : SE g (n + 1) (.Call (.Attribute o m ap) args [] pos) σ v σ' := by
  obtain ⟨hc, g1⟩ := onlyIf_some h
  have hc := Bool.and_eq_true_iff.mp hc
  have hc1 := Bool.and_eq_true_iff.mp hc.1
  have hc2 := Bool.and_eq_true_iff.mp hc.2
  have hn : args.length < 20 := Nat.le_of_ble_eq_true hc2.1
  obtain ⟨v1, σ1, h1, g2⟩ := bind2_pair g1
  have S1 := I.e _ _ _ _ h1
  clear h g1 hc h1
  cases hm : vMeth g.T σ1.objs v1 m with
  | some fa =>
    have g2 : (match vMeth g.T σ1.objs v1 m with | some fa => mDef ih fa v1 args σ1 | none => _) = some (v, σ') := g2
    rw [hm] at g2
    exact sE_mDef I hc1.1 hc1.2 hn hc2.2 S1 hm g2
  | none =>
    have g2 : (match vMeth g.T σ1.objs v1 m with | some fa => mDef ih fa v1 args σ1 | none => bind2 (refV v1) fun l => mList ih l m args σ1) = some (v, σ') := g2
    rw [hm] at g2
    obtain ⟨l, q1, g3⟩ := bind2_some g2
    rw [refV_some q1] at S1
    unfold mList at g3
    clear g2 q1 hm
    cases h4 : seq m ("append" : Str) && isL σ1.objs l with
    | true =>
      rw [h4] at g3
      have h4 := Bool.and_eq_true_iff.mp h4
      rw [show m = _ from beq_iff_eq.mp ((seq_eq _ _).symm.trans h4.1)]
      exact sE_mAppend I hc1.1 hc1.2 hn hc2.2 S1 h4.2 g3
    | false =>
      rw [h4] at g3
      obtain ⟨h5, g4⟩ := onlyIf_some g3
      have h5 := Bool.and_eq_true_iff.mp h5
      rw [show m = _ from beq_iff_eq.mp ((seq_eq _ _).symm.trans h5.1)]
      exact sE_mGet I hc1.1 hc1.2 hn hc2.2 S1 h5.2 g4
theorem sF_range {x : Str} {xp : Pos} {args : List Expr} {pos : Pos} {σ σ1 σ2 σ' : St} {v : V} {vs : List V} {t : String} (I : Good g n ih) (hu : unstarred args = true) (S1 : SE g n (.Name x xp) σ (.sc (.raw (.type t))) σ1) (h2 : argsV ih args σ1 = some (vs, σ2)) (h : rangeV t vs σ2 = some (v, σ')) : SE g (n + 1) (.Call (.Name x xp) args [] pos) σ v σ' := by
  obtain ⟨ht, g1⟩ := onlyIf_some h
  obtain ⟨u, q1, g2⟩ := bind2_some g1
  obtain ⟨q, q2, g3⟩ := bind2_some g2
  rw [beq_iff_eq.mp ht] at S1
  clear h g1 g2 ht
  cases args with
  | nil => cases h2; exact no_none q1
  | cons e r =>
    have S2 := I.es _ _ _ _ (show ih.es (e :: r) σ1 = some (vs, σ2) from h2)
    rw [show vs = _ from oneL_some q1, show u = _ from intV_some q2] at S2
    refine SE_of g3 ⟨S2.1.trans S1.1, fun A₀ A base h₀ outer cn L a ccd C p s Q E R k => Call_ (S1.run rfl (C.less (Nat.le_succ n)) R fun p1 y1 h1 tk1 le1 R1 hy1 => ?_)⟩
    rw [show y1 = .type "range" from hy1, back_plain hu]
    refine PySem.callWith_type (any_plain _) (evalArgs_plain (S2.run S1.1 (C.less (Nat.le_succ n)) hu R1 fun p2 ys h2 tk2 le2 R2 hy2 => ?_))
    obtain ⟨y2, rfl, ⟨t, rfl⟩⟩ := RVs_1 hy2
    obtain ⟨m, obs, R2⟩ := R2
    refine call_range_1 ?_
    obtain ⟨le3, R3⟩ := R2.alloc (o := .rng q) (R2.F.push _) (News.push R2.F R2.N _) R2.lts ⟨_, _, _, rfl⟩ (fun e => by cases e)
    exact k _ _ _ _ ((le1.trans le2).trans le3) ⟨m, _, R3⟩ (R2.here _)
theorem sF_def {x : Str} {xp : Pos} {args : List Expr} {pos : Pos} {σ σ1 σ2 σ' : St} {v : V} {vs : List V} {fa : Addr} (I : Good g n ih) (hu : unstarred args = true) (S1 : SE g n (.Name x xp) σ (.sc (.raw (.ref fa))) σ1) (h2 : argsV ih args σ1 = some (vs, σ2)) (h : onlyIf (callOk g.T g.fn fa) (ih.c (.ref fa) vs σ2) = some (v, σ')) : SE g (n + 1) (.Call (.Name x xp) args [] pos) σ v σ' := by
  obtain ⟨hk, g1⟩ := onlyIf_some h
  replace hk := g.callOk hk
  have S3 := I.c _ _ _ _ _ g1
  clear h g1
  cases args with
  | nil =>
    cases h2
    refine ⟨S3.1.trans S1.1, fun A₀ A base h₀ outer cn L a ccd C p s Q E R k => Call_ (S1.run rfl (C.less (Nat.le_succ n)) R fun p1 y1 h1 tk1 le1 R1 hy1 => ?_)⟩
    rw [show y1 = .ref fa from hy1]
    refine w_callWith (K := g.K) (env := envOf cn σ.sc L a ccd) (args := []) (s := { s with heap := h1, toks := tk1 }) (R1.inK C) hk rfl (fun _ => ?_) (fun e r he => by cases he)
    exact S3.run S1.1 (C.less (Nat.le_succ n)) R1 trivial fun p3 y3 h3 tk3 le3 R3 hy3 => k p3 y3 h3 tk3 (le1.trans le3) R3 hy3
  | cons e r =>
    have S2 := I.es _ _ _ _ (show ih.es (e :: r) σ1 = some (vs, σ2) from h2)
    refine ⟨S3.1.trans (S2.1.trans S1.1), fun A₀ A base h₀ outer cn L a ccd C p s Q E R k => Call_ (S1.run rfl (C.less (Nat.le_succ n)) R fun p1 y1 h1 tk1 le1 R1 hy1 => ?_)⟩
    rw [show y1 = .ref fa from hy1, back_plain hu]
    refine w_callWith (K := g.K) (s := { s with heap := h1, toks := tk1 }) (R1.inK C) hk hu (fun e => by cases e) (fun e' r' he => ?_)
    cases he
    exact S2.run S1.1 (C.less (Nat.le_succ n)) hu R1 fun p2 ys h2 tk2 le2 R2 hy2 => ⟨R2.inK C, S3.run (S2.1.trans S1.1) (C.less (Nat.le_succ n)) R2 hy2 fun p3 y3 h3 tk3 le3 R3 hy3 => k p3 y3 h3 tk3 ((le1.trans le2).trans le3) R3 hy3⟩
theorem sF_blt {x : Str} {xp : Pos} {args : List Expr} {pos : Pos} {σ σ1 σ2 σ' : St} {v : V} {vs : List V} {i : String} (I : Good g n ih) (hu : unstarred args = true) (S1 : SE g n (.Name x xp) σ (.sc (.raw (.builtin i))) σ1) (h2 : argsV ih args σ1 = some (vs, σ2)) (h : callB (.builtin i) vs σ2 = some (v, σ')) : SE g (n + 1) (.Call (.Name x xp) args [] pos) σ v σ' := by
  obtain ⟨e1, i', hi, hvs, S3⟩ := sound_B (g := g) h
  cases hi
  cases e1
  cases args with
  | nil => cases h2; exact absurd rfl hvs
  | cons e r =>
    have S2 := I.es _ _ _ _ (show ih.es (e :: r) σ1 = some (vs, σ2) from h2)
    refine ⟨S2.1.trans S1.1, fun A₀ A base h₀ outer cn L a ccd C p s Q E R k => Call_ (S1.run rfl (C.less (Nat.le_succ n)) R fun p1 y1 h1 tk1 le1 R1 hy1 => ?_)⟩
    rw [show y1 = .builtin i from hy1, back_plain hu]
    refine w_callWithB (S2.run S1.1 (C.less (Nat.le_succ n)) hu R1 fun p2 ys h2 tk2 le2 R2 hy2 => ?_)
    exact S3 A₀ A base h₀ outer cn _ L a ccd _ ((C.less (Nat.le_succ n)).sc (S2.1.trans S1.1)) p2 { s with heap := h2, toks := tk2 } ys Q E R2 hy2 fun p3 y3 h3 tk3 le3 R3 hy3 => k p3 y3 h3 tk3 ((le1.trans le2).trans le3) R3 hy3
theorem sE_fn (I : Good g n ih) {x : Str} {xp : Pos} {args : List Expr} {pos : Pos} {σ σ' : St} {v : V} (h : stFn g.T g.fn ih x xp args σ = some (v, σ')) : SE g (n + 1) (.Call (.Name x xp) args [] pos) σ v σ' := by
  obtain ⟨hu, g1⟩ := onlyIf_some h
  obtain ⟨v1, σ1, h1, g2⟩ := bind2_pair g1
  obtain ⟨f, q1, g3⟩ := bind2_some g2
  obtain ⟨vs, σ2, h2, g4⟩ := bind2_pair g3
  have S1 := I.e _ _ _ _ h1
  rw [show v1 = _ from rawV_some q1] at S1
  clear h g1 g2 g3 h1 q1
  cases f with
  | type t => exact sF_range I hu S1 h2 g4
  | ref a => exact sF_def I hu S1 h2 g4
  | builtin i => exact sF_blt I hu S1 h2 g4
  | _ => exact no_none g4
theorem sE_call (I : Good g n ih) {f : Expr} {args : List Expr} {kws : List Keyword} {pos : Pos} {σ σ' : St} {v : V} (h : stCall g.T g.fn ih f args kws pos σ = some (v, σ')) : SE g (n + 1) (.Call f args kws pos) σ v σ' := by
  cases kws with
  | cons _ _ => exact no_none h
  | nil =>
    cases f with
    | Attribute o m ap => exact sE_meth I h
    | Name x xp => exact sE_fn I h
    | _ => exact no_none h
theorem sound_E (I : Good g n ih) : ∀ e σ v σ', stepE g.T g.gt g.fn ih e σ = some (v, σ') → SE g (n + 1) e σ v σ' := by
  intro e σ v σ' h
  cases e with
  | Constant c kd pos => exact sE_const h
  | Name x pos => exact sE_name h
  | Attribute o f pos => exact sE_attr I h
  | Compare l ops rs pos => exact sE_cmp I h
  | BoolOp op xs pos => cases op with
    | And => exact sE_and I h
    | Or => exact sE_or I h
  | BinOp l op r pos => exact sE_bin I h
  | UnaryOp op x pos => cases op with
    | USub => exact sE_minus I h
    | _ => exact no_none h
  | IfExp t b o pos => exact sE_if I h
  | Subscript a i pos => exact sE_sub I h
  | List es pos => exact sE_list I h
  | Tuple es kd pos => exact sE_tup I h
  | Dict ks vs pos => exact sE_dict h
  | ListComp elt gens scope pos => exact sE_comp I h
  | Call f args kws pos => exact sE_call I h
  | _ => exact no_none h
end
end Mine
-- ML
namespace Mine

noncomputable def ItAt (p : P) (src : Src) (k : Nat) (ob : Obj) : Prop := match src with
  | .lst l => ∃ ad, p.r[l]? = some ad ∧ ob.cls = .type "list_iterator" ∧ ob.data = .fields #[.ref ad, .int k 0]
  | .tup xs => ∃ ad ys, (ad, ({ cls := .type "tuple", data := .seq (List.toArray ys) } : Obj)) ∈ p.fr ∧ RSs p xs ys ∧ ob.cls = .type "tuple_iterator" ∧ ob.data = .fields #[.ref ad, .int k 0]
  | .rng n => ob = { cls := .type "range_iterator", dict := none, data := .fields #[rawInt k, rawInt (n - k), rawInt 1], slots := #[] }
theorem ItAt.isIt {p : P} {src : Src} {k : Nat} {ob : Obj} (h : ItAt p src k ob) : isIt ob = true := by
  cases src with
  | lst l => obtain ⟨_, _, h, _⟩ := h; unfold Mine.isIt; rw [h]; show (("list_iterator" : String) == "list_iterator" || _ || _) = true; decide
  | tup xs => obtain ⟨_, _, _, _, h, _⟩ := h; unfold Mine.isIt; rw [h]; show (("tuple_iterator" : String) == "list_iterator" || ("tuple_iterator" : String) == "tuple_iterator" || _) = true; decide
  | rng n => unfold ItAt at h; rw [h]; show (("range_iterator" : String) == "list_iterator" || ("range_iterator" : String) == "tuple_iterator" || ("range_iterator" : String) == "range_iterator") = true; decide
theorem ItAt.mono {p q : P} (le : p.lw q) {src : Src} {k : Nat} {ob : Obj} (h : ItAt p src k ob) : ItAt q src k ob := by
  cases src with
  | lst l =>
    obtain ⟨ad, h1, h2⟩ := h
    obtain ⟨ad', q1, q2⟩ := RS.monoW (s := .ref l) (x := .ref ad) le ⟨ad, h1, rfl⟩
    cases q2
    exact ⟨ad, q1, h2⟩
  | tup xs => obtain ⟨ad, ys, h1, h2, h3⟩ := h; exact ⟨ad, ys, le.fr _ h1 (isIt_tup _), h2.monoW le, h3⟩
  | rng n => exact h
theorem lists_RVs {p : P} : ∀ {xs : List S} {ys : List Value}, RSs p xs ys → ∀ k : Nat, (∀ v : S, xs[k]? = some v → ∃ y, ys[k]? = some y ∧ RS p v y) ∧ (xs[k]? = none → ys[k]? = none)
  | [], [], _, k => by simp
  | _ :: _, _ :: _, h, 0 => by simpa using h.1
  | _ :: _, _ :: _, h, k + 1 => by simpa using lists_RVs h.2 k
  | [], _ :: _, h, _ => h.elim
  | _ :: _, [], h, _ => h.elim
theorem letOwned {M : Model} {A : Around} {E : Value → Shared → Prop} {s : Shared} {target : Expr} {I : Addr} {ob : Obj} {v : Value} {Q : Unit → Shared → Prop} (ho : s.heap.get? I = some ob) (hi : isIt ob = true) (h : Q () s) :
    wpAny M A (letOwnedTupleGo target (.ref I) v) Q E s := by
  have go : ∀ a : Addr, wpAny M A (do
      let o ← load I
      match o.cls, o.data with
      | .type n, .fields vs =>
        if ["enumerate", "zip", "dict_itemiterator", "dict_reverseitemiterator", "odict_iterator", "itertools.zip_longest", "itertools.pairwise"].contains n && vs[0]? == some (rawInt a) then
          rule "for.unpacks-the-owned-tuple"
          updateField I 0 .none
      | _, _ => pure ()) Q E s := by
    intro a
    refine wpAny_bind (wpAny_load ho ?_)
    unfold isIt at hi
    obtain ⟨cls, dict, data, slots⟩ := ob
    simp only at hi
    split at hi
    · rename_i n
      have hn : ["enumerate", "zip", "dict_itemiterator", "dict_reverseitemiterator", "odict_iterator", "itertools.zip_longest", "itertools.pairwise"].contains n = false := by
        simp only [Bool.or_eq_true, beq_iff_eq] at hi
        rcases hi with (rfl | rfl) | rfl <;> decide
      cases data <;> first
        | exact wpAny_pure h
        | (show wpAny M A (if (List.contains _ n && _) = true then _ else _) Q E s
           rw [hn, Bool.false_and, if_neg Bool.false_ne_true]
           exact wpAny_pure h)
    · cases hi
  unfold letOwnedTupleGo
  cases target <;> first
    | exact wpAny_pure h
    | (cases v <;> first | exact go _ | exact wpAny_pure h)

section
variable {g : G} {A : Around} {h₀ : Heap} {L : Addr} {p : P} {s : Shared} {σ : St} {m : Str → Option Value} {obs : List Obj} {I : Addr} {ob : Obj} {src : Src} {k : Nat}
theorem next_some (R : RepX g.prog g.w h₀ L p σ s.heap m obs) (ho : s.heap.get? I = some ob) (hi : ItAt p src k ob) {v : V} (h : srcGet src σ.objs k = some (some v)) {Q : Option Value → Shared → Prop} {E : Value → Shared → Prop}
    (K : ∀ y ob' h' tk, RV p v y → ItAt p src (k + 1) ob' → h'.get? I = some ob' → Heap.SameBut I s.heap h' → Q (some y) { s with heap := h', toks := tk }) : wpAny (model g.prog g.w) A (pyNext (.ref I)) Q E s := by
  unfold srcGet at h
  split at h
  · rename_i l
    obtain ⟨ad, q1, q2, q3⟩ := hi
    split at h
    · rename_i xs hxs
      obtain ⟨ad', lo, h1, h2, ⟨vs, j, rfl, h3, h3'⟩, h4⟩ := R.get hxs
      rw [q1] at h1
      cases h1
      have hv : xs[k]? = some v := Option.some.inj h
      obtain ⟨y, e1, e2⟩ := h3.get hv
      have hL : s.heap.IsList ad (List.toArray vs) := ⟨_, R.heap h4, rfl, j, rfl⟩
      refine wpAny_pyNext_list_item (x := y) ⟨ob, ho, q2, q3⟩ hL (by simpa using e1) fun h' ⟨o', a1, a2, a3⟩ hs => K y o' h' _ e2 ⟨ad, q1, a2, a3⟩ a1 hs
    · cases h
  · rename_i xs
    obtain ⟨ad, ys, q1, q2, q3, q4⟩ := hi
    split at h
    · rename_i u hu
      cases h
      obtain ⟨y, e1, e2⟩ := (lists_RVs q2 k).1 _ hu
      have hT : s.heap.IsTuple ad (List.toArray ys) := ⟨_, R.fr q1, rfl, 0, rfl⟩
      refine wpAny_pyNext_tuple_item (x := y) ⟨ob, ho, q3, q4⟩ hT (by simpa using e1) fun h' ⟨o', a1, a2, a3⟩ hs => K y o' h' _ e2 ⟨ad, ys, q1, q2, a2, a3⟩ a1 hs
    · cases h
  · rename_i n
    unfold ItAt at hi
    subst hi
    split at h
    · rename_i hk
      cases h
      have hk := of_decide_eq_true hk
      refine wpAny_pyNext_range_item ho (by omega) fun h' hit hs => K _ _ h' _ ⟨_, rfl⟩ ?_ hit hs
      unfold ItAt
      have e1 : ((k : Int) + 1) = ((k + 1 : Nat) : Int) := by push_cast; rfl
      have e2 : n - (k : Int) - 1 = n - ((k + 1 : Nat) : Int) := by push_cast; omega
      rw [e1, e2]
    · cases h
theorem next_none (R : RepX g.prog g.w h₀ L p σ s.heap m obs) (hh : A.handled = none) (ho : s.heap.get? I = some ob) (hi : ItAt p src k ob) (h : srcGet src σ.objs k = some none) {Q : Option Value → Shared → Prop} {E : Value → Shared → Prop}
    (K : ∀ h' tk, Heap.ExtBut I s.heap h' → Q none { s with heap := h', toks := tk }) : wpAny (model g.prog g.w) A (pyNext (.ref I)) Q E s := by
  unfold srcGet at h
  split at h
  · rename_i l
    obtain ⟨ad, q1, q2, q3⟩ := hi
    split at h
    · rename_i xs hxs
      obtain ⟨ad', lo, h1, h2, ⟨vs, j, rfl, h3, h3'⟩, h4⟩ := R.get hxs
      rw [q1] at h1
      cases h1
      have hv : xs[k]? = none := Option.some.inj h
      have hL : s.heap.IsList ad (List.toArray vs) := ⟨_, R.heap h4, rfl, j, rfl⟩
      have hlen := h3.length
      refine wpAny_pyNext_list_end hh ⟨ob, ho, q2, q3⟩ hL ?_ fun h' hs => K h' _ hs
      have : xs.length ≤ k := List.getElem?_eq_none_iff.mp hv
      simp; omega
    · cases h
  · rename_i xs
    obtain ⟨ad, ys, q1, q2, q3, q4⟩ := hi
    split at h
    · cases h
    · rename_i hu
      have e1 := (lists_RVs q2 k).2 hu
      have hT : s.heap.IsTuple ad (List.toArray ys) := ⟨_, R.fr q1, rfl, 0, rfl⟩
      exact wpAny_pyNext_tuple_end hh ⟨ob, ho, q3, q4⟩ hT (by simpa using e1) fun h' hs => K h' _ hs
  · rename_i n
    unfold ItAt at hi
    subst hi
    split at h
    · cases h
    · rename_i hk
      have hk := of_decide_eq_false hk
      exact wpAny_pyNext_range_end hh ho (by omega) fun h' hs => K h' _ hs

noncomputable def P.off (p : P) (I : Addr) : P := { p with fr := p.fr.filter fun x => !Nat.beq x.1 I }
theorem P.off_mem {p : P} {I : Addr} {x : Addr × Obj} : x ∈ (p.off I).fr ↔ x ∈ p.fr ∧ x.1 ≠ I := by
  unfold P.off
  simp only [List.mem_filter, Bool.not_eq_true']
  constructor
  · rintro ⟨a, b⟩; exact ⟨a, fun e => by rw [e, Nat.beq_refl] at b; cases b⟩
  · rintro ⟨a, b⟩
    refine ⟨a, ?_⟩
    cases h : Nat.beq x.1 I with
    | false => rfl
    | true => exact absurd (Nat.eq_of_beq_eq_true h) b
theorem P.off_lw {p : P} (hN : ∀ x ∈ p.fr, x.1 = I → isIt x.2 = true) : p.lw (p.off I) :=
  ⟨rfl, List.prefix_refl _, fun x hx hi => P.off_mem.mpr ⟨hx, fun e => by rw [hN x hx e] at hi; cases hi⟩⟩
theorem RepX.dropIt {h' : Heap} (R : RepX g.prog g.w h₀ L p σ s.heap m obs) (hI : (I, ob) ∈ p.fr) (hi : isIt ob = true) (hs : Heap.ExtBut I s.heap h') : RepX g.prog g.w h₀ L (p.off I) σ h' m obs := by
  have z := R.N _ (List.mem_append_right _ hI)
  have lw : p.lw (p.off I) := P.off_lw fun x hx e => by
    have := (R.N x (List.mem_append_right _ hx)).1
    rw [e, z.1] at this
    cases this
    exact hi
  refine ⟨⟨R.F.ns.at' fun o e => hs L o z.2.1.symm e, fun b o e => hs b o (fun q => by rw [q, z.2.2] at e; cases e) (R.F.keep b o e), R.F.above⟩, fun q hq => ?_, R.loc.monoW lw, R.len, R.ob.monoW lw, R.nd, fun a ha q hq => R.off a ha q (P.off_mem.mp hq).1, R.big⟩
  rcases List.mem_append.mp hq with hq | hq
  · have hne : q.1 ≠ I := R.off q.1 (List.of_mem_zip hq).1 _ hI
    have := R.N q (List.mem_append_left _ hq)
    exact ⟨hs _ _ hne this.1, this.2⟩
  · obtain ⟨a, b⟩ := P.off_mem.mp hq
    have := R.N q (List.mem_append_right _ a)
    exact ⟨hs _ _ b this.1, this.2⟩
theorem RepX.nextIt {h' : Heap} {ob' : Obj} (R : RepX g.prog g.w h₀ L p σ s.heap m obs) (hI : (I, ob) ∈ p.fr) (hi : isIt ob = true) (hs : Heap.ExtBut I s.heap h') (hg : h'.get? I = some ob') : RepX g.prog g.w h₀ L { p.off I with fr := (I, ob') :: (p.off I).fr } σ h' m obs := by
  have z := R.N _ (List.mem_append_right _ hI)
  have R1 := R.dropIt hI hi hs
  have le : (p.off I).le { p.off I with fr := (I, ob') :: (p.off I).fr } := ⟨rfl, List.prefix_refl _, fun _ h => .tail _ h⟩
  refine ⟨R1.F, fun q hq => ?_, R1.loc.mono le, R1.len, R1.ob.mono le, R1.nd, fun a ha q hq => ?_, R1.big⟩
  · rcases List.mem_append.mp hq with hq | hq
    · exact R1.N q (List.mem_append_left _ hq)
    · rcases List.mem_cons.mp hq with rfl | hq
      · exact ⟨hg, z.2⟩
      · exact R1.N q (List.mem_append_right _ hq)
  · rcases List.mem_cons.mp hq with rfl | hq
    · exact R.off a ha (I, ob) hI
    · exact R1.off a ha q hq
theorem names_each {env : Env} : ∀ {es : List Expr} {xs : List Str}, tNames es = some xs → assignEach es env = es.map (fun e => (false, assign e env)) ∧ xs.length = es.length ∧ (assignEach es env).findIdx? (·.1) = none
  | [], _, h => by cases h; exact ⟨rfl, rfl, rfl⟩
  | e :: r, xs, h => by
    unfold tNames at h
    split at h
    · rename_i x y h1 h2
      cases h
      obtain ⟨a, b, c⟩ := names_each (env := env) h2
      unfold tName at h1
      split at h1
      · cases h1
        refine ⟨by unfold assignEach; rw [a]; rfl, by simp [b], ?_⟩
        unfold assignEach
        rw [List.findIdx?_cons]
        simp [c]
      · cases h1
    · cases h
theorem s_storeName {x : Str} {v : V} {y : Value} {cn : Str} {cs : Scope} {a : Addr} {ccd : Value} {Q : Unit → Shared → Prop} {E : Value → Shared → Prop} {M : Model} (R : Rep g.prog g.w h₀ L p σ s.heap) (hk : cs.kind = .function) (hx : cs.names.lookup x = some .local) (hv : RV p v y)
    (k : ∀ h' tk, Rep g.prog g.w h₀ L p { σ with loc := aset x v σ.loc } h' → Q () { s with heap := h', toks := tk }) : wpAny M A (storeName (envOf cn cs L a ccd) x y) Q E s := by
  obtain ⟨m, obs, R⟩ := R
  exact stN R.F R.N (fun h' F' N' => k h' _ ⟨_, _, R.store hv F' N'⟩) hk (kindOf_sc hx)
theorem isLocal_of {σ : St} {x : Str} (h : isLocal σ x = true) : σ.sc.names.lookup x = some .local := by
  unfold isLocal at h
  simp only [lk_eq, has_eq, seq_eq] at h
  split at h
  · assumption
  · cases h
theorem s_storeAll {cn : Str} {a : Addr} {ccd : Value} {Q : Unit → Shared → Prop} {E : Value → Shared → Prop} {M : Model} : ∀ {es : List Expr} {xs : List Str} {vs : List S} {ys : List Value} {σ τ : St} {s : Shared}, tNames es = some xs → storeAll xs vs σ = some τ → RSs p vs ys → σ.sc.kind = .function → Rep g.prog g.w h₀ L p σ s.heap →
    (∀ h' tk, Rep g.prog g.w h₀ L p τ h' → τ.sc = σ.sc → Q () { s with heap := h', toks := tk }) → wpAny M A (assignInOrder ((es.map fun e => (false, assign e (envOf cn σ.sc L a ccd))).map (·.2)) ys) Q E s
  | [], xs, vs, ys, σ, τ, s, h1, h2, h3, hk, R, k => by
    cases h1
    cases vs with
    | nil =>
      cases h2
      cases ys with
      | nil => exact assignInOrder_nil (k _ s.toks R rfl)
      | cons => exact h3.elim
    | cons => cases h2
  | e :: r, xs, vs, ys, σ, τ, s, h1, h2, h3, hk, R, k => by
    unfold tNames at h1
    split at h1
    · rename_i x y q1 q2
      cases h1
      unfold tName at q1
      split at q1
      · rename_i nm pos
        cases q1
        cases vs with
        | nil => cases h2
        | cons v vs =>
          cases ys with
          | nil => exact h3.elim
          | cons yv ys =>
            unfold storeAll at h2
            split at h2
            · rename_i hx
              refine assignInOrder_cons (PyProof.Rows.assign_Name (s_storeName R hk (isLocal_of hx) (v := .sc v) h3.1 fun h' tk R' => ?_))
              exact s_storeAll (σ := { σ with loc := aset x (.sc v) σ.loc }) (s := { s with heap := h', toks := tk }) q2 h2 h3.2 hk R' fun h'' tk' R'' e => k h'' tk' R'' e
            · cases h2
      · cases q1
    · cases h1
theorem storeAll_len : ∀ {xs : List Str} {vs : List S} {σ τ : St}, storeAll xs vs σ = some τ → xs.length = vs.length
  | [], [], _, _, _ => rfl
  | x :: xs, v :: vs, σ, τ, h => by
    unfold storeAll at h
    split at h
    · simp [storeAll_len h]
    · cases h
  | [], _ :: _, _, _, h => by cases h
  | _ :: _, [], _, _, h => by cases h
theorem s_assign {cn : Str} {a : Addr} {ccd : Value} {Q : Unit → Shared → Prop} {E : Value → Shared → Prop} {t : Expr} {v : V} {y : Value} {τ : St} (hh : A.handled = none) (h : storeV t v σ = some τ) (hk : σ.sc.kind = .function) (R : Rep g.prog g.w h₀ L p σ s.heap) (hv : RV p v y)
    (k : ∀ h' tk, Rep g.prog g.w h₀ L p τ h' → τ.sc = σ.sc → Q () { s with heap := h', toks := tk }) : wpAny (model g.prog g.w) A (assign t (envOf cn σ.sc L a ccd) y) Q E s := by
  unfold storeV at h
  split at h
  · rename_i x pos
    split at h
    · rename_i hx
      cases h
      exact PyProof.Rows.assign_Name (s_storeName R hk (isLocal_of hx) hv fun h' tk R' => k h' tk R' rfl)
    · cases h
  · rename_i es kk pos
    split at h
    · rename_i xs hxs
      split at h
      · rename_i vs
        obtain ⟨ad, ys, rfl, h1, h2⟩ := hv
        obtain ⟨m, obs, R⟩ := R
        obtain ⟨e1, e2, e3⟩ := names_each (env := envOf cn σ.sc L a ccd) hxs
        have hlen := storeAll_len h
        refine unpackN_ R.F R.N (R.tup h1) hh ?_ e3 fun h' F' N' => ?_
        · rw [e1, List.length_map]; have := h2.length; simp; omega
        · rw [e1]
          exact s_storeAll (s := { s with heap := h' }) hxs h h2 hk ⟨m, obs, R.same F' N'⟩ fun h'' tk R' e => k h'' tk R' e
      · cases h
    · cases h
  · cases h
theorem P.le_off {q : P} (le : p.le q) (hp : ∀ x ∈ p.fr, x.1 ≠ I) : p.le (q.off I) := ⟨le.β, le.r, fun x hx => P.off_mem.mpr ⟨le.fr x hx, hp x hx⟩⟩
end
end Mine
-- M14
namespace Mine

section
variable {g : G} {n : Nat} {ih : Ev} {A₀ A : Around} {base h₀ : Heap} {outer : List Env} {cn : Str} {cs : Scope} {L a : Addr} {ccd : Value} {p : P} {s : Shared} {σ : St}
theorem swaps_plain {e : Expr} {t : Option Expr} {line : Nat} {env : Env} (h : plainVal e = true) : swapsWith e t line env = pure false := by
  cases e <;> first | rfl | (cases h; done)
theorem sound_W (I : Good g n ih) {test : Expr} {body : List Stmt} : ∀ (k : Nat) (σ : St) (o : Ou) (σ' : St), stepW ih test body k σ = some (o, σ') → σ'.sc = σ.sc ∧
    ∀ (A₀ A : Around) (base h₀ : Heap) (outer : List Env) (cn : Str) (L a : Addr) (ccd : Value), Cx g n A₀ A base h₀ outer cn σ.sc L a ccd → ∀ (p : P) (s : Shared) (R : Result → Shared → Prop), Rep g.prog g.w h₀ L p σ s.heap →
      (∀ p' f h' tk, p.le p' → Rep g.prog g.w h₀ L p' σ' h' → RFl p' o f → R (.ok f) { s with heap := h', toks := tk }) → codeAny (model g.prog g.w) A (.whileLoop test body [] (envOf cn σ.sc L a ccd)) R s := by
  intro k σ o σ' h
  have hsc : ∀ (k : Nat) (σ : St) (o : Ou) (σ' : St), stepW ih test body k σ = some (o, σ') → σ'.sc = σ.sc := by
    intro k
    induction k with
    | zero => intro σ o σ' h; cases h
    | succ k ihk =>
      intro σ o σ' h
      unfold stepW at h
      replace h := bind2_some h
      obtain ⟨⟨b, σ1⟩, h1, h⟩ := h
      have S1 := I.t _ _ _ _ h1
      simp only at h
      split at h
      · replace h := bind2_some h
        obtain ⟨⟨o1, σ2⟩, h2, h⟩ := h
        have S2 := I.ss _ _ _ _ h2
        simp only at h
        split at h
        · cases h; exact S2.1.trans S1.1
        · exact (ihk _ _ _ h).trans (S2.1.trans S1.1)
      · cases h; exact S1.1
  refine ⟨hsc _ _ _ _ h, fun A₀ A base h₀ outer cn L a ccd C p s R Rp K => ?_⟩
  refine codeAny_whileLoop (fun k s' => ∃ (τ : St) (q : P) (tk : Nat) (h' : Heap), s' = { s with heap := h', toks := tk } ∧ τ.sc = σ.sc ∧ p.le q ∧ Rep g.prog g.w h₀ L q τ h' ∧ stepW ih test body k τ = some (o, σ')) ?_ k ⟨σ, p, s.toks, s.heap, rfl, rfl, .refl _, Rp, h⟩
  rintro k _ ⟨τ, q, tk, h', rfl, e1, le, Rq, h⟩
  cases k with
  | zero => cases h
  | succ k =>
    unfold stepW at h
    replace h := bind2_some h
    obtain ⟨⟨b, σ1⟩, h1, h⟩ := h
    have S1 := I.t _ _ _ _ h1
    simp only at h
    refine S1.run (s := { s with heap := h', toks := tk }) e1 C Rq fun p1 g1 tk1 le1 R1 => ?_
    split at h
    · rw [if_pos rfl]
      replace h := bind2_some h
      obtain ⟨⟨o1, σ2⟩, h2, h⟩ := h
      have S2 := I.ss _ _ _ _ h2
      simp only at h
      refine S2.run (s := { s with heap := g1, toks := tk1 }) (S1.1.trans e1) C R1 fun p2 f g2 tk2 le2 R2 hf => ?_
      split at h
      · cases h
        obtain ⟨y, rfl, hv⟩ := hf
        exact K p2 _ g2 tk2 ((le.trans le1).trans le2) R2 ⟨y, rfl, hv⟩
      · rename_i hne
        have J : ∃ m, m < k + 1 ∧ ∃ (τ : St) (q : P) (tk : Nat) (h' : Heap), ({ s with heap := g2, toks := tk2 } : Shared) = { s with heap := h', toks := tk } ∧ τ.sc = σ.sc ∧ p.le q ∧ Rep g.prog g.w h₀ L q τ h' ∧ stepW ih test body m τ = some (o, σ') :=
          ⟨k, Nat.lt_succ_self k, σ2, p2, tk2, g2, rfl, S2.1.trans (S1.1.trans e1), (le.trans le1).trans le2, R2, h⟩
        cases o1 with
        | next => cases hf; exact J
        | cont => cases hf; exact J
        | ret v => exact absurd rfl (hne v)
    · cases h
      rw [if_neg Bool.false_ne_true]
      exact wpAny_execs_nil (K p1 _ g1 tk1 (le.trans le1) R1 rfl)

theorem off_lw_of {m : Str → Option Value} {obs : List Obj} {I : Addr} {ob : Obj} (R : RepX g.prog g.w h₀ L p σ s.heap m obs) (hI : (I, ob) ∈ p.fr) (hi : isIt ob = true) : p.lw (p.off I) := P.off_lw fun x hx e => by
  have z := R.N _ (List.mem_append_right _ hI)
  have := (R.N x (List.mem_append_right _ hx)).1
  rw [e, z.1] at this
  cases this
  exact hi
theorem P.lw_trans {p q r : P} (h : p.lw q) (g : q.le r) : p.lw r := ⟨h.β.trans g.β, h.r.trans g.r, fun x hx hi => g.fr x (h.fr x hx hi)⟩
theorem storeV_sc {t : Expr} {v : V} {τ : St} : storeV t v σ = some τ → τ.sc = σ.sc := by
  intro h
  unfold storeV at h
  split at h
  · split at h <;> cases h; rfl
  · split at h
    · split at h
      · have go : ∀ (xs : List Str) (vs : List S) (σ τ : St), storeAll xs vs σ = some τ → τ.sc = σ.sc := by
          intro xs
          induction xs with
          | nil => intro vs σ τ h; cases vs <;> first | (cases h; rfl) | cases h
          | cons x xs ih =>
            intro vs σ τ h
            cases vs with
            | nil => cases h
            | cons v vs =>
              unfold storeAll at h
              split at h
              · exact ih vs { σ with loc := aset x (.sc v) σ.loc } τ h
              · cases h
        exact go _ _ _ _ h
      · cases h
    · cases h
  · cases h
theorem stepF_sc (I : Good g n ih) {target : Expr} {body : List Stmt} {src : Src} : ∀ (f k : Nat) (σ : St) (o : Ou) (σ' : St), stepF ih target body src f k σ = some (o, σ') → σ'.sc = σ.sc := by
  intro f
  induction f with
  | zero => intro k σ o σ' h; cases h
  | succ f ihf =>
    intro k σ o σ' h
    unfold stepF at h
    split at h
    · replace h := bind2_some h
      obtain ⟨τ, h1, h⟩ := h
      replace h := bind2_some h
      obtain ⟨⟨o1, σ2⟩, h2, h⟩ := h
      have S2 := I.ss _ _ _ _ h2
      have e1 := S2.1.trans (storeV_sc h1)
      simp only at h
      split at h
      · cases h; exact e1
      · exact (ihf _ _ _ _ h).trans e1
    · cases h; rfl
    · cases h
theorem sound_F (I : Good g n ih) {target : Expr} {body : List Stmt} {src : Src} {f k : Nat} {σ : St} {o : Ou} {σ' : St} (h : stepF ih target body src f k σ = some (o, σ'))
    (C : Cx g n A₀ A base h₀ outer cn σ.sc L a ccd) {p₀ p : P} {It : Addr} {ob : Obj} {s : Shared} {R : Result → Shared → Prop} (le : p₀.le p) (h0 : ∀ x ∈ p₀.fr, x.1 ≠ It) (hI : (It, ob) ∈ p.fr) (hi : ItAt p src k ob) (Rp : Rep g.prog g.w h₀ L p σ s.heap)
    (K : ∀ p' f h' tk, p₀.le p' → Rep g.prog g.w h₀ L p' σ' h' → RFl p' o f → R (.ok f) { s with heap := h', toks := tk }) : codeAny (model g.prog g.w) A (.forLoop target (.ref It) body [] (envOf cn σ.sc L a ccd)) R s := by
  refine codeAny_forLoop_any (fun f s' => ∃ (τ : St) (q : P) (tk : Nat) (h' : Heap) (k : Nat) (ob : Obj), s' = { s with heap := h', toks := tk } ∧ τ.sc = σ.sc ∧ p₀.le q ∧ (It, ob) ∈ q.fr ∧ ItAt q src k ob ∧ Rep g.prog g.w h₀ L q τ h' ∧ stepF ih target body src f k τ = some (o, σ')) ?_ f ⟨σ, p, s.toks, s.heap, k, ob, rfl, rfl, le, hI, hi, Rp, h⟩
  rintro f _ ⟨τ, q, tk, h', k, ob, rfl, e1, le, hI, hi, ⟨m, obs, Rq⟩, h⟩
  have hit := hi.isIt
  have z := Rq.N _ (List.mem_append_right _ hI)
  cases f with
  | zero => cases h
  | succ f =>
    unfold stepF at h
    split at h
    · rename_i v hv
      replace h := bind2_some h
      obtain ⟨τ1, h1, h⟩ := h
      replace h := bind2_some h
      obtain ⟨⟨o1, τ2⟩, h2, h⟩ := h
      have S2 := I.ss _ _ _ _ h2
      simp only at h
      refine next_some (s := { s with heap := h', toks := tk }) Rq z.1 hi hv fun y ob' g1 tk1 hy hi1 hg hs => ?_
      have R1 := RepX.nextIt (s := { s with heap := h', toks := tk }) Rq hI hit hs.extBut hg
      have lw1 := off_lw_of (s := { s with heap := h', toks := tk }) Rq hI hit
      have le1 : (q.off It).le { q.off It with fr := (It, ob') :: (q.off It).fr } := ⟨rfl, List.prefix_refl _, fun _ h => .tail _ h⟩
      have lw2 := P.lw_trans lw1 le1
      have le2 := (P.le_off le h0).trans le1
      refine letOwned (s := { s with heap := g1, toks := tk1 }) hg (hi1.isIt) ?_
      have e2 : envOf cn σ.sc L a ccd = envOf cn τ.sc L a ccd := by rw [e1]
      rw [e2]
      refine s_assign (s := { s with heap := g1, toks := tk1 }) C.hd h1 (e1 ▸ C.hk) ⟨m, obs, R1⟩ (hy.monoW lw2) fun g2 tk2 R2 e3 => ?_
      rw [← e3]
      refine S2.run (s := { s with heap := g2, toks := tk2 }) rfl ((C.sc e1).sc e3) R2 fun p3 fl g3 tk3 le3 R3 hf => ?_
      split at h
      · cases h
        obtain ⟨y, rfl, hv⟩ := hf
        exact K p3 _ g3 tk3 (le2.trans le3) R3 ⟨y, rfl, hv⟩
      · rename_i hne
        have J : ∃ m, m < f + 1 ∧ ∃ (τ : St) (q : P) (tk : Nat) (h' : Heap) (k : Nat) (ob : Obj), ({ s with heap := g3, toks := tk3 } : Shared) = { s with heap := h', toks := tk } ∧ τ.sc = σ.sc ∧ p₀.le q ∧ (It, ob) ∈ q.fr ∧ ItAt q src k ob ∧ Rep g.prog g.w h₀ L q τ h' ∧ stepF ih target body src m k τ = some (o, σ') :=
          ⟨f, Nat.lt_succ_self f, τ2, p3, tk3, g3, k + 1, ob', rfl, S2.1.trans (e3.trans e1), le2.trans le3, le3.fr _ (.head _), (hi1.mono lw2).mono le3.lw, R3, h⟩
        cases o1 with
        | next => cases hf; exact J
        | cont => cases hf; exact J
        | ret v => exact absurd rfl (hne v)
    · rename_i hv
      cases h
      refine next_none (s := { s with heap := h', toks := tk }) Rq C.hd z.1 hi hv fun g1 tk1 hs => ?_
      exact wpAny_execs_nil (K _ _ g1 tk1 (P.le_off le h0) ⟨m, obs, RepX.dropIt (s := { s with heap := h', toks := tk }) Rq hI hit hs⟩ rfl)
    · cases h
theorem s_iter {src : Src} {v : V} {y : Value} {m : Str → Option Value} {obs : List Obj} {Q E : Value → Shared → Prop} (R : RepX g.prog g.w h₀ L p σ s.heap m obs) (hy : RV p v y) (h : srcOf σ.objs v = some src)
    (k : ∀ (It : Addr) (ob : Obj) (p' : P) h' tk, p.le p' → (∀ x ∈ p.fr, x.1 ≠ It) → (It, ob) ∈ p'.fr → ItAt p' src 0 ob → Rep g.prog g.w h₀ L p' σ h' → Q (.ref It) { s with heap := h', toks := tk }) : wpAny (model g.prog g.w) A (pyIter y) Q E s := by
  have hlt : ∀ q ∈ p.r.zip obs ++ p.fr, q.1 ≠ s.heap.objs.size := fun q hq => Nat.ne_of_lt (Heap.lt_size (R.N q hq).1)
  have go : ∀ ob : Obj, ob.isFreed = false → ItAt { p with fr := (s.heap.objs.size, ob) :: p.fr } src 0 ob → ∀ tk, Q (.ref s.heap.objs.size) { s with heap := s.heap.push ob, toks := tk } := by
    intro ob hfr hi tk
    obtain ⟨le, R2⟩ := R.freeze (R.F.push ob) (News.push R.F R.N ob hfr) hlt
    exact k _ ob _ _ tk le (fun x hx => hlt x (List.mem_append_right _ hx)) (.head _) hi ⟨m, obs, R2⟩
  unfold srcOf at h
  split at h
  · rename_i l
    obtain ⟨ad, had, rfl⟩ := hy
    split at h
    · rename_i xs hxs
      cases h
      obtain ⟨ad', ob, h1, h2, ⟨vs, j, rfl, h3, _⟩, h4⟩ := R.get hxs
      rw [had] at h1
      cases h1
      have hL : s.heap.IsList ad (List.toArray vs) := ⟨_, R.heap h4, rfl, j, rfl⟩
      exact wpAny_pyIter_list hL (go _ rfl ⟨ad, had, rfl, rfl⟩ _)
    · rename_i q hq
      split at h
      · rename_i hc
        cases h
        simp only [Bool.and_eq_true, decide_eq_true_eq] at hc
        obtain ⟨ad', ob, h1, h2, ⟨t, u, w, rfl⟩, h4⟩ := R.get hq
        rw [had] at h1
        cases h1
        refine wpAny_pyIter_range (R.heap h4) ?_ ?_
        · exact small_one (by omega) (by omega) (by omega) (by omega)
        · have e : Builtin.Range.rangeSize 0 q 1 = q - ((0 : Nat) : Int) := by
            have := rangeSize_nat 0 q
            rw [this]; omega
          rw [e]
          exact go _ rfl rfl _
      · cases h
    · cases h
  · rename_i xs
    cases h
    obtain ⟨ad, ys, rfl, h1, h2⟩ := hy
    have hT : s.heap.IsTuple ad (List.toArray ys) := ⟨_, R.fr h1, rfl, 0, rfl⟩
    refine wpAny_pyIter_tuple hT (go _ rfl ⟨ad, ys, .tail _ h1, ?_, rfl, rfl⟩ _)
    exact RSs.mono (p := p) (q := { p with fr := (s.heap.objs.size, _) :: p.fr }) ⟨rfl, List.prefix_refl _, fun _ h => .tail _ h⟩ h2
  · cases h

set_option maxHeartbeats 1600000 in
theorem sS_name (I : Good g n ih) {x : Str} {pos' pos : Pos} {value : Expr} {σ σ' : St} {v : Ou} (h : asName ih x pos' value σ = some (v, σ')) : SS g (n + 1) (Stmt.Assign [.Name x pos'] value pos) σ v σ' := by
  unfold asName at h
  try simp only [lk_eq, has_eq, seq_eq] at h
  split at h
  · rename_i hp
    replace h := bind2_some h
    obtain ⟨⟨v1, σ1⟩, h1, h⟩ := h
    replace h := bind2_some h
    obtain ⟨τ, h2, h⟩ := h
    cases h
    have S1 := I.e _ _ _ _ h1
    unfold storeV at h2
    simp only at h2
    split at h2
    · rename_i hx
      cases h2
      have hx := isLocal_of hx
      refine ⟨S1.1, fun A₀ A base h₀ outer cn L a ccd C p s Q E R k => wpAny_Assign_Name (S1.run rfl (C.less (Nat.le_succ n)) R fun p1 y1 h1 tk1 le1 R1 hy1 => ?_) (swaps_plain hp)⟩
      exact s_storeName (s := { s with heap := h1, toks := tk1 }) R1 C.hk (S1.1 ▸ hx) hy1 fun h2 tk2 R2 => k p1 _ h2 tk2 le1 R2 rfl
    · cases h2
  · cases h
set_option maxHeartbeats 1600000 in
theorem sS_attr (I : Good g n ih) {o : Expr} {f : Str} {pos' pos : Pos} {value : Expr} {σ σ' : St} {v : Ou} (h : asAttr g.T ih o f value σ = some (v, σ')) : SS g (n + 1) (Stmt.Assign [.Attribute o f pos'] value pos) σ v σ' := by
  unfold asAttr at h
  try simp only [lk_eq, has_eq, seq_eq] at h
  split at h
  · rename_i hp
    replace h := bind2_some h
    obtain ⟨⟨v1, σ1⟩, h1, h⟩ := h
    replace h := bind2_some h
    obtain ⟨⟨v2, σ2⟩, h2, h⟩ := h
    replace h := bind2_some h
    obtain ⟨os, h3, h⟩ := h
    cases h
    have S1 := I.e _ _ _ _ h1
    have S2 := I.e _ _ _ _ h2
    refine ⟨S2.1.trans S1.1, fun A₀ A base h₀ outer cn L a ccd C p s Q E R k => plainObj_wpAny_Assign_Attribute (S1.run rfl (C.less (Nat.le_succ n)) R fun p1 y1 h1 tk1 le1 R1 hy1 => ?_) (swaps_plain hp)⟩
    refine S2.run S1.1 (C.less (Nat.le_succ n)) R1 fun p2 y2 h2 tk2 le2 R2 hy2 => ?_
    obtain ⟨m, obs, R2⟩ := R2
    exact s_setAttr (s := { s with heap := h2, toks := tk2 }) (C.less (Nat.le_succ n)) R2 hy2 (hy1.mono le2) h3 fun obs' h' tk R3 => k p2 _ h' tk (le1.trans le2) ⟨m, obs', R3⟩ rfl
  · cases h
set_option maxHeartbeats 1600000 in
theorem sS_sub (I : Good g n ih) {o i : Expr} {pos' pos : Pos} {value : Expr} {σ σ' : St} {v : Ou} (h : asSub ih o i value σ = some (v, σ')) : SS g (n + 1) (Stmt.Assign [.Subscript o i pos'] value pos) σ v σ' := by
  unfold asSub at h
  try simp only [lk_eq, has_eq, seq_eq] at h
  split at h
  · rename_i hp
    replace h := bind2_some h
    obtain ⟨⟨v1, σ1⟩, h1, h⟩ := h
    replace h := bind2_some h
    obtain ⟨⟨v2, σ2⟩, h2, h⟩ := h
    replace h := bind2_some h
    obtain ⟨⟨v3, σ3⟩, h3, h⟩ := h
    replace h := bind2_some h
    obtain ⟨os, h4, h⟩ := h
    cases h
    have S1 := I.e _ _ _ _ h1
    have S2 := I.e _ _ _ _ h2
    have S3 := I.e _ _ _ _ h3
    refine ⟨S3.1.trans (S2.1.trans S1.1), fun A₀ A base h₀ outer cn L a ccd C p s Q E R k => wpAny_Assign_Subscript (S1.run rfl (C.less (Nat.le_succ n)) R fun p1 y1 h1 tk1 le1 R1 hy1 => ?_) (swaps_plain hp)⟩
    refine S2.run S1.1 (C.less (Nat.le_succ n)) R1 fun p2 y2 h2 tk2 le2 R2 hy2 => ?_
    refine S3.run (S2.1.trans S1.1) (C.less (Nat.le_succ n)) R2 fun p3 y3 h3 tk3 le3 R3 hy3 => ?_
    obtain ⟨m, obs, R3⟩ := R3
    exact s_put (C.less (Nat.le_succ n)) (s := { s with heap := h3, toks := tk3 }) R3 (hy2.mono le3) hy3 ((hy1.mono le2).mono le3) h4 fun h' tk R4 => k p3 _ h' tk ((le1.trans le2).trans le3) R4 rfl
  · cases h
set_option maxHeartbeats 1600000 in
theorem sS_augA (I : Good g n ih) {o : Expr} {f : Str} {pos' pos : Pos} {value : Expr} {σ σ' : St} {v : Ou} (h : augAttr g.T ih o f value σ = some (v, σ')) : SS g (n + 1) (Stmt.AugAssign (.Attribute o f pos') .Add value pos) σ v σ' := by
  unfold augAttr at h
  try simp only [lk_eq, has_eq, seq_eq] at h
  replace h := bind2_some h
  obtain ⟨⟨v1, σ1⟩, h1, h⟩ := h
  replace h := bind2_some h
  obtain ⟨old, h2, h⟩ := h
  replace h := bind2_some h
  obtain ⟨⟨v3, σ3⟩, h3, h⟩ := h
  replace h := bind2_some h
  obtain ⟨nv, h4, h⟩ := h
  split at h
  · rename_i hn
    replace h := bind2_some h
    obtain ⟨os, h5, h⟩ := h
    cases h
    have S1 := I.e _ _ _ _ h1
    have S3 := I.e _ _ _ _ h3
    refine ⟨S3.1.trans S1.1, fun A₀ A base h₀ outer cn L a ccd C p s Q E R k => wpAny_AugAssign_AttributeAny (S1.run rfl (C.less (Nat.le_succ n)) R fun p1 y1 h1 tk1 le1 R1 hy1 => ?_)⟩
    obtain ⟨m, obs, R1'⟩ := id R1
    refine s_getAttr (s := { s with heap := h1, toks := tk1 }) (C.less (Nat.le_succ n)) R1' hy1 h2 fun y2 tk2 hy2 => ?_
    refine S3.run (s := { s with heap := h1, toks := tk2 }) S1.1 (C.less (Nat.le_succ n)) R1 fun p3 y3 h3 tk3 le3 R3 hy3 => ?_
    obtain ⟨m3, obs3, R3'⟩ := id R3
    refine s_iadd (s := { s with heap := h3, toks := tk3 }) R3' (hy2.mono le3) hy3 h4 hn fun y4 tk4 hy4 => ?_
    exact s_setAttr (s := { s with heap := h3, toks := tk4 }) (C.less (Nat.le_succ n)) R3' (hy1.mono le3) hy4 h5 fun obs' h' tk R5 => k p3 _ h' tk (le1.trans le3) ⟨m3, obs', R5⟩ rfl
  · cases h
set_option maxHeartbeats 1600000 in
theorem sS_augN (I : Good g n ih) {x : Str} {pos' pos : Pos} {value : Expr} {σ σ' : St} {v : Ou} (h : augName ih x value σ = some (v, σ')) : SS g (n + 1) (Stmt.AugAssign (.Name x pos') .Add value pos) σ v σ' := by
  unfold augName at h
  try simp only [lk_eq, has_eq, seq_eq] at h
  split at h
  · rename_i hx
    have hx := isLocal_of hx
    replace h := bind2_some h
    obtain ⟨old, h2, h⟩ := h
    replace h := bind2_some h
    obtain ⟨⟨v3, σ3⟩, h3, h⟩ := h
    replace h := bind2_some h
    obtain ⟨nv, h4, h⟩ := h
    split at h
    · rename_i hn
      cases h
      simp only [Bool.and_eq_true] at hn
      have S3 := I.e _ _ _ _ h3
      refine ⟨S3.1, fun A₀ A base h₀ outer cn L a ccd C p s Q E R k => wpAny_AugAssign_Name ?_⟩
      obtain ⟨m, obs, R1⟩ := id R
      obtain ⟨y, hm, hy⟩ := R1.loc _ _ h2
      refine ldn R1.F hm ?_ C.hk (kindOf_sc hx)
      refine S3.run rfl (C.less (Nat.le_succ n)) R fun p3 y3 g3 tk3 le3 R3 hy3 => ?_
      obtain ⟨m3, obs3, R3'⟩ := id R3
      refine s_iadd (s := { s with heap := g3, toks := tk3 }) R3' (hy.mono le3) hy3 h4 hn.1 fun y4 tk4 hy4 => ?_
      exact s_storeName (s := { s with heap := g3, toks := tk4 }) R3 C.hk hx hy4 fun h' tk R5 => k p3 _ h' tk le3 R5 rfl
    · cases h
  · cases h
set_option maxHeartbeats 1600000 in
theorem sS_tup (I : Good g n ih) {es : List Expr} {kk : Nat} {pos' pos : Pos} {value : Expr} {σ σ' : St} {v : Ou} (h : asTup ih es kk pos' value σ = some (v, σ')) : SS g (n + 1) (Stmt.Assign [.Tuple es kk pos'] value pos) σ v σ' := by
  unfold asTup at h
  try simp only [lk_eq, has_eq, seq_eq] at h
  split at h
  · rename_i hp
    replace h := bind2_some h
    obtain ⟨⟨v1, σ1⟩, h1, h⟩ := h
    replace h := bind2_some h
    obtain ⟨τ, h2, h⟩ := h
    cases h
    have S1 := I.e _ _ _ _ h1
    refine ⟨(storeV_sc h2).trans S1.1, fun A₀ A base h₀ outer cn L a ccd C p s Q E R k => Assign_Tuple (S1.run rfl (C.less (Nat.le_succ n)) R fun p1 y1 h1 tk1 le1 R1 hy1 => ?_) (by cases value <;> first | rfl | cases hp) (by cases value <;> first | rfl | cases hp)⟩
    rw [← S1.1]
    exact s_assign (s := { s with heap := h1, toks := tk1 }) C.hd h2 (S1.1 ▸ C.hk) R1 hy1 fun h2 tk2 R2 _ => k p1 _ h2 tk2 le1 R2 rfl
  · cases h
set_option maxHeartbeats 1600000 in
theorem sS_for (I : Good g n ih) {target iter : Expr} {body : List Stmt} {pos : Pos} {σ σ' : St} {v : Ou} (h : forS ih target iter body σ = some (v, σ')) : SS g (n + 1) (Stmt.For target iter body [] pos) σ v σ' := by
  unfold forS at h
  try simp only [lk_eq, has_eq, seq_eq] at h
  split at h
  · rename_i hp
    replace h := bind2_some h
    obtain ⟨⟨v1, σ1⟩, h1, h⟩ := h
    replace h := bind2_some h
    obtain ⟨src, h2, h⟩ := h
    have S1 := I.e _ _ _ _ h1
    refine ⟨(stepF_sc I _ _ _ _ _ h).trans S1.1, fun A₀ A base h₀ outer cn L a ccd C p s Q E R k => wpAny_For (S1.run rfl (C.less (Nat.le_succ n)) R fun p1 y1 h1 tk1 le1 R1 hy1 => ?_) (fold_plain hp)⟩
    obtain ⟨m, obs, R1⟩ := R1
    refine s_iter (s := { s with heap := h1, toks := tk1 }) R1 hy1 h2 fun It ob p2 h2 tk2 le2 h0 hI hi R2 => ?_
    rw [← S1.1]
    exact sound_F (s := { s with heap := h2, toks := tk2 }) I h ((C.less (Nat.le_succ n)).sc S1.1) le2 h0 hI hi R2 fun p3 f h3 tk3 le3 R3 hf => k p3 f h3 tk3 (le1.trans le3) R3 hf
  · cases h
set_option maxHeartbeats 1600000 in
theorem sS_expr (I : Good g n ih) {e : Expr} {pos : Pos} {σ σ' : St} {v : Ou} (h : exprS ih e σ = some (v, σ')) : SS g (n + 1) (Stmt.Expr e pos) σ v σ' := by
  unfold exprS at h
  try simp only [lk_eq, has_eq, seq_eq] at h
  split at h
  · rename_i hp
    replace h := bind2_some h
    obtain ⟨⟨v1, σ1⟩, h1, h⟩ := h
    cases h
    have S1 := I.e _ _ _ _ h1
    refine ⟨S1.1, fun A₀ A base h₀ outer cn L a ccd C p s Q E R k => wpAny_Expr_any (S1.run rfl (C.less (Nat.le_succ n)) R fun p1 y1 h1 tk1 le1 R1 hy1 => k p1 _ h1 tk1 le1 R1 rfl) ?_ (swaps_plain hp)⟩
    unfold interactive
    show (σ.sc.kind == ScopeKind.module && σ.sc.more.any _) = false
    rw [C.hk]
    rfl
  · cases h
set_option maxHeartbeats 1600000 in
theorem sS_if (I : Good g n ih) {test : Expr} {body orelse : List Stmt} {pos : Pos} {σ σ' : St} {v : Ou} (h : ifS ih test body orelse σ = some (v, σ')) : SS g (n + 1) (Stmt.If test body orelse pos) σ v σ' := by
  unfold ifS at h
  try simp only [lk_eq, has_eq, seq_eq] at h
  replace h := bind2_some h
  obtain ⟨⟨b1, σ1⟩, h1, h⟩ := h
  have S1 := I.t _ _ _ _ h1
  simp only at h
  split at h
  · have S2 := I.ss _ _ _ _ h
    exact ⟨S2.1.trans S1.1, fun A₀ A base h₀ outer cn L a ccd C p s Q E R k => wpAny_If (S1.run rfl (C.less (Nat.le_succ n)) R fun p1 h1 tk1 le1 R1 => by
      rw [if_pos rfl]
      exact S2.run S1.1 (C.less (Nat.le_succ n)) R1 fun p2 f h2 tk2 le2 R2 hy2 => k p2 f h2 tk2 (le1.trans le2) R2 hy2)⟩
  · have S2 := I.ss _ _ _ _ h
    exact ⟨S2.1.trans S1.1, fun A₀ A base h₀ outer cn L a ccd C p s Q E R k => wpAny_If (S1.run rfl (C.less (Nat.le_succ n)) R fun p1 h1 tk1 le1 R1 => by
      rw [if_neg Bool.false_ne_true]
      exact S2.run S1.1 (C.less (Nat.le_succ n)) R1 fun p2 f h2 tk2 le2 R2 hy2 => k p2 f h2 tk2 (le1.trans le2) R2 hy2)⟩
set_option maxHeartbeats 1600000 in
theorem sS_ret (I : Good g n ih) {e : Expr} {pos : Pos} {σ σ' : St} {v : Ou} (h : (bind2 (ih.e e σ) fun p => some (Ou.ret p.1, p.2)) = some (v, σ')) : SS g (n + 1) (Stmt.Return (some e) pos) σ v σ' := by
  replace h := bind2_some h
  obtain ⟨⟨v1, σ1⟩, h1, h⟩ := h
  cases h
  have S1 := I.e _ _ _ _ h1
  exact ⟨S1.1, fun A₀ A base h₀ outer cn L a ccd C p s Q E R k => wpAny_Return_some (S1.run rfl (C.less (Nat.le_succ n)) R fun p1 y1 h1 tk1 le1 R1 hy1 => k p1 _ h1 tk1 le1 R1 ⟨y1, rfl, hy1⟩)⟩
theorem sound_S (I : Good g n ih) : ∀ e σ v σ', stepS g.T ih e σ = some (v, σ') → SS g (n + 1) e σ v σ' := by
  intro e σ v σ' h
  cases e with
  | Assign ts value pos => cases ts with
    | nil => cases h
    | cons t r => cases r with
      | cons _ _ => cases h
      | nil => cases t with
        | Name x p => exact sS_name I h
        | Attribute o f p => exact sS_attr I h
        | Subscript o i p => exact sS_sub I h
        | Tuple es k p => exact sS_tup I h
        | _ => cases h
  | AugAssign t op value pos => cases op with
    | Add => cases t with
      | Name x p => exact sS_augN I h
      | Attribute o f p => exact sS_augA I h
      | _ => cases h
    | _ => cases h
  | For target iter body orelse pos => cases orelse with
    | nil => exact sS_for I h
    | cons _ _ => cases h
  | Expr e pos => exact sS_expr I h
  | If test body orelse pos => exact sS_if I h
  | While test body orelse pos => cases orelse with
    | cons _ _ => cases h
    | nil =>
      have S1 := sound_W I _ _ _ _ h
      exact ⟨S1.1, fun A₀ A base h₀ outer cn L a ccd C p s Q E R k => wpAny_While (S1.2 A₀ A base h₀ outer cn L a ccd (C.less (Nat.le_succ n)) p s _ R k)⟩
  | Return x pos => cases x with
    | none =>
      cases h
      exact ⟨rfl, fun A₀ A base h₀ outer cn L a ccd C p s Q E R k => wpAny_Return_none (k p _ _ _ (.refl _) R ⟨_, rfl, rfl⟩)⟩
    | some e => exact sS_ret I h
  | Continue pos =>
    cases h
    exact ⟨rfl, fun A₀ A base h₀ outer cn L a ccd C p s Q E R k => wpAny_Continue (k p _ _ _ (.refl _) R rfl)⟩
  | Pass pos =>
    cases h
    exact ⟨rfl, fun A₀ A base h₀ outer cn L a ccd C p s Q E R k => wpAny_Pass (k p _ _ _ (.refl _) R rfl)⟩
  | _ => cases h
theorem sound_Ss (I : Good g n ih) : ∀ es σ v σ', stepSs ih es σ = some (v, σ') → SSs g (n + 1) es σ v σ' := by
  intro es σ v σ' h
  cases es with
  | nil =>
    cases h
    exact ⟨rfl, fun A₀ A base h₀ outer cn L a ccd C p s Q E R k => wpAny_execs_nil (k p _ _ _ (.refl _) R rfl)⟩
  | cons e r =>
    unfold stepSs at h
    replace h := bind2_some h
    obtain ⟨⟨o, σ1⟩, h1, h⟩ := h
    have S1 := I.s _ _ _ _ h1
    simp only at h
    cases o with
    | next =>
      have S2 := I.ss _ _ _ _ h
      refine ⟨S2.1.trans S1.1, fun A₀ A base h₀ outer cn L a ccd C p s Q E R k => wpAny_execs_cons (S1.2 A₀ A base h₀ outer cn L a ccd (C.less (Nat.le_succ n)) p s _ _ R fun p1 f h1 tk1 le1 R1 hf => ?_)⟩
      cases hf
      exact S2.run (s := { s with heap := h1, toks := tk1 }) S1.1 (C.less (Nat.le_succ n)) R1 fun p2 f h2 tk2 le2 R2 hy2 => k p2 f h2 tk2 (le1.trans le2) R2 hy2
    | cont =>
      cases h
      refine ⟨S1.1, fun A₀ A base h₀ outer cn L a ccd C p s Q E R k => wpAny_execs_cons (S1.2 A₀ A base h₀ outer cn L a ccd (C.less (Nat.le_succ n)) p s _ _ R fun p1 f h1 tk1 le1 R1 hf => ?_)⟩
      cases hf
      exact k p1 _ h1 tk1 le1 R1 rfl
    | ret v =>
      cases h
      refine ⟨S1.1, fun A₀ A base h₀ outer cn L a ccd C p s Q E R k => wpAny_execs_cons (S1.2 A₀ A base h₀ outer cn L a ccd (C.less (Nat.le_succ n)) p s _ _ R fun p1 f h1 tk1 le1 R1 hf => ?_)⟩
      obtain ⟨y, rfl, hy⟩ := hf
      exact k p1 _ h1 tk1 le1 R1 ⟨y, rfl, hy⟩
end
end Mine
-- M15
namespace Mine

theorem fillS_none {α : Type} {sl r : List (Str × α)} {x : Str} {d : α} (h : sl.lookup x = none) : fillS sl ((x, d) :: r) = fillS (sl ++ [(x, d)]) r := by
  conv => lhs; unfold fillS
  rw [h]
theorem fillS_some {α : Type} {sl r : List (Str × α)} {x : Str} {d u : α} (h : sl.lookup x = some u) : fillS sl ((x, d) :: r) = fillS sl r := by
  conv => lhs; unfold fillS
  rw [h]
theorem bindsTo_gen {fd : FuncData} {ys ds : List Value} {s : Shared} {items : Option (Array Value)} (h1 : fd.params.posonlyargs = []) (h2 : fd.params.vararg = none) (h3 : fd.params.kwonlyargs = []) (h4 : fd.params.kwarg = none)
   (hd : ∀ (M : Model) (A : Around) (E : Value → Shared → Prop) (Q : Option (Array Value) → Shared → Prop), Q items s → wpAny M A (seqItems? fd.defaults) Q E s) (hi : (items.getD #[]).toList = ds) (ok : fillOk (fd.params.args.map (·.arg)) ys ds = true) : BindsTo s fd ⟨ys, []⟩ (bindsOf (fd.params.args.map (·.arg)) ys ds) := by
  intro M A E Q h
  obtain ⟨name, qual, ⟨po, ar, va, ko, kd, kw, df⟩, body, scope, gl, cl, dfs, kdfs, doc, pm, an, cdv, ct⟩ := fd
  simp only at h1 h2 h3 h4 hd ok h
  subst h1 h2 h3 h4
  unfold bindArgs
  simp only [List.map_nil, List.nil_append, List.append_nil]
  refine wpAny_bind (wpAny_pure ?_)
  refine wpAny_bind (hd _ _ _ _ ?_)
  simp only [hi]
  unfold fillOk at ok
  simp only [Bool.and_eq_true] at ok
  obtain ⟨⟨o1, o2⟩, o3⟩ := ok
  have o1 := Nat.le_of_ble_eq_true o1
  have o2 := Nat.le_of_ble_eq_true o2
  rw [List.isEmpty_iff] at o3
  have e1 : decide (ys.length > (List.map (fun x => x.arg) ar).length) = false := decide_eq_false (by omega)
  have e2 : ds.length - (List.map (fun x => x.arg) ar).length = 0 := by omega
  rw [e1, e2, List.drop_zero, o3]
  simp only [Bool.false_and, Bool.false_eq_true, if_false, List.isEmpty_nil, Bool.not_true]
  refine wpAny_bind (wpAny_forIn_list _ (fun rest b s' => s' = s ∧ fillS ((List.map (fun x => x.arg) ar).zip ys) (((List.map (fun x => x.arg) ar).drop ((List.map (fun x => x.arg) ar).length - ds.length)).zip ds) = fillS b rest) _ ?_ ?_ _ _ ⟨rfl, rfl⟩)
  · rintro ⟨x, d⟩ rest b _ ⟨rfl, hb⟩
    cases hl : b.lookup x with
    | none =>
      rw [fillS_none hl] at hb
      simp only [Option.isNone_none, if_true]
      exact wpAny_pure ⟨rfl, hb⟩
    | some u =>
      rw [fillS_some hl] at hb
      simp only [Option.isNone_some, Bool.false_eq_true, if_false]
      exact wpAny_pure ⟨rfl, hb⟩
  · rintro b _ ⟨rfl, hb⟩
    have hb : fillS _ _ = b := hb
    refine wpAny_bind ?_
    rw [List.forIn_nil]
    refine wpAny_pure ?_
    simp only [List.isEmpty_nil, Bool.not_true, Bool.false_eq_true, if_false]
    refine wpAny_pure ?_
    rw [← hb]
    exact h

noncomputable def RB (p : P) : List (Str × V) → List (Str × Value) → Prop
  | [], [] => True
  | (k, v) :: r, (k', y) :: r' => k = k' ∧ RV p v y ∧ RB p r r'
  | _, _ => False
theorem RB.lookup {p : P} (x : Str) : ∀ {l l'}, RB p l l' → (match l.lookup x with | some v => ∃ y, l'.lookup x = some y ∧ RV p v y | none => l'.lookup x = none)
  | [], [], _ => rfl
  | (k, v) :: r, (k', y) :: r', ⟨e, h, t⟩ => by
    subst e
    simp only [List.lookup_cons]
    cases hk : (x == k) with
    | true => exact ⟨y, rfl, h⟩
    | false => exact RB.lookup x t
  | [], _ :: _, e => e.elim
  | (_, _) :: _, [], e => e.elim
theorem RB.isNone {p : P} (x : Str) {l l'} (h : RB p l l') : (l.lookup x).isNone = (l'.lookup x).isNone := by
  have := h.lookup x
  cases e : l.lookup x with
  | none => rw [e] at this; rw [show l'.lookup x = none from this]; rfl
  | some v => rw [e] at this; obtain ⟨y, h1, _⟩ := this; rw [h1]; rfl
theorem RB.append {p : P} : ∀ {l l' m m'}, RB p l l' → RB p m m' → RB p (l ++ m) (l' ++ m')
  | [], [], _, _, _, h => h
  | (_, _) :: _, (_, _) :: _, _, _, ⟨a, b, c⟩, h => ⟨a, b, RB.append c h⟩
  | [], _ :: _, _, _, e, _ => e.elim
  | (_, _) :: _, [], _, _, e, _ => e.elim
theorem RB.reverse {p : P} : ∀ {l l'}, RB p l l' → RB p l.reverse l'.reverse
  | [], [], _ => trivial
  | (k, v) :: r, (k', y) :: r', ⟨a, b, c⟩ => by
    rw [List.reverse_cons, List.reverse_cons]
    exact RB.append (RB.reverse c) ⟨a, b, trivial⟩
  | [], _ :: _, e => e.elim
  | (_, _) :: _, [], e => e.elim
theorem RB.zip {p : P} : ∀ (ns : List Str) {vs ys}, RVs p vs ys → RB p (ns.zip vs) (ns.zip ys)
  | [], [], [], _ => trivial
  | [], _ :: _, _ :: _, _ => trivial
  | _ :: _, [], [], _ => trivial
  | _ :: r, _ :: _, _ :: _, ⟨a, b⟩ => ⟨rfl, a, RB.zip r b⟩
  | _, [], _ :: _, e => e.elim
  | _, _ :: _, [], e => e.elim
theorem RB.fillS {p : P} : ∀ {l l' m m'}, RB p l l' → RB p m m' → RB p (Mine.fillS l m) (Mine.fillS l' m')
  | l, l', [], [], h, _ => h
  | l, l', (x, v) :: r, (x', y) :: r', h, ⟨a, b, c⟩ => by
    subst a
    unfold Mine.fillS
    have e := h.isNone x
    cases h1 : l.lookup x with
    | none =>
      rw [h1] at e
      rw [Option.isNone_iff_eq_none.mp e.symm]
      exact RB.fillS (h.append ⟨rfl, b, trivial⟩) c
    | some w =>
      rw [h1] at e
      cases h2 : l'.lookup x with
      | none => rw [h2] at e; cases e
      | some w' => exact RB.fillS h c
  | _, _, [], _ :: _, _, e => e.elim
  | _, _, (_, _) :: _, [], _, e => e.elim
theorem RB.map {p : P} {l l'} (h : RB p l l') : ∀ ns : List Str, RB p (ns.filterMap fun n => (l.lookup n).map (n, ·)) (ns.filterMap fun n => (l'.lookup n).map (n, ·))
  | [] => trivial
  | x :: r => by
    rw [List.filterMap_cons, List.filterMap_cons]
    have := h.lookup x
    cases e : l.lookup x with
    | none => rw [e] at this; rw [show l'.lookup x = none from this]; exact RB.map h r
    | some v => rw [e] at this; obtain ⟨y, h1, h2⟩ := this; rw [h1]; exact ⟨rfl, h2, RB.map h r⟩
theorem RB.binds {p : P} {ns : List Str} {vs ds ys ds'} (h : RVs p vs ys) (hd : RVs p ds ds') : RB p (bindsOf ns vs ds) (bindsOf ns ys ds') := by
  unfold bindsOf
  rw [hd.length]
  exact RB.map (RB.fillS (RB.zip _ h) (RB.zip _ hd)) ns
theorem fillOk_eq {p : P} {ns : List Str} {vs ds ys ds'} (h : RVs p vs ys) (hd : RVs p ds ds') : fillOk ns vs ds = fillOk ns ys ds' := by
  unfold fillOk
  rw [hd.length, h.length]
  have : (fun x => ((ns.zip vs).lookup x).isNone) = fun x => ((ns.zip ys).lookup x).isNone := funext fun x => (RB.zip ns h).isNone x
  rw [this]
theorem ofVals_RVs {p : P} : ∀ {l : List Value} {ds : List V}, ofVals l = some ds → RVs p ds l
  | [], _, h => by cases h; trivial
  | v :: r, ds, h => by
    unfold ofVals at h
    split at h
    · rename_i x y h1 h2
      cases h
      refine ⟨?_, ofVals_RVs h2⟩
      unfold ofVal at h1
      split at h1 <;> cases h1
      · rfl
      · rfl
      · exact ⟨_, rfl⟩
      · exact ⟨_, rfl⟩
    · cases h
theorem mem_bindsOf {α : Type} {ns : List Str} {vs ds : List α} {y : Str × α} (h : y ∈ bindsOf ns vs ds) : y.1 ∈ ns := by
  unfold bindsOf at h
  obtain ⟨x, h1, h2⟩ := List.mem_filterMap.mp h
  rw [Option.map_eq_some_iff] at h2
  obtain ⟨v, _, rfl⟩ := h2
  exact h1
theorem RB.RL {p : P} {l l'} (h : RB p l l') : RL p l fun y => l'.lookup y := by
  intro x v e
  have := h.lookup x
  rw [e] at this
  exact this

section
variable {g : G} {n : Nat} {ih : Ev}
theorem dflts_of {p : P} {s : Shared} {dV : Value} {ds : List V} (X : g.K.In s.heap) (h : dfltsV g.K dV = some ds) : ∃ (items : Option (Array Value)) (ds' : List Value),
    (∀ (M : Model) (A : Around) (E : Value → Shared → Prop) (Q : Option (Array Value) → Shared → Prop), Q items s → wpAny M A (seqItems? dV) Q E s) ∧ (items.getD #[]).toList = ds' ∧ RVs p ds ds' := by
  unfold dfltsV at h
  split at h
  · cases h
    exact ⟨none, [], fun M A E Q h => wpAny_pure h, rfl, trivial⟩
  · rename_i d
    rw [klk_eq] at h
    split at h
    · rename_i oc od items nn sl ho
      refine ⟨some items, items.toList, fun M A E Q h => ?_, rfl, ofVals_RVs h⟩
      unfold seqItems?
      exact wpAny_bind (wpAny_load (X _ _ ho) (wpAny_pure h))
    · cases h
  · cases h
theorem sound_C (I : Good g n ih) : ∀ f vs σ v σ', stepC g.K g.T g.fn ih f vs σ = some (v, σ') → SC g (n + 1) f vs σ v σ' := by
  intro f vs σ v σ' h
  unfold stepC at h
  split at h
  · rename_i fa
    split at h
    · -- a class
      rename_i c hc
      replace h := bind2_some h
      obtain ⟨⟨v1, σ1⟩, h1, h⟩ := h
      simp only at h
      split at h
      · cases h
        have S1 := I.c _ _ _ _ _ h1
        obtain ⟨cf, e⟩ := g.cls hc
        refine ⟨S1.1, fun A₀ A base h₀ outer cn L a ccd C p s ys R Rp hv k => ?_⟩
        obtain ⟨m, obs, Rp⟩ := Rp
        subst e
        refine W.make_K Rp.F Rp.N (C.X.keeps Rp.F.keep) cf.hm cf.hi (by simpa [isFn] using cf.hif) fun x dx h' F' N' hlt hx => ?_
        have hr : p.r.length = slen σ.objs := Rp.len.trans (Rp.ob.length.symm.trans (toL_len _))
        obtain ⟨le1, R1⟩ := Rp.alloc (o := .idict []) (a := dx) (ob := emptyDict) F' (fun q hq => N' q (List.mem_cons_of_mem _ hq)) (fun q hq => Nat.ne_of_lt (hlt q hq)) ⟨[], 0, rfl, trivial, by simp⟩ (fun e => by cases e)
        have hdx : ({ p with r := p.r ++ [dx] } : P).r[slen σ.objs]? = some dx := by rw [← hr]; simp
        have hmem : ∀ q, q ∈ (x, instObj c.C dx) :: ((p.r ++ [dx]).zip (obs ++ [emptyDict]) ++ p.fr) → q ∈ (x, instObj c.C dx) :: (dx, emptyDict) :: (p.r.zip obs ++ p.fr) := by
          intro q hq
          simp only [List.zip_append Rp.len, List.mem_cons, List.mem_append, List.zip_cons_cons, List.zip_nil_right, List.not_mem_nil, or_false] at hq ⊢
          rcases hq with hq | (hq | hq) | hq
          · exact .inl hq
          · exact .inr (.inr (.inl hq))
          · exact .inr (.inl hq)
          · exact .inr (.inr (.inr hq))
        have hne : ∀ q ∈ (p.r ++ [dx]).zip (obs ++ [emptyDict]) ++ p.fr, q.1 ≠ x := by
          intro q hq
          simp only [List.zip_append Rp.len, List.mem_cons, List.mem_append, List.zip_cons_cons, List.zip_nil_right, List.not_mem_nil, or_false] at hq
          rcases hq with (hq | hq) | hq
          · exact Nat.ne_of_lt (Nat.lt_trans (hlt q (List.mem_append_left _ hq)) hx)
          · subst hq; exact Nat.ne_of_lt hx
          · exact Nat.ne_of_lt (Nat.lt_trans (hlt q (List.mem_append_right _ hq)) hx)
        have hd3 : (p.r ++ [dx] ++ [x])[slen σ.objs]? = some dx := by
          rw [← hr]; simp only [List.append_assoc, List.getElem?_append_right (Nat.le_refl _), Nat.sub_self]; rfl
        obtain ⟨le2, R2⟩ := R1.alloc (o := .inst c.C (slen σ.objs)) (a := x) (ob := instObj c.C dx) F' (fun q hq => N' q (hmem q hq)) hne ⟨dx, hd3, rfl⟩ (fun e => by cases e)
        · refine S1.2 A₀ _ base h₀ outer cn L a ccd ⟨C.B, C.X, C.T, ?_, ?_, C.hk, ?_, ?_⟩ _ { s with heap := h' } _ _ ⟨m, _, R2⟩ ⟨⟨x, ?_, rfl⟩, (hv.mono le1).mono le2⟩ fun p' y h' tk le3 R3 hy3 => ?_
          · exact C.fr
          · exact C.hd
          · have := C.dep; show A.depth + 1 + 2 * n < 950; omega
          · have := C.un; show A.units + 1 + 8 * n < 9800; omega
          · show (p.r ++ [dx] ++ [x])[slen σ.objs + 1]? = some x
            rw [← hr]; simp
          · have hy3 : y = .none := hy3
            refine ⟨hy3, k p' _ h' tk ((le1.trans le2).trans le3) R3 ?_⟩
            refine RS.mono (s := .ref _) le3 ⟨x, ?_, rfl⟩
            show (p.r ++ [dx] ++ [x])[slen σ.objs + 1]? = some x
            rw [← hr]; simp
      · cases h
    · split at h
      rotate_left
      · cases h
      rename_i hfn
      split at h
      · rename_i oc od fd osl hf
        rw [klk_eq] at hf
        have hc := List.all_eq_true.mp g.fok _ (hasN_mem hfn)
        unfold fnOk at hc
        rw [hf] at hc
        simp only at hc
        split at h
        · rename_i body hb
          · replace h := bind2_some h
            obtain ⟨ds, h1, h⟩ := h
            split at h
            · rename_i hok
              replace h := bind2_some h
              obtain ⟨⟨o, σ1⟩, h2, h⟩ := h
              cases h
              have S1 := I.ss _ _ _ _ h2
              simp only [Bool.and_eq_true] at hc
              obtain ⟨⟨⟨⟨⟨⟨c1, c2⟩, c3⟩, c4⟩, c5⟩, c6⟩, c7⟩ := hc
              refine ⟨rfl, fun A₀ A base h₀ outer cn L a ccd C p s ys R Rp hv k => ?_⟩
              obtain ⟨m, obs, Rp⟩ := Rp
              obtain ⟨name, qual, params, body', scope, gl, cl, dfs, kdfs, doc, pm, an, cdv, ct, bu⟩ := fd
              simp only at hb c1 c2 c3 c4 c5 c6 h1 h2 hok S1
              subst hb
              have c4 : gl = mainGlobals := by simpa using c4
              have c5 : cl = [] := List.isEmpty_iff.mp c5
              have c6 : bu = builtinsNs := by simpa using c6
              subst c4 c5 c6
              unfold argsOk at c1
              simp only [Bool.and_eq_true, List.isEmpty_iff, Option.isNone_iff_eq_none] at c1
              obtain ⟨⟨⟨a1, a2⟩, a3⟩, a4⟩ := c1
              unfold scopeOk at c2
              simp only [lk_eq, has_eq, seq_eq] at c2
              simp only [Bool.and_eq_true, Bool.not_eq_true', List.all_eq_true, beq_iff_eq] at c2
              obtain ⟨⟨⟨⟨b1, b2⟩, b3⟩, b4⟩, b5⟩ := c2
              have XK := C.X.keeps Rp.F.keep
              obtain ⟨items, ds', hd1, hd2, hd3⟩ := dflts_of (g := g) (p := p) XK h1
              have hn := RB.binds (ns := params.args.map (·.arg)) hv hd3
              refine W.code_def (outer := outer) (binds := bindsOf (params.args.map (·.arg)) ys ds') C.B Rp.F C.X Rp.N C.T C.fr rfl C.hk hf c3 ?_ ?_ ?_ ?_ b1 b2 b3 ?_
              · have := C.dep; show A.depth < 1000; omega
              · exact bindsTo_gen a1 a2 a3 a4 hd1 hd2 (by rw [← fillOk_eq hv hd3]; exact hok)
              · intro y hy; exact b5 _ (mem_bindsOf hy)
              · intro g' L' h₁ Fg F₁ N₁ B₁ X₁ T₁
                have C' : Cx g n A (A.deeper (envOf qual scope L' fa cdv)) base g' (envOf cn σ.sc L a ccd :: outer) qual scope L' fa cdv :=
                  ⟨B₁, X₁, T₁, by show A.frames.map _ = _; rw [C.fr]; rfl, C.hd, b3, by have := C.dep; show A.depth + 1 + 2 * n < 950; omega, by have := C.un; show A.units + 3 + 8 * n < 9800; omega⟩
                have Rn : Rep g.prog g.w g' L' p { sc := scope, loc := (bindsOf (params.args.map (·.arg)) vs ds).reverse, objs := σ.objs } h₁ :=
                  ⟨_, obs, ⟨F₁, N₁, hn.reverse.RL, Rp.len, Rp.ob, Rp.nd, Rp.off, Rp.big⟩⟩
                refine S1.2 A _ base g' _ qual L' fa cdv C' p _ _ _ Rn fun p' f h' tk le R' hf => ?_
                obtain ⟨m', obs', R'⟩ := R'
                refine leaveK_ R'.F R'.N fun F N => ?_
                refine k p' _ h' tk le ⟨m, obs', ⟨F, N, Rp.loc.mono le, R'.len, R'.ob, R'.nd, R'.off, R'.big⟩⟩ ?_
                cases o with
                | next => cases hf; rfl
                | cont => cases hf; rfl
                | ret v => obtain ⟨y, rfl, hy⟩ := hf; exact hy
              · intro x hx; have := b4 x hx; simpa using this
            · cases h
        · cases h
      · cases h
  · cases h
end
end Mine
-- M16
namespace Mine
theorem good_step {g : G} {n : Nat} {ih : Ev} (I : Good g n ih) : Good g (n + 1) (step g.K g.T g.gt g.fn ih) :=
  ⟨sound_E I, sound_Es I, sound_T I, sound_S I, sound_Ss I, sound_C I⟩
theorem good (g : G) : ∀ n, Good g n (ev g.K g.T g.gt g.fn n)
  | 0 => by
    refine ⟨?_, ?_, ?_, ?_, ?_, ?_⟩
    · intro e σ v σ' h; exact absurd (show (none : Option (V × St)) = some (v, σ') from h) (by simp)
    · intro e σ v σ' h; exact absurd (show (none : Option (List V × St)) = some (v, σ') from h) (by simp)
    · intro e σ v σ' h; exact absurd (show (none : Option (Bool × St)) = some (v, σ') from h) (by simp)
    · intro e σ v σ' h; exact absurd (show (none : Option (Ou × St)) = some (v, σ') from h) (by simp)
    · intro e σ v σ' h; exact absurd (show (none : Option (Ou × St)) = some (v, σ') from h) (by simp)
    · intro f vs σ v σ' h; exact absurd (show (none : Option (V × St)) = some (v, σ') from h) (by simp)
  | n + 1 => good_step (good g n)
end Mine
-- M17
namespace Mine

noncomputable def subS (keep : List Nat) (d : Int) (x y : S) : Bool := match y with
  | .any => true
  | .none => match x with | .none => true | _ => false
  | .bool b => match x with | .bool a => a == b | _ => false
  | .int j => match x with | .int i => decide (i = j) | _ => false
  | .num => match x with | .int _ => true | .num => true | _ => false
  | .str t => match x with | .str s => s == t | _ => false
  | .off j => match x with | .off k => decide (k = j + d) | _ => false
  | .ref m => match x with
    | .ref l => match keep[m]? with | some l' => Nat.beq l' l | none => false
    | _ => false
  | _ => false
noncomputable def subSs (keep : List Nat) (d : Int) : List S → List S → Bool
  | [], [] => true
  | x :: r, y :: s => subS keep d x y && subSs keep d r s
  | _, _ => false
noncomputable def subV (keep : List Nat) (d : Int) (x y : V) : Bool := match y with
  | .sc t => match t with
    | .any => true
    | t => match x with | .sc s => subS keep d s t | _ => false
  | .tup ys => match x with | .tup xs => subSs keep d xs ys | _ => false
noncomputable def subVs (keep : List Nat) (d : Int) : List V → List V → Bool
  | [], [] => true
  | x :: r, y :: s => subV keep d x y && subVs keep d r s
  | _, _ => false
noncomputable def subEs (keep : List Nat) (d : Int) : List (Str × V) → List (Str × V) → Bool
  | [], [] => true
  | (k, x) :: r, (l, y) :: s => (k == l) && subV keep d x y && subEs keep d r s
  | _, _ => false
noncomputable def subO (keep : List Nat) (d : Int) (x y : O) : Bool := match y with
  | .gone => true
  | .inst C e => match x with
    | .inst C' e' => Nat.beq C C' && (match keep[e]? with | some l => Nat.beq l e' | none => false)
    | _ => false
  | .idict ys => match x with | .idict xs => Nat.ble ys.length 100 && subEs keep d xs ys | _ => false
  | .list ys => match x with | .list xs => Nat.ble ys.length 1000 && subVs keep d xs ys | _ => false
  | .sdict ys => match x with | .sdict xs => Nat.ble ys.length 1000 && subEs keep d xs ys | _ => false
  | _ => false
noncomputable def P.re (p : P) (keep : List Nat) (d : Int) : P := ⟨p.β + d, keep.map fun l => p.r.getD l 0, p.fr⟩

section
variable {p : P} {keep : List Nat} {d : Int}
noncomputable def Keeps1 (p : P) (keep : List Nat) : Prop := ∀ l ∈ keep, l < p.r.length
theorem re_get {m l : Nat} {a : Addr} (h : keep[m]? = some l) (ha : p.r[l]? = some a) : (p.re keep d).r[m]? = some a := by
  unfold P.re
  simp only [List.getElem?_map, h, Option.map_some]
  rw [List.getD_eq_getElem?_getD, ha]; rfl
theorem RS_sub (hk : Keeps1 p keep) {x y : S} {v : Value} (h : subS keep d x y = true) (r : RS p x v) : RS (p.re keep d) y v := by
  unfold subS at h
  split at h
  · trivial
  · split at h
    · exact r
    · cases h
  · split at h
    · rw [beq_iff_eq] at h
      subst h; exact r
    · cases h
  · split at h
    · rename_i i; have := of_decide_eq_true h; subst this; exact r
    · cases h
  · split at h
    · obtain ⟨t, e⟩ := r; exact ⟨_, t, e⟩
    · exact r
    · cases h
  · split at h
    · rw [beq_iff_eq] at h
      subst h; exact r
    · cases h
  · split at h
    · have := of_decide_eq_true h
      subst this
      obtain ⟨t, e⟩ := r
      refine ⟨t, ?_⟩
      rw [e]
      show Value.int _ t = Value.int _ t
      congr 1
      show _ = p.β + d + _
      omega
    · cases h
  · split at h
    · split at h
      · rename_i l' hl
        have := Nat.eq_of_beq_eq_true h
        subst this
        obtain ⟨a, ha, e⟩ := r
        exact ⟨a, re_get hl ha, e⟩
      · cases h
    · cases h
  · cases h
theorem RSs_sub (hk : Keeps1 p keep) : ∀ {x y : List S} {v : List Value}, subSs keep d x y = true → RSs p x v → RSs (p.re keep d) y v
  | [], [], [], _, _ => trivial
  | x :: r, y :: s, v :: vs, h, ⟨h1, h2⟩ => by
    unfold subSs at h
    rw [Bool.and_eq_true] at h
    exact ⟨RS_sub hk h.1 h1, RSs_sub hk h.2 h2⟩
  | [], [], _ :: _, _, h => h.elim
  | _ :: _, _, [], _, h => h.elim
  | [], _ :: _, _, h, _ => by cases h
  | _ :: _, [], _, h, _ => by cases h
theorem RV_sub (hk : Keeps1 p keep) {x y : V} {v : Value} (h : subV keep d x y = true) (r : RV p x v) : RV (p.re keep d) y v := by
  unfold subV at h
  split at h
  · split at h
    · trivial
    · split at h
      · exact RS_sub hk h r
      · cases h
  · split at h
    · obtain ⟨a, ys, e, h1, h2⟩ := r
      exact ⟨a, ys, e, h1, RSs_sub hk h h2⟩
    · cases h
theorem RVs_sub (hk : Keeps1 p keep) : ∀ {x y : List V} {v : List Value}, subVs keep d x y = true → RVs p x v → RVs (p.re keep d) y v
  | [], [], [], _, _ => trivial
  | x :: r, y :: s, v :: vs, h, ⟨h1, h2⟩ => by
    unfold subVs at h
    rw [Bool.and_eq_true] at h
    exact ⟨RV_sub hk h.1 h1, RVs_sub hk h.2 h2⟩
  | [], [], _ :: _, _, h => h.elim
  | _ :: _, _, [], _, h => h.elim
  | [], _ :: _, _, h, _ => by cases h
  | _ :: _, [], _, h, _ => by cases h
theorem REs_sub (hk : Keeps1 p keep) {ps : Params} : ∀ {x y : List (Str × V)} {v : List DictEntry}, subEs keep d x y = true → REs p ps x v → REs (p.re keep d) ps y v
  | [], [], [], _, _ => trivial
  | (k, x) :: r, (l, y) :: s, e :: es, h, ⟨h1, h2, h3, h4⟩ => by
    unfold subEs at h
    simp only [Bool.and_eq_true] at h
    have : k = l := by simpa using h.1.1
    subst this
    exact ⟨h1, h2, RV_sub hk h.1.2 h3, REs_sub hk h.2 h4⟩
  | [], [], _ :: _, _, h => h.elim
  | (_, _) :: _, _, [], _, h => h.elim
  | [], _ :: _, _, h, _ => by cases h
  | _ :: _, [], _, h, _ => by cases h
theorem subEs_fst : ∀ {x y : List (Str × V)}, subEs keep d x y = true → x.map (·.1) = y.map (·.1)
  | [], [], _ => rfl
  | (k, x) :: r, (l, y) :: s, h => by
    unfold subEs at h
    simp only [Bool.and_eq_true] at h
    have : k = l := by simpa using h.1.1
    subst this
    simp [subEs_fst h.2]
  | [], _ :: _, h => by cases h
  | _ :: _, [], h => by cases h
theorem subEs_snd (hk : Keeps1 p keep) : ∀ {x y : List (Str × V)} {v : List Value}, subEs keep d x y = true → RVs p (x.map (·.2)) v → RVs (p.re keep d) (y.map (·.2)) v
  | [], [], [], _, _ => trivial
  | (k, x) :: r, (l, y) :: s, v :: vs, h, ⟨h1, h2⟩ => by
    unfold subEs at h
    simp only [Bool.and_eq_true] at h
    exact ⟨RV_sub hk h.1.2 h1, subEs_snd hk h.2 h2⟩
  | [], [], _ :: _, _, h => h.elim
  | (_, _) :: _, _, [], _, h => h.elim
  | [], _ :: _, _, h, _ => by cases h
  | _ :: _, [], _, h, _ => by cases h
theorem RO_sub {prog : Program} {w : World} (hk : Keeps1 p keep) {x y : O} {ob : Obj} (h : subO keep d x y = true) (r : RO prog w p x ob) : RO prog w (p.re keep d) y ob := by
  unfold subO at h
  split at h
  · trivial
  · split at h
    · rw [Bool.and_eq_true] at h
      obtain ⟨h1, h2⟩ := h
      have := Nat.eq_of_beq_eq_true h1
      subst this
      split at h2
      · rename_i l hl
        have := Nat.eq_of_beq_eq_true h2
        subst this
        obtain ⟨a, ha, e⟩ := r
        exact ⟨a, re_get hl ha, e⟩
      · cases h2
    · cases h
  · split at h
    · rw [Bool.and_eq_true] at h
      obtain ⟨es', n, e, h1, h2⟩ := r
      exact ⟨es', n, e, REs_sub hk h.2 h1, Nat.le_of_ble_eq_true h.1⟩
    · cases h
  · split at h
    · rw [Bool.and_eq_true] at h
      obtain ⟨vs, n, e, h1, h2⟩ := r
      exact ⟨vs, n, e, RVs_sub hk h.2 h1, Nat.le_of_ble_eq_true h.1⟩
    · cases h
  · split at h
    · rw [Bool.and_eq_true] at h
      obtain ⟨kvs, h1, h2, h3, h4⟩ := r
      exact ⟨kvs, h1, h2.trans (subEs_fst h.2), subEs_snd hk h.2 h3, Nat.le_of_ble_eq_true h.1⟩
    · cases h
  · cases h
end

noncomputable def subAll (keep : List Nat) (spec : List Nat) (d : Int) (xs : Sto) : List Nat → Nat → List O → Bool
  | [], _, [] => true
  | l :: ls, i, y :: ys => (match spec.contains i with
      | true => true
      | false => match sget xs l with
        | some x => subO keep d x y
        | none => false) && subAll keep spec d xs ls (i + 1) ys
  | _, _, _ => false
noncomputable def subLoc (keep : List Nat) (d : Int) (xs : List (Str × V)) : List (Str × V) → Bool
  | [] => true
  | (k, y) :: r => (match xs.lookup k with
      | some x => subV keep d x y
      | none => false) && subLoc keep d xs r
noncomputable def nodupB : List Nat → Bool
  | [] => true
  | x :: r => !(r.any (Nat.beq x)) && nodupB r
theorem nodupB_of : ∀ {l : List Nat}, nodupB l = true → l.Nodup
  | [], _ => List.nodup_nil
  | x :: r, h => by
    unfold nodupB at h
    rw [Bool.and_eq_true] at h
    rw [List.nodup_cons]
    refine ⟨fun hm => ?_, nodupB_of h.2⟩
    have : r.any (Nat.beq x) = true := List.any_eq_true.mpr ⟨x, hm, Nat.beq_refl x⟩
    rw [this] at h
    cases h.1
theorem subAll_len {keep spec : List Nat} {d : Int} {xs : Sto} : ∀ {ls : List Nat} {i : Nat} {ys : List O}, subAll keep spec d xs ls i ys = true → ls.length = ys.length
  | [], _, [], _ => rfl
  | _ :: _, _, _ :: _, h => by
    unfold subAll at h
    rw [Bool.and_eq_true] at h
    simp [subAll_len h.2]
  | [], _, _ :: _, h => by cases h
  | _ :: _, _, [], h => by cases h
theorem subAll_get {keep spec : List Nat} {d : Int} {xs : Sto} : ∀ {ls : List Nat} {i : Nat} {ys : List O}, subAll keep spec d xs ls i ys = true → ∀ {j l : Nat} {y : O}, ls[j]? = some l → ys[j]? = some y → spec.contains (i + j) = false → ∃ x, sget xs l = some x ∧ subO keep d x y = true
  | l :: ls, i, y :: ys, h, 0, l', y', h1, h2, h3 => by
    cases h1; cases h2
    unfold subAll at h
    rw [Bool.and_eq_true] at h
    rw [Nat.add_zero] at h3
    rw [h3] at h
    have h' := h.1
    simp only at h'
    split at h'
    · rename_i x hx; exact ⟨x, hx, h'⟩
    · cases h'
  | l :: ls, i, y :: ys, h, j + 1, l', y', h1, h2, h3 => by
    unfold subAll at h
    rw [Bool.and_eq_true] at h
    exact subAll_get h.2 (j := j) (by simpa using h1) (by simpa using h2) (by rw [show i + 1 + j = i + (j + 1) by omega]; exact h3)
  | [], _, _, _, _, _, _, h1, _, _ => by cases h1
  | _ :: _, _, [], h, _, _, _, _, _, _ => by cases h
theorem subLoc_get {keep : List Nat} {d : Int} {xs : List (Str × V)} : ∀ {ys : List (Str × V)}, subLoc keep d xs ys = true → ∀ {k : Str} {y : V}, ys.lookup k = some y → ∃ x, xs.lookup k = some x ∧ subV keep d x y = true
  | (k, y) :: r, h, k', y', e => by
    unfold subLoc at h
    rw [Bool.and_eq_true] at h
    rw [List.lookup_cons] at e
    cases hk : (k' == k) with
    | true =>
      rw [hk] at e
      cases e
      have : k' = k := by simpa using hk
      subst this
      have h' := h.1
      split at h'
      · rename_i x hx; exact ⟨x, hx, h'⟩
      · cases h'
    | false => rw [hk] at e; exact subLoc_get h.2 e
  | [], _, _, _, e => by cases e

theorem getD_of {α : Type} {l : List α} {i : Nat} {a z : α} (h : l[i]? = some a) : l.getD i z = a := by rw [List.getD_eq_getElem?_getD, h]; rfl
theorem ROs_of {prog : Program} {w : World} {p : P} : ∀ {os : List O} {obs : List Obj}, os.length = obs.length → (∀ (i : Nat) (o : O) (ob : Obj), os[i]? = some o → obs[i]? = some ob → RO prog w p o ob) → ROs prog w p os obs
  | [], [], _, _ => trivial
  | o :: os, ob :: obs, h, f => ⟨f 0 _ _ rfl rfl, ROs_of (by simpa using h) fun i o ob h1 h2 => f (i + 1) o ob (by simpa using h1) (by simpa using h2)⟩
  | [], _ :: _, h, _ => by simp at h
  | _ :: _, [], h, _ => by simp at h

theorem Rep.trimL {prog : Program} {w : World} {h₀ h : Heap} {L : Addr} {p : P} {σ : St} (R : Rep prog w h₀ L p σ h) {sc : Scope} {loc : List (Str × V)} {τ : List O} {keep spec : List Nat} {d : Int} (hs : subAll keep spec d σ.objs keep 0 τ = true) (hn : nodupB keep = true) (hb : keep.all (fun l => Nat.blt l (slen σ.objs)) = true)
    (hl : ∀ (x : Str) (v : V), loc.lookup x = some v → ∃ u, σ.loc.lookup x = some u ∧ ∀ y, RV p u y → RV (p.re keep d) v y) (hD : ∀ (i l : Nat) (o o' : O), keep[i]? = some l → sget σ.objs l = some o → τ[i]? = some o' → isD o' = true → isD o = true)
    (hsp : ∀ i ∈ spec, ∀ (l : Nat) (o o' : O), keep[i]? = some l → sget σ.objs l = some o → τ[i]? = some o' → ∀ ob, RO prog w p o ob → RO prog w (p.re keep d) o' ob) : Rep prog w h₀ L (p.re keep d) ⟨sc, loc, ofL τ⟩ h := by
  obtain ⟨m, obs, R⟩ := R
  have hr : p.r.length = slen σ.objs := R.len.trans (R.ob.length.symm.trans (toL_len _))
  have hlt : ∀ l ∈ keep, l < slen σ.objs := fun l hm => Nat.le_of_ble_eq_true (List.all_eq_true.mp hb l hm)
  have hk : Keeps1 p keep := fun l hm => by rw [hr]; exact hlt l hm
  have hlen := subAll_len hs
  let z : Obj := emptyDict
  have pick : ∀ l ∈ keep, ∃ o a ob, sget σ.objs l = some o ∧ p.r[l]? = some a ∧ obs[l]? = some ob ∧ RO prog w p o ob ∧ (a, ob) ∈ p.r.zip obs := fun l hm => by
    have e : (toL σ.objs)[l]? = some ((toL σ.objs)[l]'(by rw [toL_len]; exact hlt l hm)) := List.getElem?_eq_getElem _
    rw [toL_get] at e
    obtain ⟨a, ob, h1, h2, h3, h4⟩ := R.get e
    exact ⟨_, a, ob, e, h1, h2, h3, h4⟩
  refine ⟨m, keep.map fun l => obs.getD l z, R.F, fun q hq => ?_, fun x v e => ?_, ?_, ?_, ?_, fun a ha q hq => ?_, ?_⟩
  · rcases List.mem_append.mp hq with hq | hq
    · have hz : (p.re keep d).r.zip (keep.map fun l => obs.getD l z) = keep.map fun l => (p.r.getD l 0, obs.getD l z) := by
        unfold P.re
        rw [List.zip_map']
      rw [hz] at hq
      obtain ⟨l, hm, rfl⟩ := List.mem_map.mp hq
      obtain ⟨o, a, ob, h1, h2, h3, h4, h5⟩ := pick l hm
      rw [getD_of h2, getD_of h3]
      exact R.N _ (List.mem_append_left _ h5)
    · exact R.N q (List.mem_append_right _ hq)
  · obtain ⟨u, hu, hs'⟩ := hl x v e
    obtain ⟨y, h1, h2⟩ := R.loc x u hu
    exact ⟨y, h1, hs' y h2⟩
  · simp [P.re]
  · show ROs prog w (p.re keep d) (toL (ofL τ)) _
    rw [toL_ofL]
    refine ROs_of (by rw [List.length_map]; exact hlen.symm) fun i o' ob h1 h2 => ?_
    simp only [List.getElem?_map, Option.map_eq_some_iff] at h2
    obtain ⟨l, hl', rfl⟩ := h2
    obtain ⟨o, a, ob, q1, q2, q3, q4, q5⟩ := pick l (List.mem_of_getElem? hl')
    rw [getD_of q3]
    cases hc : spec.contains i with
    | true => exact hsp i (by simpa using hc) l o o' hl' q1 h1 ob q4
    | false =>
      obtain ⟨x, hx, hs'⟩ := subAll_get hs hl' h1 (by rw [Nat.zero_add]; exact hc)
      rw [q1] at hx
      cases hx
      exact RO_sub hk hs' q4
  · show (keep.map fun l => p.r.getD l 0).Nodup
    refine List.pairwise_map.mpr (List.Pairwise.imp_of_mem (fun {l l'} hm hm' (hne : l ≠ l') e => hne ?_) (nodupB_of hn))
    obtain ⟨_, a, _, _, h2, _⟩ := pick l hm
    obtain ⟨_, a', _, _, h2', _⟩ := pick l' hm'
    rw [getD_of h2, getD_of h2'] at e
    subst e
    exact (List.getElem?_inj (by rw [hr]; exact hlt l hm) R.nd).mp (h2.trans h2'.symm)
  · obtain ⟨l, hm, rfl⟩ := List.mem_map.mp ha
    obtain ⟨_, a, _, _, h2, _⟩ := pick l hm
    rw [getD_of h2]
    exact R.off a (List.mem_of_getElem? h2) q hq
  · show Big _ (toL (ofL τ))
    rw [toL_ofL]
    intro i a o' h1 h2 h3
    simp only [P.re, List.getElem?_map, Option.map_eq_some_iff] at h1
    obtain ⟨l, hl', rfl⟩ := h1
    obtain ⟨o, a, ob, q1, q2, q3, q4, q5⟩ := pick l (List.mem_of_getElem? hl')
    rw [getD_of q2]
    exact R.bigAt q2 q1 (hD i l o o' hl' q1 h2 h3)
theorem Rep.trim {prog : Program} {w : World} {h₀ h : Heap} {L : Addr} {p : P} {σ : St} (R : Rep prog w h₀ L p σ h) {sc : Scope} {loc : List (Str × V)} {τ : List O} {keep spec : List Nat} {d : Int} (hs : subAll keep spec d σ.objs keep 0 τ = true) (hn : nodupB keep = true) (hb : keep.all (fun l => Nat.blt l (slen σ.objs)) = true)
    (hl : subLoc keep d σ.loc loc = true) (hD : ∀ (i l : Nat) (o o' : O), keep[i]? = some l → sget σ.objs l = some o → τ[i]? = some o' → isD o' = true → isD o = true)
    (hsp : ∀ i ∈ spec, ∀ (l : Nat) (o o' : O), keep[i]? = some l → sget σ.objs l = some o → τ[i]? = some o' → ∀ ob, RO prog w p o ob → RO prog w (p.re keep d) o' ob) : Rep prog w h₀ L (p.re keep d) ⟨sc, loc, ofL τ⟩ h := by
  have hk : Keeps1 p keep := fun l hm => by
    obtain ⟨m, obs, R⟩ := R
    rw [show p.r.length = slen σ.objs from R.len.trans (R.ob.length.symm.trans (toL_len _))]
    exact Nat.le_of_ble_eq_true (List.all_eq_true.mp hb l hm)
  refine R.trimL hs hn hb (fun x v e => ?_) hD hsp
  obtain ⟨u, hu, hs'⟩ := subLoc_get hl e
  exact ⟨u, hu, fun y h2 => RV_sub hk hs' h2⟩
end Mine
-- M18
namespace Mine

section
variable {g : G} {n : Nat}
theorem call_hand {fa : Addr} {oc : Value} {od : Option Addr} {fd : FuncData} {osl : Array (Option Value)} {body : List Stmt} {vs ds : List V} {σ : St} {A₀ A : Around} {base h₀ : Heap} {outer : List Env} {cn : Str} {L a : Addr} {ccd : Value} {p : P} {s : Shared} {ys : List Value} {R : Result → Shared → Prop}
    (hf : g.K.lookup fa = some ⟨oc, od, .func fd, osl⟩) (hfn : hasN fa g.fn = true) (hb : fd.body = .stmts body) (h1 : dfltsV g.K fd.defaults = some ds) (hok : fillOk (fd.params.args.map (·.arg)) vs ds = true)
    (C : Cx g (n + 1) A₀ A base h₀ outer cn σ.sc L a ccd) (Rp : Rep g.prog g.w h₀ L p σ s.heap) (hv : RVs p vs ys)
    (K : ∀ (A' : Around) (h₀' : Heap) (L' : Addr) (h₁ : Heap) (tk : Nat), Cx g n A A' base h₀' (envOf cn σ.sc L a ccd :: outer) fd.qualname fd.scope L' fa fd.code → Rep g.prog g.w h₀' L' p ⟨fd.scope, (bindsOf (fd.params.args.map (·.arg)) vs ds).reverse, σ.objs⟩ h₁ →
      ∀ E, wpAny (model g.prog g.w) A' (execs body (envOf fd.qualname fd.scope L' fa fd.code)) (fun fl s' => ∃ (p' : P) (sc' : Scope) (l' : List (Str × V)) (objs' : Sto) (h' : Heap) (tk' : Nat), s' = { s with heap := h', toks := tk' } ∧ Rep g.prog g.w h₀' L' p' ⟨sc', l', objs'⟩ h' ∧
        ((∀ loc', (∀ m, RL p σ.loc m → RL p' loc' m) → Rep g.prog g.w h₀ L p' ⟨σ.sc, loc', objs'⟩ h') → R (.ok (.ret (match fl with | .ret v => v | _ => .none))) s')) E { s with heap := h₁, toks := tk }) :
    codeAny (model g.prog g.w) A (.call (.ref fa) ⟨ys, []⟩) R s := by
  have hc := List.all_eq_true.mp g.fok _ (hasN_mem hfn)
  unfold fnOk at hc
  rw [hf] at hc
  simp only [Bool.and_eq_true] at hc
  obtain ⟨⟨⟨⟨⟨⟨c1, c2⟩, c3⟩, c4⟩, c5⟩, c6⟩, c7⟩ := hc
  obtain ⟨m, obs, Rp⟩ := Rp
  obtain ⟨name, qual, params, body', scope, gl, cl, dfs, kdfs, doc, pm, ann, cdv, ct, bu⟩ := fd
  simp only at hb c1 c2 c3 c4 c5 c6 h1 hok K
  subst hb
  have c4 : gl = mainGlobals := by simpa using c4
  have c5 : cl = [] := List.isEmpty_iff.mp c5
  have c6 : bu = builtinsNs := by simpa using c6
  subst c4 c5 c6
  unfold argsOk at c1
  simp only [Bool.and_eq_true, List.isEmpty_iff, Option.isNone_iff_eq_none] at c1
  obtain ⟨⟨⟨a1, a2⟩, a3⟩, a4⟩ := c1
  unfold scopeOk at c2
  simp only [lk_eq, has_eq, seq_eq] at c2
  simp only [Bool.and_eq_true, Bool.not_eq_true', List.all_eq_true, beq_iff_eq] at c2
  obtain ⟨⟨⟨⟨b1, b2⟩, b3⟩, b4⟩, b5⟩ := c2
  have XK := C.X.keeps Rp.F.keep
  obtain ⟨items, ds', hd1, hd2, hd3⟩ := dflts_of (g := g) (p := p) XK h1
  have hn := RB.binds (ns := params.args.map (·.arg)) hv hd3
  refine W.code_def (outer := outer) (binds := bindsOf (params.args.map (·.arg)) ys ds') C.B Rp.F C.X Rp.N C.T C.fr rfl C.hk hf c3 ?_ ?_ ?_ ?_ b1 b2 b3 ?_
  · have := C.dep; show A.depth < 1000; omega
  · exact bindsTo_gen a1 a2 a3 a4 hd1 hd2 (by rw [← fillOk_eq hv hd3]; exact hok)
  · intro y hy; exact b5 _ (mem_bindsOf hy)
  · intro g' L' h₁ Fg F₁ N₁ B₁ X₁ T₁
    have C' : Cx g n A (A.deeper (envOf qual scope L' fa cdv)) base g' (envOf cn σ.sc L a ccd :: outer) qual scope L' fa cdv :=
      ⟨B₁, X₁, T₁, by show A.frames.map _ = _; rw [C.fr]; rfl, C.hd, b3, by have := C.dep; show A.depth + 1 + 2 * n < 950; omega, by have := C.un; show A.units + 3 + 8 * n < 9800; omega⟩
    have Rn : Rep g.prog g.w g' L' p { sc := scope, loc := (bindsOf (params.args.map (·.arg)) vs ds).reverse, objs := σ.objs } h₁ :=
      ⟨_, obs, ⟨F₁, N₁, hn.reverse.RL, Rp.len, Rp.ob, Rp.nd, Rp.off, Rp.big⟩⟩
    refine wpAny_mono (K _ g' L' h₁ _ C' Rn _) (fun fl s' hq => ?_) fun _ _ e => e
    obtain ⟨p', sc', l', objs', h', tk', rfl, ⟨m', obs', R'⟩, hR⟩ := hq
    refine leaveK_ R'.F R'.N fun F N => hR fun loc' hl => ?_
    exact ⟨m, obs', ⟨F, N, hl m Rp.loc, R'.len, R'.ob, R'.nd, R'.off, R'.big⟩⟩
  · intro x hx; have := b4 x hx; simpa using this

end
noncomputable def stepPre (ih : Ev) : Nat → List Stmt → St → Option St
  | 0, _, σ => some σ
  | k + 1, s :: r, σ => bind2 (ih.s s σ) fun p => match p.1 with
    | .next => stepPre ih k r p.2
    | _ => none
  | _ + 1, [], _ => none
section
variable {g : G} {n : Nat} {ih : Ev}
theorem sound_pre (I : Good g n ih) : ∀ (k : Nat) (body : List Stmt) (σ σ' : St), stepPre ih k body σ = some σ' → σ'.sc = σ.sc ∧
    ∀ (A₀ A : Around) (base h₀ : Heap) (outer : List Env) (cn : Str) (L a : Addr) (ccd : Value), Cx g n A₀ A base h₀ outer cn σ.sc L a ccd → ∀ (p : P) (s : Shared) (Q : Flow → Shared → Prop) (E : Value → Shared → Prop), Rep g.prog g.w h₀ L p σ s.heap →
      (∀ p' h' tk, p.le p' → Rep g.prog g.w h₀ L p' σ' h' → wpAny (model g.prog g.w) A (execs (body.drop k) (envOf cn σ.sc L a ccd)) Q E { s with heap := h', toks := tk }) → wpAny (model g.prog g.w) A (execs body (envOf cn σ.sc L a ccd)) Q E s
  | 0, body, σ, σ', h => by
    cases h
    exact ⟨rfl, fun A₀ A base h₀ outer cn L a ccd C p s Q E R k => k p s.heap s.toks (.refl _) R⟩
  | j + 1, st :: r, σ, σ', h => by
    unfold stepPre at h
    replace h := bind2_some h
    obtain ⟨⟨o, σ1⟩, h1, h⟩ := h
    have S1 := I.s _ _ _ _ h1
    simp only at h
    split at h
    · obtain ⟨e2, S2⟩ := sound_pre I j r σ1 σ' h
      refine ⟨e2.trans S1.1, fun A₀ A base h₀ outer cn L a ccd C p s Q E R k => wpAny_execs_cons (S1.2 A₀ A base h₀ outer cn L a ccd C p s _ _ R fun p1 f h1 tk1 le1 R1 hf => ?_)⟩
      cases hf
      show wpAny _ _ (execs r _) Q E _
      rw [← S1.1]
      refine S2 A₀ A base h₀ outer cn L a ccd (C.sc S1.1) p1 { s with heap := h1, toks := tk1 } Q E R1 fun p2 h2 tk2 le2 R2 => ?_
      rw [S1.1]
      exact k p2 h2 tk2 (le1.trans le2) R2
    · cases h
  | _ + 1, [], _, _, h => by cases h
end
end Mine
-- M19
namespace Mine
section
variable {prog : Program} {w : World} {p : P} {keep : List Nat} {d : Int} {ob : Obj}
theorem sp_td {n : Nat} (h : RO prog w p (.tdict n) ob) (hd : (n : Int) ≤ d) (hb : p.β + d ≤ 500) : RO prog w (p.re keep d) (.tdict 0) ob := by
  obtain ⟨xs, es, ep, h1, h2, h3, h4, h5, h6, h7, h8⟩ := h
  exact ⟨xs, es, ep, h1, h2, h3, h4, h5, by show (xs.length : Int) ≤ p.β + d + 0; omega, hb, by omega⟩
theorem sp_al {n : Nat} (h : RO prog w p (.alist n) ob) (hd : (n : Int) ≤ d) (hb : p.β + d ≤ 500) : RO prog w (p.re keep d) (.alist 0) ob := by
  obtain ⟨vs, k, h1, h2, h3, h4⟩ := h
  exact ⟨vs, k, h1, by show (vs.length : Int) ≤ p.β + d + 0; omega, hb, by omega⟩
theorem sp_jd {is : List Int} {n : Nat} (h : RO prog w p (.jdict is n true) ob) (hd : 0 ≤ d) (hl : is.length ≤ 20) : RO prog w (p.re keep d) (.jdict is 20 true) ob := by
  obtain ⟨kvs, h1, h2, h3, h4⟩ := h
  exact ⟨kvs, h1, h2, ⟨hl, by omega⟩, fun _ i hi => by have := h4 rfl i hi; show i < p.β + d; omega⟩
theorem sp_jn {is : List Int} {n : Nat} {k : Int} (h : RO prog w p (.jnew is n k) ob) (hk : k < d) (hd : 0 ≤ d) (hlt : ∀ i ∈ is, i < p.β) (hl : is.length + 1 ≤ 20) : RO prog w (p.re keep d) (.jdict (is ++ [p.β + k]) 20 true) ob := by
  obtain ⟨kvs, h1, h2, h3⟩ := h
  refine ⟨kvs, h1, h2, ⟨by simp; omega, by omega⟩, fun _ i hi => ?_⟩
  show i < p.β + d
  rcases List.mem_append.mp hi with hi | hi
  · have := hlt i hi; omega
  · rw [List.mem_singleton.mp hi]; omega
theorem valueAt_mem {kvs : List (Str × Value)} {x : Str} (h : x ∈ kvs.map (·.1)) : ∃ y, valueAt kvs x = some y := by
  cases e : valueAt kvs x with
  | some y => exact ⟨y, rfl⟩
  | none =>
    exfalso
    induction kvs with
    | nil => cases h
    | cons q r ih =>
      rw [valueAt_cons] at e
      by_cases hq : q.1 = x
      · rw [if_pos hq] at e; cases e
      · rw [if_neg hq] at e
        rw [List.map_cons, List.mem_cons] at h
        rcases h with h | h
        · exact hq h.symm
        · exact ih h e
theorem sp_xd {ks : List Str} {n : Nat} {kn kn' : List (Str × Option V)} (h : RO prog w p (.xdict ks n kn) ob) (hl : ks.length ≤ 20) (hk : ∀ x ∈ kn', match x.2 with | none => x.1 ∉ ks | some v => v = .sc .any ∧ x.1 ∈ ks) : RO prog w (p.re keep d) (.xdict ks 20 kn') ob := by
  obtain ⟨kvs, h1, h2, h3, h4⟩ := h
  refine ⟨kvs, h1, h2, ⟨hl, by omega⟩, fun x hx => ?_⟩
  have := hk x hx
  revert this
  cases x.2 with
  | none => intro q; exact valueAt_none fun i hi e => q (e ▸ (h2 ▸ hi))
  | some v =>
    rintro ⟨rfl, q⟩
    obtain ⟨y, hy⟩ := valueAt_mem (kvs := kvs) (x := x.1) (by rw [h2]; exact q)
    exact ⟨y, hy, trivial⟩
theorem sp_sl {ss : List Str} {n : Nat} {kn kn' : List (Str × Bool)} (h : RO prog w p (.slist ss n kn) ob) (hl : ss.length ≤ 20) (hk : ∀ x ∈ kn', (ss.any (· == x.1)) = x.2) : RO prog w (p.re keep d) (.slist ss 20 kn') ob := by
  obtain ⟨vs, k, h1, h2, h3, h4⟩ := h
  refine ⟨vs, k, h1, ?_, ⟨hl, by omega⟩, hk⟩
  clear h1 h3 h4 hl hk
  induction ss generalizing vs with
  | nil => cases vs <;> first | trivial | exact h2.elim
  | cons s r ih =>
    cases vs with
    | nil => exact h2.elim
    | cons y ys => exact ⟨h2.1, ih _ h2.2⟩
end
noncomputable def rowV (x : Int × Str) : V := .tup [.sint x.1, .str x.2]
noncomputable def impV (x : Str × Int) : V := .tup [.str x.1, .int x.2]
section
variable {prog : Program} {w : World} {p : P} {keep : List Nat} {d : Int} {ob : Obj}
theorem RSs_nil_imp {q : P} : ∀ ys, RSs p [] ys → RSs q [] ys
  | [], h => h
  | _ :: _, h => h.elim
theorem RSs_imp {q : P} {s s' : S} {r r' : List S} (f : ∀ x, RS p s x → RS q s' x) (g : ∀ ys, RSs p r ys → RSs q r' ys) : ∀ ys, RSs p (s :: r) ys → RSs q (s' :: r') ys
  | [], h => h.elim
  | x :: ys, h => ⟨f x h.1, g ys h.2⟩
theorem RTup_imp {q : P} {xs xs' : List S} {x : Value} (hf : q.fr = p.fr) (f : ∀ ys, RSs p xs ys → RSs q xs' ys) : RV p (.tup xs) x → RV q (.tup xs') x
  | ⟨a, ys, e, h1, h2⟩ => ⟨a, ys, e, hf ▸ h1, f _ h2⟩
theorem rowV_re {x : Int × Str} {y : Value} (h : RV p (rowV x) y) : RV (p.re keep d) (rowV x) y :=
  RTup_imp (p := p) (q := p.re keep d) (xs := [.sint x.1, .str x.2]) (xs' := [.sint x.1, .str x.2]) rfl (RSs_imp (fun _ r => r) (RSs_imp (fun _ r => r) RSs_nil_imp)) h
theorem impV_re {x : Str × Int} {y : Value} (h : RV p (impV x) y) : RV (p.re keep d) (impV x) y :=
  RTup_imp (p := p) (q := p.re keep d) (xs := [.str x.1, .int x.2]) (xs' := [.str x.1, .int x.2]) rfl (RSs_imp (fun _ r => r) (RSs_imp (fun _ r => r) RSs_nil_imp)) h
theorem newV_re {k : Int} {c : Str} {y : Value} (h : RV p (.tup [.off k, .str c]) y) : RV (p.re keep d) (rowV (p.β + k, c)) y :=
  RTup_imp (p := p) (q := p.re keep d) (xs := [.off k, .str c]) (xs' := [.sint (p.β + k), .str c]) rfl (RSs_imp (fun _ r => r) (RSs_imp (fun _ r => r) RSs_nil_imp)) h
theorem RVs_one {q : P} {v v' : V} (f : ∀ x, RV p v x → RV q v' x) : ∀ ys, RVs p [v] ys → RVs q [v'] ys
  | [], h => h.elim
  | [x], h => ⟨f x h.1, trivial⟩
  | _ :: _ :: _, h => h.2.elim
theorem RVs_each {f g : V → V} {q : P} (hf : ∀ x y, RV p x y → RV q (f x) y) : ∀ {xs : List V} {ys : List Value}, RVs p xs ys → RVs q (xs.map f) ys
  | [], [], _ => trivial
  | _ :: _, _ :: _, h => ⟨hf _ _ h.1, RVs_each (g := g) hf h.2⟩
  | [], _ :: _, h => h.elim
  | _ :: _, [], h => h.elim
theorem RVs_map {α : Type} {f : α → V} {q : P} (hf : ∀ x y, RV p (f x) y → RV q (f x) y) : ∀ {l : List α} {ys : List Value}, RVs p (l.map f) ys → RVs q (l.map f) ys
  | [], [], _ => trivial
  | _ :: _, _ :: _, h => ⟨hf _ _ h.1, RVs_map hf h.2⟩
  | [], _ :: _, h => h.elim
  | _ :: _, [], h => h.elim
theorem RVs_split {q : P} : ∀ {xs zs : List V} {ys : List Value}, RVs q (xs ++ zs) ys → ∃ a b, ys = a ++ b ∧ RVs q xs a ∧ RVs q zs b
  | [], zs, ys, h => ⟨[], ys, rfl, trivial, h⟩
  | x :: r, zs, y :: ys, h => by
    obtain ⟨a, b, e, h1, h2⟩ := RVs_split (xs := r) h.2
    exact ⟨y :: a, b, by rw [e]; rfl, ⟨h.1, h1⟩, h2⟩
  | _ :: _, _, [], h => h.elim
theorem sp_rows {l : List (Int × Str)} {n : Nat} (h : RO prog w p (.slst (l.map rowV) n) ob) (hl : l.length ≤ 20) : RO prog w (p.re keep d) (.slst (l.map rowV) 20) ob := by
  obtain ⟨vs, k, e, h1, h2⟩ := h
  exact ⟨vs, k, e, RVs_map (fun _ _ => rowV_re) h1, by simpa using hl, by omega⟩
theorem sp_imps {l : List (Str × Int)} {n : Nat} (h : RO prog w p (.slst (l.map impV) n) ob) (hl : l.length ≤ 20) : RO prog w (p.re keep d) (.slst (l.map impV) 20) ob := by
  obtain ⟨vs, k, e, h1, h2⟩ := h
  exact ⟨vs, k, e, RVs_map (fun _ _ => impV_re) h1, by simpa using hl, by omega⟩
theorem sp_new {l : List (Int × Str)} {n : Nat} {k : Int} {c : Str} (h : RO prog w p (.slst (l.map rowV ++ [.tup [.off k, .str c]]) n) ob) (hl : l.length + 1 ≤ 20) : RO prog w (p.re keep d) (.slst ((l ++ [(p.β + k, c)]).map rowV) 20) ob := by
  obtain ⟨vs, j, e, h1, h2⟩ := h
  obtain ⟨a, b, rfl, q1, q2⟩ := RVs_split h1
  refine ⟨a ++ b, j, e, ?_, by simpa using hl, by omega⟩
  rw [List.map_append]
  exact (RVs_map (fun _ _ => rowV_re) q1).append (RVs_one (fun _ => newV_re) b q2)
end
end Mine
-- M20
namespace Mine

noncomputable def takeOf (h : Nat → Pos) (k : Nat → Nat) : List Stmt :=
  [.Assign [.Tuple [.Name "row" (h 0), .Name "at" (h 1)] (k 0) (h 2)] (.Name "state" (h 3)) (h 4),
   .Assign [.Subscript (.Name "state" (h 5)) (.Constant (.int 1) (k 1) (h 6)) (h 7)] (.BinOp (.Name "at" (h 8)) .Add (.Constant (.int 1) (k 2) (h 9)) (h 10)) (h 11),
   .If (.Compare (.Name "row" (h 12)) [.Eq] [.List [] (h 13)] (h 14)) [.Return (some (.Constant (.int 0) (k 3) (h 15))) (h 16)] [] (h 17),
   .Return (some (.BinOp (.BinOp (.Call (.Name "abs" (h 18)) [.Subscript (.Name "row" (h 19)) (.BinOp (.Name "at" (h 20)) .Mod (.Call (.Name "len" (h 21)) [.Name "row" (h 22)] [] (h 23)) (h 24)) (h 25)] [] (h 26)) .FloorDiv (.BinOp (.Constant (.int 7) (k 4) (h 27)) .Pow (.BinOp (.Name "at" (h 28)) .FloorDiv (.Call (.Name "len" (h 29)) [.Name "row" (h 30)] [] (h 31)) (h 32)) (h 33)) (h 34)) .Mod (.Name "most" (h 35)) (h 36))) (h 37)]
noncomputable def takeH (b : List Stmt) (i : Nat) : Pos := ([eP (sE (b.getD 0 default) 0) 1, eP (sE (b.getD 0 default) 0) 2, eP (sE (b.getD 0 default) 0) 0, eP (sE (b.getD 0 default) 1) 0, sP (b.getD 0 default), eP (sE (b.getD 1 default) 0) 1, eP (sE (b.getD 1 default) 0) 2, eP (sE (b.getD 1 default) 0) 0, eP (sE (b.getD 1 default) 1) 1, eP (sE (b.getD 1 default) 1) 2, eP (sE (b.getD 1 default) 1) 0, sP (b.getD 1 default), eP (sE (b.getD 2 default) 0) 1, eP (sE (b.getD 2 default) 0) 2, eP (sE (b.getD 2 default) 0) 0, eP (sE (sB (b.getD 2 default) 0) 0) 0, sP (sB (b.getD 2 default) 0), sP (b.getD 2 default), eP (sE (b.getD 3 default) 0) 3, eP (sE (b.getD 3 default) 0) 5, eP (sE (b.getD 3 default) 0) 7, eP (sE (b.getD 3 default) 0) 9, eP (sE (b.getD 3 default) 0) 10, eP (sE (b.getD 3 default) 0) 8, eP (sE (b.getD 3 default) 0) 6, eP (sE (b.getD 3 default) 0) 4, eP (sE (b.getD 3 default) 0) 2, eP (sE (b.getD 3 default) 0) 12, eP (sE (b.getD 3 default) 0) 14, eP (sE (b.getD 3 default) 0) 16, eP (sE (b.getD 3 default) 0) 17, eP (sE (b.getD 3 default) 0) 15, eP (sE (b.getD 3 default) 0) 13, eP (sE (b.getD 3 default) 0) 11, eP (sE (b.getD 3 default) 0) 1, eP (sE (b.getD 3 default) 0) 18, eP (sE (b.getD 3 default) 0) 0, sP (b.getD 3 default)] : List Pos).getD i default
noncomputable def takeK (b : List Stmt) (i : Nat) : Nat := ([eK (sE (b.getD 0 default) 0) 0, eK (sE (b.getD 1 default) 0) 2, eK (sE (b.getD 1 default) 1) 2, eK (sE (sB (b.getD 2 default) 0) 0) 0, eK (sE (b.getD 3 default) 0) 12] : List Nat).getD i default
noncomputable def takeSc (sc : Scope) : Bool := ["row", "at", "state", "most"].all (fun x => lk x sc.names == some .local) && ["abs", "len"].all (fun x => lk x sc.names == some .globalImplicit)

section
variable {g : G} {n : Nat}
noncomputable def SEp (g : G) (n : Nat) (p₀ : P) (e : Expr) (σ : St) (v : V) : Prop :=
  ∀ (A₀ A : Around) (base h₀ : Heap) (outer : List Env) (cn : Str) (L a : Addr) (ccd : Value), Cx g n A₀ A base h₀ outer cn σ.sc L a ccd → ∀ (p : P) (s : Shared) (Q E : Value → Shared → Prop), p₀.le p → Rep g.prog g.w h₀ L p σ s.heap →
    (∀ p' y h' tk, p.le p' → Rep g.prog g.w h₀ L p' σ h' → RV p' v y → Q y { s with heap := h', toks := tk }) → wpAny (model g.prog g.w) A (eval e (envOf cn σ.sc L a ccd)) Q E s
theorem SE.at {p₀ : P} {e : Expr} {σ : St} {v : V} (S : SE g n e σ v σ) : SEp g n p₀ e σ v := fun A₀ A base h₀ outer cn L a ccd C p s Q E _ R k => S.2 A₀ A base h₀ outer cn L a ccd C p s Q E R k
theorem e_loc {p₀ : P} {x : Str} {pos : Pos} {σ : St} {v : V} (hl : σ.sc.names.lookup x = some .local) (hv : σ.loc.lookup x = some v) (hd : (x == ("__debug__" : Str)) = false) : SEp g n p₀ (.Name x pos) σ v := by
  refine SE.at (s_name hd ?_)
  unfold nameV
  rw [lk_eq, hl]
  show lk x σ.loc = some v
  rw [lk_eq, hv]
theorem e_glob {x : Str} {pos : Pos} {σ : St} {f : Value} (hl : σ.sc.names.lookup x = some .globalImplicit) (hv : g.gt.lookup x = some f) (hd : (x == ("__debug__" : Str)) = false) : SE g n (.Name x pos) σ (.sc (.raw f)) σ := by
  refine s_name hd ?_
  unfold nameV
  rw [lk_eq, hl]
  show (match lk x g.gt with | some v => some (V.sc (.raw v)) | none => none) = _
  rw [lk_eq, hv]
theorem e_int {p₀ : P} {i : Int} {kd : Nat} {pos : Pos} {σ : St} : SEp g n p₀ (.Constant (.int i) kd pos) σ (.sc (.sint i)) :=
  fun A₀ A base h₀ outer cn L a ccd C p s Q E _ R k => wpAny_Constant_int (k p _ _ _ (.refl _) R ⟨_, rfl⟩)
theorem e_bin {p₀ : P} {l r : Expr} {op : Operator} {pos : Pos} {σ : St} {v1 v2 u : V} (S1 : SEp g n p₀ l σ v1) (S2 : SEp g n p₀ r σ v2)
    (hop : ∀ (p : P) (A : Around) (s : Shared) (y z : Value) (Q E : Value → Shared → Prop), RV p v1 y → RV p v2 z → (∀ y' tk, RV p u y' → Q y' { s with toks := tk }) → wpAny (model g.prog g.w) A (binaryOp op y z) Q E s) : SEp g n p₀ (.BinOp l op r pos) σ u :=
  fun A₀ A base h₀ outer cn L a ccd C p s Q E le R k => wpAny_BinOp (S1 A₀ A base h₀ outer cn L a ccd C p s _ _ le R fun p1 y1 h1 tk1 le1 R1 hy1 =>
    S2 A₀ A base h₀ outer cn L a ccd C p1 { s with heap := h1, toks := tk1 } _ _ (le.trans le1) R1 fun p2 y2 h2 tk2 le2 R2 hy2 =>
      hop p2 A { s with heap := h2, toks := tk2 } y1 y2 _ _ (hy1.mono le2) hy2 fun y' tk hy => k p2 y' h2 tk (le1.trans le2) R2 hy)
theorem e_call1 {p₀ : P} {f : Str} {fp pos : Pos} {e : Expr} {i : String} {σ : St} {v u : V} (hf : SE g n (.Name f fp) σ (.sc (.raw (.builtin i))) σ) (he : SEp g n p₀ e σ v) (hu : unstarred [e] = true)
    (hc : ∀ (h₀ : Heap) (L : Addr) (p : P) (A : Around) (s : Shared) (y : Value) (Q E : Value → Shared → Prop), p₀.le p → Rep g.prog g.w h₀ L p σ s.heap → RV p v y → (∀ y' tk, RV p u y' → Q y' { s with toks := tk }) → wpAny (model g.prog g.w) A (call (.builtin i) [y]) Q E s) :
    SEp g n p₀ (.Call (.Name f fp) [e] [] pos) σ u := by
  refine fun A₀ A base h₀ outer cn L a ccd C p s Q E le R k => Call_ (hf.run rfl C R fun p1 y1 h1 tk1 le1 R1 hy1 => ?_)
  have : y1 = .builtin i := hy1
  subst this
  rw [back_plain hu]
  refine w_callWithB ?_
  refine spliced_cons (he A₀ A base h₀ outer cn L a ccd C p1 { s with heap := h1, toks := tk1 } _ _ (le.trans le1) R1 fun p2 y2 h2 tk2 le2 R2 hy2 => ?_)
  refine spliced_nil ?_
  exact hc h₀ L p2 A { s with heap := h2, toks := tk2 } y2 _ _ ((le.trans le1).trans le2) R2 hy2 fun y' tk hy => k p2 y' h2 tk (le1.trans le2) R2 hy
theorem e_row {p₀ : P} {r : Str} {rp pos : Pos} {i : Expr} {σ : St} {row : Addr} {ys : List Value} {xs : List Int} {j : Nat} {q : Nat} (hr : (row, listOf (List.toArray ys) q) ∈ p₀.fr) (hI : IntsAre ys xs) (hj : j < xs.length) (hlen : xs.length ≤ 63) (S1 : SEp g n p₀ (.Name r rp) σ (.sc (.raw (.ref row)))) (S2 : SEp g n p₀ i σ (.sc (.sint j))) (hs : notSlice i = true) :
    SEp g n p₀ (.Subscript (.Name r rp) i pos) σ (.sc (.sint (xs.getD j 0))) := by
  refine fun A₀ A base h₀ outer cn L a ccd C p s Q E le R k => Subscript_ (S1 A₀ A base h₀ outer cn L a ccd C p s _ _ le R fun p1 y1 h1 tk1 le1 R1 hy1 => ?_)
  refine S2 A₀ A base h₀ outer cn L a ccd C p1 { s with heap := h1, toks := tk1 } _ _ (le.trans le1) R1 fun p2 y2 h2 tk2 le2 R2 hy2 => ?_
  have : y1 = .ref row := hy1
  subst this
  obtain ⟨t, rfl⟩ := hy2
  obtain ⟨m, obs, R2'⟩ := id R2
  have hL : h2.IsList row (List.toArray ys) := ⟨_, R2'.fr (s := { s with heap := h2, toks := tk2 }) (((le.trans le1).trans le2).fr _ hr), rfl, q, rfl⟩
  have hl : ys.length = xs.length := hI.length
  have hget : ys[j]? = some (ys[j]'(by omega)) := List.getElem?_eq_getElem (by omega)
  obtain ⟨t', ht'⟩ := hI.int_at j _ hget
  have hsub : ∀ o' i', subscripted i false o' i' = operate [o', i'] (getItem o' i') := by
    intro o' i'
    cases i <;> first | rfl | cases hs
  refine tail_any (s := { s with heap := h2, toks := tk2 }) hL.typeIs slot_list_getitem.lookup (wpAny_getItem_list hL (by omega) (by omega) (x := .int (xs.getD j 0) t') ?_ ?_) (hsub _ _)
  · rw [← ht']; simpa using hget
  · exact k p2 _ h2 tk2 (le1.trans le2) R2 ⟨t', rfl⟩
end
end Mine
-- M21
namespace Mine

section
variable {g : G} {n : Nat}
theorem fmod_nat (a b : Nat) : Int.fmod (a : Int) (b : Int) = ((a % b : Nat) : Int) := by
  rw [Int.fmod_eq_emod_of_nonneg _ (Int.natCast_nonneg b)]; rfl
theorem fdiv_nat (a b : Nat) : Int.fdiv (a : Int) (b : Int) = ((a / b : Nat) : Int) := by
  rw [Int.fdiv_eq_ediv_of_nonneg _ (Int.natCast_nonneg b)]; rfl
theorem abs_nat (a : Int) : (if a < 0 then -a else a) = ((a.natAbs : Nat) : Int) := by
  split <;> omega
theorem log_pow {j : Nat} (h : j ≤ 100) : ((7 : Int) ^ j).natAbs.log2 < 9000 := by
  have e : ((7 : Int) ^ j).natAbs = 7 ^ j := by rw [Int.natAbs_pow]; rfl
  rw [e]
  have h1 : 7 ^ j ≤ 7 ^ 100 := Nat.pow_le_pow_right (by decide) h
  have h2 : (7 : Nat) ^ 100 < 2 ^ 300 := by decide +kernel
  have h3 : (7 : Nat) ^ j ≠ 0 := by have : 0 < 7 ^ j := Nat.pow_pos (by decide); omega
  have := (Nat.log2_lt h3).mpr (Nat.lt_of_le_of_lt h1 h2)
  omega
variable {p₀ : P} {σ : St}
theorem e_draw {f1 f2 f3 r3 r4 r5 a3 a4 m1 : Str} {q1 q2 q3 q4 q5 q6 q7 q8 q9 q10 q11 q12 q13 q14 q15 q16 q17 : Pos} {kd : Nat} {row : Addr} {ys : List Value} {x : Int} {r : List Int} {j k : Nat} {m : Int} (hfr : (row, listOf (List.toArray ys) j) ∈ p₀.fr) (hI : IntsAre ys (x :: r)) (hx : (x :: r).length ≤ 63) (hk : k ≤ 100) (hm : 0 < m)
    (e1 : σ.sc.names.lookup ("row" : Str) = some .local) (e2 : σ.sc.names.lookup ("at" : Str) = some .local) (e3 : σ.sc.names.lookup ("most" : Str) = some .local) (e4 : σ.sc.names.lookup ("abs" : Str) = some .globalImplicit) (e5 : σ.sc.names.lookup ("len" : Str) = some .globalImplicit)
    (b1 : σ.loc.lookup ("row" : Str) = some (.sc (.raw (.ref row)))) (b2 : σ.loc.lookup ("at" : Str) = some (.sc (.sint k))) (b3 : σ.loc.lookup ("most" : Str) = some (.sc (.int m))) (ga : g.gt.lookup ("abs" : Str) = some (.builtin "abs")) (gl : g.gt.lookup ("len" : Str) = some (.builtin "len"))
    (n1 : r3 = "row") (n2 : r4 = "row") (n3 : r5 = "row") (n4 : a3 = "at") (n5 : a4 = "at") (n6 : m1 = "most") (n7 : f1 = "abs") (n8 : f2 = "len") (n9 : f3 = "len") :
    SEp g n p₀ (.BinOp (.BinOp (.Call (.Name f1 q1) [.Subscript (.Name r3 q2) (.BinOp (.Name a3 q3) .Mod (.Call (.Name f2 q4) [.Name r4 q5] [] q6) q7) q8] [] q9) .FloorDiv (.BinOp (.Constant (.int 7) kd q10) .Pow (.BinOp (.Name a4 q11) .FloorDiv (.Call (.Name f3 q12) [.Name r5 q13] [] q14) q15) q16) q17) .Mod (.Name m1 pos1) pos2) σ (.sc (.sint (draw (x :: r) k m))) := by
  subst n1 n2 n3 n4 n5 n6 n7 n8 n9
  have hl : ys.length = (x :: r).length := hI.length
  have dbg : ∀ s : Str, s = "row" ∨ s = "at" ∨ s = "most" ∨ s = "abs" ∨ s = "len" → (s == ("__debug__" : Str)) = false := by
    intro s h
    rcases h with rfl | rfl | rfl | rfl | rfl <;> decide +kernel
  have Sr : ∀ {q : Pos}, SEp g n p₀ (.Name "row" q) σ (.sc (.raw (.ref row))) := fun {q} => e_loc e1 b1 (dbg _ (by simp))
  have Sa : ∀ {q : Pos}, SEp g n p₀ (.Name "at" q) σ (.sc (.sint k)) := fun {q} => e_loc e2 b2 (dbg _ (by simp))
  have Sl : ∀ {q q' q'' : Pos}, SEp g n p₀ (.Call (.Name "len" q) [.Name "row" q'] [] q'') σ (.sc (.sint ((r.length + 1 : Nat) : Int))) := fun {q q' q''} => by
    refine e_call1 (e_glob e5 gl (dbg _ (by simp))) Sr rfl fun h₀ L p A s y Q E le R hy K => ?_
    have : y = .ref row := hy
    subst this
    obtain ⟨mm, obs, R'⟩ := R
    have hL : s.heap.IsList row (List.toArray ys) := ⟨_, R'.fr (le.fr _ hfr), rfl, j, rfl⟩
    refine len_list hL (by simp; omega) ?_
    refine K _ _ ⟨s.toks + 1, ?_⟩
    simp [hl]
  have hpos : r.length + 1 ≠ 0 := by omega
  have Si : SEp g n p₀ (.BinOp (.Name "at" q3) .Mod (.Call (.Name "len" q4) [.Name "row" q5] [] q6) q7) σ (.sc (.sint ((k % (r.length + 1) : Nat) : Int))) := by
    refine e_bin Sa Sl fun p A s y z Q E hy hz K => ?_
    obtain ⟨t, rfl⟩ := hy
    obtain ⟨u, rfl⟩ := hz
    exact mod_int' (by omega) (K _ _ ⟨_, by rw [fmod_nat]⟩)
  have Sx := e_row (pos := q8) (rp := q2) (r := "row") hfr hI (j := k % (r.length + 1)) (Nat.mod_lt _ (by omega)) hx Sr Si rfl
  have Sb := e_call1 (pos := q9) (fp := q1) (i := "abs") (u := .sc (.sint ((((x :: r).getD (k % (r.length + 1)) 0).natAbs : Nat) : Int))) (e_glob (pos := q1) e4 ga (dbg _ (by simp))) Sx rfl fun h₀ L p A s y Q E le R hy K => by
    obtain ⟨t, rfl⟩ := hy
    exact call_abs_int fun u tk => K _ tk ⟨u, by rw [abs_nat]⟩
  have Sd : SEp g n p₀ (.BinOp (.Name "at" q11) .FloorDiv (.Call (.Name "len" q12) [.Name "row" q13] [] q14) q15) σ (.sc (.sint ((k / (r.length + 1) : Nat) : Int))) := by
    refine e_bin Sa Sl fun p A s y z Q E hy hz K => ?_
    obtain ⟨t, rfl⟩ := hy
    obtain ⟨u, rfl⟩ := hz
    refine floordiv_int (by omega) (K _ _ ⟨_, by rw [fdiv_nat]⟩) (Or.inl (PyProof.noPylong_of_log2 ?_))
    have : ((r.length + 1 : Nat) : Int).natAbs.log2 ≤ ((r.length + 1 : Nat) : Int).natAbs := Nat.log2_le_self _
    simp only [List.length_cons] at hx
    omega
  have hdiv : k / (r.length + 1) ≤ 100 := Nat.le_trans (Nat.div_le_self _ _) hk
  have Sp : SEp g n p₀ (.BinOp (.Constant (.int 7) kd q10) .Pow (.BinOp (.Name "at" q11) .FloorDiv (.Call (.Name "len" q12) [.Name "row" q13] [] q14) q15) q16) σ (.sc (.sint (7 ^ (k / (r.length + 1))))) := by
    refine e_bin e_int Sd fun p A s y z Q E hy hz K => ?_
    obtain ⟨t, rfl⟩ := hy
    obtain ⟨u, rfl⟩ := hz
    exact pow_int_small (Int.natCast_nonneg _) (Int.ofNat_le.mpr (Nat.le_trans hdiv (by decide))) (by decide) (K _ _ ⟨_, by rw [Int.toNat_natCast]⟩)
  have hne : (7 : Int) ^ (k / (r.length + 1)) ≠ 0 := by
    have : (0 : Int) < 7 ^ (k / (r.length + 1)) := Int.pow_pos (by decide)
    omega
  refine e_bin (e_bin Sb Sp (u := .sc (.sint (Int.fdiv ((((x :: r).getD (k % (r.length + 1)) 0).natAbs : Nat) : Int) (7 ^ (k / (r.length + 1)))))) fun p A s y z Q E hy hz K => ?_) (e_loc e3 b3 (dbg _ (by simp))) fun p A s y z Q E hy hz K => ?_
  · obtain ⟨t, rfl⟩ := hy
    obtain ⟨u, rfl⟩ := hz
    exact floordiv_int hne (K _ _ ⟨_, rfl⟩) (Or.inl (PyProof.noPylong_of_log2 (log_pow hdiv)))
  · obtain ⟨t, rfl⟩ := hy
    obtain ⟨u, rfl⟩ := hz
    exact mod_int' (by omega) (K _ _ ⟨_, rfl⟩)
end
end Mine
-- M22
namespace Mine

noncomputable def diceV (vs : List V) (σ : St) : Option (V × St) := match vs with
  | [.sc (.ref l), .sc (.int m)] => match sget σ.objs l with
    | some (.dice (q :: fut) xs k) => match decide (q.1 = m) && decide (0 < m) with
      | true => some (.sc (.int q.2), { σ with objs := spush (sset σ.objs l (.dice fut xs (k + 1))) (.list []) })
      | false => none
    | _ => none
  | _ => none
section
variable {g : G} {n : Nat}
theorem take_body {pl : Nat → Pos} {kk : Nat → Nat} {sc : Scope} (hs : takeSc sc = true) (ga : g.gt.lookup ("abs" : Str) = some (.builtin "abs")) (gl : g.gt.lookup ("len" : Str) = some (.builtin "len"))
    {A₀ A : Around} {base h₀ : Heap} {outer : List Env} {cn : Str} {L a : Addr} {ccd : Value} (C : Cx g (n + 5) A₀ A base h₀ outer cn sc L a ccd) {l : Nat} {q : Int × Int} {fut : List (Int × Int)} {xs : List Int} {k : Nat} {objs : Sto} {p : P} {s : Shared}
    (ho : sget objs l = some (.dice (q :: fut) xs k)) (hm : 0 < q.1) (R : Rep g.prog g.w h₀ L p ⟨sc, [("most", .sc (.int q.1)), ("state", .sc (.ref l))], objs⟩ s.heap) {Q : Flow → Shared → Prop} {E : Value → Shared → Prop}
    (K : ∀ p' y h' tk loc, p.le p' → Rep g.prog g.w h₀ L p' ⟨sc, loc, spush (sset objs l (.dice fut xs (k + 1))) (.list [])⟩ h' → (∃ t, y = .int q.2 t) → Q (.ret y) { s with heap := h', toks := tk }) :
    wpAny (model g.prog g.w) A (execs (takeOf pl kk) (envOf cn sc L a ccd)) Q E s := by
  unfold takeOf
  unfold takeSc at hs
  simp only [Bool.and_eq_true, List.all_cons, List.all_nil, Bool.and_true, lk_eq, beq_iff_eq] at hs
  obtain ⟨⟨c1, c2, c3, c4⟩, c5, c6⟩ := hs
  have dbg : ∀ s : Str, s = "row" ∨ s = "at" ∨ s = "state" → (s == ("__debug__" : Str)) = false := by
    intro s h
    rcases h with rfl | rfl | rfl <;> decide +kernel
  have lk1 : ∀ (u v : V), ([(("most" : Str), u), (("state" : Str), v)] : List (Str × V)).lookup ("state" : Str) = some v := fun u v => by
    rw [List.lookup_cons, show (("state" : Str) == ("most" : Str)) = false from by decide +kernel]
    simp [List.lookup_cons]
  -- row, at = state
  refine wpAny_execs_cons (Assign_Tuple ((e_loc (σ := ⟨sc, [("most", .sc (.int q.1)), ("state", .sc (.ref l))], objs⟩) (p₀ := p) c3 (lk1 _ _) (dbg _ (by simp))) A₀ A base h₀ outer cn L a ccd C p s _ _ (.refl _) R fun p1 y1 h1 tk1 le1 R1 hy1 => ?_) rfl rfl)
  obtain ⟨ad, had, rfl⟩ := hy1
  obtain ⟨mm, obs, R1⟩ := R1
  obtain ⟨ad', ob, z1, z2, ⟨row, nn, t, j, ys, rfl, hfr, hI, hx, hk, hd⟩, z4⟩ := R1.get ho
  rw [had] at z1
  cases z1
  have hL : h1.IsList ad #[.ref row, .int k t] := ⟨_, R1.heap z4, rfl, nn, rfl⟩
  refine kun_list (s := { s with heap := h1, toks := tk1 }) R1.F R1.N hL C.hd rfl rfl fun h2 F2 N2 => ?_
  obtain ⟨e1, _, _⟩ := names_each (env := envOf cn sc L a ccd) (es := [Expr.Name "row" (pl 0), Expr.Name "at" (pl 1)]) (xs := ["row", "at"]) rfl
  rw [e1]
  let loc1 : List (Str × V) := aset "at" (.sc (.sint k)) (aset "row" (.sc (.raw (.ref row))) [("most", .sc (.int q.1)), ("state", .sc (.ref l))])
  have lrow : loc1.lookup ("row" : Str) = some (.sc (.raw (.ref row))) := by
    show (aset _ _ _).lookup _ = _
    rw [lookup_aset, if_neg (by decide +kernel), lookup_aset, if_pos rfl]
  have lat : loc1.lookup ("at" : Str) = some (.sc (.sint k)) := by
    show (aset _ _ _).lookup _ = _
    rw [lookup_aset, if_pos rfl]
  have lmost : loc1.lookup ("most" : Str) = some (.sc (.int q.1)) := by
    show (aset _ _ _).lookup _ = _
    rw [lookup_aset, if_neg (by decide +kernel), lookup_aset, if_neg (by decide +kernel)]
    rfl
  have lstate : loc1.lookup ("state" : Str) = some (.sc (.ref l)) := by
    show (aset _ _ _).lookup _ = _
    rw [lookup_aset, if_neg (by decide +kernel), lookup_aset, if_neg (by decide +kernel)]
    exact lk1 _ _
  have isl : ∀ (x : Str) (lc : List (Str × V)), sc.names.lookup x = some .local → isLocal ⟨sc, lc, objs⟩ x = true := fun x lc h => by
    unfold isLocal
    simp only [lk_eq]
    rw [h]
  refine s_storeAll (s := { s with heap := h2, toks := tk1 }) (p := p1) (σ := ⟨sc, [("most", .sc (.int q.1)), ("state", .sc (.ref l))], objs⟩) (τ := ⟨sc, loc1, objs⟩) (xs := ["row", "at"]) (vs := [.raw (.ref row), .sint k]) (ys := [.ref row, .int k t]) rfl ?_ ⟨rfl, ⟨t, rfl⟩, trivial⟩ C.hk ⟨mm, obs, R1.same F2 N2⟩ fun h3 tk3 R3 _ => ?_
  · unfold storeAll
    rw [isl _ _ c1]
    unfold storeAll
    rw [isl _ _ c2]
    rfl
  -- state[1] = at + 1
  refine wpAny_execs_cons (wpAny_Assign_Subscript ((e_bin (u := .sc (.sint ((k : Int) + 1))) (e_loc (σ := ⟨sc, loc1, objs⟩) (p₀ := p1) c2 lat (dbg _ (by simp))) e_int fun p A s y z Q E hy hz K => ?_) A₀ A base h₀ outer cn L a ccd C p1 { s with heap := h3, toks := tk3 } _ _ (.refl _) R3 fun p4 y4 h4 tk4 le4 R4 hy4 => ?_) rfl)
  · obtain ⟨t, rfl⟩ := hy
    obtain ⟨u, rfl⟩ := hz
    exact add_int (K _ _ ⟨_, rfl⟩)
  refine (e_loc (σ := ⟨sc, loc1, objs⟩) (p₀ := p1) c3 lstate (dbg _ (by simp))) A₀ A base h₀ outer cn L a ccd C p4 { s with heap := h4, toks := tk4 } _ _ le4 R4 fun p5 y5 h5 tk5 le5 R5 hy5 => ?_
  refine (e_int (σ := ⟨sc, loc1, objs⟩) (p₀ := p1)) A₀ A base h₀ outer cn L a ccd C p5 { s with heap := h5, toks := tk5 } _ _ (le4.trans le5) R5 fun p6 y6 h6 tk6 le6 R6 hy6 => ?_
  obtain ⟨t6, rfl⟩ := hy6
  obtain ⟨t4, rfl⟩ := hy4
  obtain ⟨ad5, had5, rfl⟩ := hy5.mono le6
  obtain ⟨m6, obs6, R6⟩ := R6
  obtain ⟨ad', ob6, w1, w2, ⟨row6, n6, t6', j6, ys6, rfl, hfr6, hI6, hx6, hk6, hd6⟩, w4⟩ := R6.get ho
  rw [had5] at w1
  cases w1
  refine ki_setAt (s := { s with heap := h6, toks := tk6 }) (n := n6) (items := #[.ref row6, .int k t6']) (R6.heap w4) (by omega) (by omega) (by simp) ?_
  have lf6 := ((le4.trans le5).trans le6).fr _ hfr
  have R7 := R6.change (s := { s with heap := h6, toks := tk6 }) (b := .dice fut xs (k + 1)) (ob' := listOf #[.ref row6, .int ((k + 1 : Nat) : Int) t4] n6) had5 w2 (Heap.SameBut.update h6 ad5 (Obj.mapSeq (·.setIfInBounds (1 : Int).toNat (.int ((k : Int) + 1) t4)))) (Heap.get?_update_self (Obj.mapSeq (·.setIfInBounds (1 : Int).toNat (.int ((k : Int) + 1) t4))) (R6.heap w4) rfl) ⟨row6, n6, t4, j6, ys6, rfl, hfr6, hI6, hx6, by simp only [List.length_cons] at hk6; omega, fun i q' hq' => by
    have := hd6 (i + 1) q' hq'
    rw [show k + 1 + i = k + (i + 1) by omega]; exact this⟩ (fun e => by cases e)
  let objs2 : Sto := sset objs l (.dice fut xs (k + 1))
  have R7' : Rep g.prog g.w h₀ L p6 ⟨sc, loc1, objs2⟩ _ := ⟨m6, _, R7⟩
  have le06 : p.le p6 := (le1.trans le4).trans (le5.trans le6)
  -- if row == []
  refine wpAny_execs_cons (wpAny_If (wpAny_isTrue_Compare1 ((e_loc (σ := ⟨sc, loc1, objs2⟩) (p₀ := p6) c1 lrow (dbg _ (by simp))) A₀ A base h₀ outer cn L a ccd C p6 { s with heap := _, toks := tk6 } _ _ (.refl _) R7' fun p8 y8 h8 tk8 le8 R8 hy8 => ?_) rfl))
  refine ((good g 2).e (.List [] _) ⟨sc, loc1, objs2⟩ (.sc (.ref (slen objs2))) ⟨sc, loc1, spush objs2 (.list [])⟩ rfl).2 A₀ A base h₀ outer cn L a ccd (C.less (by omega)) p8 { s with heap := h8, toks := tk8 } _ _ R8 fun p9 y9 h9 tk9 le9 R9 hy9 => ?_
  have : y8 = .ref row := hy8
  subst this
  obtain ⟨D, hD, rfl⟩ := hy9
  have lf9 := (le8.trans le9).fr _ lf6
  obtain ⟨m9, obs9, R9x⟩ := id R9
  have hlen9 : sget (spush objs2 (.list [])) (slen objs2) = some (.list []) := by
    rw [← toL_get, toL_push, ← toL_len, List.getElem?_append_right (Nat.le_refl _), Nat.sub_self]; rfl
  obtain ⟨D', obD, u1, u2, ⟨vsD, jD, rfl, u3, _⟩, u4⟩ := R9x.get hlen9
  rw [hD] at u1
  cases u1
  have hvs : vsD = [] := List.length_eq_zero_iff.mp u3.length.symm
  subst hvs
  refine eq_intsK (s := { s with heap := h9, toks := tk9 }) (ns := xs) (ms := []) ⟨_, R9x.fr (s := { s with heap := h9, toks := tk9 }) lf9, rfl, j, rfl⟩ hI ⟨_, R9x.heap u4, rfl, jD, rfl⟩ .nil (by have := C.un; show A.units + 64 < 9900; omega) ?_
  refine wpAny_truthy_bool ?_
  have le09 : p.le p9 := (le06.trans le8).trans le9
  cases xs with
  | nil =>
    refine wpAny_execs_cons (wpAny_Return_some ?_)
    refine (e_int (σ := ⟨sc, loc1, spush objs2 (.list [])⟩) (p₀ := p9)) A₀ A base h₀ outer cn L a ccd C p9 { s with heap := h9, toks := tk9 } _ _ (.refl _) R9 fun p10 y10 h10 tk10 le10 R10 hy10 => ?_
    refine K p10 y10 h10 tk10 loc1 (le09.trans le10) R10 ?_
    have := hd 0 q rfl
    rw [← this]
    exact hy10
  | cons x r =>
    refine wpAny_execs_nil ?_
    refine wpAny_execs_cons (wpAny_Return_some ?_)
    refine (e_draw (σ := ⟨sc, loc1, spush objs2 (.list [])⟩) (p₀ := p9) lf9 hI hx (by simp only [List.length_cons] at hk; omega) hm c1 c2 c4 c5 c6 lrow lat lmost ga gl rfl rfl rfl rfl rfl rfl rfl rfl rfl) A₀ A base h₀ outer cn L a ccd C p9 { s with heap := h9, toks := tk9 } _ _ (.refl _) R9 fun p10 y10 h10 tk10 le10 R10 hy10 => ?_
    refine K p10 y10 h10 tk10 loc1 (le09.trans le10) R10 ?_
    have := hd 0 q rfl
    rw [← this]
    exact hy10
noncomputable def withDice (D : Addr) (x : Ev) : Ev := { x with c := fun f vs σ => match f with
  | .ref a => match Nat.beq a D with
    | true => diceV vs σ
    | false => x.c f vs σ
  | f => x.c f vs σ }
noncomputable def obAt (K : Frag) (a : Addr) : Obj := match klk a K with
  | some o => o
  | none => default
noncomputable def fdOf (o : Obj) : FuncData := match o.data with
  | .func fd => fd
  | _ => default
structure DiceAt (K : Frag) (D : Addr) (pl : Nat → Pos) (kk : Nat → Nat) : Prop where
  ob : klk D K = some ⟨(obAt K D).cls, (obAt K D).dict, .func (fdOf (obAt K D)), (obAt K D).slots⟩
  body : (fdOf (obAt K D)).body = .stmts (takeOf pl kk)
  sc : takeSc (fdOf (obAt K D)).scope = true
  names : (fdOf (obAt K D)).params.args.map (·.arg) = [("state" : Str), "most"]
  defs : (fdOf (obAt K D)).defaults = .none
noncomputable def evd (K : Frag) (T : Tab) (gt : List (Str × Value)) (fn : List Addr) (D : Addr) : Nat → Ev
  | 0 => ev K T gt fn 0
  | n + 1 => withDice D (step K T gt fn (evd K T gt fn D n))
end
end Mine
-- M23
namespace Mine

noncomputable def evD (K : Frag) (T : Tab) (gt : List (Str × Value)) (fn : List Addr) (D : Addr) : Nat → Ev
  | 0 => ev K T gt fn 6
  | n + 1 => withDice D (step K T gt fn (evD K T gt fn D n))
section
variable {g : G}
theorem binds_take (u v : V) : (bindsOf ["state", "most"] [u, v] []).reverse = [(("most" : Str), v), (("state" : Str), u)] := by
  have e1 : (("state" : Str) == ("most" : Str)) = false := by decide +kernel
  have e2 : (("most" : Str) == ("state" : Str)) = false := by decide +kernel
  unfold bindsOf
  simp [fillS, List.lookup_cons, e1, e2]
theorem sound_dice {D : Addr} {pl : Nat → Pos} {kk : Nat → Nat} (hD : DiceAt g.K D pl kk) (hfn : hasN D g.fn = true) (ga : g.gt.lookup ("abs" : Str) = some (.builtin "abs")) (gl : g.gt.lookup ("len" : Str) = some (.builtin "len")) {n : Nat} {vs : List V} {σ σ' : St} {v : V} (h : diceV vs σ = some (v, σ')) : SC g (n + 6) (.ref D) vs σ v σ' := by
  obtain ⟨hk, hb, d2, hnames, hdf⟩ := hD
  revert hk hb d2 hnames hdf
  generalize fdOf (obAt g.K D) = fd
  intro hk hb d2 hnames hdf
  rw [klk_eq] at hk
  unfold diceV at h
  split at h
  rotate_left
  · cases h
  rename_i l m
  split at h
  rotate_left
  · cases h
  rename_i q fut xs k ho
  split at h
  rotate_left
  · cases h
  rename_i hc
  simp only [Bool.and_eq_true, decide_eq_true_eq] at hc
  obtain ⟨hq, hm⟩ := hc
  cases h
  subst hq
  refine ⟨rfl, fun A₀ A base h₀ outer cn L a ccd C p s ys R Rp hv K => ?_⟩
  refine call_hand (n := n + 5) (ds := []) hk hfn hb (by rw [hdf]; rfl) (by rw [hnames]; kernel_rfl) C Rp hv fun A' h₀' L' h₁ tk C' R' E => ?_
  rw [hnames, binds_take] at R'
  refine take_body d2 ga gl C' ho hm (s := { s with heap := h₁, toks := tk }) R' fun p' y h' tk' loc le R1 hy => ?_
  refine ⟨p', fd.scope, loc, _, h', tk', rfl, R1, fun back => ?_⟩
  exact K p' y h' tk' le (back σ.loc fun m hm => hm.mono le) hy
theorem goodD {D : Addr} {pl : Nat → Pos} {kk : Nat → Nat} (hD : DiceAt g.K D pl kk) (hfn : hasN D g.fn = true) (ga : g.gt.lookup ("abs" : Str) = some (.builtin "abs")) (gl : g.gt.lookup ("len" : Str) = some (.builtin "len")) : ∀ n, Good g (n + 6) (evD g.K g.T g.gt g.fn D n)
  | 0 => good g 6
  | n + 1 => by
    have I := goodD hD hfn ga gl n
    have J := good_step I
    refine ⟨J.e, J.es, J.t, J.s, J.ss, fun f vs σ v σ' h => ?_⟩
    cases f
    case ref a =>
      replace h : (match Nat.beq a D with
        | true => diceV vs σ
        | false => (step g.K g.T g.gt g.fn (evD g.K g.T g.gt g.fn D n)).c (.ref a) vs σ) = some (v, σ') := h
      split at h
      · rename_i e
        have := Nat.eq_of_beq_eq_true e
        subst this
        exact sound_dice (n := n + 1) hD hfn ga gl h
      · exact J.c _ _ _ _ _ h
    all_goals exact J.c _ _ _ _ _ h
end
end Mine
-- N1
namespace Mine
noncomputable def tab : Tab := [
  ⟨38, ["number", "form", "size", "base", "length", "fields", "level", "params", "module", "label", "hidden", "exno"], [], 35⟩,
  ⟨59, ["name", "kind", "type", "place", "exported", "readonly", "level", "module", "value", "slot", "offset", "number", "isparam", "narrowed"], [], 56⟩,
  ⟨87, ["name", "key", "objs", "imports"], [("find", 84)], 77⟩,
  ⟨123, ["counter", "known", "boolean", "char", "byte", "integer", "mask", "nil", "none"], [("new", 113), ("string", 120)], 105⟩,
  ⟨216, ["rows", "places"], [("mark", 199)], 192⟩,
  ⟨664, ["types", "library", "keys", "interfaces"], [("interface", 654), ("read", 661)], 647⟩,
  ⟨685, ["kind", "value", "place"], [], 682⟩,
  ⟨833, ["source", "errors", "place", "words"], [("char", 746), ("take", 753), ("skip", 760), ("word", 774), ("symbol", 830)], 738⟩,
  ⟨854, ["level", "label", "names", "order", "slots"], [], 851⟩,
  ⟨917, ["types", "module", "stack", "level"], [("open", 879), ("current", 893), ("add", 900), ("insert", 907)], 872⟩,
  ⟨1037, ["scanner", "types", "errors", "importer", "scopes", "module", "procs", "records", "forwards", "level", "nest", "parts", "token"], [("step", 964), ("at", 971), ("skip", 978), ("expect", 985), ("mark", 992), ("name", 999)], 957⟩,
  ⟨1058, ["name", "imports", "objs", "procs", "body", "records", "place"], [], 1055⟩]

noncomputable def gtab : List (Str × Value) := [
  (("Type" : Str), Value.ref 38), (("Obj" : Str), Value.ref 59), (("Interface" : Str), Value.ref 87), (("Types" : Str), Value.ref 123), (("imported_interface" : Str), Value.ref 132), (("import_one" : Str), Value.ref 139), (("imports" : Str), Value.ref 146), (("ErrorList" : Str), Value.ref 216), (("param_words" : Str), Value.ref 234), (("place_params" : Str), Value.ref 241), (("host_names" : Str), Value.ref 248), (("host_key" : Str), Value.ref 255), (("host_calls" : Str), Value.ref 262), (("parameter" : Str), Value.ref 270), (("open_text" : Str), Value.ref 277), (("host_params" : Str), Value.ref 284), (("host_proc" : Str), Value.ref 291), (("host_interface" : Str), Value.ref 298), (("system_interface" : Str), Value.ref 305), (("Importer" : Str), Value.ref 664), (("Token" : Str), Value.ref 685), (("keywords" : Str), Value.ref 696), (("is_letter" : Str), Value.ref 703), (("is_digit" : Str), Value.ref 710), (("Scanner" : Str), Value.ref 833), (("Scope" : Str), Value.ref 854), (("Scopes" : Str), Value.ref 917), (("std_functions" : Str), Value.ref 928), (("std_procedures" : Str), Value.ref 935), (("fill_universe" : Str), Value.ref 942), (("Reader" : Str), Value.ref 1037), (("ModuleTree" : Str), Value.ref 1058), (("_law_take" : Str), Value.ref 1069), (("len" : Str), Value.builtin "len"), (("ord" : Str), Value.builtin "ord"), (("max" : Str), Value.builtin "max"), (("range" : Str), Value.type "range"), (("abs" : Str), Value.builtin "abs")]
noncomputable def fntab : List Addr := [35, 56, 77, 84, 105, 113, 120, 132, 139, 146, 192, 199, 234, 241, 248, 255, 262, 270, 277, 284, 291, 298, 305, 647, 654, 661, 682, 696, 703, 710, 738, 746, 753, 760, 774, 830, 851, 872, 879, 893, 900, 907, 928, 935, 942, 957, 964, 971, 978, 985, 992, 999, 1055, 1069]
end Mine
-- N2
namespace Mine

noncomputable def kwV : V := .tup [.str "ARRAY", .str "BEGIN", .str "BY", .str "CASE", .str "CONST", .str "DIV", .str "DO", .str "ELSE", .str "ELSIF", .str "END", .str "FOR", .str "IF", .str "IMPORT", .str "IN", .str "IS", .str "MOD", .str "MODULE", .str "NIL", .str "OF", .str "OR", .str "POINTER", .str "PROCEDURE", .str "RECORD", .str "REPEAT", .str "RETURN", .str "THEN", .str "TO", .str "TYPE", .str "UNTIL", .str "VAR", .str "WHILE"]
noncomputable def tyD (form : Str) : O := .idict [("number", .sc .any), ("form", .sc (.str form)), ("size", .sc .any), ("base", .sc .any), ("length", .sc .any), ("fields", .sc .any), ("level", .sc .any), ("params", .sc .any), ("module", .sc .any), ("label", .sc .any), ("hidden", .sc .any), ("exno", .sc .any)]
noncomputable def rf (l : Nat) : V := .sc (.ref l)
noncomputable def an : V := .sc .any
noncomputable def st (s : Str) : V := .sc (.str s)
noncomputable def scnD (txt : S) (place : S) : O := .idict [("source", .sc txt), ("errors", rf 10), ("place", .sc place), ("words", kwV)]
structure Tn where
  txt : S
  place : S
  kind : S
  val : S
  tpl : S
  errs : List V
  is : List Int
  ks : List Str
  ns : List Str
  sn : List Str
  irows : List V
  knK : List (Str × Option V)
  knN : List (Str × Option V)
  knS : List (Str × Option V)
  marks : List V
  rows : List V
  held : List Str
  last : O
noncomputable def stJ (tk : Nat) (x : Tn) : List O := [
  .inst 123 1,
  .idict [("counter", .sc .num), ("known", rf 2), ("boolean", rf 3), ("char", rf 5), ("byte", an), ("integer", rf 7), ("mask", an), ("nil", an), ("none", rf 9)],
  .tdict 0,
  .inst 38 4, tyD "boolean", .inst 38 6, tyD "char", .inst 38 8, tyD "integer", .gone,
  .inst 216 11, .idict [("rows", rf 12), ("places", rf 13)], .slst x.errs 20, .jdict x.is 20 true,
  .inst 664 15, .idict [("types", rf 0), ("library", rf 16), ("keys", rf 17), ("interfaces", rf 18)], .sdict [], .xdict x.ks 20 x.knK, .xdict x.ns 20 x.knN,
  .inst 1037 20, .idict [("scanner", rf 21), ("types", rf 0), ("errors", rf 10), ("importer", rf 14), ("scopes", rf 23), ("module", st "M"), ("procs", an), ("records", an), ("forwards", an), ("level", an), ("nest", an), ("parts", an), ("token", rf tk)],
  .inst 833 22, scnD x.txt x.place,
  .inst 917 24, .idict [("types", rf 0), ("module", st ""), ("stack", rf 25), ("level", .sc (.int 0))], .list [an, rf 26],
  .inst 854 27, .idict [("level", .sc (.int 0)), ("label", an), ("names", rf 28), ("order", rf 29), ("slots", an)], .xdict x.sn 20 x.knS, .alist 0,
  .inst 685 31, .idict [("kind", .sc x.kind), ("value", .sc x.val), ("place", .sc x.tpl)],
  .inst 1058 33, .idict [("name", an), ("imports", rf 34), ("objs", an), ("procs", an), ("body", an), ("records", an), ("place", an)], .slst x.irows 20,
  .slst x.marks 20, .slst x.rows 20, .slist x.held 20 [],
  x.last]
noncomputable def stI (x : Tn) : List O := stJ 30 x
noncomputable def specI : List Nat := [2, 12, 13, 17, 18, 22, 28, 29, 34, 35, 36, 37, 38]
noncomputable def normO (o : Option O) : Option O := match o with
  | some (.xdict ks n _) => some (.xdict ks n [])
  | some (.slist ss n _) => some (.slist ss n [])
  | o => o
noncomputable def pickAt (os : Sto) : List Nat → List (Option O)
  | [] => []
  | l :: r => normO (sget os l) :: pickAt os r
noncomputable def idOf (o : Option O) : List (Str × V) := match o with
  | some (.idict es) => es
  | _ => []
noncomputable def dictAt (o : Option O) : Option Nat := match o with
  | some (.inst _ d) => some d
  | _ => none
noncomputable def refOf (v : Option V) : Option Nat := match v with
  | some (.sc (.ref j)) => some j
  | _ => none
noncomputable def tokAt (os : Sto) : Option (Nat × Nat) := match refOf ((idOf (sget os 20)).lookup (Str.ofString "token")) with
  | some j => match dictAt (sget os j) with
    | some d => some (j, d)
    | none => none
  | none => none
noncomputable def keepI (j d : Nat) : List Nat := List.range 30 ++ [j, d] ++ [32, 33, 34, 35, 36, 37, 38]
noncomputable def endI (r : Option (V × St)) (δ : Int) (τ : List O) : Option (V × Bool × List (Option O)) := match r with
  | some (v, σ) => match tokAt σ.objs with
    | some (j, e) => some (v, subAll (keepI j e) specI δ σ.objs (keepI j e) 0 τ && nodupB (keepI j e) && (keepI j e).all (fun l => Nat.blt l (slen σ.objs)), pickAt σ.objs specI)
    | none => none
  | none => none
structure Sy where
  s : Str
  errs : List V
  is : List Int
  ks : List Str
  ns : List Str
  sn : List Str
  irows : List V
  marks : List V
  rows : List V
  held : List Str
  last : O
noncomputable def Sy.at (y : Sy) (txt place kind val tpl : S) : Tn := ⟨txt, place, kind, val, tpl, y.errs, y.is, y.ks, y.ns, y.sn, y.irows, [], [], [], y.marks, y.rows, y.held, y.last⟩
noncomputable def sameI (y : Sy) (txt place : S) : List (Option O) := [some (.tdict 0), some (.slst y.errs 20), some (.jdict y.is 20 true), some (.xdict y.ks 20 []), some (.xdict y.ns 20 []), some (scnD txt place), some (.xdict y.sn 20 []), some (.alist 0), some (.slst y.irows 20), some (.slst y.marks 20), some (.slst y.rows 20), some (.slist y.held 20 []), normO (some y.last)]
noncomputable def codes (s : Str) : List Nat := s.cps.toList
noncomputable def bodyOf (K : Frag) (a : Addr) : List Stmt := match klk a K with
  | some ⟨_, _, .func fd, _⟩ => match fd.body with
    | .stmts b => b
    | _ => []
  | _ => []
noncomputable def scopeAt (K : Frag) (a : Addr) : Scope := match klk a K with
  | some ⟨_, _, .func fd, _⟩ => fd.scope
  | _ => default
inductive Md | O | I | S | M | Z
inductive Al | own | x | y
noncomputable def Md.str : Md → Str
  | .O => "Out" | .I => "In" | .S => "SYSTEM" | .M => "M" | .Z => "Z"
noncomputable def Al.str (a : Al) (m : Md) : Str := match a with
  | .own => m.str | .x => "x" | .y => "y"
noncomputable def Md.cs : Md → List Nat
  | .O => [79, 117, 116] | .I => [73, 110] | .S => [83, 89, 83, 84, 69, 77] | .M => [77] | .Z => [90]
noncomputable def Md.ln : Md → Int
  | .O => 3 | .I => 2 | .S => 6 | .M => 1 | .Z => 1
noncomputable def itemT (m : Md) (a : Al) : List Nat := match a with
  | .own => m.cs
  | .x => 120 :: 32 :: 58 :: 61 :: 32 :: m.cs
  | .y => 121 :: 32 :: 58 :: 61 :: 32 :: m.cs
noncomputable def sepC (last : Bool) : Nat := match last with | true => 59 | false => 44
noncomputable def sepS (last : Bool) : Str := match last with | true => ";" | false => ","
noncomputable def winA (m : Md) (a : Al) (last : Bool) : List Nat := match a with
  | .own => 32 :: (m.cs ++ [sepC last])
  | .x => [32, 120, 32]
  | .y => [32, 121, 32]
noncomputable def winB (m : Md) (a : Al) (last : Bool) : List Nat := 32 :: (itemT m a ++ [sepC last, 32])
noncomputable def wEnd (m : Md) (a : Al) : Int := match a with | .own => 1 + m.ln | _ => 2
noncomputable def mAt (a : Al) : Int := match a with | .own => 1 | _ => 6
noncomputable def sAt (m : Md) (a : Al) : Int := match a with | .own => m.ln + 1 | _ => m.ln + 6
noncomputable def named (a : Al) : Bool := match a with | .own => false | _ => true
noncomputable def beginW : List Nat := [32, 66, 69, 71, 73, 78]

noncomputable def stB (x : Tn) (kind val tpl : S) (tok : Option (S × S)) : List O := stJ 39 x ++ [.inst 685 40, .idict [("kind", .sc kind), ("value", .sc val), ("place", .sc tpl)]] ++ (match tok with
  | none => []
  | some (v, t) => [.inst 685 42, .idict [("kind", .sc (.str "ident")), ("value", .sc v), ("place", .sc t)]])
noncomputable def tokB (m : Md) (a : Al) : Option (S × S) := match a with | .own => none | _ => some (.str m.str, .off 6)
noncomputable def locA : List (Str × V) := [("names", rf 38), ("tree", rf 32), ("rd", rf 19)]
noncomputable def locB (a : Al) : List (Str × V) := [("alias", rf 30), ("token", rf (match a with | .own => 30 | _ => 41)), ("names", rf 38), ("tree", rf 32), ("rd", rf 19)]
noncomputable def keepB (os : Sto) (loc : List (Str × V)) (j e : Nat) (nd : Bool) : List Nat := List.range 39 ++ [j, e] ++ (match nd with
  | false => []
  | true => match refOf (lk (Str.ofString "token") loc) with
    | some l => match dictAt (sget os l) with
      | some d => [l, d]
      | none => []
    | none => [])
noncomputable def doneO (o : Ou) : Bool := match o with
  | .next => true
  | .ret (.sc .none) => true
  | _ => false
noncomputable def endO {α : Type} (keep : Sto → List (Str × V) → Nat → Nat → List Nat) (spec pick : List Nat) (r : Option (α × St)) (δ : Int) (τ : List O) (loc : List (Str × V)) : Option (α × Bool × List (Option O)) := match r with
  | some (v, σ) => match tokAt σ.objs with
    | some (j, e) => some (v, subAll (keep σ.objs σ.loc j e) spec δ σ.objs (keep σ.objs σ.loc j e) 0 τ && nodupB (keep σ.objs σ.loc j e) && (keep σ.objs σ.loc j e).all (fun l => Nat.blt l (slen σ.objs)) && subLoc (keep σ.objs σ.loc j e) δ σ.loc loc, pickAt σ.objs pick)
    | none => none
  | none => none
noncomputable def kI : Sto → List (Str × V) → Nat → Nat → List Nat := fun _ _ j e => keepI j e
noncomputable def kC : Sto → List (Str × V) → Nat → Nat → List Nat := fun _ _ _ _ => List.range 30 ++ [39, 40] ++ [32, 33, 34, 35, 36, 37, 38]
noncomputable def kB (a : Al) : Sto → List (Str × V) → Nat → Nat → List Nat := fun os loc j e => keepB os loc j e (named a)
noncomputable def specC : List Nat := [2, 12, 13, 17, 18, 22, 28, 29, 34, 35, 36, 37, 38, 31]
noncomputable def pickC : List Nat := [2, 12, 13, 17, 18, 22, 28, 29, 34, 35, 36, 37, 38, 40]
noncomputable def unitO {α : Type} : Option α → Option (Unit × α)
  | some x => some ((), x)
  | none => none
noncomputable def okO : Option (Ou × St) → Option (Bool × St)
  | some (o, σ) => some (doneO o, σ)
  | none => none
noncomputable def Sy.atC (y : Sy) (txt place val tpl : S) (knK knN knS : List (Str × Option V)) : Tn := ⟨txt, place, .str "ident", val, tpl, y.errs, y.is, y.ks, y.ns, y.sn, y.irows, knK, knN, knS, y.marks, y.rows, y.held, y.last⟩
inductive Oc | twice | taken | fresh
structure Ef where
  td : Nat
  em : Option (Int × Str)
  ks : Option Str
  ns : Option Str
  sn : Option Str
  al : Nat
  ir : Option (Str × Int)
  nm : Option Str
noncomputable def key (m : Md) : Int := match m with | .O => 1 | .I => 2 | _ => 0
noncomputable def effOf (o : Oc) (m : Md) (a : Al) : Ef := match o with
  | .twice => ⟨0, some (mAt a, "import_twice"), none, none, none, 0, none, none⟩
  | .taken => ⟨0, some (1, "defined_twice"), none, none, none, 0, none, some m.str⟩
  | .fresh => ⟨match m with | .O => 5 | .I => 2 | _ => 0, match m with | .M => some (mAt a, "import_self") | .Z => some (mAt a, "no_such_module") | _ => none,
      match m with | .O => some m.str | .I => some m.str | _ => none, match m with | .O => some m.str | .I => some m.str | .S => some m.str | _ => none, some (a.str m), 1,
      match m with | .S => none | _ => some (m.str, key m), some m.str⟩
noncomputable def addX (l : List Str) : Option Str → O
  | none => .xdict l 20 []
  | some x => .xdict (l ++ [x]) 21 []
noncomputable def pickE (y : Sy) (nm : List Str) (e : Ef) (tx pl k v t : S) : List (Option O) := [
  some (.tdict e.td),
  some (match e.em with | none => .slst y.errs 20 | some (p, c) => .slst (y.errs ++ [.tup [.off p, .str c]]) 21),
  some (match e.em with | none => .jdict y.is 20 true | some (p, _) => .jnew y.is 21 p),
  some (addX y.ks e.ks), some (addX y.ns e.ns), some (scnD tx pl), some (addX y.sn e.sn), some (.alist e.al),
  some (match e.ir with | none => .slst y.irows 20 | some (x, i) => .slst (y.irows ++ [.tup [.str x, .int i]]) 21),
  some (.slst y.marks 20), some (.slst y.rows 20), some (.slist y.held 20 []),
  some (match e.nm with | none => .slist nm 20 [] | some x => .slist (nm ++ [x]) 21 []),
  some (.idict [("kind", .sc k), ("value", .sc v), ("place", .sc t)])]
noncomputable def knN (o : Oc) (m : Md) : List (Str × Option V) := match o with | .fresh => [(m.str, none)] | _ => []
noncomputable def knS (o : Oc) (m : Md) (a : Al) : List (Str × Option V) := match o with | .fresh => [(a.str m, none)] | .taken => [(a.str m, some an)] | .twice => []
noncomputable def knL (o : Oc) (m : Md) : List (Str × Bool) := match o with | .twice => [(m.str, true)] | _ => [(m.str, false)]
noncomputable def whileTest (K : Frag) : Expr := sE ((bodyOf K 146).getD 3 default) 0
end Mine
-- N4
namespace Mine

inductive TrimO {α : Type} (keep : Sto → List (Str × V) → Nat → Nat → List Nat) (spec pick : List Nat) (r : Option (α × St)) (δ : Int) (τ : List O) (loc : List (Str × V)) (v : α) (picks : List (Option O)) : Prop
  | mk (σ : St) (j e : Nat) (h1 : r = some (v, σ)) (h2 : pickAt σ.objs pick = picks) (h3 : subAll (keep σ.objs σ.loc j e) spec δ σ.objs (keep σ.objs σ.loc j e) 0 τ = true) (h4 : nodupB (keep σ.objs σ.loc j e) = true) (h5 : (keep σ.objs σ.loc j e).all (fun l => Nat.blt l (slen σ.objs)) = true) (h6 : subLoc (keep σ.objs σ.loc j e) δ σ.loc loc = true)
theorem trim_of {α : Type} {keep : Sto → List (Str × V) → Nat → Nat → List Nat} {spec pick : List Nat} {r : Option (α × St)} {δ : Int} {τ : List O} {loc : List (Str × V)} {v : α} {picks : List (Option O)} (h : endO keep spec pick r δ τ loc = some (v, true, picks)) :
    TrimO keep spec pick r δ τ loc v picks := by
  unfold endO at h
  split at h
  · rename_i v' σ
    split at h
    · rename_i j e _
      simp only [Option.some.injEq, Prod.mk.injEq, Bool.and_eq_true] at h
      obtain ⟨rfl, ⟨⟨⟨h1, h2⟩, h3⟩, h4⟩, h5⟩ := h
      exact ⟨σ, j, e, rfl, h5, h1, h2, h3, h4⟩
    · cases h
  · cases h
noncomputable def sameBut (spec : List Nat) : Nat → List O → List O → Prop
  | _, [], [] => True
  | i, y :: r, z :: s => (spec.contains i = true ∨ y = z) ∧ sameBut spec (i + 1) r s
  | _, _, _ => False
theorem subAll_swap {keep spec : List Nat} {d : Int} {xs : Sto} : ∀ {ls : List Nat} {i : Nat} {ys zs : List O}, subAll keep spec d xs ls i ys = true → sameBut spec i ys zs → subAll keep spec d xs ls i zs = true
  | [], _, [], [], h, _ => h
  | l :: ls, i, y :: ys, z :: zs, h, ⟨h1, h2⟩ => by
    unfold subAll at h ⊢
    rw [Bool.and_eq_true] at h ⊢
    refine ⟨?_, subAll_swap h.2 h2⟩
    rcases h1 with h1 | h1
    · rw [h1]
    · rw [← h1]; exact h.1
  | [], _, [], _ :: _, _, h => h.elim
  | [], _, _ :: _, _, h, _ => by cases h
  | _ :: _, _, [], _, h, _ => by cases h
  | _ :: _, _, _ :: _, [], _, h => h.elim
section
variable {prog : Program} {w : World}
theorem subO_isD {keep : List Nat} {d : Int} {x y : O} (h : subO keep d x y = true) (hD : isD y = true) : isD x = true := by
  cases y <;> first | (cases hD; done) | skip
  all_goals first
    | (unfold subO at h; cases x <;> first | rfl | (cases h; done))
    | (unfold subO at h; cases h)
inductive Sp (prog : Program) (w : World) (p : P) (keep : List Nat) (d : Int) (os : Sto) (l : Nat) (o' : O) : Prop
  | mk (o : O) (h1 : sget os l = some o) (h2 : isD o' = true → isD o = true) (h3 : ∀ ob, RO prog w p o ob → RO prog w (p.re keep d) o' ob)
theorem Rep.trimS {h₀ h : Heap} {L : Addr} {p : P} {σ : St} (R : Rep prog w h₀ L p σ h) {sc : Scope} {loc : List (Str × V)} {τ : List O} {keep spec : List Nat} {d : Int} (hs : subAll keep spec d σ.objs keep 0 τ = true) (hn : nodupB keep = true) (hb : keep.all (fun l => Nat.blt l (slen σ.objs)) = true)
    (hl : ∀ (x : Str) (v : V), loc.lookup x = some v → ∃ u, σ.loc.lookup x = some u ∧ ∀ y, RV p u y → RV (p.re keep d) v y)
    (hsp : ∀ i ∈ spec, ∀ (l : Nat) (o' : O), keep[i]? = some l → τ[i]? = some o' → Sp prog w p keep d σ.objs l o') : Rep prog w h₀ L (p.re keep d) ⟨sc, loc, ofL τ⟩ h := by
  refine R.trimL hs hn hb hl (fun i l o o' h1 h2 h3 h4 => ?_) fun i hi l o o' h1 h2 h3 ob r => ?_
  · cases hc : spec.contains i with
    | true =>
      obtain ⟨o1, q1, q2, _⟩ := hsp i (by simpa using hc) l o' h1 h3
      rw [h2] at q1
      cases q1
      exact q2 h4
    | false =>
      obtain ⟨x, q1, q2⟩ := subAll_get hs h1 h3 (by rw [Nat.zero_add]; exact hc)
      rw [h2] at q1
      cases q1
      exact subO_isD q2 h4
  · obtain ⟨o1, q1, _, q3⟩ := hsp i hi l o' h1 h3
    rw [h2] at q1
    cases q1
    exact q3 ob r
theorem loc_sub {p : P} {σ : St} {keep : List Nat} {d : Int} {loc : List (Str × V)} (hk : ∀ l ∈ keep, l < p.r.length) (h : subLoc keep d σ.loc loc = true) : ∀ (x : Str) (v : V), loc.lookup x = some v → ∃ u, σ.loc.lookup x = some u ∧ ∀ y, RV p u y → RV (p.re keep d) v y := fun x v e => by
  obtain ⟨u, hu, hs'⟩ := subLoc_get h e
  exact ⟨u, hu, fun y h2 => RV_sub hk hs' h2⟩
theorem Rep.keeps1 {h₀ h : Heap} {L : Addr} {p : P} {σ : St} (R : Rep prog w h₀ L p σ h) {keep : List Nat} (hb : keep.all (fun l => Nat.blt l (slen σ.objs)) = true) : ∀ l ∈ keep, l < p.r.length := fun l hm => by
  obtain ⟨m, obs, R⟩ := R
  rw [show p.r.length = slen σ.objs from R.len.trans (R.ob.length.symm.trans (toL_len _))]
  exact Nat.le_of_ble_eq_true (List.all_eq_true.mp hb l hm)
theorem Rep.weaken {h₀ h : Heap} {L : Addr} {p : P} {sc : Scope} {loc : List (Str × V)} {τ : List O} (R : Rep prog w h₀ L p ⟨sc, loc, ofL τ⟩ h) {i : Nat} {o o' : O} (hi : τ[i]? = some o) (hD : isD o' = true → isD o = true) (ho : ∀ ob, RO prog w p o ob → RO prog w p o' ob) : Rep prog w h₀ L p ⟨sc, loc, ofL (τ.set i o')⟩ h := by
  obtain ⟨m, obs, R⟩ := R
  have hob := R.ob
  rw [show toL (St.objs ⟨sc, loc, ofL τ⟩) = τ from toL_ofL τ] at hob
  have hbig := R.big
  rw [show toL (St.objs ⟨sc, loc, ofL τ⟩) = τ from toL_ofL τ] at hbig
  refine ⟨m, obs, R.F, R.N, R.loc, R.len, ?_, R.nd, R.off, ?_⟩
  · show ROs prog w p (toL (ofL (τ.set i o'))) obs
    rw [toL_ofL]
    obtain ⟨y, h1, h2⟩ := hob.get hi
    have := hob.set (ho y h2) (l := i)
    rw [show obs.set i y = obs from ?_] at this
    · exact this
    · refine List.ext_getElem? fun j => ?_
      rw [List.getElem?_set]
      split
      · rename_i e; subst e
        split
        · exact h1.symm
        · rename_i hlt
          exact absurd (List.getElem?_eq_some_iff.mp h1).1 hlt
      · rfl
  · show Big p.r (toL (ofL (τ.set i o')))
    rw [toL_ofL]
    exact hbig.set fun e => ⟨o, hi, hD e⟩
noncomputable def Kp (ls : List Nat) (p q : P) : Prop := ∀ l ∈ ls, ∀ a, p.r[l]? = some a → q.r[l]? = some a
theorem Kp.le {ls : List Nat} {p q : P} (h : p.le q) : Kp ls p q := fun l _ a e => by
  obtain ⟨a', h1, h2⟩ := RS.mono (s := .ref l) (x := .ref a) h ⟨a, e, rfl⟩
  cases h2; exact h1
theorem Kp.re {ls : List Nat} {p : P} {ks : List Nat} {d : Int} (h : ∀ l ∈ ls, ks[l]? = some l) : Kp ls p (p.re ks d) := fun l hl _ e => re_get (h l hl) e
theorem Kp.trans {ls : List Nat} {p q r : P} (h : Kp ls p q) (g : Kp ls q r) : Kp ls p r := fun l hl a e => g l hl a (h l hl a e)
theorem Kp.sub {ls ms : List Nat} {p q : P} (h : Kp ls p q) (hm : ∀ l ∈ ms, l ∈ ls) : Kp ms p q := fun l hl a e => h l (hm l hl) a e
theorem Kp.rf {ls : List Nat} {p q : P} (h : Kp ls p q) {l : Nat} (hl : l ∈ ls) {y : Value} (r : RV p (rf l) y) : RV q (rf l) y := by
  obtain ⟨a, h1, h2⟩ := r
  exact ⟨a, h l hl a h1, h2⟩

theorem normO_id {o : Option O} {q : O} (h : normO o = some q) (hq : match q with | .xdict .. => False | .slist .. => False | _ => True) : o = some q := by
  unfold normO at h
  split at h
  · cases h; exact hq.elim
  · cases h; exact hq.elim
  · exact h
theorem normO_xd {o : Option O} {ks : List Str} {n : Nat} (h : normO o = some (.xdict ks n [])) : ∃ kn, o = some (.xdict ks n kn) := by
  unfold normO at h
  split at h
  · cases h; exact ⟨_, rfl⟩
  · cases h
  · exact ⟨_, h⟩
theorem normO_sl {o : Option O} {ks : List Str} {n : Nat} (h : normO o = some (.slist ks n [])) : ∃ kn, o = some (.slist ks n kn) := by
  unfold normO at h
  split at h
  · cases h
  · cases h; exact ⟨_, rfl⟩
  · exact ⟨_, h⟩
variable {p : P} {keep : List Nat} {d : Int} {os : Sto} {l : Nat}
noncomputable def isStrS : S → Bool
  | .str _ => true
  | _ => false
theorem RSs_str {p q : P} : ∀ {xs : List S} {ys : List Value}, xs.all isStrS = true → RSs p xs ys → RSs q xs ys
  | [], [], _, _ => trivial
  | .str _ :: r, _ :: _, h, ⟨a, b⟩ => ⟨a, RSs_str (by simpa [isStrS] using h) b⟩
  | .none :: _, _ :: _, h, _ => by cases h
  | .bool _ :: _, _ :: _, h, _ => by cases h
  | .int _ :: _, _ :: _, h, _ => by cases h
  | .sint _ :: _, _ :: _, h, _ => by cases h
  | .num :: _, _ :: _, h, _ => by cases h
  | .off _ :: _, _ :: _, h, _ => by cases h
  | .sstr _ _ :: _, _ :: _, h, _ => by cases h
  | .txt _ _ _ :: _, _ :: _, h, _ => by cases h
  | .atx _ _ _ :: _, _ :: _, h, _ => by cases h
  | .ref _ :: _, _ :: _, h, _ => by cases h
  | .raw _ :: _, _ :: _, h, _ => by cases h
  | .iface _ _ :: _, _ :: _, h, _ => by cases h
  | .any :: _, _ :: _, h, _ => by cases h
  | [], _ :: _, _, h => h.elim
  | _ :: _, [], _, h => h.elim
theorem S_td {n : Nat} (h : normO (sget os l) = some (.tdict n)) (hd : (n : Int) ≤ d) (hb : p.β + d ≤ 500) : Sp prog w p keep d os l (.tdict 0) := ⟨_, normO_id h trivial, fun _ => rfl, fun _ r => sp_td r hd hb⟩
theorem S_al {n : Nat} (h : normO (sget os l) = some (.alist n)) (hd : (n : Int) ≤ d) (hb : p.β + d ≤ 500) : Sp prog w p keep d os l (.alist 0) := ⟨_, normO_id h trivial, fun e => (by cases e), fun _ r => sp_al r hd hb⟩
theorem S_rows {l0 : List (Int × Str)} {n : Nat} (h : normO (sget os l) = some (.slst (l0.map rowV) n)) (hl : l0.length ≤ 20) : Sp prog w p keep d os l (.slst (l0.map rowV) 20) := ⟨_, normO_id h trivial, fun e => (by cases e), fun _ r => sp_rows r hl⟩
theorem S_new {l0 : List (Int × Str)} {n : Nat} {k : Int} {c : Str} (h : normO (sget os l) = some (.slst (l0.map rowV ++ [.tup [.off k, .str c]]) n)) (hl : l0.length + 1 ≤ 20) : Sp prog w p keep d os l (.slst ((l0 ++ [(p.β + k, c)]).map rowV) 20) := ⟨_, normO_id h trivial, fun e => (by cases e), fun _ r => sp_new r hl⟩
theorem S_imps {l0 : List (Str × Int)} {n : Nat} (h : normO (sget os l) = some (.slst (l0.map impV) n)) (hl : l0.length ≤ 20) : Sp prog w p keep d os l (.slst (l0.map impV) 20) := ⟨_, normO_id h trivial, fun e => (by cases e), fun _ r => sp_imps r hl⟩
theorem S_jd {is : List Int} {n : Nat} (h : normO (sget os l) = some (.jdict is n true)) (hd : 0 ≤ d) (hl : is.length ≤ 20) : Sp prog w p keep d os l (.jdict is 20 true) := ⟨_, normO_id h trivial, fun _ => rfl, fun _ r => sp_jd r hd hl⟩
theorem S_jn {is : List Int} {n : Nat} {k : Int} (h : normO (sget os l) = some (.jnew is n k)) (hk : k < d) (hd : 0 ≤ d) (hlt : ∀ i ∈ is, i < p.β) (hl : is.length + 1 ≤ 20) : Sp prog w p keep d os l (.jdict (is ++ [p.β + k]) 20 true) := ⟨_, normO_id h trivial, fun _ => rfl, fun _ r => sp_jn r hk hd hlt hl⟩
theorem S_xd {ks : List Str} {n : Nat} {kn' : List (Str × Option V)} (h : normO (sget os l) = some (.xdict ks n [])) (hl : ks.length ≤ 20) (hk : ∀ x ∈ kn', match x.2 with | none => x.1 ∉ ks | some v => v = .sc .any ∧ x.1 ∈ ks) : Sp prog w p keep d os l (.xdict ks 20 kn') := by
  obtain ⟨kn, e⟩ := normO_xd h
  exact ⟨_, e, fun _ => rfl, fun _ r => sp_xd r hl hk⟩
theorem S_sl {ss : List Str} {n : Nat} {kn' : List (Str × Bool)} (h : normO (sget os l) = some (.slist ss n [])) (hl : ss.length ≤ 20) (hk : ∀ x ∈ kn', (ss.any (· == x.1)) = x.2) : Sp prog w p keep d os l (.slist ss 20 kn') := by
  obtain ⟨kn, e⟩ := normO_sl h
  exact ⟨_, e, fun e => (by cases e), fun _ r => sp_sl r hl hk⟩
noncomputable def AllIn (P : Nat → Prop) : List Nat → Prop
  | [] => True
  | a :: r => P a ∧ AllIn P r
theorem all_in {P : Nat → Prop} : ∀ {l : List Nat}, AllIn P l → ∀ i ∈ l, P i
  | _ :: _, h, _, m => (List.mem_cons.mp m).elim (fun e => e ▸ h.1) (all_in h.2 _)
theorem at_one {Pr : Nat → O → Prop} {ks : List Nat} {τ : List O} {i j : Nat} {o : O} (h1 : ks[i]? = some j) (h2 : τ[i]? = some o) (h : Pr j o) : ∀ (l : Nat) (o' : O), ks[i]? = some l → τ[i]? = some o' → Pr l o' :=
  fun _ _ e1 e2 => Option.some.inj (h1.symm.trans e1) ▸ Option.some.inj (h2.symm.trans e2) ▸ h
noncomputable def KV (p q : P) : List (Str × V) → List (Str × V) → Prop
  | [], [] => True
  | a :: r, b :: r' => (a.1 = b.1 ∧ ∀ y, RV p a.2 y → RV q b.2 y) ∧ KV p q r r'
  | _, _ => False
theorem REs_imp {p q : P} {ps : Params} : ∀ {s s' : List (Str × V)} {x : List DictEntry}, REs p ps s x → KV p q s s' → REs q ps s' x
  | [], [], [], _, _ => trivial
  | [], [], _ :: _, h, _ => h.elim
  | [], _ :: _, _, _, h => h.elim
  | _ :: _, [], _, _, h => h.elim
  | _ :: _, _ :: _, [], h, _ => h.elim
  | (_, _) :: _, (_, _) :: _, _ :: _, e, ⟨⟨h1, h2⟩, h3⟩ => by
    cases h1
    exact ⟨e.1, e.2.1, h2 _ e.2.2.1, REs_imp e.2.2.2 h3⟩
theorem S_scn {T : Str} {e e' : Bool} {win win' : List Nat} {k k' : Int} (h : normO (sget os l) = some (scnD (.txt T e win) (.off k))) (hk : k = k' + d) (h10 : keep[10]? = some 10) (hw : Window T (p.β + d) e' win') : Sp prog w p keep d os l (scnD (.txt T e' win') (.off k')) := by
  refine ⟨_, normO_id h trivial, fun e => (by cases e), fun ob r => ?_⟩
  obtain ⟨es, n, q1, q2, q3⟩ := r
  refine ⟨es, n, q1, REs_imp q2 ⟨⟨rfl, fun y a => ⟨a.1, hw⟩⟩, ⟨rfl, fun y a => ?_⟩, ⟨rfl, fun y a => ?_⟩, ⟨rfl, fun y a => ?_⟩, trivial⟩, q3⟩
  · obtain ⟨a, z1, z2⟩ := a
    exact ⟨a, re_get h10 z1, z2⟩
  · obtain ⟨t, z⟩ := a
    refine ⟨t, ?_⟩
    rw [z]
    show Value.int _ t = Value.int _ t
    congr 1
    show p.β + k = p.β + d + k'
    omega
  · obtain ⟨a, ys, z1, z2, z3⟩ := a
    exact ⟨a, ys, z1, z2, RSs_str rfl z3⟩
end
end Mine
-- N5
namespace Mine

noncomputable def ol {α : Type} : Option α → List α
  | none => []
  | some x => [x]
theorem ol_le {α : Type} (o : Option α) : (ol o).length ≤ 1 := by cases o <;> simp [ol]
theorem ol_mem {α : Type} {o : Option α} {x : α} (h : x ∈ ol o) : o = some x := by
  cases o with
  | none => cases h
  | some y => rw [List.mem_singleton.mp h]
structure Gh where
  marks : List (Int × Str)
  rows : List (Str × Int)
  seen : List Str
  held : List Str
noncomputable def atB (β : Int) : Option (Int × Str) → Option (Int × Str)
  | none => none
  | some (p, c) => some (β + p, c)
noncomputable def atP (β : Int) : Option (Int × Str) → Option Int
  | none => none
  | some (p, _) => some (β + p)
noncomputable def Gh.app (g : Gh) (β : Int) (e : Ef) : Gh := ⟨g.marks ++ ol (atB β e.em), g.rows ++ ol e.ir, g.seen ++ ol e.nm, g.held ++ ol e.sn⟩
noncomputable def ocOf (g : Gh) (m : Md) (a : Al) : Oc := match g.seen.any (· == m.str) with
  | true => .twice
  | false => match g.held.any (· == a.str m) with
    | true => .taken
    | false => .fresh
abbrev Items := List (Md × Al)
noncomputable def dl (m : Md) (a : Al) : Int := sAt m a + 1
noncomputable def run (g : Gh) (β : Int) : Items → Gh
  | [] => g
  | (m, a) :: r => run (g.app β (effOf (ocOf g m a) m a)) (β + dl m a) r
noncomputable def itemsT : Items → List Nat
  | [] => beginW
  | (m, a) :: r => 32 :: (itemT m a ++ sepC r.isEmpty :: itemsT r)
structure Fin where
  T : Str
  M : List (Int × Str)
  R : List (Str × Int)
  H : List Str
structure Ds where
  is : List Int
  ks : List Str
  ns : List Str
noncomputable def mkY (f : Fin) (g : Gh) (q : Ds) : Sy := ⟨f.T, g.marks.map rowV, q.is, q.ks, q.ns, g.held, g.rows.map impV, f.M.map rowV, f.R.map impV, f.H, .slist g.seen 20 []⟩
noncomputable def Ds.app (q : Ds) (β : Int) (e : Ef) : Ds := ⟨q.is ++ ol (atP β e.em), q.ks ++ ol e.ks, q.ns ++ ol e.ns⟩
structure EfOk (e : Ef) (m : Md) (a : Al) : Prop where
  ks : ∀ x, e.ks = some x → e.nm = some x
  ns : ∀ x, e.ns = some x → e.nm = some x
  em : ∀ x, e.em = some x → x.1 < dl m a ∧ 0 ≤ x.1
  td : (e.td : Int) ≤ dl m a
  al : (e.al : Int) ≤ dl m a
noncomputable def subB (a b : Option Str) : Bool := match a with
  | none => true
  | some x => match b with
    | some y => seq x y
    | none => false
theorem subB_ok {a b : Option Str} (h : subB a b = true) : ∀ x, a = some x → b = some x := by
  intro x e
  subst e
  cases b with
  | none => cases h
  | some y =>
    have : (x == y) = true := (seq_eq x y).symm.trans h
    rw [beq_iff_eq.mp this]
noncomputable def emB (z : Int) (o : Option (Int × Str)) : Bool := match o with
  | none => true
  | some x => decide (x.1 < z ∧ 0 ≤ x.1)
theorem emB_ok {z : Int} {o : Option (Int × Str)} (h : emB z o = true) : ∀ x, o = some x → x.1 < z ∧ 0 ≤ x.1 := by
  intro x e
  subst e
  exact of_decide_eq_true h
noncomputable def efB (e : Ef) (m : Md) (a : Al) : Bool := (subB e.ks e.nm && subB e.ns e.nm) && (emB (dl m a) e.em && decide ((e.td : Int) ≤ dl m a ∧ (e.al : Int) ≤ dl m a))
theorem efB_ok {e : Ef} {m : Md} {a : Al} (h : efB e m a = true) : EfOk e m a :=
  have h1 := Bool.and_eq_true_iff.mp h
  have h2 := Bool.and_eq_true_iff.mp h1.1
  have h3 := Bool.and_eq_true_iff.mp h1.2
  have h4 := of_decide_eq_true h3.2
  ⟨subB_ok h2.1, subB_ok h2.2, emB_ok h3.1, h4.1, h4.2⟩
theorem efOk (o : Oc) (m : Md) (a : Al) : EfOk (effOf o m a) m a := efB_ok (by cases o <;> cases m <;> cases a <;> kernel_rfl)
structure Ok (f : Fin) (g : Gh) (q : Ds) (c : Nat) : Prop where
  marks : g.marks.length ≤ c
  rows : g.rows.length ≤ c
  seen : g.seen.length ≤ c
  held : g.held.length ≤ c
  is : q.is.length ≤ c
  ks : q.ks.length ≤ c
  ns : q.ns.length ≤ c
  ksS : ∀ x ∈ q.ks, x ∈ g.seen
  nsS : ∀ x ∈ q.ns, x ∈ g.seen
  M : f.M.length ≤ 20
  R : f.R.length ≤ 20
  H : f.H.length ≤ 20
theorem Ok.app {f : Fin} {g : Gh} {q : Ds} {c : Nat} (h : Ok f g q c) (β : Int) {e : Ef} {m : Md} {a : Al} (he : EfOk e m a) : Ok f (g.app β e) (q.app β e) (c + 1) := by
  obtain ⟨h1, h2, h3, h4, h5, h6, h7, h8, h9, h10, h11, h12⟩ := h
  refine ⟨?_, ?_, ?_, ?_, ?_, ?_, ?_, ?_, ?_, h10, h11, h12⟩
  · show List.length (_ ++ _) ≤ _; rw [List.length_append]; have := ol_le (atB β e.em); omega
  · show List.length (_ ++ _) ≤ _; rw [List.length_append]; have := ol_le e.ir; omega
  · show List.length (_ ++ _) ≤ _; rw [List.length_append]; have := ol_le e.nm; omega
  · show List.length (_ ++ _) ≤ _; rw [List.length_append]; have := ol_le e.sn; omega
  · show List.length (_ ++ _) ≤ _; rw [List.length_append]; have := ol_le (atP β e.em); omega
  · show List.length (_ ++ _) ≤ _; rw [List.length_append]; have := ol_le e.ks; omega
  · show List.length (_ ++ _) ≤ _; rw [List.length_append]; have := ol_le e.ns; omega
  · intro x hx
    rcases List.mem_append.mp hx with hx | hx
    · exact List.mem_append_left _ (h8 x hx)
    · refine List.mem_append_right _ ?_
      rw [he.ks x (ol_mem hx)]; exact .head _
  · intro x hx
    rcases List.mem_append.mp hx with hx | hx
    · exact List.mem_append_left _ (h9 x hx)
    · refine List.mem_append_right _ ?_
      rw [he.ns x (ol_mem hx)]; exact .head _
noncomputable def KnX (kn : List (Str × Option V)) (ks : List Str) : Prop := ∀ x ∈ kn, match x.2 with | none => x.1 ∉ ks | some v => v = .sc .any ∧ x.1 ∈ ks
noncomputable def KnL (kn : List (Str × Bool)) (ss : List Str) : Prop := ∀ x ∈ kn, (ss.any (· == x.1)) = x.2
theorem KnX.nil {ks : List Str} : KnX [] ks := fun _ h => by cases h
theorem KnL.nil {ks : List Str} : KnL [] ks := fun _ h => by cases h
section
variable {prog : Program} {w : World} {p : P} {keep : List Nat} {d : Int} {os : Sto}
theorem specI_all {Pr : Nat → O → Prop} {ks : List Nat} {x : Tn} {τ : List O} (hk : ∀ i ∈ specI, ks[i]? = some i) (hτ : ∀ i ∈ specI, τ[i]? = (stI x)[i]?)
    (h2 : Pr 2 (.tdict 0)) (h12 : Pr 12 (.slst x.errs 20)) (h13 : Pr 13 (.jdict x.is 20 true)) (h17 : Pr 17 (.xdict x.ks 20 x.knK)) (h18 : Pr 18 (.xdict x.ns 20 x.knN)) (h22 : Pr 22 (scnD x.txt x.place)) (h28 : Pr 28 (.xdict x.sn 20 x.knS)) (h29 : Pr 29 (.alist 0)) (h34 : Pr 34 (.slst x.irows 20))
    (h35 : Pr 35 (.slst x.marks 20)) (h36 : Pr 36 (.slst x.rows 20)) (h37 : Pr 37 (.slist x.held 20 [])) (h38 : Pr 38 x.last) : ∀ i ∈ specI, ∀ (l : Nat) (o' : O), ks[i]? = some l → τ[i]? = some o' → Pr l o' :=
  all_in ⟨at_one (hk 2 (by decide)) (hτ 2 (by decide)) h2, at_one (hk 12 (by decide)) (hτ 12 (by decide)) h12, at_one (hk 13 (by decide)) (hτ 13 (by decide)) h13, at_one (hk 17 (by decide)) (hτ 17 (by decide)) h17, at_one (hk 18 (by decide)) (hτ 18 (by decide)) h18, at_one (hk 22 (by decide)) (hτ 22 (by decide)) h22, at_one (hk 28 (by decide)) (hτ 28 (by decide)) h28, at_one (hk 29 (by decide)) (hτ 29 (by decide)) h29, at_one (hk 34 (by decide)) (hτ 34 (by decide)) h34, at_one (hk 35 (by decide)) (hτ 35 (by decide)) h35, at_one (hk 36 (by decide)) (hτ 36 (by decide)) h36, at_one (hk 37 (by decide)) (hτ 37 (by decide)) h37, at_one (hk 38 (by decide)) (hτ 38 (by decide)) h38, trivial⟩
theorem pick_same {y : Sy} {tx pl : S} (h : pickAt os specI = sameI y tx pl) : normO (sget os 2) = some (.tdict 0) ∧ normO (sget os 12) = some (.slst y.errs 20) ∧ normO (sget os 13) = some (.jdict y.is 20 true) ∧ normO (sget os 17) = some (.xdict y.ks 20 []) ∧ normO (sget os 18) = some (.xdict y.ns 20 []) ∧
    normO (sget os 22) = some (scnD tx pl) ∧ normO (sget os 28) = some (.xdict y.sn 20 []) ∧ normO (sget os 29) = some (.alist 0) ∧ normO (sget os 34) = some (.slst y.irows 20) ∧ normO (sget os 35) = some (.slst y.marks 20) ∧ normO (sget os 36) = some (.slst y.rows 20) ∧ normO (sget os 37) = some (.slist y.held 20 []) ∧ normO (sget os 38) = normO (some y.last) := by
  have h : [normO (sget os 2), normO (sget os 12), normO (sget os 13), normO (sget os 17), normO (sget os 18), normO (sget os 22), normO (sget os 28), normO (sget os 29), normO (sget os 34), normO (sget os 35), normO (sget os 36), normO (sget os 37), normO (sget os 38)] = sameI y tx pl := h
  unfold sameI at h
  simp only [List.cons.injEq, and_true] at h
  exact h
noncomputable def tn (f : Fin) (g : Gh) (q : Ds) (txt place kind val tpl : S) (kK kN kS : List (Str × Option V)) (kL : List (Str × Bool)) : Tn := ⟨txt, place, kind, val, tpl, g.marks.map rowV, q.is, q.ks, q.ns, g.held, g.rows.map impV, kK, kN, kS, f.M.map rowV, f.R.map impV, f.H, .slist g.seen 20 kL⟩
theorem same_all {f : Fin} {g : Gh} {q : Ds} {c : Nat} {e e' : Bool} {win win' : List Nat} {k : Int} {kind val tpl : S} {kK kN kS : List (Str × Option V)} {kL : List (Str × Bool)} {ks : List Nat} {τ : List O} (h : pickAt os specI = sameI (mkY f g q) (.txt f.T e win) (.off k)) (ok : Ok f g q c) (hc : c ≤ 20)
    (hk : ∀ i ∈ specI, ks[i]? = some i) (h10 : ks[10]? = some 10) (hτ : ∀ i ∈ specI, τ[i]? = (stI (tn f g q (.txt f.T e' win') (.off k) kind val tpl kK kN kS kL))[i]?) (hβ : p.β ≤ 500) (hw : Window f.T p.β e' win') (kk : KnX kK q.ks) (kn : KnX kN q.ns) (ksn : KnX kS g.held) (kl : KnL kL g.seen) :
    ∀ i ∈ specI, ∀ (l : Nat) (o' : O), ks[i]? = some l → τ[i]? = some o' → Sp prog w p ks 0 os l o' := by
  obtain ⟨p2, p12, p13, p17, p18, p22, p28, p29, p34, p35, p36, p37, p38⟩ := pick_same h
  obtain ⟨h1, h2, h3, h4, h5, h6, h7, h8, h9, hM, hR, hH⟩ := ok
  refine specI_all hk hτ (S_td p2 (by omega) (by omega)) (S_rows p12 (Nat.le_trans h1 hc)) (S_jd p13 (by omega) (Nat.le_trans h5 hc)) (S_xd p17 (Nat.le_trans h6 hc) kk) (S_xd p18 (Nat.le_trans h7 hc) kn) (S_scn p22 (by omega) h10 (by rw [Int.add_zero]; exact hw)) (S_xd p28 (Nat.le_trans h4 hc) ksn) (S_al p29 (by omega) (by omega)) (S_imps p34 (Nat.le_trans h2 hc)) (S_rows p35 hM) (S_imps p36 hR) (S_sl p37 hH KnL.nil) (S_sl p38 (Nat.le_trans h3 hc) kl)
theorem pick_do {y : Sy} {nm : List Str} {e : Ef} {tx pl k v t : S} (h : pickAt os pickC = pickE y nm e tx pl k v t) : normO (sget os 2) = some (.tdict e.td) ∧ normO (sget os 12) = some (match e.em with | none => .slst y.errs 20 | some (p, c) => .slst (y.errs ++ [.tup [.off p, .str c]]) 21) ∧ normO (sget os 13) = some (match e.em with | none => .jdict y.is 20 true | some (p, _) => .jnew y.is 21 p) ∧ normO (sget os 17) = some (addX y.ks e.ks) ∧ normO (sget os 18) = some (addX y.ns e.ns) ∧
    normO (sget os 22) = some (scnD tx pl) ∧ normO (sget os 28) = some (addX y.sn e.sn) ∧ normO (sget os 29) = some (.alist e.al) ∧ normO (sget os 34) = some (match e.ir with | none => .slst y.irows 20 | some (x, i) => .slst (y.irows ++ [.tup [.str x, .int i]]) 21) ∧ normO (sget os 35) = some (.slst y.marks 20) ∧ normO (sget os 36) = some (.slst y.rows 20) ∧ normO (sget os 37) = some (.slist y.held 20 []) ∧
    normO (sget os 38) = some (match e.nm with | none => .slist nm 20 [] | some x => .slist (nm ++ [x]) 21 []) ∧ normO (sget os 40) = some (.idict [("kind", .sc k), ("value", .sc v), ("place", .sc t)]) := by
  have h : [normO (sget os 2), normO (sget os 12), normO (sget os 13), normO (sget os 17), normO (sget os 18), normO (sget os 22), normO (sget os 28), normO (sget os 29), normO (sget os 34), normO (sget os 35), normO (sget os 36), normO (sget os 37), normO (sget os 38), normO (sget os 40)] = pickE y nm e tx pl k v t := h
  unfold pickE at h
  simp only [List.cons.injEq, and_true] at h
  exact h
theorem S_addX {l : Nat} {ks : List Str} {o : Option Str} (h : normO (sget os l) = some (addX ks o)) (hl : ks.length + 1 ≤ 20) : Sp prog w p keep d os l (.xdict (ks ++ ol o) 20 []) := by
  cases o with
  | none => rw [show ks ++ ol (none : Option Str) = ks from List.append_nil _]; exact S_xd h (by omega) KnX.nil
  | some x => exact S_xd h (by simp [ol]; omega) KnX.nil
theorem S_addL {l : Nat} {ks : List Str} {o : Option Str} (h : normO (sget os l) = some (match o with | none => .slist ks 20 [] | some x => .slist (ks ++ [x]) 21 [])) (hl : ks.length + 1 ≤ 20) : Sp prog w p keep d os l (.slist (ks ++ ol o) 20 []) := by
  cases o with
  | none => rw [show ks ++ ol (none : Option Str) = ks from List.append_nil _]; exact S_sl h (by omega) KnL.nil
  | some x => exact S_sl h (by simp [ol]; omega) KnL.nil
theorem S_tok {l : Nat} {k v t : S} (h : normO (sget os l) = some (.idict [("kind", .sc k), ("value", .sc v), ("place", .sc t)])) {k' : Str} (hk : k = .str k') : Sp prog w p keep d os l (.idict [("kind", .sc (.str k')), ("value", .sc .any), ("place", .sc .any)]) := by
  subst hk
  refine ⟨_, normO_id h trivial, fun e => (by cases e), fun ob r => ?_⟩
  obtain ⟨es, n, q1, q2, q3⟩ := r
  exact ⟨es, n, q1, REs_imp q2 ⟨⟨rfl, fun y a => a⟩, ⟨rfl, fun y _ => trivial⟩, ⟨rfl, fun y _ => trivial⟩, trivial⟩, q3⟩
theorem specI_C : ∀ i ∈ specI, i ∈ specC := by decide
theorem specC_I : ∀ i ∈ specC, i ≠ 31 → i ∈ specI := by decide
theorem do_all {f : Fin} {g : Gh} {q : Ds} {c : Nat} {e : Ef} {m : Md} {a : Al} {e0 e' : Bool} {win win' : List Nat} {v t : S} {sep : Str} {ks : List Nat} {τ : List O} (h : pickAt os pickC = pickE (mkY f g q) g.seen e (.txt f.T e0 win) (.off (dl m a)) (.str sep) v t) (ok : Ok f g q c) (hc : c ≤ 19) (he : EfOk e m a)
    (hk : ∀ i ∈ specI, ks[i]? = some i) (h10 : ks[10]? = some 10) (h31 : ks[31]? = some 40) (hτ : ∀ i ∈ specC, τ[i]? = (stI (tn f (g.app p.β e) (q.app p.β e) (.txt f.T e' win') (.off 0) (.str sep) .any .any [] [] [] []))[i]?) (hβ : p.β + dl m a ≤ 500) (hd : 0 ≤ dl m a) (hlt : ∀ i ∈ q.is, i < p.β) (hw : Window f.T (p.β + dl m a) e' win') :
    ∀ i ∈ specC, ∀ (l : Nat) (o' : O), ks[i]? = some l → τ[i]? = some o' → Sp prog w p ks (dl m a) os l o' := by
  obtain ⟨p2, p12, p13, p17, p18, p22, p28, p29, p34, p35, p36, p37, p38, p40⟩ := pick_do h
  obtain ⟨h1, h2, h3, h4, h5, h6, h7, h8, h9, hM, hR, hH⟩ := ok
  have base := specI_all (Pr := fun l o' => Sp prog w p ks (dl m a) os l o') hk (fun i hi => hτ i (specI_C i hi)) (S_td p2 he.td hβ) ?_ ?_ (S_addX p17 (by show List.length q.ks + 1 ≤ 20; omega)) (S_addX p18 (by show List.length q.ns + 1 ≤ 20; omega)) (S_scn p22 (by omega) h10 hw) (S_addX p28 (by show List.length g.held + 1 ≤ 20; omega)) (S_al p29 he.al hβ) ?_ (S_rows p35 hM) (S_imps p36 hR) (S_sl p37 hH KnL.nil) (S_addL p38 (by omega))
  · intro i hi l o' e1 e2
    by_cases h31' : i = 31
    · subst h31'
      rw [h31] at e1
      cases e1
      rw [hτ 31 hi] at e2
      cases (Option.some.inj (show some _ = some o' from e2))
      exact S_tok p40 rfl
    · exact base i (specC_I i hi h31') l o' e1 e2
  · show Sp _ _ _ _ _ _ _ (.slst ((g.marks ++ ol (atB p.β e.em)).map rowV) 20)
    revert p12
    cases e.em with
    | none => intro p12; rw [show g.marks ++ ol (atB p.β none) = g.marks from List.append_nil _]; exact S_rows p12 (by omega)
    | some x => intro p12; exact S_new p12 (by omega)
  · show Sp _ _ _ _ _ _ _ (.jdict (q.is ++ ol (atP p.β e.em)) 20 true)
    have hem := he.em
    revert p13 hem
    cases e.em with
    | none => intro p13 _; rw [show q.is ++ ol (atP p.β none) = q.is from List.append_nil _]; exact S_jd p13 hd (by omega)
    | some x => intro p13 hem; exact S_jn p13 (hem x rfl).1 hd hlt (by omega)
  · show Sp _ _ _ _ _ _ _ (.slst ((g.rows ++ ol e.ir).map impV) 20)
    revert p34
    cases e.ir with
    | none => intro p34; rw [show g.rows ++ ol (none : Option (Str × Int)) = g.rows from List.append_nil _]; exact S_imps p34 (by omega)
    | some x =>
      intro p34
      refine S_imps (n := 21) ?_ (by simp [ol]; omega)
      rw [List.map_append]; exact p34
end
end Mine
-- N6
namespace Mine

noncomputable def strsB : List Str → List Str → Bool
  | [], [] => true
  | a :: r, b :: s => seq a b && strsB r s
  | _, _ => false
theorem strsB_eq : ∀ {a b : List Str}, strsB a b = true → a = b
  | [], [], _ => rfl
  | a :: r, b :: s, h => by
    unfold strsB at h
    rw [Bool.and_eq_true, seq_eq, beq_iff_eq] at h
    rw [h.1, strsB_eq h.2]
  | [], _ :: _, h => by cases h
  | _ :: _, [], h => by cases h
noncomputable def fdOk (K : Frag) (a : Addr) (ns : List Str) : Bool := match klk a K with
  | some ⟨_, _, .func fd, _⟩ => (match fd.body with | .stmts _ => true | _ => false) && strsB (fd.params.args.map (·.arg)) ns && (match fd.defaults with | .none => true | _ => false)
  | _ => false
inductive FdAt (K : Frag) (a : Addr) (ns : List Str) : Prop
  | mk (oc : Value) (od : Option Addr) (fd : FuncData) (osl : Array (Option Value)) (h1 : K.lookup a = some ⟨oc, od, .func fd, osl⟩) (h2 : fd.body = .stmts (bodyOf K a)) (h3 : fd.scope = scopeAt K a) (h4 : fd.params.args.map (·.arg) = ns) (h5 : fd.defaults = .none)
theorem fd_of {K : Frag} {a : Addr} {ns : List Str} (h : fdOk K a ns = true) : FdAt K a ns := by
  unfold fdOk at h
  split at h
  · rename_i oc od fd osl hk
    simp only [Bool.and_eq_true] at h
    obtain ⟨⟨h1, h2⟩, h3⟩ := h
    refine ⟨oc, od, fd, osl, by rw [← klk_eq]; exact hk, ?_, ?_, strsB_eq h2, ?_⟩
    · unfold bodyOf
      rw [hk]
      revert h1
      simp only
      cases fd.body <;> first | (intro _; rfl) | (intro h; cases h)
    · unfold scopeAt
      rw [hk]
    · revert h3
      cases fd.defaults <;> first | (intro _; rfl) | (intro h; cases h)
  · cases h
section
variable {g : G} {n : Nat}
theorem enter {fa : Addr} {ns : List Str} {vs : List V} {σ : St} {A₀ A : Around} {base h₀ : Heap} {outer : List Env} {cn : Str} {L a : Addr} {ccd : Value} {p : P} {s : Shared} {ys : List Value} {R : Result → Shared → Prop}
    (hf : fdOk g.K fa ns = true) (hfn : hasN fa g.fn = true) (hok : fillOk ns vs [] = true)
    (C : Cx g (n + 1) A₀ A base h₀ outer cn σ.sc L a ccd) (Rp : Rep g.prog g.w h₀ L p σ s.heap) (hv : RVs p vs ys)
    (K : ∀ (A' : Around) (h₀' : Heap) (L' : Addr) (h₁ : Heap) (tk : Nat) (cn' : Str) (ccd' : Value), Cx g n A A' base h₀' (envOf cn σ.sc L a ccd :: outer) cn' (scopeAt g.K fa) L' fa ccd' → Rep g.prog g.w h₀' L' p ⟨scopeAt g.K fa, (bindsOf ns vs []).reverse, σ.objs⟩ h₁ →
      ∀ E, wpAny (model g.prog g.w) A' (execs (bodyOf g.K fa) (envOf cn' (scopeAt g.K fa) L' fa ccd')) (fun fl s' => ∃ (p' : P) (sc' : Scope) (l' : List (Str × V)) (objs' : Sto) (h' : Heap) (tk' : Nat), s' = { s with heap := h', toks := tk' } ∧ Rep g.prog g.w h₀' L' p' ⟨sc', l', objs'⟩ h' ∧
        ((∀ loc', (∀ m, RL p σ.loc m → RL p' loc' m) → Rep g.prog g.w h₀ L p' ⟨σ.sc, loc', objs'⟩ h') → R (.ok (.ret (match fl with | .ret v => v | _ => .none))) s')) E { s with heap := h₁, toks := tk }) :
    codeAny (model g.prog g.w) A (.call (.ref fa) ⟨ys, []⟩) R s := by
  obtain ⟨oc, od, fd, osl, h1, h2, h3, h4, h5⟩ := fd_of hf
  refine call_hand (n := n) (ds := []) h1 hfn h2 (by rw [h5]; rfl) (by rw [h4]; exact hok) C Rp hv fun A' h₀' L' h₁ tk C' R' E => ?_
  rw [h3] at C' ⊢
  rw [h3, h4] at R'
  exact K A' h₀' L' h₁ tk _ _ C' R' E
theorem call_expr {f : Str} {fp pos : Pos} {args : List Expr} {fa : Addr} {vs : List V} {σ σ' : St} {m : Nat} (hn : nameV g.gt f σ = some (.sc (.raw (.ref fa)))) (hd : (f == ("__debug__" : Str)) = false) (hk : Mine.callOk g.T g.fn fa = true) (hu : unstarred args = true) (ha : args ≠ [])
    {ih : Ev} (I : Good g m ih) (hargs : ih.es args σ = some (vs, σ')) (hm : m ≤ n) {A₀ A : Around} {base h₀ : Heap} {outer : List Env} {cn : Str} {L a : Addr} {ccd : Value} (C : Cx g n A₀ A base h₀ outer cn σ.sc L a ccd) {p : P} {s : Shared} {Q E : Value → Shared → Prop} (R : Rep g.prog g.w h₀ L p σ s.heap)
    (H : ∀ p' ys h' tk, p.le p' → Rep g.prog g.w h₀ L p' σ' h' → RVs p' vs ys → codeAny (model g.prog g.w) A (.call (.ref fa) ⟨ys, []⟩) (fun r s' => match r with | .ok (.ret v) => Q v s' | .ok _ => False | .error e => E e s') { s with heap := h', toks := tk }) : wpAny (model g.prog g.w) A (eval (.Call (.Name f fp) args [] pos) (envOf cn σ.sc L a ccd)) Q E s := by
  replace hk := g.callOk hk
  cases args with
  | nil => exact absurd rfl ha
  | cons e r =>
    have S1 := s_name (g := g) (n := n) (pos := fp) hd hn
    have S2 := I.es _ _ _ _ hargs
    refine Call_ (S1.run rfl C R fun p1 y1 h1 tk1 le1 R1 hy1 => ?_)
    have : y1 = .ref fa := hy1
    subst this
    rw [back_plain hu]
    refine w_callWith (K := g.K) (s := { s with heap := h1, toks := tk1 }) (R1.inK C) hk hu (fun e => by cases e) (fun e' r' he => ?_)
    cases he
    refine S2.run rfl (C.less hm) hu R1 fun p2 ys h2 tk2 le2 R2 hy2 => ⟨R2.inK (C.sc S2.1), ?_⟩
    exact wpAny_call (H p2 ys h2 tk2 (le1.trans le2) R2 hy2)
theorem RL.kp {ls : List Nat} {p q : P} {loc : List (Str × V)} {m : Str → Option Value} (h : Kp ls p q) (hloc : ∀ x ∈ loc, ∃ l ∈ ls, x.2 = rf l) (R : RL p loc m) : RL q loc m := by
  intro x v e
  obtain ⟨y, h1, h2⟩ := R x v e
  obtain ⟨l, hl, hv⟩ := hloc _ (lookup_mem e)
  simp only at hv
  subst hv
  exact ⟨y, h1, h.rf hl h2⟩
theorem range_get {n i : Nat} {l : List Nat} (h : i < n) : (List.range n ++ l)[i]? = some i := by
  rw [List.getElem?_append_left (by simpa using h), List.getElem?_range h]
theorem okO_of {r : Option (Ou × St)} {b : Bool} {σ : St} (h : okO r = some (b, σ)) : ∃ o, r = some (o, σ) ∧ doneO o = b := by
  cases r with
  | none => cases h
  | some x => cases h; exact ⟨_, rfl, rfl⟩
theorem unitO_of {α : Type} {r : Option α} {u : Unit} {σ : α} (h : unitO r = some (u, σ)) : r = some σ := by
  cases r with
  | none => cases h
  | some x => cases h; rfl
theorem kn_ok {f : Fin} {gh : Gh} {q : Ds} {c : Nat} (ok : Ok f gh q c) (m : Md) (a : Al) : KnX (knN (ocOf gh m a) m) q.ks ∧ KnX (knN (ocOf gh m a) m) q.ns ∧ KnX (knS (ocOf gh m a) m a) gh.held ∧ KnL (knL (ocOf gh m a) m) gh.seen := by
  have hany : ∀ (l : List Str) (x : Str), l.any (· == x) = true → x ∈ l := fun l x h => by
    obtain ⟨y, h1, h2⟩ := List.any_eq_true.mp h
    rw [beq_iff_eq] at h2
    exact h2 ▸ h1
  have hno : ∀ (l : List Str) (x : Str), l.any (· == x) = false → x ∉ l := fun l x h hm => by
    have : l.any (· == x) = true := List.any_eq_true.mpr ⟨x, hm, by simp⟩
    rw [this] at h
    cases h
  unfold ocOf
  split
  · rename_i h1
    refine ⟨KnX.nil, KnX.nil, KnX.nil, fun x hx => ?_⟩
    rw [List.mem_singleton.mp hx]; exact h1
  · rename_i h1
    split
    · rename_i h2
      refine ⟨KnX.nil, KnX.nil, fun x hx => ?_, fun x hx => ?_⟩
      · rw [List.mem_singleton.mp hx]; exact ⟨rfl, hany _ _ h2⟩
      · rw [List.mem_singleton.mp hx]; exact h1
    · rename_i h2
      refine ⟨fun x hx => ?_, fun x hx => ?_, fun x hx => ?_, fun x hx => ?_⟩
      · rw [List.mem_singleton.mp hx]; exact fun h => hno _ _ h1 (ok.ksS _ h)
      · rw [List.mem_singleton.mp hx]; exact fun h => hno _ _ h1 (ok.nsS _ h)
      · rw [List.mem_singleton.mp hx]; exact hno _ _ h2
      · rw [List.mem_singleton.mp hx]; exact h1
end
end Mine
end
-- the head
set_option maxHeartbeats 0
-- H1
namespace Mine
namespace hd
noncomputable abbrev prg : Program := PySem.Challenge.rw_pq0785_01.row.toRowW.1
noncomputable def bd : List Stmt := behindTheImports prg
noncomputable def nth : Nat → List Stmt → Stmt
  | _, [] => .Pass ⟨0, 0, 0, 0⟩
  | 0, s :: _ => s
  | n + 1, _ :: t => nth n t
noncomputable def d1 (i : Nat) : Stmt := nth i bd
noncomputable def inner : Stmt → List Stmt
  | .ClassDef _ _ _ b _ _ _ _ _ _ _ => b
  | _ => []
noncomputable def d2 (i j : Nat) : Stmt := nth j (inner (d1 i))
abbrev vs (s : String) (t : Nat) : Value := .str (Str.ofString s) t
abbrev vi (n t : Nat) : Value := .int (.ofNat n) t
noncomputable def en (P : Params) (s : String) (t : Nat) (v : Value) : DictEntry := ⟨PyData.keyHash P (Str.ofString s), .str (Str.ofString s) t, v⟩
noncomputable def tu (l : List Value) : Obj := ⟨.type "tuple", none, .seq ⟨l⟩ 0, #[]⟩
noncomputable def tsl : Nat → List String → List Value
  | _, [] => []
  | t, s :: r => vs s t :: tsl (t + 1) r
noncomputable def ts (t : Nat) (l : List String) : Obj := tu (tsl t l)
noncomputable def di (l : List DictEntry) (n : Nat) : Obj := ⟨.type "dict", none, .dict ⟨l⟩ n, #[]⟩
noncomputable def dc (l : List DictEntry) (n : Nat) : Data := .dict ⟨l⟩ n
noncomputable def frl : List Nat → List Value
  | a :: b :: c :: r => vi a 0 :: vi b 0 :: .ref c :: frl r
  | _ => []
noncomputable def fr (l : List Nat) : Obj := ⟨.none, none, .fields ⟨frl l⟩, #[]⟩
noncomputable def of (k : String) (l : List Value) : Obj := ⟨.type k, none, .fields ⟨l⟩, #[]⟩
noncomputable def cdo (n q : String) (t a b c d e r : Nat) (x : Bool) (r' : Nat) (u v y : Value) (z : Nat) : Obj :=
  of "code" [vs n t, vs q (t + 1), vs "/claim/cut.py" (t + 2), vi a 0, vi b 0, vi c 0, vi d 0, vi e 0, .ref r, .bool x, vi 181 0, .ref r', .none, u, v, y, vi z 0, vi a 0, vs "/claim/cut.py" (z + 1)]
noncomputable def fnd (q : String) (g : Nat) (de md cd : Value) : Stmt → Data
  | .FunctionDef n ps b _ _ _ sc _ _ _ => .func { name := n, qualname := Str.ofString q, params := ps, body := .stmts b, scope := sc, globals := g, closure := [], defaults := de, kwdefaults := .none, pyModule := md, code := cd }
  | _ => .plain
noncomputable def tf (s : Stmt) (q : String) : Obj := ⟨.none, none, fnd q 0 .none .none .none s, #[]⟩
noncomputable def fn (s : Stmt) (q : String) (de md : Value) (cd : Nat) : Obj := ⟨.type "function", none, fnd q 3 de md (.ref cd) s, #[]⟩
noncomputable def cl (n : String) (bs m : List Value) (ns : Nat) (q : String) (hd : Bool) (sl : List String) (sub : List Value) (ab : Bool) (co : Option Bool) (de : Bool) : Data := .cls ⟨Str.ofString n, bs, m, ns, Str.ofString q, hd, sl.map Str.ofString, sub, ab, co, de⟩
noncomputable def b11 (P : Params) : Obj := tu []
noncomputable def b12 (P : Params) : Obj := fr []
noncomputable def b13 (P : Params) : Obj := cdo "<module>" "<module>" 182 1 0 0 0 0 11 false 12 .none .none .none 185
noncomputable def b14 (P : Params) : Obj := ⟨(.type "frame"), none, .plain, ⟨[(some (.ref 13)), (some (.ref 3)), (some (.ref 3)), none, (some (vs "__main__" 164)), none, (some (.ref 0))]⟩⟩
noncomputable def e0 (P : Params) : DictEntry := en P "__name__" 165 (vs "moduleyard.types" 194)
noncomputable def e1 (P : Params) : DictEntry := en P "__doc__" 166 .none
noncomputable def e2 (P : Params) : DictEntry := en P "__package__" 167 .none
noncomputable def e3 (P : Params) : DictEntry := en P "__loader__" 168 (.builtin "__main__.__loader__#opaque")
noncomputable def e4 (P : Params) : DictEntry := en P "__spec__" 169 .none
noncomputable def e5 (P : Params) : DictEntry := en P "__annotations__" 170 (.ref 6)
noncomputable def e6 (P : Params) : DictEntry := en P "__builtins__" 171 (.ref 4)
noncomputable def e7 (P : Params) : DictEntry := en P "__file__" 173 (vs "/claim/cut.py" 172)
noncomputable def e8 (P : Params) : DictEntry := en P "__cached__" 174 .none
noncomputable def e9 (P : Params) : DictEntry := en P "_wall" 193 (.ref 21)
noncomputable def e10 (P : Params) : DictEntry := en P "Type" 237 (.ref 38)
noncomputable def b3v1 (P : Params) : Obj := di [e0 P, e1 P, e2 P, e3 P, e4 P, e5 P, e6 P, e7 P, e8 P, e9 P, e10 P] 11
noncomputable def b12v1 (P : Params) : Obj := fr [1, 0, 20, 5, 0, 27]
noncomputable def low (P : Params) (x y z : Obj) (t : List Obj) : List Obj := boot_o_0 P :: boot_o_1 P :: x :: y :: boot_o_4 P :: boot_o_5 P :: boot_o_6 P :: boot_o_7 P :: boot_o_8 P :: boot_o_9 P :: boot_o_10 P :: b11 P :: z :: b13 P :: b14 P :: t
noncomputable def half : List Obj → List Obj × List Obj
  | [] => ([], [])
  | a :: t => (a :: (half t).2, (half t).1)
noncomputable def ofL : Nat → List Obj → BT
  | 0, _ => .nil
  | _ + 1, [] => .nil
  | n + 1, v :: t => .node v (ofL n (half t).1) (ofL n (half t).2)
noncomputable def env : Env := { scope := prg.main.scope, locals := mainNs, globals := mainNs, cells := [], code := .ref 13, frame := some 14 }
noncomputable abbrev cd : Code := .body bd env
noncomputable def grp (a n : Nat) : List Stmt := (bd.drop a).take n
abbrev St (T : BT) (n t : Nat) (os : OsState) : SharedT := { tree := T, n := n, life := {}, gens := #[], drawn := {}, toks := t, os := os }
abbrev P0 : Pos := ⟨0, 0, 0, 0⟩
noncomputable def b15 (P : Params) : Obj := tu []
noncomputable def b16 (P : Params) : Obj := fr []
noncomputable def b17 (P : Params) : Obj := ts 190 ["k"]
noncomputable def b18 (P : Params) : Obj := tu []
noncomputable def b19 (P : Params) : Obj := tf (d1 0) "_wall"
noncomputable def b20 (P : Params) : Obj := cdo "_wall" "_wall" 187 1 1 0 0 3 15 true 16 (.ref 17) (.ref 18) (.ref 19) 191
noncomputable def b21 (P : Params) : Obj := fn (d1 0) "_wall" .none (vs "__main__" 164) 20
noncomputable def b22 (P : Params) : Obj := tu []
noncomputable def b23 (P : Params) : Obj := of "builtin_function_or_method" [(.builtin "type.__prepare__"), (.type "type")]
noncomputable def e11 (P : Params) : DictEntry := en P "__module__" 203 (vs "moduleyard.types" 194)
noncomputable def e12 (P : Params) : DictEntry := en P "__qualname__" 205 (vs "Type" 204)
noncomputable def e13 (P : Params) : DictEntry := en P "__firstlineno__" 207 (vi 5 206)
noncomputable def e14 (P : Params) : DictEntry := en P "__init__" 217 (.ref 35)
noncomputable def e15 (P : Params) : DictEntry := en P "__static_attributes__" 230 (.ref 36)
noncomputable def b24 (P : Params) : Obj := di [e11 P, e12 P, e13 P, e14 P, e15 P] 5
noncomputable def b25 (P : Params) : Obj := tu []
noncomputable def b26 (P : Params) : Obj := fr [7, 4, 34]
noncomputable def b27 (P : Params) : Obj := cdo "Type" "Type" 198 5 0 0 0 0 25 false 26 .none .none .none 201
noncomputable def b28 (P : Params) : Obj := ⟨(.type "frame"), none, .plain, ⟨[(some (.ref 27)), (some (.ref 3)), (some (.ref 24)), none, (some (vs "moduleyard.types" 194)), none, (some (.ref 0))]⟩⟩
noncomputable def b29 (P : Params) : Obj := tu []
noncomputable def b30 (P : Params) : Obj := fr []
noncomputable def b31 (P : Params) : Obj := ts 211 ["self", "number", "form", "size"]
noncomputable def b32 (P : Params) : Obj := tu []
noncomputable def b33 (P : Params) : Obj := tf (d2 2 0) "Type.__init__"
noncomputable def b34 (P : Params) : Obj := cdo "__init__" "Type.__init__" 208 7 4 0 0 3 29 true 30 (.ref 31) (.ref 32) (.ref 33) 215
noncomputable def b35 (P : Params) : Obj := fn (d2 2 0) "Type.__init__" .none (vs "moduleyard.types" 194) 34
noncomputable def b36 (P : Params) : Obj := ts 218 ["base", "exno", "fields", "form", "hidden", "label", "length", "level", "module", "number", "params", "size"]
noncomputable def e16 (P : Params) : DictEntry := en P "__dict__" 232 (.ref 39)
noncomputable def e17 (P : Params) : DictEntry := en P "__weakref__" 234 (.ref 40)
noncomputable def e18 (P : Params) : DictEntry := en P "__doc__" 235 .none
noncomputable def b37 (P : Params) : Obj := di [e11 P, e13 P, e14 P, e15 P, e16 P, e17 P, e18 P] 4
noncomputable def b38 (P : Params) : Obj := ⟨(.type "type"), none, cl "Type" [(.type "object")] [(.ref 38), (.type "object")] 37 "Type" true [] [] false none false, ⟨[none, none, (some (vs "Type" 196)), (some (vs "Type" 204)), (some (.builtin "object.__new__")), (some (.bool true))]⟩⟩
noncomputable def b39 (P : Params) : Obj := of "getset_descriptor" [(vs "__dict__" 231), (.ref 38), (.builtin "function.__dict__"), (.builtin "function.__dict__#set")]
noncomputable def b40 (P : Params) : Obj := of "getset_descriptor" [(vs "__weakref__" 233), (.ref 38), (.builtin "ExceptionGroup.__weakref__"), .none]
noncomputable def b41 (P : Params) : Obj := of "super" [(.ref 38), (.ref 38), (.ref 38)]
noncomputable def b42 (P : Params) : Obj := of "builtin_function_or_method" [(.builtin "object.__init_subclass__"), (.ref 38)]
noncomputable def e19 (P : Params) : DictEntry := en P "Obj" 282 (.ref 59)
noncomputable def b3v2 (P : Params) : Obj := di [e0 P, e1 P, e2 P, e3 P, e4 P, e5 P, e6 P, e7 P, e8 P, e9 P, e10 P, e19 P] 12
noncomputable def b12v2 (P : Params) : Obj := fr [1, 0, 20, 5, 0, 27, 20, 0, 48]
noncomputable def b43 (P : Params) : Obj := tu []
noncomputable def b44 (P : Params) : Obj := of "builtin_function_or_method" [(.builtin "type.__prepare__"), (.type "type")]
noncomputable def e20 (P : Params) : DictEntry := en P "__module__" 245 (vs "moduleyard.types" 194)
noncomputable def e21 (P : Params) : DictEntry := en P "__qualname__" 247 (vs "Obj" 246)
noncomputable def e22 (P : Params) : DictEntry := en P "__firstlineno__" 249 (vi 20 248)
noncomputable def e23 (P : Params) : DictEntry := en P "__init__" 260 (.ref 56)
noncomputable def e24 (P : Params) : DictEntry := en P "__static_attributes__" 275 (.ref 57)
noncomputable def b45 (P : Params) : Obj := di [e20 P, e21 P, e22 P, e23 P, e24 P] 5
noncomputable def b46 (P : Params) : Obj := tu []
noncomputable def b47 (P : Params) : Obj := fr [22, 4, 55]
noncomputable def b48 (P : Params) : Obj := cdo "Obj" "Obj" 240 20 0 0 0 0 46 false 47 .none .none .none 243
noncomputable def b49 (P : Params) : Obj := ⟨(.type "frame"), none, .plain, ⟨[(some (.ref 48)), (some (.ref 3)), (some (.ref 45)), none, (some (vs "moduleyard.types" 194)), none, (some (.ref 0))]⟩⟩
noncomputable def b50 (P : Params) : Obj := tu []
noncomputable def b51 (P : Params) : Obj := fr []
noncomputable def b52 (P : Params) : Obj := ts 253 ["self", "name", "kind", "type_of", "place"]
noncomputable def b53 (P : Params) : Obj := tu []
noncomputable def b54 (P : Params) : Obj := tf (d2 3 0) "Obj.__init__"
noncomputable def b55 (P : Params) : Obj := cdo "__init__" "Obj.__init__" 250 22 5 0 0 3 50 true 51 (.ref 52) (.ref 53) (.ref 54) 258
noncomputable def b56 (P : Params) : Obj := fn (d2 3 0) "Obj.__init__" .none (vs "moduleyard.types" 194) 55
noncomputable def b57 (P : Params) : Obj := ts 261 ["exported", "isparam", "kind", "level", "module", "name", "narrowed", "number", "offset", "place", "readonly", "slot", "type", "value"]
noncomputable def e25 (P : Params) : DictEntry := en P "__dict__" 277 (.ref 60)
noncomputable def e26 (P : Params) : DictEntry := en P "__weakref__" 279 (.ref 61)
noncomputable def e27 (P : Params) : DictEntry := en P "__doc__" 280 .none
noncomputable def b58 (P : Params) : Obj := di [e20 P, e22 P, e23 P, e24 P, e25 P, e26 P, e27 P] 4
noncomputable def b59 (P : Params) : Obj := ⟨(.type "type"), none, cl "Obj" [(.type "object")] [(.ref 59), (.type "object")] 58 "Obj" true [] [] false none false, ⟨[none, none, (some (vs "Obj" 238)), (some (vs "Obj" 246)), (some (.builtin "object.__new__")), (some (.bool true))]⟩⟩
noncomputable def b60 (P : Params) : Obj := of "getset_descriptor" [(vs "__dict__" 276), (.ref 59), (.builtin "function.__dict__"), (.builtin "function.__dict__#set")]
noncomputable def b61 (P : Params) : Obj := of "getset_descriptor" [(vs "__weakref__" 278), (.ref 59), (.builtin "ExceptionGroup.__weakref__"), .none]
noncomputable def b62 (P : Params) : Obj := of "super" [(.ref 59), (.ref 59), (.ref 59)]
noncomputable def b63 (P : Params) : Obj := of "builtin_function_or_method" [(.builtin "object.__init_subclass__"), (.ref 59)]
noncomputable def e28 (P : Params) : DictEntry := en P "Interface" 324 (.ref 87)
noncomputable def b3v3 (P : Params) : Obj := di [e0 P, e1 P, e2 P, e3 P, e4 P, e5 P, e6 P, e7 P, e8 P, e9 P, e10 P, e19 P, e28 P] 13
noncomputable def b12v3 (P : Params) : Obj := fr [1, 0, 20, 5, 0, 27, 20, 0, 48, 37, 0, 69]
noncomputable def b64 (P : Params) : Obj := tu []
noncomputable def b65 (P : Params) : Obj := of "builtin_function_or_method" [(.builtin "type.__prepare__"), (.type "type")]
noncomputable def e29 (P : Params) : DictEntry := en P "__module__" 290 (vs "moduleyard.types" 194)
noncomputable def e30 (P : Params) : DictEntry := en P "__qualname__" 292 (vs "Interface" 291)
noncomputable def e31 (P : Params) : DictEntry := en P "__firstlineno__" 294 (vi 37 293)
noncomputable def e32 (P : Params) : DictEntry := en P "__init__" 303 (.ref 77)
noncomputable def e33 (P : Params) : DictEntry := en P "find" 312 (.ref 84)
noncomputable def e34 (P : Params) : DictEntry := en P "__static_attributes__" 317 (.ref 85)
noncomputable def b66 (P : Params) : Obj := di [e29 P, e30 P, e31 P, e32 P, e33 P, e34 P] 6
noncomputable def b67 (P : Params) : Obj := tu []
noncomputable def b68 (P : Params) : Obj := fr [39, 4, 76, 45, 4, 83]
noncomputable def b69 (P : Params) : Obj := cdo "Interface" "Interface" 285 37 0 0 0 0 67 false 68 .none .none .none 288
noncomputable def b70 (P : Params) : Obj := ⟨(.type "frame"), none, .plain, ⟨[(some (.ref 69)), (some (.ref 3)), (some (.ref 66)), none, (some (vs "moduleyard.types" 194)), none, (some (.ref 0))]⟩⟩
noncomputable def b71 (P : Params) : Obj := tu []
noncomputable def b72 (P : Params) : Obj := fr []
noncomputable def b73 (P : Params) : Obj := ts 298 ["self", "name", "key"]
noncomputable def b74 (P : Params) : Obj := tu []
noncomputable def b75 (P : Params) : Obj := tf (d2 4 0) "Interface.__init__"
noncomputable def b76 (P : Params) : Obj := cdo "__init__" "Interface.__init__" 295 39 3 0 0 3 71 true 72 (.ref 73) (.ref 74) (.ref 75) 301
noncomputable def b77 (P : Params) : Obj := fn (d2 4 0) "Interface.__init__" .none (vs "moduleyard.types" 194) 76
noncomputable def b78 (P : Params) : Obj := tu []
noncomputable def b79 (P : Params) : Obj := fr []
noncomputable def b80 (P : Params) : Obj := ts 307 ["self", "name", "obj"]
noncomputable def b81 (P : Params) : Obj := tu []
noncomputable def b82 (P : Params) : Obj := tf (d2 4 1) "Interface.find"
noncomputable def b83 (P : Params) : Obj := cdo "find" "Interface.find" 304 45 2 0 0 3 78 true 79 (.ref 80) (.ref 81) (.ref 82) 310
noncomputable def b84 (P : Params) : Obj := fn (d2 4 1) "Interface.find" .none (vs "moduleyard.types" 194) 83
noncomputable def b85 (P : Params) : Obj := ts 313 ["imports", "key", "name", "objs"]
noncomputable def e35 (P : Params) : DictEntry := en P "__dict__" 319 (.ref 88)
noncomputable def e36 (P : Params) : DictEntry := en P "__weakref__" 321 (.ref 89)
noncomputable def e37 (P : Params) : DictEntry := en P "__doc__" 322 .none
noncomputable def b86 (P : Params) : Obj := di [e29 P, e31 P, e32 P, e33 P, e34 P, e35 P, e36 P, e37 P] 4
noncomputable def b87 (P : Params) : Obj := ⟨(.type "type"), none, cl "Interface" [(.type "object")] [(.ref 87), (.type "object")] 86 "Interface" true [] [] false none false, ⟨[none, none, (some (vs "Interface" 283)), (some (vs "Interface" 291)), (some (.builtin "object.__new__")), (some (.bool true))]⟩⟩
noncomputable def b88 (P : Params) : Obj := of "getset_descriptor" [(vs "__dict__" 318), (.ref 87), (.builtin "function.__dict__"), (.builtin "function.__dict__#set")]
noncomputable def b89 (P : Params) : Obj := of "getset_descriptor" [(vs "__weakref__" 320), (.ref 87), (.builtin "ExceptionGroup.__weakref__"), .none]
noncomputable def b90 (P : Params) : Obj := of "super" [(.ref 87), (.ref 87), (.ref 87)]
noncomputable def b91 (P : Params) : Obj := of "builtin_function_or_method" [(.builtin "object.__init_subclass__"), (.ref 87)]
noncomputable def e38 (P : Params) : DictEntry := en P "__name__" 165 (vs "moduleyard.modparse" 384)
noncomputable def e39 (P : Params) : DictEntry := en P "Types" 383 (.ref 123)
noncomputable def e40 (P : Params) : DictEntry := en P "imported_interface" 391 (.ref 132)
noncomputable def e41 (P : Params) : DictEntry := en P "import_one" 404 (.ref 139)
noncomputable def b3v4 (P : Params) : Obj := di [e38 P, e1 P, e2 P, e3 P, e4 P, e5 P, e6 P, e7 P, e8 P, e9 P, e10 P, e19 P, e28 P, e39 P, e40 P, e41 P] 16
noncomputable def b12v4 (P : Params) : Obj := fr [1, 0, 20, 5, 0, 27, 20, 0, 48, 37, 0, 69, 50, 0, 97, 78, 0, 131, 93, 0, 138]
noncomputable def b92 (P : Params) : Obj := tu []
noncomputable def b93 (P : Params) : Obj := of "builtin_function_or_method" [(.builtin "type.__prepare__"), (.type "type")]
noncomputable def e42 (P : Params) : DictEntry := en P "__module__" 332 (vs "moduleyard.types" 194)
noncomputable def e43 (P : Params) : DictEntry := en P "__qualname__" 334 (vs "Types" 333)
noncomputable def e44 (P : Params) : DictEntry := en P "__firstlineno__" 336 (vi 50 335)
noncomputable def e45 (P : Params) : DictEntry := en P "__init__" 343 (.ref 105)
noncomputable def e46 (P : Params) : DictEntry := en P "new" 357 (.ref 113)
noncomputable def e47 (P : Params) : DictEntry := en P "string" 366 (.ref 120)
noncomputable def e48 (P : Params) : DictEntry := en P "__static_attributes__" 376 (.ref 121)
noncomputable def b94 (P : Params) : Obj := di [e42 P, e43 P, e44 P, e45 P, e46 P, e47 P, e48 P] 7
noncomputable def b95 (P : Params) : Obj := tu []
noncomputable def b96 (P : Params) : Obj := fr [52, 4, 104, 63, 4, 112, 72, 4, 119]
noncomputable def b97 (P : Params) : Obj := cdo "Types" "Types" 327 50 0 0 0 0 95 false 96 .none .none .none 330
noncomputable def b98 (P : Params) : Obj := ⟨(.type "frame"), none, .plain, ⟨[(some (.ref 97)), (some (.ref 3)), (some (.ref 94)), none, (some (vs "moduleyard.types" 194)), none, (some (.ref 0))]⟩⟩
noncomputable def b99 (P : Params) : Obj := tu []
noncomputable def b100 (P : Params) : Obj := fr []
noncomputable def b101 (P : Params) : Obj := ts 340 ["self"]
noncomputable def b102 (P : Params) : Obj := tu []
noncomputable def b103 (P : Params) : Obj := tf (d2 5 0) "Types.__init__"
noncomputable def b104 (P : Params) : Obj := cdo "__init__" "Types.__init__" 337 52 1 0 0 3 99 true 100 (.ref 101) (.ref 102) (.ref 103) 341
noncomputable def b105 (P : Params) : Obj := fn (d2 5 0) "Types.__init__" .none (vs "moduleyard.types" 194) 104
noncomputable def b106 (P : Params) : Obj := ts 344 ["", ""]
noncomputable def b107 (P : Params) : Obj := tu []
noncomputable def b108 (P : Params) : Obj := fr []
noncomputable def b109 (P : Params) : Obj := ts 349 ["self", "form", "size", "module", "label", "made"]
noncomputable def b110 (P : Params) : Obj := tu []
noncomputable def b111 (P : Params) : Obj := tf (d2 5 1) "Types.new"
noncomputable def b112 (P : Params) : Obj := cdo "new" "Types.new" 346 63 5 0 0 3 107 true 108 (.ref 109) (.ref 110) (.ref 111) 355
noncomputable def b113 (P : Params) : Obj := fn (d2 5 1) "Types.new" (.ref 106) (vs "moduleyard.types" 194) 112
noncomputable def b114 (P : Params) : Obj := tu []
noncomputable def b115 (P : Params) : Obj := fr []
noncomputable def b116 (P : Params) : Obj := ts 361 ["self", "length", "made"]
noncomputable def b117 (P : Params) : Obj := tu []
noncomputable def b118 (P : Params) : Obj := tf (d2 5 2) "Types.string"
noncomputable def b119 (P : Params) : Obj := cdo "string" "Types.string" 358 72 2 0 0 3 114 true 115 (.ref 116) (.ref 117) (.ref 118) 364
noncomputable def b120 (P : Params) : Obj := fn (d2 5 2) "Types.string" .none (vs "moduleyard.types" 194) 119
noncomputable def b121 (P : Params) : Obj := ts 367 ["boolean", "byte", "char", "counter", "integer", "known", "mask", "nil", "none"]
noncomputable def e49 (P : Params) : DictEntry := en P "__dict__" 378 (.ref 124)
noncomputable def e50 (P : Params) : DictEntry := en P "__weakref__" 380 (.ref 125)
noncomputable def e51 (P : Params) : DictEntry := en P "__doc__" 381 .none
noncomputable def b122 (P : Params) : Obj := di [e42 P, e44 P, e45 P, e46 P, e47 P, e48 P, e49 P, e50 P, e51 P] 4
noncomputable def b123 (P : Params) : Obj := ⟨(.type "type"), none, cl "Types" [(.type "object")] [(.ref 123), (.type "object")] 122 "Types" true [] [] false none false, ⟨[none, none, (some (vs "Types" 325)), (some (vs "Types" 333)), (some (.builtin "object.__new__")), (some (.bool true))]⟩⟩
noncomputable def b124 (P : Params) : Obj := of "getset_descriptor" [(vs "__dict__" 377), (.ref 123), (.builtin "function.__dict__"), (.builtin "function.__dict__#set")]
noncomputable def b125 (P : Params) : Obj := of "getset_descriptor" [(vs "__weakref__" 379), (.ref 123), (.builtin "ExceptionGroup.__weakref__"), .none]
noncomputable def b126 (P : Params) : Obj := of "super" [(.ref 123), (.ref 123), (.ref 123)]
noncomputable def b127 (P : Params) : Obj := of "builtin_function_or_method" [(.builtin "object.__init_subclass__"), (.ref 123)]
noncomputable def b128 (P : Params) : Obj := tu []
noncomputable def b129 (P : Params) : Obj := fr []
noncomputable def b130 (P : Params) : Obj := tf (d1 7) "imported_interface"
noncomputable def b131 (P : Params) : Obj := cdo "imported_interface" "imported_interface" 386 78 3 0 0 3 128 true 129 .none .none (.ref 130) 389
noncomputable def b132 (P : Params) : Obj := fn (d1 7) "imported_interface" .none (vs "moduleyard.modparse" 384) 131
noncomputable def b133 (P : Params) : Obj := tu []
noncomputable def b134 (P : Params) : Obj := fr []
noncomputable def b135 (P : Params) : Obj := ts 395 ["rd", "tree", "names", "alias", "token", "obj", "found"]
noncomputable def b136 (P : Params) : Obj := tu []
noncomputable def b137 (P : Params) : Obj := tf (d1 8) "import_one"
noncomputable def b138 (P : Params) : Obj := cdo "import_one" "import_one" 392 93 3 0 0 3 133 true 134 (.ref 135) (.ref 136) (.ref 137) 402
noncomputable def b139 (P : Params) : Obj := fn (d1 8) "import_one" .none (vs "moduleyard.modparse" 384) 138
noncomputable def b2v5 (P : Params) : Obj := ⟨.none, none, dc [en P "type.__subclasses__.Exception.0" 432 (vi 156 0), en P "type.__subclasses__.Exception.n" 433 (vi 1 0)] 2, #[]⟩
noncomputable def e52 (P : Params) : DictEntry := en P "__name__" 165 (vs "moduleyard.errors" 414)
noncomputable def e53 (P : Params) : DictEntry := en P "imports" 413 (.ref 146)
noncomputable def e54 (P : Params) : DictEntry := en P "YardError" 435 (.ref 156)
noncomputable def b3v5 (P : Params) : Obj := di [e52 P, e1 P, e2 P, e3 P, e4 P, e5 P, e6 P, e7 P, e8 P, e9 P, e10 P, e19 P, e28 P, e39 P, e40 P, e41 P, e53 P, e54 P] 18
noncomputable def b12v5 (P : Params) : Obj := fr [1, 0, 20, 5, 0, 27, 20, 0, 48, 37, 0, 69, 50, 0, 97, 78, 0, 131, 93, 0, 138, 114, 0, 145, 123, 0, 152]
noncomputable def b140 (P : Params) : Obj := tu []
noncomputable def b141 (P : Params) : Obj := fr []
noncomputable def b142 (P : Params) : Obj := ts 408 ["rd", "tree", "names"]
noncomputable def b143 (P : Params) : Obj := tu []
noncomputable def b144 (P : Params) : Obj := tf (d1 9) "imports"
noncomputable def b145 (P : Params) : Obj := cdo "imports" "imports" 405 114 2 0 0 3 140 true 141 (.ref 142) (.ref 143) (.ref 144) 411
noncomputable def b146 (P : Params) : Obj := fn (d1 9) "imports" .none (vs "moduleyard.modparse" 384) 145
noncomputable def b147 (P : Params) : Obj := tu [(.type "Exception")]
noncomputable def b148 (P : Params) : Obj := of "builtin_function_or_method" [(.builtin "type.__prepare__"), (.type "type")]
noncomputable def e55 (P : Params) : DictEntry := en P "__module__" 423 (vs "moduleyard.errors" 414)
noncomputable def e56 (P : Params) : DictEntry := en P "__qualname__" 425 (vs "YardError" 424)
noncomputable def e57 (P : Params) : DictEntry := en P "__firstlineno__" 427 (vi 123 426)
noncomputable def e58 (P : Params) : DictEntry := en P "__static_attributes__" 428 (.ref 154)
noncomputable def b149 (P : Params) : Obj := di [e55 P, e56 P, e57 P, e58 P] 4
noncomputable def b150 (P : Params) : Obj := tu []
noncomputable def b151 (P : Params) : Obj := fr []
noncomputable def b152 (P : Params) : Obj := cdo "YardError" "YardError" 418 123 0 0 0 0 150 false 151 .none .none .none 421
noncomputable def b153 (P : Params) : Obj := ⟨(.type "frame"), none, .plain, ⟨[(some (.ref 152)), (some (.ref 3)), (some (.ref 149)), none, (some (vs "moduleyard.errors" 414)), none, (some (.ref 0))]⟩⟩
noncomputable def b154 (P : Params) : Obj := tu []
noncomputable def e59 (P : Params) : DictEntry := en P "__weakref__" 430 (.ref 157)
noncomputable def e60 (P : Params) : DictEntry := en P "__doc__" 431 .none
noncomputable def b155 (P : Params) : Obj := di [e55 P, e57 P, e58 P, e59 P, e60 P] 3
noncomputable def b156 (P : Params) : Obj := ⟨(.type "type"), none, cl "YardError" [(.type "Exception")] [(.ref 156), (.type "Exception"), (.type "BaseException"), (.type "object")] 155 "YardError" true [] [] false none false, ⟨[(some (.ref 147)), none, (some (vs "YardError" 416)), (some (vs "YardError" 424)), (some (.builtin "Exception.__new__")), (some (.bool true))]⟩⟩
noncomputable def b157 (P : Params) : Obj := of "getset_descriptor" [(vs "__weakref__" 429), (.ref 156), (.builtin "ExceptionGroup.__weakref__"), .none]
noncomputable def b158 (P : Params) : Obj := of "super" [(.ref 156), (.ref 156), (.ref 156)]
noncomputable def b159 (P : Params) : Obj := of "builtin_function_or_method" [(.builtin "object.__init_subclass__"), (.ref 156)]
noncomputable def e61 (P : Params) : DictEntry := en P "FormatError" 462 (.ref 176)
noncomputable def b3v6 (P : Params) : Obj := di [e52 P, e1 P, e2 P, e3 P, e4 P, e5 P, e6 P, e7 P, e8 P, e9 P, e10 P, e19 P, e28 P, e39 P, e40 P, e41 P, e53 P, e54 P, e61 P] 19
noncomputable def b12v6 (P : Params) : Obj := fr [1, 0, 20, 5, 0, 27, 20, 0, 48, 37, 0, 69, 50, 0, 97, 78, 0, 131, 93, 0, 138, 114, 0, 145, 123, 0, 152, 125, 0, 165]
noncomputable def b156v6 (P : Params) : Obj := ⟨(.type "type"), none, cl "YardError" [(.type "Exception")] [(.ref 156), (.type "Exception"), (.type "BaseException"), (.type "object")] 155 "YardError" true [] [(.ref 176)] false none false, ⟨[(some (.ref 147)), none, (some (vs "YardError" 416)), (some (vs "YardError" 424)), (some (.builtin "Exception.__new__")), (some (.bool true))]⟩⟩
noncomputable def b160 (P : Params) : Obj := tu [(.ref 156)]
noncomputable def b161 (P : Params) : Obj := of "builtin_function_or_method" [(.builtin "type.__prepare__"), (.type "type")]
noncomputable def e62 (P : Params) : DictEntry := en P "__module__" 443 (vs "moduleyard.errors" 414)
noncomputable def e63 (P : Params) : DictEntry := en P "__qualname__" 445 (vs "FormatError" 444)
noncomputable def e64 (P : Params) : DictEntry := en P "__firstlineno__" 447 (vi 125 446)
noncomputable def e65 (P : Params) : DictEntry := en P "__init__" 456 (.ref 173)
noncomputable def e66 (P : Params) : DictEntry := en P "__static_attributes__" 459 (.ref 174)
noncomputable def b162 (P : Params) : Obj := di [e62 P, e63 P, e64 P, e65 P, e66 P] 5
noncomputable def b163 (P : Params) : Obj := tu []
noncomputable def b164 (P : Params) : Obj := fr [127, 4, 172]
noncomputable def b165 (P : Params) : Obj := cdo "FormatError" "FormatError" 438 125 0 0 0 0 163 false 164 .none .none .none 441
noncomputable def b166 (P : Params) : Obj := ⟨(.type "frame"), none, .plain, ⟨[(some (.ref 165)), (some (.ref 3)), (some (.ref 162)), none, (some (vs "moduleyard.errors" 414)), none, (some (.ref 0))]⟩⟩
noncomputable def b167 (P : Params) : Obj := tu []
noncomputable def b168 (P : Params) : Obj := fr []
noncomputable def b169 (P : Params) : Obj := ts 451 ["self", "what", "at"]
noncomputable def b170 (P : Params) : Obj := tu []
noncomputable def b171 (P : Params) : Obj := tf (d2 12 0) "FormatError.__init__"
noncomputable def b172 (P : Params) : Obj := cdo "__init__" "FormatError.__init__" 448 127 3 0 0 3 167 true 168 (.ref 169) (.ref 170) (.ref 171) 454
noncomputable def b173 (P : Params) : Obj := fn (d2 12 0) "FormatError.__init__" .none (vs "moduleyard.errors" 414) 172
noncomputable def b174 (P : Params) : Obj := ts 457 ["at", "what"]
noncomputable def e67 (P : Params) : DictEntry := en P "__doc__" 460 .none
noncomputable def b175 (P : Params) : Obj := di [e62 P, e64 P, e65 P, e66 P, e67 P] 2
noncomputable def b176 (P : Params) : Obj := ⟨(.type "type"), none, cl "FormatError" [(.ref 156)] [(.ref 176), (.ref 156), (.type "Exception"), (.type "BaseException"), (.type "object")] 175 "FormatError" true [] [] false none false, ⟨[(some (.ref 160)), none, (some (vs "FormatError" 436)), (some (vs "FormatError" 444)), (some (.builtin "Exception.__new__")), (some (.bool true))]⟩⟩
noncomputable def b177 (P : Params) : Obj := of "super" [(.ref 176), (.ref 176), (.ref 176)]
noncomputable def b178 (P : Params) : Obj := of "builtin_function_or_method" [(.builtin "object.__init_subclass__"), (.ref 176)]
noncomputable def e68 (P : Params) : DictEntry := en P "__name__" 165 (vs "moduleyard.layout" 526)
noncomputable def e69 (P : Params) : DictEntry := en P "ErrorList" 514 (.ref 216)
noncomputable def e70 (P : Params) : DictEntry := en P "key_of" 525 (.ref 227)
noncomputable def e71 (P : Params) : DictEntry := en P "param_words" 534 (.ref 234)
noncomputable def b3v7 (P : Params) : Obj := di [e68 P, e1 P, e2 P, e3 P, e4 P, e5 P, e6 P, e7 P, e8 P, e9 P, e10 P, e19 P, e28 P, e39 P, e40 P, e41 P, e53 P, e54 P, e61 P, e69 P, e70 P, e71 P] 22
noncomputable def b12v7 (P : Params) : Obj := fr [1, 0, 20, 5, 0, 27, 20, 0, 48, 37, 0, 69, 50, 0, 97, 78, 0, 131, 93, 0, 138, 114, 0, 145, 123, 0, 152, 125, 0, 165, 130, 0, 184, 149, 0, 226, 155, 0, 233]
noncomputable def b179 (P : Params) : Obj := tu []
noncomputable def b180 (P : Params) : Obj := of "builtin_function_or_method" [(.builtin "type.__prepare__"), (.type "type")]
noncomputable def e72 (P : Params) : DictEntry := en P "__module__" 470 (vs "moduleyard.errors" 414)
noncomputable def e73 (P : Params) : DictEntry := en P "__qualname__" 472 (vs "ErrorList" 471)
noncomputable def e74 (P : Params) : DictEntry := en P "__firstlineno__" 474 (vi 130 473)
noncomputable def e75 (P : Params) : DictEntry := en P "__init__" 481 (.ref 192)
noncomputable def e76 (P : Params) : DictEntry := en P "mark" 490 (.ref 199)
noncomputable def e77 (P : Params) : DictEntry := en P "first" 497 (.ref 206)
noncomputable def e78 (P : Params) : DictEntry := en P "ok" 504 (.ref 213)
noncomputable def e79 (P : Params) : DictEntry := en P "__static_attributes__" 507 (.ref 214)
noncomputable def b181 (P : Params) : Obj := di [e72 P, e73 P, e74 P, e75 P, e76 P, e77 P, e78 P, e79 P] 8
noncomputable def b182 (P : Params) : Obj := tu []
noncomputable def b183 (P : Params) : Obj := fr [132, 4, 191, 136, 4, 198, 141, 4, 205, 146, 4, 212]
noncomputable def b184 (P : Params) : Obj := cdo "ErrorList" "ErrorList" 465 130 0 0 0 0 182 false 183 .none .none .none 468
noncomputable def b185 (P : Params) : Obj := ⟨(.type "frame"), none, .plain, ⟨[(some (.ref 184)), (some (.ref 3)), (some (.ref 181)), none, (some (vs "moduleyard.errors" 414)), none, (some (.ref 0))]⟩⟩
noncomputable def b186 (P : Params) : Obj := tu []
noncomputable def b187 (P : Params) : Obj := fr []
noncomputable def b188 (P : Params) : Obj := ts 478 ["self"]
noncomputable def b189 (P : Params) : Obj := tu []
noncomputable def b190 (P : Params) : Obj := tf (d2 13 0) "ErrorList.__init__"
noncomputable def b191 (P : Params) : Obj := cdo "__init__" "ErrorList.__init__" 475 132 1 0 0 3 186 true 187 (.ref 188) (.ref 189) (.ref 190) 479
noncomputable def b192 (P : Params) : Obj := fn (d2 13 0) "ErrorList.__init__" .none (vs "moduleyard.errors" 414) 191
noncomputable def b193 (P : Params) : Obj := tu []
noncomputable def b194 (P : Params) : Obj := fr []
noncomputable def b195 (P : Params) : Obj := ts 485 ["self", "place", "code"]
noncomputable def b196 (P : Params) : Obj := tu []
noncomputable def b197 (P : Params) : Obj := tf (d2 13 1) "ErrorList.mark"
noncomputable def b198 (P : Params) : Obj := cdo "mark" "ErrorList.mark" 482 136 3 0 0 3 193 true 194 (.ref 195) (.ref 196) (.ref 197) 488
noncomputable def b199 (P : Params) : Obj := fn (d2 13 1) "ErrorList.mark" .none (vs "moduleyard.errors" 414) 198
noncomputable def b200 (P : Params) : Obj := tu []
noncomputable def b201 (P : Params) : Obj := fr []
noncomputable def b202 (P : Params) : Obj := ts 494 ["self"]
noncomputable def b203 (P : Params) : Obj := tu []
noncomputable def b204 (P : Params) : Obj := tf (d2 13 2) "ErrorList.first"
noncomputable def b205 (P : Params) : Obj := cdo "first" "ErrorList.first" 491 141 1 0 0 3 200 true 201 (.ref 202) (.ref 203) (.ref 204) 495
noncomputable def b206 (P : Params) : Obj := fn (d2 13 2) "ErrorList.first" .none (vs "moduleyard.errors" 414) 205
noncomputable def b207 (P : Params) : Obj := tu []
noncomputable def b208 (P : Params) : Obj := fr []
noncomputable def b209 (P : Params) : Obj := ts 501 ["self"]
noncomputable def b210 (P : Params) : Obj := tu []
noncomputable def b211 (P : Params) : Obj := tf (d2 13 3) "ErrorList.ok"
noncomputable def b212 (P : Params) : Obj := cdo "ok" "ErrorList.ok" 498 146 1 0 0 3 207 true 208 (.ref 209) (.ref 210) (.ref 211) 502
noncomputable def b213 (P : Params) : Obj := fn (d2 13 3) "ErrorList.ok" .none (vs "moduleyard.errors" 414) 212
noncomputable def b214 (P : Params) : Obj := ts 505 ["places", "rows"]
noncomputable def e80 (P : Params) : DictEntry := en P "__dict__" 509 (.ref 217)
noncomputable def e81 (P : Params) : DictEntry := en P "__weakref__" 511 (.ref 218)
noncomputable def e82 (P : Params) : DictEntry := en P "__doc__" 512 .none
noncomputable def b215 (P : Params) : Obj := di [e72 P, e74 P, e75 P, e76 P, e77 P, e78 P, e79 P, e80 P, e81 P, e82 P] 4
noncomputable def b216 (P : Params) : Obj := ⟨(.type "type"), none, cl "ErrorList" [(.type "object")] [(.ref 216), (.type "object")] 215 "ErrorList" true [] [] false none false, ⟨[none, none, (some (vs "ErrorList" 463)), (some (vs "ErrorList" 471)), (some (.builtin "object.__new__")), (some (.bool true))]⟩⟩
noncomputable def b217 (P : Params) : Obj := of "getset_descriptor" [(vs "__dict__" 508), (.ref 216), (.builtin "function.__dict__"), (.builtin "function.__dict__#set")]
noncomputable def b218 (P : Params) : Obj := of "getset_descriptor" [(vs "__weakref__" 510), (.ref 216), (.builtin "ExceptionGroup.__weakref__"), .none]
noncomputable def b219 (P : Params) : Obj := of "super" [(.ref 216), (.ref 216), (.ref 216)]
noncomputable def b220 (P : Params) : Obj := of "builtin_function_or_method" [(.builtin "object.__init_subclass__"), (.ref 216)]
noncomputable def b221 (P : Params) : Obj := tu []
noncomputable def b222 (P : Params) : Obj := fr []
noncomputable def b223 (P : Params) : Obj := ts 520 ["data", "key", "value"]
noncomputable def b224 (P : Params) : Obj := tu []
noncomputable def b225 (P : Params) : Obj := tf (d1 15) "key_of"
noncomputable def b226 (P : Params) : Obj := cdo "key_of" "key_of" 517 149 1 0 0 3 221 true 222 (.ref 223) (.ref 224) (.ref 225) 523
noncomputable def b227 (P : Params) : Obj := fn (d1 15) "key_of" .none (vs "moduleyard.keys" 515) 226
noncomputable def b228 (P : Params) : Obj := tu []
noncomputable def b229 (P : Params) : Obj := fr []
noncomputable def b230 (P : Params) : Obj := ts 531 ["par"]
noncomputable def b231 (P : Params) : Obj := tu []
noncomputable def b232 (P : Params) : Obj := tf (d1 17) "param_words"
noncomputable def b233 (P : Params) : Obj := cdo "param_words" "param_words" 528 155 1 0 0 3 228 true 229 (.ref 230) (.ref 231) (.ref 232) 532
noncomputable def b234 (P : Params) : Obj := fn (d1 17) "param_words" .none (vs "moduleyard.layout" 526) 233
noncomputable def e83 (P : Params) : DictEntry := en P "__name__" 165 (vs "moduleyard.bytesio" 635)
noncomputable def e84 (P : Params) : DictEntry := en P "place_params" 544 (.ref 241)
noncomputable def e85 (P : Params) : DictEntry := en P "host_names" 552 (.ref 248)
noncomputable def e86 (P : Params) : DictEntry := en P "host_key" 561 (.ref 255)
noncomputable def e87 (P : Params) : DictEntry := en P "host_calls" 568 (.ref 262)
noncomputable def e88 (P : Params) : DictEntry := en P "parameter" 579 (.ref 270)
noncomputable def e89 (P : Params) : DictEntry := en P "open_text" 589 (.ref 277)
noncomputable def e90 (P : Params) : DictEntry := en P "host_params" 599 (.ref 284)
noncomputable def e91 (P : Params) : DictEntry := en P "host_proc" 612 (.ref 291)
noncomputable def e92 (P : Params) : DictEntry := en P "host_interface" 624 (.ref 298)
noncomputable def e93 (P : Params) : DictEntry := en P "system_interface" 634 (.ref 305)
noncomputable def e94 (P : Params) : DictEntry := en P "MOST_CODE" 638 (vi 1114111 637)
noncomputable def b3v8 (P : Params) : Obj := di [e83 P, e1 P, e2 P, e3 P, e4 P, e5 P, e6 P, e7 P, e8 P, e9 P, e10 P, e19 P, e28 P, e39 P, e40 P, e41 P, e53 P, e54 P, e61 P, e69 P, e70 P, e71 P, e84 P, e85 P, e86 P, e87 P, e88 P, e89 P, e90 P, e91 P, e92 P, e93 P, e94 P] 33
noncomputable def b12v8 (P : Params) : Obj := fr [1, 0, 20, 5, 0, 27, 20, 0, 48, 37, 0, 69, 50, 0, 97, 78, 0, 131, 93, 0, 138, 114, 0, 145, 123, 0, 152, 125, 0, 165, 130, 0, 184, 149, 0, 226, 155, 0, 233, 160, 0, 240, 169, 0, 247, 171, 0, 254, 178, 0, 261, 182, 0, 269, 187, 0, 276, 192, 0, 283, 203, 0, 290, 216, 0, 297, 223, 0, 304]
noncomputable def b235 (P : Params) : Obj := tu []
noncomputable def b236 (P : Params) : Obj := fr []
noncomputable def b237 (P : Params) : Obj := ts 538 ["params", "linked", "words", "slot"]
noncomputable def b238 (P : Params) : Obj := tu []
noncomputable def b239 (P : Params) : Obj := tf (d1 18) "place_params"
noncomputable def b240 (P : Params) : Obj := cdo "place_params" "place_params" 535 160 2 0 0 3 235 true 236 (.ref 237) (.ref 238) (.ref 239) 542
noncomputable def b241 (P : Params) : Obj := fn (d1 18) "place_params" .none (vs "moduleyard.layout" 526) 240
noncomputable def b242 (P : Params) : Obj := tu []
noncomputable def b243 (P : Params) : Obj := fr []
noncomputable def b244 (P : Params) : Obj := tu []
noncomputable def b245 (P : Params) : Obj := tu []
noncomputable def b246 (P : Params) : Obj := tf (d1 20) "host_names"
noncomputable def b247 (P : Params) : Obj := cdo "host_names" "host_names" 547 169 0 0 0 3 242 true 243 (.ref 244) (.ref 245) (.ref 246) 550
noncomputable def b248 (P : Params) : Obj := fn (d1 20) "host_names" .none (vs "moduleyard.stdmods" 545) 247
noncomputable def b249 (P : Params) : Obj := tu []
noncomputable def b250 (P : Params) : Obj := fr []
noncomputable def b251 (P : Params) : Obj := ts 556 ["name", "one", "key"]
noncomputable def b252 (P : Params) : Obj := tu []
noncomputable def b253 (P : Params) : Obj := tf (d1 21) "host_key"
noncomputable def b254 (P : Params) : Obj := cdo "host_key" "host_key" 553 171 1 0 0 3 249 true 250 (.ref 251) (.ref 252) (.ref 253) 559
noncomputable def b255 (P : Params) : Obj := fn (d1 21) "host_key" .none (vs "moduleyard.stdmods" 545) 254
noncomputable def b256 (P : Params) : Obj := tu []
noncomputable def b257 (P : Params) : Obj := fr []
noncomputable def b258 (P : Params) : Obj := ts 565 ["name"]
noncomputable def b259 (P : Params) : Obj := tu []
noncomputable def b260 (P : Params) : Obj := tf (d1 22) "host_calls"
noncomputable def b261 (P : Params) : Obj := cdo "host_calls" "host_calls" 562 178 1 0 0 3 256 true 257 (.ref 258) (.ref 259) (.ref 260) 566
noncomputable def b262 (P : Params) : Obj := fn (d1 22) "host_calls" .none (vs "moduleyard.stdmods" 545) 261
noncomputable def b263 (P : Params) : Obj := tu [(.bool false)]
noncomputable def b264 (P : Params) : Obj := tu []
noncomputable def b265 (P : Params) : Obj := fr []
noncomputable def b266 (P : Params) : Obj := ts 572 ["name", "kind", "t", "readonly", "par"]
noncomputable def b267 (P : Params) : Obj := tu []
noncomputable def b268 (P : Params) : Obj := tf (d1 23) "parameter"
noncomputable def b269 (P : Params) : Obj := cdo "parameter" "parameter" 569 182 4 0 0 3 264 true 265 (.ref 266) (.ref 267) (.ref 268) 577
noncomputable def b270 (P : Params) : Obj := fn (d1 23) "parameter" (.ref 263) (vs "moduleyard.stdmods" 545) 269
noncomputable def b271 (P : Params) : Obj := tu []
noncomputable def b272 (P : Params) : Obj := fr []
noncomputable def b273 (P : Params) : Obj := ts 583 ["types", "module", "label", "made"]
noncomputable def b274 (P : Params) : Obj := tu []
noncomputable def b275 (P : Params) : Obj := tf (d1 24) "open_text"
noncomputable def b276 (P : Params) : Obj := cdo "open_text" "open_text" 580 187 3 0 0 3 271 true 272 (.ref 273) (.ref 274) (.ref 275) 587
noncomputable def b277 (P : Params) : Obj := fn (d1 24) "open_text" .none (vs "moduleyard.stdmods" 545) 276
noncomputable def b278 (P : Params) : Obj := tu []
noncomputable def b279 (P : Params) : Obj := fr []
noncomputable def b280 (P : Params) : Obj := ts 593 ["types", "module", "name", "kind"]
noncomputable def b281 (P : Params) : Obj := tu []
noncomputable def b282 (P : Params) : Obj := tf (d1 25) "host_params"
noncomputable def b283 (P : Params) : Obj := cdo "host_params" "host_params" 590 192 3 0 0 3 278 true 279 (.ref 280) (.ref 281) (.ref 282) 597
noncomputable def b284 (P : Params) : Obj := fn (d1 25) "host_params" .none (vs "moduleyard.stdmods" 545) 283
noncomputable def b285 (P : Params) : Obj := tu []
noncomputable def b286 (P : Params) : Obj := fr []
noncomputable def b287 (P : Params) : Obj := ts 603 ["types", "module", "name", "number", "kind", "par", "obj"]
noncomputable def b288 (P : Params) : Obj := tu []
noncomputable def b289 (P : Params) : Obj := tf (d1 26) "host_proc"
noncomputable def b290 (P : Params) : Obj := cdo "host_proc" "host_proc" 600 203 4 0 0 3 285 true 286 (.ref 287) (.ref 288) (.ref 289) 610
noncomputable def b291 (P : Params) : Obj := fn (d1 26) "host_proc" .none (vs "moduleyard.stdmods" 545) 290
noncomputable def b292 (P : Params) : Obj := tu []
noncomputable def b293 (P : Params) : Obj := fr []
noncomputable def b294 (P : Params) : Obj := ts 616 ["types", "name", "made", "number", "proc", "call"]
noncomputable def b295 (P : Params) : Obj := tu []
noncomputable def b296 (P : Params) : Obj := tf (d1 27) "host_interface"
noncomputable def b297 (P : Params) : Obj := cdo "host_interface" "host_interface" 613 216 2 0 0 3 292 true 293 (.ref 294) (.ref 295) (.ref 296) 622
noncomputable def b298 (P : Params) : Obj := fn (d1 27) "host_interface" .none (vs "moduleyard.stdmods" 545) 297
noncomputable def b299 (P : Params) : Obj := tu []
noncomputable def b300 (P : Params) : Obj := fr []
noncomputable def b301 (P : Params) : Obj := ts 628 ["types", "made", "name", "obj"]
noncomputable def b302 (P : Params) : Obj := tu []
noncomputable def b303 (P : Params) : Obj := tf (d1 28) "system_interface"
noncomputable def b304 (P : Params) : Obj := cdo "system_interface" "system_interface" 625 223 1 0 0 3 299 true 300 (.ref 301) (.ref 302) (.ref 303) 632
noncomputable def b305 (P : Params) : Obj := fn (d1 28) "system_interface" .none (vs "moduleyard.stdmods" 545) 304
noncomputable def e95 (P : Params) : DictEntry := en P "ByteReader" 725 (.ref 369)
noncomputable def b3v9 (P : Params) : Obj := di [e83 P, e1 P, e2 P, e3 P, e4 P, e5 P, e6 P, e7 P, e8 P, e9 P, e10 P, e19 P, e28 P, e39 P, e40 P, e41 P, e53 P, e54 P, e61 P, e69 P, e70 P, e71 P, e84 P, e85 P, e86 P, e87 P, e88 P, e89 P, e90 P, e91 P, e92 P, e93 P, e94 P, e95 P] 34
noncomputable def b12v9 (P : Params) : Obj := fr [1, 0, 20, 5, 0, 27, 20, 0, 48, 37, 0, 69, 50, 0, 97, 78, 0, 131, 93, 0, 138, 114, 0, 145, 123, 0, 152, 125, 0, 165, 130, 0, 184, 149, 0, 226, 155, 0, 233, 160, 0, 240, 169, 0, 247, 171, 0, 254, 178, 0, 261, 182, 0, 269, 187, 0, 276, 192, 0, 283, 203, 0, 290, 216, 0, 297, 223, 0, 304, 234, 0, 311]
noncomputable def b306 (P : Params) : Obj := tu []
noncomputable def b307 (P : Params) : Obj := of "builtin_function_or_method" [(.builtin "type.__prepare__"), (.type "type")]
noncomputable def e96 (P : Params) : DictEntry := en P "__module__" 646 (vs "moduleyard.bytesio" 635)
noncomputable def e97 (P : Params) : DictEntry := en P "__qualname__" 648 (vs "ByteReader" 647)
noncomputable def e98 (P : Params) : DictEntry := en P "__firstlineno__" 650 (vi 234 649)
noncomputable def e99 (P : Params) : DictEntry := en P "__init__" 658 (.ref 319)
noncomputable def e100 (P : Params) : DictEntry := en P "fail" 666 (.ref 326)
noncomputable def e101 (P : Params) : DictEntry := en P "done" 673 (.ref 333)
noncomputable def e102 (P : Params) : DictEntry := en P "byte" 681 (.ref 340)
noncomputable def e103 (P : Params) : DictEntry := en P "number" 691 (.ref 347)
noncomputable def e104 (P : Params) : DictEntry := en P "count" 699 (.ref 354)
noncomputable def e105 (P : Params) : DictEntry := en P "text" 709 (.ref 361)
noncomputable def e106 (P : Params) : DictEntry := en P "numbers" 715 (.ref 366)
noncomputable def e107 (P : Params) : DictEntry := en P "__static_attributes__" 718 (.ref 367)
noncomputable def b308 (P : Params) : Obj := di [e96 P, e97 P, e98 P, e99 P, e100 P, e101 P, e102 P, e103 P, e104 P, e105 P, e106 P, e107 P] 12
noncomputable def b309 (P : Params) : Obj := tu []
noncomputable def b310 (P : Params) : Obj := fr [236, 4, 318, 240, 4, 325, 243, 4, 332, 246, 4, 339, 255, 4, 346, 270, 4, 353, 276, 4, 360, 285, 4, 365]
noncomputable def b311 (P : Params) : Obj := cdo "ByteReader" "ByteReader" 641 234 0 0 0 0 309 false 310 .none .none .none 644
noncomputable def b312 (P : Params) : Obj := ⟨(.type "frame"), none, .plain, ⟨[(some (.ref 311)), (some (.ref 3)), (some (.ref 308)), none, (some (vs "moduleyard.bytesio" 635)), none, (some (.ref 0))]⟩⟩
noncomputable def b313 (P : Params) : Obj := tu []
noncomputable def b314 (P : Params) : Obj := fr []
noncomputable def b315 (P : Params) : Obj := ts 654 ["self", "data"]
noncomputable def b316 (P : Params) : Obj := tu []
noncomputable def b317 (P : Params) : Obj := tf (d2 31 0) "ByteReader.__init__"
noncomputable def b318 (P : Params) : Obj := cdo "__init__" "ByteReader.__init__" 651 236 2 0 0 3 313 true 314 (.ref 315) (.ref 316) (.ref 317) 656
noncomputable def b319 (P : Params) : Obj := fn (d2 31 0) "ByteReader.__init__" .none (vs "moduleyard.bytesio" 635) 318
noncomputable def b320 (P : Params) : Obj := tu []
noncomputable def b321 (P : Params) : Obj := fr []
noncomputable def b322 (P : Params) : Obj := ts 662 ["self", "what"]
noncomputable def b323 (P : Params) : Obj := tu []
noncomputable def b324 (P : Params) : Obj := tf (d2 31 1) "ByteReader.fail"
noncomputable def b325 (P : Params) : Obj := cdo "fail" "ByteReader.fail" 659 240 2 0 0 3 320 true 321 (.ref 322) (.ref 323) (.ref 324) 664
noncomputable def b326 (P : Params) : Obj := fn (d2 31 1) "ByteReader.fail" .none (vs "moduleyard.bytesio" 635) 325
noncomputable def b327 (P : Params) : Obj := tu []
noncomputable def b328 (P : Params) : Obj := fr []
noncomputable def b329 (P : Params) : Obj := ts 670 ["self"]
noncomputable def b330 (P : Params) : Obj := tu []
noncomputable def b331 (P : Params) : Obj := tf (d2 31 2) "ByteReader.done"
noncomputable def b332 (P : Params) : Obj := cdo "done" "ByteReader.done" 667 243 1 0 0 3 327 true 328 (.ref 329) (.ref 330) (.ref 331) 671
noncomputable def b333 (P : Params) : Obj := fn (d2 31 2) "ByteReader.done" .none (vs "moduleyard.bytesio" 635) 332
noncomputable def b334 (P : Params) : Obj := tu []
noncomputable def b335 (P : Params) : Obj := fr []
noncomputable def b336 (P : Params) : Obj := ts 677 ["self", "value"]
noncomputable def b337 (P : Params) : Obj := tu []
noncomputable def b338 (P : Params) : Obj := tf (d2 31 3) "ByteReader.byte"
noncomputable def b339 (P : Params) : Obj := cdo "byte" "ByteReader.byte" 674 246 1 0 0 3 334 true 335 (.ref 336) (.ref 337) (.ref 338) 679
noncomputable def b340 (P : Params) : Obj := fn (d2 31 3) "ByteReader.byte" .none (vs "moduleyard.bytesio" 635) 339
noncomputable def b341 (P : Params) : Obj := tu []
noncomputable def b342 (P : Params) : Obj := fr []
noncomputable def b343 (P : Params) : Obj := ts 685 ["self", "total", "weight", "group"]
noncomputable def b344 (P : Params) : Obj := tu []
noncomputable def b345 (P : Params) : Obj := tf (d2 31 4) "ByteReader.number"
noncomputable def b346 (P : Params) : Obj := cdo "number" "ByteReader.number" 682 255 1 0 0 3 341 true 342 (.ref 343) (.ref 344) (.ref 345) 689
noncomputable def b347 (P : Params) : Obj := fn (d2 31 4) "ByteReader.number" .none (vs "moduleyard.bytesio" 635) 346
noncomputable def b348 (P : Params) : Obj := tu []
noncomputable def b349 (P : Params) : Obj := fr []
noncomputable def b350 (P : Params) : Obj := ts 695 ["self", "n"]
noncomputable def b351 (P : Params) : Obj := tu []
noncomputable def b352 (P : Params) : Obj := tf (d2 31 5) "ByteReader.count"
noncomputable def b353 (P : Params) : Obj := cdo "count" "ByteReader.count" 692 270 1 0 0 3 348 true 349 (.ref 350) (.ref 351) (.ref 352) 697
noncomputable def b354 (P : Params) : Obj := fn (d2 31 5) "ByteReader.count" .none (vs "moduleyard.bytesio" 635) 353
noncomputable def b355 (P : Params) : Obj := tu []
noncomputable def b356 (P : Params) : Obj := fr []
noncomputable def b357 (P : Params) : Obj := ts 703 ["self", "letters", "place", "code"]
noncomputable def b358 (P : Params) : Obj := tu []
noncomputable def b359 (P : Params) : Obj := tf (d2 31 6) "ByteReader.text"
noncomputable def b360 (P : Params) : Obj := cdo "text" "ByteReader.text" 700 276 1 0 0 3 355 true 356 (.ref 357) (.ref 358) (.ref 359) 707
noncomputable def b361 (P : Params) : Obj := fn (d2 31 6) "ByteReader.text" .none (vs "moduleyard.bytesio" 635) 360
noncomputable def b362 (P : Params) : Obj := tu []
noncomputable def b363 (P : Params) : Obj := fr []
noncomputable def b364 (P : Params) : Obj := tf (d2 31 7) "ByteReader.numbers"
noncomputable def b365 (P : Params) : Obj := cdo "numbers" "ByteReader.numbers" 710 285 1 0 0 3 362 true 363 .none .none (.ref 364) 713
noncomputable def b366 (P : Params) : Obj := fn (d2 31 7) "ByteReader.numbers" .none (vs "moduleyard.bytesio" 635) 365
noncomputable def b367 (P : Params) : Obj := ts 716 ["at", "data"]
noncomputable def e108 (P : Params) : DictEntry := en P "__dict__" 720 (.ref 370)
noncomputable def e109 (P : Params) : DictEntry := en P "__weakref__" 722 (.ref 371)
noncomputable def e110 (P : Params) : DictEntry := en P "__doc__" 723 .none
noncomputable def b368 (P : Params) : Obj := di [e96 P, e98 P, e99 P, e100 P, e101 P, e102 P, e103 P, e104 P, e105 P, e106 P, e107 P, e108 P, e109 P, e110 P] 4
noncomputable def b369 (P : Params) : Obj := ⟨(.type "type"), none, cl "ByteReader" [(.type "object")] [(.ref 369), (.type "object")] 368 "ByteReader" true [] [] false none false, ⟨[none, none, (some (vs "ByteReader" 639)), (some (vs "ByteReader" 647)), (some (.builtin "object.__new__")), (some (.bool true))]⟩⟩
noncomputable def b370 (P : Params) : Obj := of "getset_descriptor" [(vs "__dict__" 719), (.ref 369), (.builtin "function.__dict__"), (.builtin "function.__dict__#set")]
noncomputable def b371 (P : Params) : Obj := of "getset_descriptor" [(vs "__weakref__" 721), (.ref 369), (.builtin "ExceptionGroup.__weakref__"), .none]
noncomputable def b372 (P : Params) : Obj := of "super" [(.ref 369), (.ref 369), (.ref 369)]
noncomputable def b373 (P : Params) : Obj := of "builtin_function_or_method" [(.builtin "object.__init_subclass__"), (.ref 369)]
noncomputable def e111 (P : Params) : DictEntry := en P "__name__" 165 (vs "moduleyard.symparse" 742)
noncomputable def e112 (P : Params) : DictEntry := en P "FIRST_ROW" 729 (vi 7 728)
noncomputable def e113 (P : Params) : DictEntry := en P "row_forms" 735 (.ref 380)
noncomputable def e114 (P : Params) : DictEntry := en P "object_kinds" 741 (.ref 387)
noncomputable def e115 (P : Params) : DictEntry := en P "NIL_NUMBER" 745 (vi 5 744)
noncomputable def e116 (P : Params) : DictEntry := en P "SymbolRows" 777 (.ref 404)
noncomputable def e117 (P : Params) : DictEntry := en P "word_text" 785 (.ref 415)
noncomputable def e118 (P : Params) : DictEntry := en P "natural" 793 (.ref 422)
noncomputable def b3v10 (P : Params) : Obj := di [e111 P, e1 P, e2 P, e3 P, e4 P, e5 P, e6 P, e7 P, e8 P, e9 P, e10 P, e19 P, e28 P, e39 P, e40 P, e41 P, e53 P, e54 P, e61 P, e69 P, e70 P, e71 P, e84 P, e85 P, e86 P, e87 P, e88 P, e89 P, e90 P, e91 P, e92 P, e93 P, e94 P, e95 P, e112 P, e113 P, e114 P, e115 P, e116 P, e117 P, e118 P] 41
noncomputable def b12v10 (P : Params) : Obj := fr [1, 0, 20, 5, 0, 27, 20, 0, 48, 37, 0, 69, 50, 0, 97, 78, 0, 131, 93, 0, 138, 114, 0, 145, 123, 0, 152, 125, 0, 165, 130, 0, 184, 149, 0, 226, 155, 0, 233, 160, 0, 240, 169, 0, 247, 171, 0, 254, 178, 0, 261, 182, 0, 269, 187, 0, 276, 192, 0, 283, 203, 0, 290, 216, 0, 297, 223, 0, 304, 234, 0, 311, 289, 0, 379, 291, 0, 386, 295, 0, 393, 302, 0, 414, 307, 0, 421]
noncomputable def b374 (P : Params) : Obj := tu []
noncomputable def b375 (P : Params) : Obj := fr []
noncomputable def b376 (P : Params) : Obj := tu []
noncomputable def b377 (P : Params) : Obj := tu []
noncomputable def b378 (P : Params) : Obj := tf (d1 34) "row_forms"
noncomputable def b379 (P : Params) : Obj := cdo "row_forms" "row_forms" 730 289 0 0 0 3 374 true 375 (.ref 376) (.ref 377) (.ref 378) 733
noncomputable def b380 (P : Params) : Obj := fn (d1 34) "row_forms" .none (vs "moduleyard.symwrite" 726) 379
noncomputable def b381 (P : Params) : Obj := tu []
noncomputable def b382 (P : Params) : Obj := fr []
noncomputable def b383 (P : Params) : Obj := tu []
noncomputable def b384 (P : Params) : Obj := tu []
noncomputable def b385 (P : Params) : Obj := tf (d1 35) "object_kinds"
noncomputable def b386 (P : Params) : Obj := cdo "object_kinds" "object_kinds" 736 291 0 0 0 3 381 true 382 (.ref 383) (.ref 384) (.ref 385) 739
noncomputable def b387 (P : Params) : Obj := fn (d1 35) "object_kinds" .none (vs "moduleyard.symwrite" 726) 386
noncomputable def b388 (P : Params) : Obj := tu []
noncomputable def b389 (P : Params) : Obj := of "builtin_function_or_method" [(.builtin "type.__prepare__"), (.type "type")]
noncomputable def e119 (P : Params) : DictEntry := en P "__module__" 753 (vs "moduleyard.symparse" 742)
noncomputable def e120 (P : Params) : DictEntry := en P "__qualname__" 755 (vs "SymbolRows" 754)
noncomputable def e121 (P : Params) : DictEntry := en P "__firstlineno__" 757 (vi 295 756)
noncomputable def e122 (P : Params) : DictEntry := en P "__init__" 765 (.ref 401)
noncomputable def e123 (P : Params) : DictEntry := en P "__static_attributes__" 770 (.ref 402)
noncomputable def b390 (P : Params) : Obj := di [e119 P, e120 P, e121 P, e122 P, e123 P] 5
noncomputable def b391 (P : Params) : Obj := tu []
noncomputable def b392 (P : Params) : Obj := fr [297, 4, 400]
noncomputable def b393 (P : Params) : Obj := cdo "SymbolRows" "SymbolRows" 748 295 0 0 0 0 391 false 392 .none .none .none 751
noncomputable def b394 (P : Params) : Obj := ⟨(.type "frame"), none, .plain, ⟨[(some (.ref 393)), (some (.ref 3)), (some (.ref 390)), none, (some (vs "moduleyard.symparse" 742)), none, (some (.ref 0))]⟩⟩
noncomputable def b395 (P : Params) : Obj := tu []
noncomputable def b396 (P : Params) : Obj := fr []
noncomputable def b397 (P : Params) : Obj := ts 761 ["self", "name"]
noncomputable def b398 (P : Params) : Obj := tu []
noncomputable def b399 (P : Params) : Obj := tf (d2 38 0) "SymbolRows.__init__"
noncomputable def b400 (P : Params) : Obj := cdo "__init__" "SymbolRows.__init__" 758 297 2 0 0 3 395 true 396 (.ref 397) (.ref 398) (.ref 399) 763
noncomputable def b401 (P : Params) : Obj := fn (d2 38 0) "SymbolRows.__init__" .none (vs "moduleyard.symparse" 742) 400
noncomputable def b402 (P : Params) : Obj := ts 766 ["name", "objs", "others", "types"]
noncomputable def e124 (P : Params) : DictEntry := en P "__dict__" 772 (.ref 405)
noncomputable def e125 (P : Params) : DictEntry := en P "__weakref__" 774 (.ref 406)
noncomputable def e126 (P : Params) : DictEntry := en P "__doc__" 775 .none
noncomputable def b403 (P : Params) : Obj := di [e119 P, e121 P, e122 P, e123 P, e124 P, e125 P, e126 P] 4
noncomputable def b404 (P : Params) : Obj := ⟨(.type "type"), none, cl "SymbolRows" [(.type "object")] [(.ref 404), (.type "object")] 403 "SymbolRows" true [] [] false none false, ⟨[none, none, (some (vs "SymbolRows" 746)), (some (vs "SymbolRows" 754)), (some (.builtin "object.__new__")), (some (.bool true))]⟩⟩
noncomputable def b405 (P : Params) : Obj := of "getset_descriptor" [(vs "__dict__" 771), (.ref 404), (.builtin "function.__dict__"), (.builtin "function.__dict__#set")]
noncomputable def b406 (P : Params) : Obj := of "getset_descriptor" [(vs "__weakref__" 773), (.ref 404), (.builtin "ExceptionGroup.__weakref__"), .none]
noncomputable def b407 (P : Params) : Obj := of "super" [(.ref 404), (.ref 404), (.ref 404)]
noncomputable def b408 (P : Params) : Obj := of "builtin_function_or_method" [(.builtin "object.__init_subclass__"), (.ref 404)]
noncomputable def b409 (P : Params) : Obj := tu []
noncomputable def b410 (P : Params) : Obj := fr []
noncomputable def b411 (P : Params) : Obj := ts 781 ["reader", "s"]
noncomputable def b412 (P : Params) : Obj := tu []
noncomputable def b413 (P : Params) : Obj := tf (d1 39) "word_text"
noncomputable def b414 (P : Params) : Obj := cdo "word_text" "word_text" 778 302 1 0 0 3 409 true 410 (.ref 411) (.ref 412) (.ref 413) 783
noncomputable def b415 (P : Params) : Obj := fn (d1 39) "word_text" .none (vs "moduleyard.symparse" 742) 414
noncomputable def b416 (P : Params) : Obj := tu []
noncomputable def b417 (P : Params) : Obj := fr []
noncomputable def b418 (P : Params) : Obj := ts 789 ["reader", "n"]
noncomputable def b419 (P : Params) : Obj := tu []
noncomputable def b420 (P : Params) : Obj := tf (d1 40) "natural"
noncomputable def b421 (P : Params) : Obj := cdo "natural" "natural" 786 307 1 0 0 3 416 true 417 (.ref 418) (.ref 419) (.ref 420) 791
noncomputable def b422 (P : Params) : Obj := fn (d1 40) "natural" .none (vs "moduleyard.symparse" 742) 421
noncomputable def e127 (P : Params) : DictEntry := en P "__name__" 165 (vs "moduleyard.symread" 893)
noncomputable def e128 (P : Params) : DictEntry := en P "one_of" 802 (.ref 429)
noncomputable def e129 (P : Params) : DictEntry := en P "constant_value" 810 (.ref 436)
noncomputable def e130 (P : Params) : DictEntry := en P "object_row" 821 (.ref 443)
noncomputable def e131 (P : Params) : DictEntry := en P "record_row" 835 (.ref 450)
noncomputable def e132 (P : Params) : DictEntry := en P "proc_row" 847 (.ref 457)
noncomputable def e133 (P : Params) : DictEntry := en P "type_row" 860 (.ref 464)
noncomputable def e134 (P : Params) : DictEntry := en P "numbers_in" 866 (.ref 469)
noncomputable def e135 (P : Params) : DictEntry := en P "check_numbers" 877 (.ref 476)
noncomputable def e136 (P : Params) : DictEntry := en P "check_names" 886 (.ref 483)
noncomputable def e137 (P : Params) : DictEntry := en P "parse_symbols" 892 (.ref 488)
noncomputable def e138 (P : Params) : DictEntry := en P "LEAST_INTEGER" 897 (.int (.negSucc 2147483647) 896)
noncomputable def e139 (P : Params) : DictEntry := en P "MOST_INTEGER_symread" 899 (vi 2147483647 898)
noncomputable def e140 (P : Params) : DictEntry := en P "MOST_MASK" 901 (vi 4294967295 900)
noncomputable def b3v11 (P : Params) : Obj := di [e127 P, e1 P, e2 P, e3 P, e4 P, e5 P, e6 P, e7 P, e8 P, e9 P, e10 P, e19 P, e28 P, e39 P, e40 P, e41 P, e53 P, e54 P, e61 P, e69 P, e70 P, e71 P, e84 P, e85 P, e86 P, e87 P, e88 P, e89 P, e90 P, e91 P, e92 P, e93 P, e94 P, e95 P, e112 P, e113 P, e114 P, e115 P, e116 P, e117 P, e118 P, e128 P, e129 P, e130 P, e131 P, e132 P, e133 P, e134 P, e135 P, e136 P, e137 P, e138 P, e139 P, e140 P] 54
noncomputable def b12v11 (P : Params) : Obj := fr [1, 0, 20, 5, 0, 27, 20, 0, 48, 37, 0, 69, 50, 0, 97, 78, 0, 131, 93, 0, 138, 114, 0, 145, 123, 0, 152, 125, 0, 165, 130, 0, 184, 149, 0, 226, 155, 0, 233, 160, 0, 240, 169, 0, 247, 171, 0, 254, 178, 0, 261, 182, 0, 269, 187, 0, 276, 192, 0, 283, 203, 0, 290, 216, 0, 297, 223, 0, 304, 234, 0, 311, 289, 0, 379, 291, 0, 386, 295, 0, 393, 302, 0, 414, 307, 0, 421, 312, 0, 428, 317, 0, 435, 323, 0, 442, 333, 0, 449, 343, 0, 456, 351, 0, 463, 368, 0, 468, 380, 0, 475, 391, 0, 482, 397, 0, 487]
noncomputable def b423 (P : Params) : Obj := tu []
noncomputable def b424 (P : Params) : Obj := fr []
noncomputable def b425 (P : Params) : Obj := ts 797 ["reader", "row", "n"]
noncomputable def b426 (P : Params) : Obj := tu []
noncomputable def b427 (P : Params) : Obj := tf (d1 41) "one_of"
noncomputable def b428 (P : Params) : Obj := cdo "one_of" "one_of" 794 312 2 0 0 3 423 true 424 (.ref 425) (.ref 426) (.ref 427) 800
noncomputable def b429 (P : Params) : Obj := fn (d1 41) "one_of" .none (vs "moduleyard.symparse" 742) 428
noncomputable def b430 (P : Params) : Obj := tu []
noncomputable def b431 (P : Params) : Obj := fr []
noncomputable def b432 (P : Params) : Obj := ts 806 ["reader", "number"]
noncomputable def b433 (P : Params) : Obj := tu []
noncomputable def b434 (P : Params) : Obj := tf (d1 42) "constant_value"
noncomputable def b435 (P : Params) : Obj := cdo "constant_value" "constant_value" 803 317 2 0 0 3 430 true 431 (.ref 432) (.ref 433) (.ref 434) 808
noncomputable def b436 (P : Params) : Obj := fn (d1 42) "constant_value" .none (vs "moduleyard.symparse" 742) 435
noncomputable def b437 (P : Params) : Obj := tu []
noncomputable def b438 (P : Params) : Obj := fr []
noncomputable def b439 (P : Params) : Obj := ts 814 ["reader", "kind", "name", "number", "value"]
noncomputable def b440 (P : Params) : Obj := tu []
noncomputable def b441 (P : Params) : Obj := tf (d1 43) "object_row"
noncomputable def b442 (P : Params) : Obj := cdo "object_row" "object_row" 811 323 1 0 0 3 437 true 438 (.ref 439) (.ref 440) (.ref 441) 819
noncomputable def b443 (P : Params) : Obj := fn (d1 43) "object_row" .none (vs "moduleyard.symparse" 742) 442
noncomputable def b444 (P : Params) : Obj := tu []
noncomputable def b445 (P : Params) : Obj := fr []
noncomputable def b446 (P : Params) : Obj := ts 825 ["reader", "base", "level", "entry", "fields", "place", "name", "number"]
noncomputable def b447 (P : Params) : Obj := tu []
noncomputable def b448 (P : Params) : Obj := tf (d1 44) "record_row"
noncomputable def b449 (P : Params) : Obj := cdo "record_row" "record_row" 822 333 1 0 0 3 444 true 445 (.ref 446) (.ref 447) (.ref 448) 833
noncomputable def b450 (P : Params) : Obj := fn (d1 44) "record_row" .none (vs "moduleyard.symparse" 742) 449
noncomputable def b451 (P : Params) : Obj := tu []
noncomputable def b452 (P : Params) : Obj := fr []
noncomputable def b453 (P : Params) : Obj := ts 839 ["reader", "params", "place", "name", "by_reference", "readonly"]
noncomputable def b454 (P : Params) : Obj := tu []
noncomputable def b455 (P : Params) : Obj := tf (d1 45) "proc_row"
noncomputable def b456 (P : Params) : Obj := cdo "proc_row" "proc_row" 836 343 1 0 0 3 451 true 452 (.ref 453) (.ref 454) (.ref 455) 845
noncomputable def b457 (P : Params) : Obj := fn (d1 45) "proc_row" .none (vs "moduleyard.symparse" 742) 456
noncomputable def b458 (P : Params) : Obj := tu []
noncomputable def b459 (P : Params) : Obj := fr []
noncomputable def b460 (P : Params) : Obj := ts 851 ["reader", "form", "module", "label", "size", "length", "rest"]
noncomputable def b461 (P : Params) : Obj := tu []
noncomputable def b462 (P : Params) : Obj := tf (d1 46) "type_row"
noncomputable def b463 (P : Params) : Obj := cdo "type_row" "type_row" 848 351 1 0 0 3 458 true 459 (.ref 460) (.ref 461) (.ref 462) 858
noncomputable def b464 (P : Params) : Obj := fn (d1 46) "type_row" .none (vs "moduleyard.symparse" 742) 463
noncomputable def b465 (P : Params) : Obj := tu []
noncomputable def b466 (P : Params) : Obj := fr []
noncomputable def b467 (P : Params) : Obj := tf (d1 47) "numbers_in"
noncomputable def b468 (P : Params) : Obj := cdo "numbers_in" "numbers_in" 861 368 1 0 0 3 465 true 466 .none .none (.ref 467) 864
noncomputable def b469 (P : Params) : Obj := fn (d1 47) "numbers_in" .none (vs "moduleyard.symparse" 742) 468
noncomputable def b470 (P : Params) : Obj := tu []
noncomputable def b471 (P : Params) : Obj := fr []
noncomputable def b472 (P : Params) : Obj := ts 870 ["found", "most", "obj", "row", "number"]
noncomputable def b473 (P : Params) : Obj := tu []
noncomputable def b474 (P : Params) : Obj := tf (d1 48) "check_numbers"
noncomputable def b475 (P : Params) : Obj := cdo "check_numbers" "check_numbers" 867 380 1 0 0 3 470 true 471 (.ref 472) (.ref 473) (.ref 474) 875
noncomputable def b476 (P : Params) : Obj := fn (d1 48) "check_numbers" .none (vs "moduleyard.symparse" 742) 475
noncomputable def b477 (P : Params) : Obj := tu []
noncomputable def b478 (P : Params) : Obj := fr []
noncomputable def b479 (P : Params) : Obj := ts 881 ["names", "seen", "name"]
noncomputable def b480 (P : Params) : Obj := tu []
noncomputable def b481 (P : Params) : Obj := tf (d1 49) "check_names"
noncomputable def b482 (P : Params) : Obj := cdo "check_names" "check_names" 878 391 1 0 0 3 477 true 478 (.ref 479) (.ref 480) (.ref 481) 884
noncomputable def b483 (P : Params) : Obj := fn (d1 49) "check_names" .none (vs "moduleyard.symparse" 742) 482
noncomputable def b484 (P : Params) : Obj := tu []
noncomputable def b485 (P : Params) : Obj := fr []
noncomputable def b486 (P : Params) : Obj := tf (d1 50) "parse_symbols"
noncomputable def b487 (P : Params) : Obj := cdo "parse_symbols" "parse_symbols" 887 397 1 0 0 3 484 true 485 .none .none (.ref 486) 890
noncomputable def b488 (P : Params) : Obj := fn (d1 50) "parse_symbols" .none (vs "moduleyard.symparse" 742) 487
noncomputable def e141 (P : Params) : DictEntry := en P "SymbolBuilder" 967 (.ref 526)
noncomputable def e142 (P : Params) : DictEntry := en P "fill_record" 985 (.ref 537)
noncomputable def b3v12 (P : Params) : Obj := di [e127 P, e1 P, e2 P, e3 P, e4 P, e5 P, e6 P, e7 P, e8 P, e9 P, e10 P, e19 P, e28 P, e39 P, e40 P, e41 P, e53 P, e54 P, e61 P, e69 P, e70 P, e71 P, e84 P, e85 P, e86 P, e87 P, e88 P, e89 P, e90 P, e91 P, e92 P, e93 P, e94 P, e95 P, e112 P, e113 P, e114 P, e115 P, e116 P, e117 P, e118 P, e128 P, e129 P, e130 P, e131 P, e132 P, e133 P, e134 P, e135 P, e136 P, e137 P, e138 P, e139 P, e140 P, e141 P, e142 P] 56
noncomputable def b12v12 (P : Params) : Obj := fr [1, 0, 20, 5, 0, 27, 20, 0, 48, 37, 0, 69, 50, 0, 97, 78, 0, 131, 93, 0, 138, 114, 0, 145, 123, 0, 152, 125, 0, 165, 130, 0, 184, 149, 0, 226, 155, 0, 233, 160, 0, 240, 169, 0, 247, 171, 0, 254, 178, 0, 261, 182, 0, 269, 187, 0, 276, 192, 0, 283, 203, 0, 290, 216, 0, 297, 223, 0, 304, 234, 0, 311, 289, 0, 379, 291, 0, 386, 295, 0, 393, 302, 0, 414, 307, 0, 421, 312, 0, 428, 317, 0, 435, 323, 0, 442, 333, 0, 449, 343, 0, 456, 351, 0, 463, 368, 0, 468, 380, 0, 475, 391, 0, 482, 397, 0, 487, 417, 0, 494, 453, 0, 536]
noncomputable def b489 (P : Params) : Obj := tu []
noncomputable def b490 (P : Params) : Obj := of "builtin_function_or_method" [(.builtin "type.__prepare__"), (.type "type")]
noncomputable def e143 (P : Params) : DictEntry := en P "__module__" 909 (vs "moduleyard.symread" 893)
noncomputable def e144 (P : Params) : DictEntry := en P "__qualname__" 911 (vs "SymbolBuilder" 910)
noncomputable def e145 (P : Params) : DictEntry := en P "__firstlineno__" 913 (vi 417 912)
noncomputable def e146 (P : Params) : DictEntry := en P "__init__" 922 (.ref 502)
noncomputable def e147 (P : Params) : DictEntry := en P "module_name" 930 (.ref 509)
noncomputable def e148 (P : Params) : DictEntry := en P "start" 946 (.ref 516)
noncomputable def e149 (P : Params) : DictEntry := en P "forget" 954 (.ref 523)
noncomputable def e150 (P : Params) : DictEntry := en P "__static_attributes__" 960 (.ref 524)
noncomputable def b491 (P : Params) : Obj := di [e143 P, e144 P, e145 P, e146 P, e147 P, e148 P, e149 P, e150 P] 8
noncomputable def b492 (P : Params) : Obj := tu []
noncomputable def b493 (P : Params) : Obj := fr [419, 4, 501, 426, 4, 508, 431, 4, 515, 450, 4, 522]
noncomputable def b494 (P : Params) : Obj := cdo "SymbolBuilder" "SymbolBuilder" 904 417 0 0 0 0 492 false 493 .none .none .none 907
noncomputable def b495 (P : Params) : Obj := ⟨(.type "frame"), none, .plain, ⟨[(some (.ref 494)), (some (.ref 3)), (some (.ref 491)), none, (some (vs "moduleyard.symread" 893)), none, (some (.ref 0))]⟩⟩
noncomputable def b496 (P : Params) : Obj := tu []
noncomputable def b497 (P : Params) : Obj := fr []
noncomputable def b498 (P : Params) : Obj := ts 917 ["self", "rows", "types"]
noncomputable def b499 (P : Params) : Obj := tu []
noncomputable def b500 (P : Params) : Obj := tf (d2 55 0) "SymbolBuilder.__init__"
noncomputable def b501 (P : Params) : Obj := cdo "__init__" "SymbolBuilder.__init__" 914 419 3 0 0 3 496 true 497 (.ref 498) (.ref 499) (.ref 500) 920
noncomputable def b502 (P : Params) : Obj := fn (d2 55 0) "SymbolBuilder.__init__" .none (vs "moduleyard.symread" 893) 501
noncomputable def b503 (P : Params) : Obj := tu []
noncomputable def b504 (P : Params) : Obj := fr []
noncomputable def b505 (P : Params) : Obj := ts 926 ["self", "number"]
noncomputable def b506 (P : Params) : Obj := tu []
noncomputable def b507 (P : Params) : Obj := tf (d2 55 1) "SymbolBuilder.module_name"
noncomputable def b508 (P : Params) : Obj := cdo "module_name" "SymbolBuilder.module_name" 923 426 2 0 0 3 503 true 504 (.ref 505) (.ref 506) (.ref 507) 928
noncomputable def b509 (P : Params) : Obj := fn (d2 55 1) "SymbolBuilder.module_name" .none (vs "moduleyard.symread" 893) 508
noncomputable def b510 (P : Params) : Obj := tu []
noncomputable def b511 (P : Params) : Obj := fr []
noncomputable def b512 (P : Params) : Obj := ts 934 ["self", "row", "form", "module", "label", "size", "rest", "name", "known", "made"]
noncomputable def b513 (P : Params) : Obj := tu []
noncomputable def b514 (P : Params) : Obj := tf (d2 55 2) "SymbolBuilder.start"
noncomputable def b515 (P : Params) : Obj := cdo "start" "SymbolBuilder.start" 931 431 1 0 0 3 510 true 511 (.ref 512) (.ref 513) (.ref 514) 944
noncomputable def b516 (P : Params) : Obj := fn (d2 55 2) "SymbolBuilder.start" .none (vs "moduleyard.symread" 893) 515
noncomputable def b517 (P : Params) : Obj := tu []
noncomputable def b518 (P : Params) : Obj := fr []
noncomputable def b519 (P : Params) : Obj := ts 950 ["self", "key"]
noncomputable def b520 (P : Params) : Obj := tu []
noncomputable def b521 (P : Params) : Obj := tf (d2 55 3) "SymbolBuilder.forget"
noncomputable def b522 (P : Params) : Obj := cdo "forget" "SymbolBuilder.forget" 947 450 1 0 0 3 517 true 518 (.ref 519) (.ref 520) (.ref 521) 952
noncomputable def b523 (P : Params) : Obj := fn (d2 55 3) "SymbolBuilder.forget" .none (vs "moduleyard.symread" 893) 522
noncomputable def b524 (P : Params) : Obj := ts 955 ["fresh", "labels", "rows", "table", "types"]
noncomputable def e151 (P : Params) : DictEntry := en P "__dict__" 962 (.ref 527)
noncomputable def e152 (P : Params) : DictEntry := en P "__weakref__" 964 (.ref 528)
noncomputable def e153 (P : Params) : DictEntry := en P "__doc__" 965 .none
noncomputable def b525 (P : Params) : Obj := di [e143 P, e145 P, e146 P, e147 P, e148 P, e149 P, e150 P, e151 P, e152 P, e153 P] 4
noncomputable def b526 (P : Params) : Obj := ⟨(.type "type"), none, cl "SymbolBuilder" [(.type "object")] [(.ref 526), (.type "object")] 525 "SymbolBuilder" true [] [] false none false, ⟨[none, none, (some (vs "SymbolBuilder" 902)), (some (vs "SymbolBuilder" 910)), (some (.builtin "object.__new__")), (some (.bool true))]⟩⟩
noncomputable def b527 (P : Params) : Obj := of "getset_descriptor" [(vs "__dict__" 961), (.ref 526), (.builtin "function.__dict__"), (.builtin "function.__dict__#set")]
noncomputable def b528 (P : Params) : Obj := of "getset_descriptor" [(vs "__weakref__" 963), (.ref 526), (.builtin "ExceptionGroup.__weakref__"), .none]
noncomputable def b529 (P : Params) : Obj := of "super" [(.ref 526), (.ref 526), (.ref 526)]
noncomputable def b530 (P : Params) : Obj := of "builtin_function_or_method" [(.builtin "object.__init_subclass__"), (.ref 526)]
noncomputable def b531 (P : Params) : Obj := tu []
noncomputable def b532 (P : Params) : Obj := fr []
noncomputable def b533 (P : Params) : Obj := ts 971 ["t", "rest", "table", "base", "level", "entry", "fields", "hidden", "name", "number", "offset", "field"]
noncomputable def b534 (P : Params) : Obj := tu []
noncomputable def b535 (P : Params) : Obj := tf (d1 56) "fill_record"
noncomputable def b536 (P : Params) : Obj := cdo "fill_record" "fill_record" 968 453 3 0 0 3 531 true 532 (.ref 533) (.ref 534) (.ref 535) 983
noncomputable def b537 (P : Params) : Obj := fn (d1 56) "fill_record" .none (vs "moduleyard.symread" 893) 536
noncomputable def e154 (P : Params) : DictEntry := en P "fill_proc" 1001 (.ref 544)
noncomputable def e155 (P : Params) : DictEntry := en P "fill" 1011 (.ref 551)
noncomputable def e156 (P : Params) : DictEntry := en P "fill_symread" 1012 (.ref 551)
noncomputable def e157 (P : Params) : DictEntry := en P "refuse" 1019 (.ref 558)
noncomputable def e158 (P : Params) : DictEntry := en P "is_element" 1026 (.ref 565)
noncomputable def e159 (P : Params) : DictEntry := en P "check_record" 1035 (.ref 572)
noncomputable def e160 (P : Params) : DictEntry := en P "check_type" 1043 (.ref 579)
noncomputable def e161 (P : Params) : DictEntry := en P "parts_of" 1049 (.ref 584)
noncomputable def e162 (P : Params) : DictEntry := en P "check_nesting" 1062 (.ref 591)
noncomputable def e163 (P : Params) : DictEntry := en P "value_fits" 1070 (.ref 598)
noncomputable def e164 (P : Params) : DictEntry := en P "check_object" 1079 (.ref 605)
noncomputable def e165 (P : Params) : DictEntry := en P "made_object" 1093 (.ref 612)
noncomputable def e166 (P : Params) : DictEntry := en P "build" 1106 (.ref 619)
noncomputable def b3v13 (P : Params) : Obj := di [e127 P, e1 P, e2 P, e3 P, e4 P, e5 P, e6 P, e7 P, e8 P, e9 P, e10 P, e19 P, e28 P, e39 P, e40 P, e41 P, e53 P, e54 P, e61 P, e69 P, e70 P, e71 P, e84 P, e85 P, e86 P, e87 P, e88 P, e89 P, e90 P, e91 P, e92 P, e93 P, e94 P, e95 P, e112 P, e113 P, e114 P, e115 P, e116 P, e117 P, e118 P, e128 P, e129 P, e130 P, e131 P, e132 P, e133 P, e134 P, e135 P, e136 P, e137 P, e138 P, e139 P, e140 P, e141 P, e142 P, e154 P, e155 P, e156 P, e157 P, e158 P, e159 P, e160 P, e161 P, e162 P, e163 P, e164 P, e165 P, e166 P] 69
noncomputable def b12v13 (P : Params) : Obj := fr [1, 0, 20, 5, 0, 27, 20, 0, 48, 37, 0, 69, 50, 0, 97, 78, 0, 131, 93, 0, 138, 114, 0, 145, 123, 0, 152, 125, 0, 165, 130, 0, 184, 149, 0, 226, 155, 0, 233, 160, 0, 240, 169, 0, 247, 171, 0, 254, 178, 0, 261, 182, 0, 269, 187, 0, 276, 192, 0, 283, 203, 0, 290, 216, 0, 297, 223, 0, 304, 234, 0, 311, 289, 0, 379, 291, 0, 386, 295, 0, 393, 302, 0, 414, 307, 0, 421, 312, 0, 428, 317, 0, 435, 323, 0, 442, 333, 0, 449, 343, 0, 456, 351, 0, 463, 368, 0, 468, 380, 0, 475, 391, 0, 482, 397, 0, 487, 417, 0, 494, 453, 0, 536, 465, 0, 543, 474, 0, 550, 486, 0, 557, 488, 0, 564, 490, 0, 571, 501, 0, 578, 516, 0, 583, 525, 0, 590, 540, 0, 597, 552, 0, 604, 564, 0, 611, 580, 0, 618]
noncomputable def b538 (P : Params) : Obj := tu []
noncomputable def b539 (P : Params) : Obj := fr []
noncomputable def b540 (P : Params) : Obj := ts 989 ["t", "rest", "table", "params", "result", "name", "by_reference", "readonly", "number", "par"]
noncomputable def b541 (P : Params) : Obj := tu []
noncomputable def b542 (P : Params) : Obj := tf (d1 57) "fill_proc"
noncomputable def b543 (P : Params) : Obj := cdo "fill_proc" "fill_proc" 986 465 3 0 0 3 538 true 539 (.ref 540) (.ref 541) (.ref 542) 999
noncomputable def b544 (P : Params) : Obj := fn (d1 57) "fill_proc" .none (vs "moduleyard.symread" 893) 543
noncomputable def b545 (P : Params) : Obj := tu []
noncomputable def b546 (P : Params) : Obj := fr []
noncomputable def b547 (P : Params) : Obj := ts 1005 ["t", "row", "table", "rest"]
noncomputable def b548 (P : Params) : Obj := tu []
noncomputable def b549 (P : Params) : Obj := tf (d1 58) "fill"
noncomputable def b550 (P : Params) : Obj := cdo "fill" "fill" 1002 474 3 0 0 3 545 true 546 (.ref 547) (.ref 548) (.ref 549) 1009
noncomputable def b551 (P : Params) : Obj := fn (d1 58) "fill" .none (vs "moduleyard.symread" 893) 550
noncomputable def b552 (P : Params) : Obj := tu []
noncomputable def b553 (P : Params) : Obj := fr []
noncomputable def b554 (P : Params) : Obj := ts 1016 ["what"]
noncomputable def b555 (P : Params) : Obj := tu []
noncomputable def b556 (P : Params) : Obj := tf (d1 60) "refuse"
noncomputable def b557 (P : Params) : Obj := cdo "refuse" "refuse" 1013 486 1 0 0 3 552 true 553 (.ref 554) (.ref 555) (.ref 556) 1017
noncomputable def b558 (P : Params) : Obj := fn (d1 60) "refuse" .none (vs "moduleyard.symread" 893) 557
noncomputable def b559 (P : Params) : Obj := tu []
noncomputable def b560 (P : Params) : Obj := fr []
noncomputable def b561 (P : Params) : Obj := ts 1023 ["t"]
noncomputable def b562 (P : Params) : Obj := tu []
noncomputable def b563 (P : Params) : Obj := tf (d1 61) "is_element"
noncomputable def b564 (P : Params) : Obj := cdo "is_element" "is_element" 1020 488 1 0 0 3 559 true 560 (.ref 561) (.ref 562) (.ref 563) 1024
noncomputable def b565 (P : Params) : Obj := fn (d1 61) "is_element" .none (vs "moduleyard.symread" 893) 564
noncomputable def b566 (P : Params) : Obj := tu []
noncomputable def b567 (P : Params) : Obj := fr []
noncomputable def b568 (P : Params) : Obj := ts 1030 ["t", "offset", "field"]
noncomputable def b569 (P : Params) : Obj := tu []
noncomputable def b570 (P : Params) : Obj := tf (d1 62) "check_record"
noncomputable def b571 (P : Params) : Obj := cdo "check_record" "check_record" 1027 490 1 0 0 3 566 true 567 (.ref 568) (.ref 569) (.ref 570) 1033
noncomputable def b572 (P : Params) : Obj := fn (d1 62) "check_record" .none (vs "moduleyard.symread" 893) 571
noncomputable def b573 (P : Params) : Obj := tu []
noncomputable def b574 (P : Params) : Obj := fr []
noncomputable def b575 (P : Params) : Obj := ts 1039 ["t", "par"]
noncomputable def b576 (P : Params) : Obj := tu []
noncomputable def b577 (P : Params) : Obj := tf (d1 63) "check_type"
noncomputable def b578 (P : Params) : Obj := cdo "check_type" "check_type" 1036 501 1 0 0 3 573 true 574 (.ref 575) (.ref 576) (.ref 577) 1041
noncomputable def b579 (P : Params) : Obj := fn (d1 63) "check_type" .none (vs "moduleyard.symread" 893) 578
noncomputable def b580 (P : Params) : Obj := tu []
noncomputable def b581 (P : Params) : Obj := fr []
noncomputable def b582 (P : Params) : Obj := tf (d1 64) "parts_of"
noncomputable def b583 (P : Params) : Obj := cdo "parts_of" "parts_of" 1044 516 1 0 0 3 580 true 581 .none .none (.ref 582) 1047
noncomputable def b584 (P : Params) : Obj := fn (d1 64) "parts_of" .none (vs "moduleyard.symread" 893) 583
noncomputable def b585 (P : Params) : Obj := tu []
noncomputable def b586 (P : Params) : Obj := fr []
noncomputable def b587 (P : Params) : Obj := ts 1053 ["made", "state", "first", "waiting", "t", "entering", "part"]
noncomputable def b588 (P : Params) : Obj := tu []
noncomputable def b589 (P : Params) : Obj := tf (d1 65) "check_nesting"
noncomputable def b590 (P : Params) : Obj := cdo "check_nesting" "check_nesting" 1050 525 1 0 0 3 585 true 586 (.ref 587) (.ref 588) (.ref 589) 1060
noncomputable def b591 (P : Params) : Obj := fn (d1 65) "check_nesting" .none (vs "moduleyard.symread" 893) 590
noncomputable def b592 (P : Params) : Obj := tu []
noncomputable def b593 (P : Params) : Obj := fr []
noncomputable def b594 (P : Params) : Obj := ts 1066 ["t", "value"]
noncomputable def b595 (P : Params) : Obj := tu []
noncomputable def b596 (P : Params) : Obj := tf (d1 66) "value_fits"
noncomputable def b597 (P : Params) : Obj := cdo "value_fits" "value_fits" 1063 540 2 0 0 3 592 true 593 (.ref 594) (.ref 595) (.ref 596) 1068
noncomputable def b598 (P : Params) : Obj := fn (d1 66) "value_fits" .none (vs "moduleyard.symread" 893) 597
noncomputable def b599 (P : Params) : Obj := tu []
noncomputable def b600 (P : Params) : Obj := fr []
noncomputable def b601 (P : Params) : Obj := ts 1074 ["obj", "entry", "t"]
noncomputable def b602 (P : Params) : Obj := tu []
noncomputable def b603 (P : Params) : Obj := tf (d1 67) "check_object"
noncomputable def b604 (P : Params) : Obj := cdo "check_object" "check_object" 1071 552 2 0 0 3 599 true 600 (.ref 601) (.ref 602) (.ref 603) 1077
noncomputable def b605 (P : Params) : Obj := fn (d1 67) "check_object" .none (vs "moduleyard.symread" 893) 604
noncomputable def b606 (P : Params) : Obj := tu []
noncomputable def b607 (P : Params) : Obj := fr []
noncomputable def b608 (P : Params) : Obj := ts 1083 ["row", "module", "table", "kind", "name", "number", "value", "obj"]
noncomputable def b609 (P : Params) : Obj := tu []
noncomputable def b610 (P : Params) : Obj := tf (d1 68) "made_object"
noncomputable def b611 (P : Params) : Obj := cdo "made_object" "made_object" 1080 564 3 0 0 3 606 true 607 (.ref 608) (.ref 609) (.ref 610) 1091
noncomputable def b612 (P : Params) : Obj := fn (d1 68) "made_object" .none (vs "moduleyard.symread" 893) 611
noncomputable def b613 (P : Params) : Obj := tu []
noncomputable def b614 (P : Params) : Obj := fr []
noncomputable def b615 (P : Params) : Obj := ts 1097 ["builder", "interface", "rows", "made", "place", "t", "row"]
noncomputable def b616 (P : Params) : Obj := tu []
noncomputable def b617 (P : Params) : Obj := tf (d1 69) "build"
noncomputable def b618 (P : Params) : Obj := cdo "build" "build" 1094 580 2 0 0 3 613 true 614 (.ref 615) (.ref 616) (.ref 617) 1104
noncomputable def b619 (P : Params) : Obj := fn (d1 69) "build" .none (vs "moduleyard.symread" 893) 618
noncomputable def e167 (P : Params) : DictEntry := en P "__name__" 165 (vs "moduleyard.scanner" 1188)
noncomputable def e168 (P : Params) : DictEntry := en P "check_keys" 1116 (.ref 626)
noncomputable def e169 (P : Params) : DictEntry := en P "read_symbols" 1129 (.ref 633)
noncomputable def e170 (P : Params) : DictEntry := en P "Importer" 1187 (.ref 664)
noncomputable def e171 (P : Params) : DictEntry := en P "MOST_INTEGER_scanner" 1191 (vi 2147483647 1190)
noncomputable def e172 (P : Params) : DictEntry := en P "MOST_WORD" 1193 (vi 4294967295 1192)
noncomputable def b3v14 (P : Params) : Obj := di [e167 P, e1 P, e2 P, e3 P, e4 P, e5 P, e6 P, e7 P, e8 P, e9 P, e10 P, e19 P, e28 P, e39 P, e40 P, e41 P, e53 P, e54 P, e61 P, e69 P, e70 P, e71 P, e84 P, e85 P, e86 P, e87 P, e88 P, e89 P, e90 P, e91 P, e92 P, e93 P, e94 P, e95 P, e112 P, e113 P, e114 P, e115 P, e116 P, e117 P, e118 P, e128 P, e129 P, e130 P, e131 P, e132 P, e133 P, e134 P, e135 P, e136 P, e137 P, e138 P, e139 P, e140 P, e141 P, e142 P, e154 P, e155 P, e156 P, e157 P, e158 P, e159 P, e160 P, e161 P, e162 P, e163 P, e164 P, e165 P, e166 P, e168 P, e169 P, e170 P, e171 P, e172 P] 74
noncomputable def b12v14 (P : Params) : Obj := fr [1, 0, 20, 5, 0, 27, 20, 0, 48, 37, 0, 69, 50, 0, 97, 78, 0, 131, 93, 0, 138, 114, 0, 145, 123, 0, 152, 125, 0, 165, 130, 0, 184, 149, 0, 226, 155, 0, 233, 160, 0, 240, 169, 0, 247, 171, 0, 254, 178, 0, 261, 182, 0, 269, 187, 0, 276, 192, 0, 283, 203, 0, 290, 216, 0, 297, 223, 0, 304, 234, 0, 311, 289, 0, 379, 291, 0, 386, 295, 0, 393, 302, 0, 414, 307, 0, 421, 312, 0, 428, 317, 0, 435, 323, 0, 442, 333, 0, 449, 343, 0, 456, 351, 0, 463, 368, 0, 468, 380, 0, 475, 391, 0, 482, 397, 0, 487, 417, 0, 494, 453, 0, 536, 465, 0, 543, 474, 0, 550, 486, 0, 557, 488, 0, 564, 490, 0, 571, 501, 0, 578, 516, 0, 583, 525, 0, 590, 540, 0, 597, 552, 0, 604, 564, 0, 611, 580, 0, 618, 596, 0, 625, 600, 0, 632, 613, 0, 639]
noncomputable def b620 (P : Params) : Obj := tu []
noncomputable def b621 (P : Params) : Obj := fr []
noncomputable def b622 (P : Params) : Obj := ts 1110 ["rows", "keys", "name", "key"]
noncomputable def b623 (P : Params) : Obj := tu []
noncomputable def b624 (P : Params) : Obj := tf (d1 70) "check_keys"
noncomputable def b625 (P : Params) : Obj := cdo "check_keys" "check_keys" 1107 596 2 0 0 3 620 true 621 (.ref 622) (.ref 623) (.ref 624) 1114
noncomputable def b626 (P : Params) : Obj := fn (d1 70) "check_keys" .none (vs "moduleyard.symread" 893) 625
noncomputable def b627 (P : Params) : Obj := tu []
noncomputable def b628 (P : Params) : Obj := fr []
noncomputable def b629 (P : Params) : Obj := ts 1120 ["data", "types", "keys", "rows", "interface", "builder", "fault"]
noncomputable def b630 (P : Params) : Obj := tu []
noncomputable def b631 (P : Params) : Obj := tf (d1 71) "read_symbols"
noncomputable def b632 (P : Params) : Obj := cdo "read_symbols" "read_symbols" 1117 600 3 0 0 3 627 true 628 (.ref 629) (.ref 630) (.ref 631) 1127
noncomputable def b633 (P : Params) : Obj := fn (d1 71) "read_symbols" .none (vs "moduleyard.symread" 893) 632
noncomputable def b634 (P : Params) : Obj := tu []
noncomputable def b635 (P : Params) : Obj := of "builtin_function_or_method" [(.builtin "type.__prepare__"), (.type "type")]
noncomputable def e173 (P : Params) : DictEntry := en P "__module__" 1139 (vs "moduleyard.importer" 1130)
noncomputable def e174 (P : Params) : DictEntry := en P "__qualname__" 1141 (vs "Importer" 1140)
noncomputable def e175 (P : Params) : DictEntry := en P "__firstlineno__" 1143 (vi 613 1142)
noncomputable def e176 (P : Params) : DictEntry := en P "__init__" 1152 (.ref 647)
noncomputable def e177 (P : Params) : DictEntry := en P "interface" 1162 (.ref 654)
noncomputable def e178 (P : Params) : DictEntry := en P "read" 1175 (.ref 661)
noncomputable def e179 (P : Params) : DictEntry := en P "__static_attributes__" 1180 (.ref 662)
noncomputable def b636 (P : Params) : Obj := di [e173 P, e174 P, e175 P, e176 P, e177 P, e178 P, e179 P] 7
noncomputable def b637 (P : Params) : Obj := tu []
noncomputable def b638 (P : Params) : Obj := fr [615, 4, 646, 621, 4, 653, 629, 4, 660]
noncomputable def b639 (P : Params) : Obj := cdo "Importer" "Importer" 1134 613 0 0 0 0 637 false 638 .none .none .none 1137
noncomputable def b640 (P : Params) : Obj := ⟨(.type "frame"), none, .plain, ⟨[(some (.ref 639)), (some (.ref 3)), (some (.ref 636)), none, (some (vs "moduleyard.importer" 1130)), none, (some (.ref 0))]⟩⟩
noncomputable def b641 (P : Params) : Obj := tu []
noncomputable def b642 (P : Params) : Obj := fr []
noncomputable def b643 (P : Params) : Obj := ts 1147 ["self", "types", "library"]
noncomputable def b644 (P : Params) : Obj := tu []
noncomputable def b645 (P : Params) : Obj := tf (d2 73 0) "Importer.__init__"
noncomputable def b646 (P : Params) : Obj := cdo "__init__" "Importer.__init__" 1144 615 3 0 0 3 641 true 642 (.ref 643) (.ref 644) (.ref 645) 1150
noncomputable def b647 (P : Params) : Obj := fn (d2 73 0) "Importer.__init__" .none (vs "moduleyard.importer" 1130) 646
noncomputable def b648 (P : Params) : Obj := tu []
noncomputable def b649 (P : Params) : Obj := fr []
noncomputable def b650 (P : Params) : Obj := ts 1156 ["self", "name", "found", "code"]
noncomputable def b651 (P : Params) : Obj := tu []
noncomputable def b652 (P : Params) : Obj := tf (d2 73 1) "Importer.interface"
noncomputable def b653 (P : Params) : Obj := cdo "interface" "Importer.interface" 1153 621 2 0 0 3 648 true 649 (.ref 650) (.ref 651) (.ref 652) 1160
noncomputable def b654 (P : Params) : Obj := fn (d2 73 1) "Importer.interface" .none (vs "moduleyard.importer" 1130) 653
noncomputable def b655 (P : Params) : Obj := tu []
noncomputable def b656 (P : Params) : Obj := fr []
noncomputable def b657 (P : Params) : Obj := ts 1166 ["self", "name", "found", "data", "key", "other", "other_key"]
noncomputable def b658 (P : Params) : Obj := tu []
noncomputable def b659 (P : Params) : Obj := tf (d2 73 2) "Importer.read"
noncomputable def b660 (P : Params) : Obj := cdo "read" "Importer.read" 1163 629 2 0 0 3 655 true 656 (.ref 657) (.ref 658) (.ref 659) 1173
noncomputable def b661 (P : Params) : Obj := fn (d2 73 2) "Importer.read" .none (vs "moduleyard.importer" 1130) 660
noncomputable def b662 (P : Params) : Obj := ts 1176 ["interfaces", "keys", "library", "types"]
noncomputable def e180 (P : Params) : DictEntry := en P "__dict__" 1182 (.ref 665)
noncomputable def e181 (P : Params) : DictEntry := en P "__weakref__" 1184 (.ref 666)
noncomputable def e182 (P : Params) : DictEntry := en P "__doc__" 1185 .none
noncomputable def b663 (P : Params) : Obj := di [e173 P, e175 P, e176 P, e177 P, e178 P, e179 P, e180 P, e181 P, e182 P] 4
noncomputable def b664 (P : Params) : Obj := ⟨(.type "type"), none, cl "Importer" [(.type "object")] [(.ref 664), (.type "object")] 663 "Importer" true [] [] false none false, ⟨[none, none, (some (vs "Importer" 1132)), (some (vs "Importer" 1140)), (some (.builtin "object.__new__")), (some (.bool true))]⟩⟩
noncomputable def b665 (P : Params) : Obj := of "getset_descriptor" [(vs "__dict__" 1181), (.ref 664), (.builtin "function.__dict__"), (.builtin "function.__dict__#set")]
noncomputable def b666 (P : Params) : Obj := of "getset_descriptor" [(vs "__weakref__" 1183), (.ref 664), (.builtin "ExceptionGroup.__weakref__"), .none]
noncomputable def b667 (P : Params) : Obj := of "super" [(.ref 664), (.ref 664), (.ref 664)]
noncomputable def b668 (P : Params) : Obj := of "builtin_function_or_method" [(.builtin "object.__init_subclass__"), (.ref 664)]
noncomputable def e183 (P : Params) : DictEntry := en P "Token" 1226 (.ref 685)
noncomputable def e184 (P : Params) : DictEntry := en P "keywords" 1232 (.ref 696)
noncomputable def e185 (P : Params) : DictEntry := en P "is_letter" 1239 (.ref 703)
noncomputable def e186 (P : Params) : DictEntry := en P "is_digit" 1246 (.ref 710)
noncomputable def e187 (P : Params) : DictEntry := en P "is_hex_digit" 1253 (.ref 717)
noncomputable def e188 (P : Params) : DictEntry := en P "digits_value" 1264 (.ref 724)
noncomputable def b3v15 (P : Params) : Obj := di [e167 P, e1 P, e2 P, e3 P, e4 P, e5 P, e6 P, e7 P, e8 P, e9 P, e10 P, e19 P, e28 P, e39 P, e40 P, e41 P, e53 P, e54 P, e61 P, e69 P, e70 P, e71 P, e84 P, e85 P, e86 P, e87 P, e88 P, e89 P, e90 P, e91 P, e92 P, e93 P, e94 P, e95 P, e112 P, e113 P, e114 P, e115 P, e116 P, e117 P, e118 P, e128 P, e129 P, e130 P, e131 P, e132 P, e133 P, e134 P, e135 P, e136 P, e137 P, e138 P, e139 P, e140 P, e141 P, e142 P, e154 P, e155 P, e156 P, e157 P, e158 P, e159 P, e160 P, e161 P, e162 P, e163 P, e164 P, e165 P, e166 P, e168 P, e169 P, e170 P, e171 P, e172 P, e183 P, e184 P, e185 P, e186 P, e187 P, e188 P] 80
noncomputable def b12v15 (P : Params) : Obj := fr [1, 0, 20, 5, 0, 27, 20, 0, 48, 37, 0, 69, 50, 0, 97, 78, 0, 131, 93, 0, 138, 114, 0, 145, 123, 0, 152, 125, 0, 165, 130, 0, 184, 149, 0, 226, 155, 0, 233, 160, 0, 240, 169, 0, 247, 171, 0, 254, 178, 0, 261, 182, 0, 269, 187, 0, 276, 192, 0, 283, 203, 0, 290, 216, 0, 297, 223, 0, 304, 234, 0, 311, 289, 0, 379, 291, 0, 386, 295, 0, 393, 302, 0, 414, 307, 0, 421, 312, 0, 428, 317, 0, 435, 323, 0, 442, 333, 0, 449, 343, 0, 456, 351, 0, 463, 368, 0, 468, 380, 0, 475, 391, 0, 482, 397, 0, 487, 417, 0, 494, 453, 0, 536, 465, 0, 543, 474, 0, 550, 486, 0, 557, 488, 0, 564, 490, 0, 571, 501, 0, 578, 516, 0, 583, 525, 0, 590, 540, 0, 597, 552, 0, 604, 564, 0, 611, 580, 0, 618, 596, 0, 625, 600, 0, 632, 613, 0, 639, 655, 0, 674, 661, 0, 695, 663, 0, 702, 665, 0, 709, 667, 0, 716, 669, 0, 723]
noncomputable def b669 (P : Params) : Obj := tu []
noncomputable def b670 (P : Params) : Obj := of "builtin_function_or_method" [(.builtin "type.__prepare__"), (.type "type")]
noncomputable def e189 (P : Params) : DictEntry := en P "__module__" 1201 (vs "moduleyard.scanner" 1188)
noncomputable def e190 (P : Params) : DictEntry := en P "__qualname__" 1203 (vs "Token" 1202)
noncomputable def e191 (P : Params) : DictEntry := en P "__firstlineno__" 1205 (vi 655 1204)
noncomputable def e192 (P : Params) : DictEntry := en P "__init__" 1215 (.ref 682)
noncomputable def e193 (P : Params) : DictEntry := en P "__static_attributes__" 1219 (.ref 683)
noncomputable def b671 (P : Params) : Obj := di [e189 P, e190 P, e191 P, e192 P, e193 P] 5
noncomputable def b672 (P : Params) : Obj := tu []
noncomputable def b673 (P : Params) : Obj := fr [657, 4, 681]
noncomputable def b674 (P : Params) : Obj := cdo "Token" "Token" 1196 655 0 0 0 0 672 false 673 .none .none .none 1199
noncomputable def b675 (P : Params) : Obj := ⟨(.type "frame"), none, .plain, ⟨[(some (.ref 674)), (some (.ref 3)), (some (.ref 671)), none, (some (vs "moduleyard.scanner" 1188)), none, (some (.ref 0))]⟩⟩
noncomputable def b676 (P : Params) : Obj := tu []
noncomputable def b677 (P : Params) : Obj := fr []
noncomputable def b678 (P : Params) : Obj := ts 1209 ["self", "kind", "value", "place"]
noncomputable def b679 (P : Params) : Obj := tu []
noncomputable def b680 (P : Params) : Obj := tf (d2 77 0) "Token.__init__"
noncomputable def b681 (P : Params) : Obj := cdo "__init__" "Token.__init__" 1206 657 4 0 0 3 676 true 677 (.ref 678) (.ref 679) (.ref 680) 1213
noncomputable def b682 (P : Params) : Obj := fn (d2 77 0) "Token.__init__" .none (vs "moduleyard.scanner" 1188) 681
noncomputable def b683 (P : Params) : Obj := ts 1216 ["kind", "place", "value"]
noncomputable def e194 (P : Params) : DictEntry := en P "__dict__" 1221 (.ref 686)
noncomputable def e195 (P : Params) : DictEntry := en P "__weakref__" 1223 (.ref 687)
noncomputable def e196 (P : Params) : DictEntry := en P "__doc__" 1224 .none
noncomputable def b684 (P : Params) : Obj := di [e189 P, e191 P, e192 P, e193 P, e194 P, e195 P, e196 P] 4
noncomputable def b685 (P : Params) : Obj := ⟨(.type "type"), none, cl "Token" [(.type "object")] [(.ref 685), (.type "object")] 684 "Token" true [] [] false none false, ⟨[none, none, (some (vs "Token" 1194)), (some (vs "Token" 1202)), (some (.builtin "object.__new__")), (some (.bool true))]⟩⟩
noncomputable def b686 (P : Params) : Obj := of "getset_descriptor" [(vs "__dict__" 1220), (.ref 685), (.builtin "function.__dict__"), (.builtin "function.__dict__#set")]
noncomputable def b687 (P : Params) : Obj := of "getset_descriptor" [(vs "__weakref__" 1222), (.ref 685), (.builtin "ExceptionGroup.__weakref__"), .none]
noncomputable def b688 (P : Params) : Obj := of "super" [(.ref 685), (.ref 685), (.ref 685)]
noncomputable def b689 (P : Params) : Obj := of "builtin_function_or_method" [(.builtin "object.__init_subclass__"), (.ref 685)]
noncomputable def b690 (P : Params) : Obj := tu []
noncomputable def b691 (P : Params) : Obj := fr []
noncomputable def b692 (P : Params) : Obj := tu []
noncomputable def b693 (P : Params) : Obj := tu []
noncomputable def b694 (P : Params) : Obj := tf (d1 78) "keywords"
noncomputable def b695 (P : Params) : Obj := cdo "keywords" "keywords" 1227 661 0 0 0 3 690 true 691 (.ref 692) (.ref 693) (.ref 694) 1230
noncomputable def b696 (P : Params) : Obj := fn (d1 78) "keywords" .none (vs "moduleyard.scanner" 1188) 695
noncomputable def b697 (P : Params) : Obj := tu []
noncomputable def b698 (P : Params) : Obj := fr []
noncomputable def b699 (P : Params) : Obj := ts 1236 ["char"]
noncomputable def b700 (P : Params) : Obj := tu []
noncomputable def b701 (P : Params) : Obj := tf (d1 79) "is_letter"
noncomputable def b702 (P : Params) : Obj := cdo "is_letter" "is_letter" 1233 663 1 0 0 3 697 true 698 (.ref 699) (.ref 700) (.ref 701) 1237
noncomputable def b703 (P : Params) : Obj := fn (d1 79) "is_letter" .none (vs "moduleyard.scanner" 1188) 702
noncomputable def b704 (P : Params) : Obj := tu []
noncomputable def b705 (P : Params) : Obj := fr []
noncomputable def b706 (P : Params) : Obj := ts 1243 ["char"]
noncomputable def b707 (P : Params) : Obj := tu []
noncomputable def b708 (P : Params) : Obj := tf (d1 80) "is_digit"
noncomputable def b709 (P : Params) : Obj := cdo "is_digit" "is_digit" 1240 665 1 0 0 3 704 true 705 (.ref 706) (.ref 707) (.ref 708) 1244
noncomputable def b710 (P : Params) : Obj := fn (d1 80) "is_digit" .none (vs "moduleyard.scanner" 1188) 709
noncomputable def b711 (P : Params) : Obj := tu []
noncomputable def b712 (P : Params) : Obj := fr []
noncomputable def b713 (P : Params) : Obj := ts 1250 ["char"]
noncomputable def b714 (P : Params) : Obj := tu []
noncomputable def b715 (P : Params) : Obj := tf (d1 81) "is_hex_digit"
noncomputable def b716 (P : Params) : Obj := cdo "is_hex_digit" "is_hex_digit" 1247 667 1 0 0 3 711 true 712 (.ref 713) (.ref 714) (.ref 715) 1251
noncomputable def b717 (P : Params) : Obj := fn (d1 81) "is_hex_digit" .none (vs "moduleyard.scanner" 1188) 716
noncomputable def b718 (P : Params) : Obj := tu []
noncomputable def b719 (P : Params) : Obj := fr []
noncomputable def b720 (P : Params) : Obj := ts 1257 ["digits", "base", "most", "value", "digit"]
noncomputable def b721 (P : Params) : Obj := tu []
noncomputable def b722 (P : Params) : Obj := tf (d1 82) "digits_value"
noncomputable def b723 (P : Params) : Obj := cdo "digits_value" "digits_value" 1254 669 3 0 0 3 718 true 719 (.ref 720) (.ref 721) (.ref 722) 1262
noncomputable def b724 (P : Params) : Obj := fn (d1 82) "digits_value" .none (vs "moduleyard.scanner" 1188) 723
noncomputable def e197 (P : Params) : DictEntry := en P "Scanner" 1420 (.ref 833)
noncomputable def b3v16 (P : Params) : Obj := di [e167 P, e1 P, e2 P, e3 P, e4 P, e5 P, e6 P, e7 P, e8 P, e9 P, e10 P, e19 P, e28 P, e39 P, e40 P, e41 P, e53 P, e54 P, e61 P, e69 P, e70 P, e71 P, e84 P, e85 P, e86 P, e87 P, e88 P, e89 P, e90 P, e91 P, e92 P, e93 P, e94 P, e95 P, e112 P, e113 P, e114 P, e115 P, e116 P, e117 P, e118 P, e128 P, e129 P, e130 P, e131 P, e132 P, e133 P, e134 P, e135 P, e136 P, e137 P, e138 P, e139 P, e140 P, e141 P, e142 P, e154 P, e155 P, e156 P, e157 P, e158 P, e159 P, e160 P, e161 P, e162 P, e163 P, e164 P, e165 P, e166 P, e168 P, e169 P, e170 P, e171 P, e172 P, e183 P, e184 P, e185 P, e186 P, e187 P, e188 P, e197 P] 81
noncomputable def b12v16 (P : Params) : Obj := fr [1, 0, 20, 5, 0, 27, 20, 0, 48, 37, 0, 69, 50, 0, 97, 78, 0, 131, 93, 0, 138, 114, 0, 145, 123, 0, 152, 125, 0, 165, 130, 0, 184, 149, 0, 226, 155, 0, 233, 160, 0, 240, 169, 0, 247, 171, 0, 254, 178, 0, 261, 182, 0, 269, 187, 0, 276, 192, 0, 283, 203, 0, 290, 216, 0, 297, 223, 0, 304, 234, 0, 311, 289, 0, 379, 291, 0, 386, 295, 0, 393, 302, 0, 414, 307, 0, 421, 312, 0, 428, 317, 0, 435, 323, 0, 442, 333, 0, 449, 343, 0, 456, 351, 0, 463, 368, 0, 468, 380, 0, 475, 391, 0, 482, 397, 0, 487, 417, 0, 494, 453, 0, 536, 465, 0, 543, 474, 0, 550, 486, 0, 557, 488, 0, 564, 490, 0, 571, 501, 0, 578, 516, 0, 583, 525, 0, 590, 540, 0, 597, 552, 0, 604, 564, 0, 611, 580, 0, 618, 596, 0, 625, 600, 0, 632, 613, 0, 639, 655, 0, 674, 661, 0, 695, 663, 0, 702, 665, 0, 709, 667, 0, 716, 669, 0, 723, 676, 0, 730]
noncomputable def b725 (P : Params) : Obj := tu []
noncomputable def b726 (P : Params) : Obj := of "builtin_function_or_method" [(.builtin "type.__prepare__"), (.type "type")]
noncomputable def e198 (P : Params) : DictEntry := en P "__module__" 1272 (vs "moduleyard.scanner" 1188)
noncomputable def e199 (P : Params) : DictEntry := en P "__qualname__" 1274 (vs "Scanner" 1273)
noncomputable def e200 (P : Params) : DictEntry := en P "__firstlineno__" 1276 (vi 676 1275)
noncomputable def e201 (P : Params) : DictEntry := en P "__init__" 1285 (.ref 738)
noncomputable def e202 (P : Params) : DictEntry := en P "char" 1294 (.ref 746)
noncomputable def e203 (P : Params) : DictEntry := en P "take" 1304 (.ref 753)
noncomputable def e204 (P : Params) : DictEntry := en P "skip" 1312 (.ref 760)
noncomputable def e205 (P : Params) : DictEntry := en P "remark" 1322 (.ref 767)
noncomputable def e206 (P : Params) : DictEntry := en P "word" 1332 (.ref 774)
noncomputable def e207 (P : Params) : DictEntry := en P "numeral" 1344 (.ref 781)
noncomputable def e208 (P : Params) : DictEntry := en P "whole" 1354 (.ref 788)
noncomputable def e209 (P : Params) : DictEntry := en P "hexadecimal" 1364 (.ref 795)
noncomputable def e210 (P : Params) : DictEntry := en P "character" 1374 (.ref 802)
noncomputable def e211 (P : Params) : DictEntry := en P "real" 1383 (.ref 809)
noncomputable def e212 (P : Params) : DictEntry := en P "skip_digits" 1390 (.ref 816)
noncomputable def e213 (P : Params) : DictEntry := en P "string" 1400 (.ref 823)
noncomputable def e214 (P : Params) : DictEntry := en P "symbol" 1408 (.ref 830)
noncomputable def e215 (P : Params) : DictEntry := en P "__static_attributes__" 1413 (.ref 831)
noncomputable def b727 (P : Params) : Obj := di [e198 P, e199 P, e200 P, e201 P, e202 P, e203 P, e204 P, e205 P, e206 P, e207 P, e208 P, e209 P, e210 P, e211 P, e212 P, e213 P, e214 P, e215 P] 18
noncomputable def b728 (P : Params) : Obj := tu []
noncomputable def b729 (P : Params) : Obj := fr [678, 4, 737, 684, 4, 745, 687, 4, 752, 707, 4, 759, 717, 4, 766, 735, 4, 773, 745, 4, 780, 765, 4, 787, 771, 4, 794, 777, 4, 801, 784, 4, 808, 797, 4, 815, 801, 4, 822, 817, 4, 829]
noncomputable def b730 (P : Params) : Obj := cdo "Scanner" "Scanner" 1267 676 0 0 0 0 728 false 729 .none .none .none 1270
noncomputable def b731 (P : Params) : Obj := ⟨(.type "frame"), none, .plain, ⟨[(some (.ref 730)), (some (.ref 3)), (some (.ref 727)), none, (some (vs "moduleyard.scanner" 1188)), none, (some (.ref 0))]⟩⟩
noncomputable def b732 (P : Params) : Obj := tu []
noncomputable def b733 (P : Params) : Obj := fr []
noncomputable def b734 (P : Params) : Obj := ts 1280 ["self", "source", "errors"]
noncomputable def b735 (P : Params) : Obj := tu []
noncomputable def b736 (P : Params) : Obj := tf (d2 83 0) "Scanner.__init__"
noncomputable def b737 (P : Params) : Obj := cdo "__init__" "Scanner.__init__" 1277 678 3 0 0 3 732 true 733 (.ref 734) (.ref 735) (.ref 736) 1283
noncomputable def b738 (P : Params) : Obj := fn (d2 83 0) "Scanner.__init__" .none (vs "moduleyard.scanner" 1188) 737
noncomputable def b739 (P : Params) : Obj := tu [(vi 0 1286)]
noncomputable def b740 (P : Params) : Obj := tu []
noncomputable def b741 (P : Params) : Obj := fr []
noncomputable def b742 (P : Params) : Obj := ts 1290 ["self", "ahead"]
noncomputable def b743 (P : Params) : Obj := tu []
noncomputable def b744 (P : Params) : Obj := tf (d2 83 1) "Scanner.char"
noncomputable def b745 (P : Params) : Obj := cdo "char" "Scanner.char" 1287 684 2 0 0 3 740 true 741 (.ref 742) (.ref 743) (.ref 744) 1292
noncomputable def b746 (P : Params) : Obj := fn (d2 83 1) "Scanner.char" (.ref 739) (vs "moduleyard.scanner" 1188) 745
noncomputable def b747 (P : Params) : Obj := tu []
noncomputable def b748 (P : Params) : Obj := fr []
noncomputable def b749 (P : Params) : Obj := ts 1298 ["self", "begun", "char", "symbol"]
noncomputable def b750 (P : Params) : Obj := tu []
noncomputable def b751 (P : Params) : Obj := tf (d2 83 2) "Scanner.take"
noncomputable def b752 (P : Params) : Obj := cdo "take" "Scanner.take" 1295 687 1 0 0 3 747 true 748 (.ref 749) (.ref 750) (.ref 751) 1302
noncomputable def b753 (P : Params) : Obj := fn (d2 83 2) "Scanner.take" .none (vs "moduleyard.scanner" 1188) 752
noncomputable def b754 (P : Params) : Obj := tu []
noncomputable def b755 (P : Params) : Obj := fr []
noncomputable def b756 (P : Params) : Obj := ts 1308 ["self", "char"]
noncomputable def b757 (P : Params) : Obj := tu []
noncomputable def b758 (P : Params) : Obj := tf (d2 83 3) "Scanner.skip"
noncomputable def b759 (P : Params) : Obj := cdo "skip" "Scanner.skip" 1305 707 1 0 0 3 754 true 755 (.ref 756) (.ref 757) (.ref 758) 1310
noncomputable def b760 (P : Params) : Obj := fn (d2 83 3) "Scanner.skip" .none (vs "moduleyard.scanner" 1188) 759
noncomputable def b761 (P : Params) : Obj := tu []
noncomputable def b762 (P : Params) : Obj := fr []
noncomputable def b763 (P : Params) : Obj := ts 1316 ["self", "begun", "depth", "pair"]
noncomputable def b764 (P : Params) : Obj := tu []
noncomputable def b765 (P : Params) : Obj := tf (d2 83 4) "Scanner.remark"
noncomputable def b766 (P : Params) : Obj := cdo "remark" "Scanner.remark" 1313 717 1 0 0 3 761 true 762 (.ref 763) (.ref 764) (.ref 765) 1320
noncomputable def b767 (P : Params) : Obj := fn (d2 83 4) "Scanner.remark" .none (vs "moduleyard.scanner" 1188) 766
noncomputable def b768 (P : Params) : Obj := tu []
noncomputable def b769 (P : Params) : Obj := fr []
noncomputable def b770 (P : Params) : Obj := ts 1326 ["self", "begun", "end", "name"]
noncomputable def b771 (P : Params) : Obj := tu []
noncomputable def b772 (P : Params) : Obj := tf (d2 83 5) "Scanner.word"
noncomputable def b773 (P : Params) : Obj := cdo "word" "Scanner.word" 1323 735 2 0 0 3 768 true 769 (.ref 770) (.ref 771) (.ref 772) 1330
noncomputable def b774 (P : Params) : Obj := fn (d2 83 5) "Scanner.word" .none (vs "moduleyard.scanner" 1188) 773
noncomputable def b775 (P : Params) : Obj := tu []
noncomputable def b776 (P : Params) : Obj := fr []
noncomputable def b777 (P : Params) : Obj := ts 1336 ["self", "begun", "end", "digits", "ending", "value"]
noncomputable def b778 (P : Params) : Obj := tu []
noncomputable def b779 (P : Params) : Obj := tf (d2 83 6) "Scanner.numeral"
noncomputable def b780 (P : Params) : Obj := cdo "numeral" "Scanner.numeral" 1333 745 2 0 0 3 775 true 776 (.ref 777) (.ref 778) (.ref 779) 1342
noncomputable def b781 (P : Params) : Obj := fn (d2 83 6) "Scanner.numeral" .none (vs "moduleyard.scanner" 1188) 780
noncomputable def b782 (P : Params) : Obj := tu []
noncomputable def b783 (P : Params) : Obj := fr []
noncomputable def b784 (P : Params) : Obj := ts 1348 ["self", "begun", "value", "most"]
noncomputable def b785 (P : Params) : Obj := tu []
noncomputable def b786 (P : Params) : Obj := tf (d2 83 7) "Scanner.whole"
noncomputable def b787 (P : Params) : Obj := cdo "whole" "Scanner.whole" 1345 765 4 0 0 3 782 true 783 (.ref 784) (.ref 785) (.ref 786) 1352
noncomputable def b788 (P : Params) : Obj := fn (d2 83 7) "Scanner.whole" .none (vs "moduleyard.scanner" 1188) 787
noncomputable def b789 (P : Params) : Obj := tu []
noncomputable def b790 (P : Params) : Obj := fr []
noncomputable def b791 (P : Params) : Obj := ts 1358 ["self", "begun", "digits", "token"]
noncomputable def b792 (P : Params) : Obj := tu []
noncomputable def b793 (P : Params) : Obj := tf (d2 83 8) "Scanner.hexadecimal"
noncomputable def b794 (P : Params) : Obj := cdo "hexadecimal" "Scanner.hexadecimal" 1355 771 3 0 0 3 789 true 790 (.ref 791) (.ref 792) (.ref 793) 1362
noncomputable def b795 (P : Params) : Obj := fn (d2 83 8) "Scanner.hexadecimal" .none (vs "moduleyard.scanner" 1188) 794
noncomputable def b796 (P : Params) : Obj := tu []
noncomputable def b797 (P : Params) : Obj := fr []
noncomputable def b798 (P : Params) : Obj := ts 1368 ["self", "begun", "digits", "value"]
noncomputable def b799 (P : Params) : Obj := tu []
noncomputable def b800 (P : Params) : Obj := tf (d2 83 9) "Scanner.character"
noncomputable def b801 (P : Params) : Obj := cdo "character" "Scanner.character" 1365 777 3 0 0 3 796 true 797 (.ref 798) (.ref 799) (.ref 800) 1372
noncomputable def b802 (P : Params) : Obj := fn (d2 83 9) "Scanner.character" .none (vs "moduleyard.scanner" 1188) 801
noncomputable def b803 (P : Params) : Obj := tu []
noncomputable def b804 (P : Params) : Obj := fr []
noncomputable def b805 (P : Params) : Obj := ts 1378 ["self", "begun", "sign"]
noncomputable def b806 (P : Params) : Obj := tu []
noncomputable def b807 (P : Params) : Obj := tf (d2 83 10) "Scanner.real"
noncomputable def b808 (P : Params) : Obj := cdo "real" "Scanner.real" 1375 784 2 0 0 3 803 true 804 (.ref 805) (.ref 806) (.ref 807) 1381
noncomputable def b809 (P : Params) : Obj := fn (d2 83 10) "Scanner.real" .none (vs "moduleyard.scanner" 1188) 808
noncomputable def b810 (P : Params) : Obj := tu []
noncomputable def b811 (P : Params) : Obj := fr []
noncomputable def b812 (P : Params) : Obj := ts 1387 ["self"]
noncomputable def b813 (P : Params) : Obj := tu []
noncomputable def b814 (P : Params) : Obj := tf (d2 83 11) "Scanner.skip_digits"
noncomputable def b815 (P : Params) : Obj := cdo "skip_digits" "Scanner.skip_digits" 1384 797 1 0 0 3 810 true 811 (.ref 812) (.ref 813) (.ref 814) 1388
noncomputable def b816 (P : Params) : Obj := fn (d2 83 11) "Scanner.skip_digits" .none (vs "moduleyard.scanner" 1188) 815
noncomputable def b817 (P : Params) : Obj := tu []
noncomputable def b818 (P : Params) : Obj := fr []
noncomputable def b819 (P : Params) : Obj := ts 1394 ["self", "begun", "chars", "char"]
noncomputable def b820 (P : Params) : Obj := tu []
noncomputable def b821 (P : Params) : Obj := tf (d2 83 12) "Scanner.string"
noncomputable def b822 (P : Params) : Obj := cdo "string" "Scanner.string" 1391 801 2 0 0 3 817 true 818 (.ref 819) (.ref 820) (.ref 821) 1398
noncomputable def b823 (P : Params) : Obj := fn (d2 83 12) "Scanner.string" .none (vs "moduleyard.scanner" 1188) 822
noncomputable def b824 (P : Params) : Obj := tu []
noncomputable def b825 (P : Params) : Obj := fr []
noncomputable def b826 (P : Params) : Obj := ts 1404 ["self", "pair"]
noncomputable def b827 (P : Params) : Obj := tu []
noncomputable def b828 (P : Params) : Obj := tf (d2 83 13) "Scanner.symbol"
noncomputable def b829 (P : Params) : Obj := cdo "symbol" "Scanner.symbol" 1401 817 1 0 0 3 824 true 825 (.ref 826) (.ref 827) (.ref 828) 1406
noncomputable def b830 (P : Params) : Obj := fn (d2 83 13) "Scanner.symbol" .none (vs "moduleyard.scanner" 1188) 829
noncomputable def b831 (P : Params) : Obj := ts 1409 ["errors", "place", "source", "words"]
noncomputable def e216 (P : Params) : DictEntry := en P "__dict__" 1415 (.ref 834)
noncomputable def e217 (P : Params) : DictEntry := en P "__weakref__" 1417 (.ref 835)
noncomputable def e218 (P : Params) : DictEntry := en P "__doc__" 1418 .none
noncomputable def b832 (P : Params) : Obj := di [e198 P, e200 P, e201 P, e202 P, e203 P, e204 P, e205 P, e206 P, e207 P, e208 P, e209 P, e210 P, e211 P, e212 P, e213 P, e214 P, e215 P, e216 P, e217 P, e218 P] 4
noncomputable def b833 (P : Params) : Obj := ⟨(.type "type"), none, cl "Scanner" [(.type "object")] [(.ref 833), (.type "object")] 832 "Scanner" true [] [] false none false, ⟨[none, none, (some (vs "Scanner" 1265)), (some (vs "Scanner" 1273)), (some (.builtin "object.__new__")), (some (.bool true))]⟩⟩
noncomputable def b834 (P : Params) : Obj := of "getset_descriptor" [(vs "__dict__" 1414), (.ref 833), (.builtin "function.__dict__"), (.builtin "function.__dict__#set")]
noncomputable def b835 (P : Params) : Obj := of "getset_descriptor" [(vs "__weakref__" 1416), (.ref 833), (.builtin "ExceptionGroup.__weakref__"), .none]
noncomputable def b836 (P : Params) : Obj := of "super" [(.ref 833), (.ref 833), (.ref 833)]
noncomputable def b837 (P : Params) : Obj := of "builtin_function_or_method" [(.builtin "object.__init_subclass__"), (.ref 833)]
noncomputable def e219 (P : Params) : DictEntry := en P "__name__" 165 (vs "moduleyard.scopes" 1421)
noncomputable def e220 (P : Params) : DictEntry := en P "Scope" 1456 (.ref 854)
noncomputable def b3v17 (P : Params) : Obj := di [e219 P, e1 P, e2 P, e3 P, e4 P, e5 P, e6 P, e7 P, e8 P, e9 P, e10 P, e19 P, e28 P, e39 P, e40 P, e41 P, e53 P, e54 P, e61 P, e69 P, e70 P, e71 P, e84 P, e85 P, e86 P, e87 P, e88 P, e89 P, e90 P, e91 P, e92 P, e93 P, e94 P, e95 P, e112 P, e113 P, e114 P, e115 P, e116 P, e117 P, e118 P, e128 P, e129 P, e130 P, e131 P, e132 P, e133 P, e134 P, e135 P, e136 P, e137 P, e138 P, e139 P, e140 P, e141 P, e142 P, e154 P, e155 P, e156 P, e157 P, e158 P, e159 P, e160 P, e161 P, e162 P, e163 P, e164 P, e165 P, e166 P, e168 P, e169 P, e170 P, e171 P, e172 P, e183 P, e184 P, e185 P, e186 P, e187 P, e188 P, e197 P, e220 P] 82
noncomputable def b12v17 (P : Params) : Obj := fr [1, 0, 20, 5, 0, 27, 20, 0, 48, 37, 0, 69, 50, 0, 97, 78, 0, 131, 93, 0, 138, 114, 0, 145, 123, 0, 152, 125, 0, 165, 130, 0, 184, 149, 0, 226, 155, 0, 233, 160, 0, 240, 169, 0, 247, 171, 0, 254, 178, 0, 261, 182, 0, 269, 187, 0, 276, 192, 0, 283, 203, 0, 290, 216, 0, 297, 223, 0, 304, 234, 0, 311, 289, 0, 379, 291, 0, 386, 295, 0, 393, 302, 0, 414, 307, 0, 421, 312, 0, 428, 317, 0, 435, 323, 0, 442, 333, 0, 449, 343, 0, 456, 351, 0, 463, 368, 0, 468, 380, 0, 475, 391, 0, 482, 397, 0, 487, 417, 0, 494, 453, 0, 536, 465, 0, 543, 474, 0, 550, 486, 0, 557, 488, 0, 564, 490, 0, 571, 501, 0, 578, 516, 0, 583, 525, 0, 590, 540, 0, 597, 552, 0, 604, 564, 0, 611, 580, 0, 618, 596, 0, 625, 600, 0, 632, 613, 0, 639, 655, 0, 674, 661, 0, 695, 663, 0, 702, 665, 0, 709, 667, 0, 716, 669, 0, 723, 676, 0, 730, 825, 0, 843]
noncomputable def b838 (P : Params) : Obj := tu []
noncomputable def b839 (P : Params) : Obj := of "builtin_function_or_method" [(.builtin "type.__prepare__"), (.type "type")]
noncomputable def e221 (P : Params) : DictEntry := en P "__module__" 1430 (vs "moduleyard.scopes" 1421)
noncomputable def e222 (P : Params) : DictEntry := en P "__qualname__" 1432 (vs "Scope" 1431)
noncomputable def e223 (P : Params) : DictEntry := en P "__firstlineno__" 1434 (vi 825 1433)
noncomputable def e224 (P : Params) : DictEntry := en P "__init__" 1443 (.ref 851)
noncomputable def e225 (P : Params) : DictEntry := en P "__static_attributes__" 1449 (.ref 852)
noncomputable def b840 (P : Params) : Obj := di [e221 P, e222 P, e223 P, e224 P, e225 P] 5
noncomputable def b841 (P : Params) : Obj := tu []
noncomputable def b842 (P : Params) : Obj := fr [827, 4, 850]
noncomputable def b843 (P : Params) : Obj := cdo "Scope" "Scope" 1425 825 0 0 0 0 841 false 842 .none .none .none 1428
noncomputable def b844 (P : Params) : Obj := ⟨(.type "frame"), none, .plain, ⟨[(some (.ref 843)), (some (.ref 3)), (some (.ref 840)), none, (some (vs "moduleyard.scopes" 1421)), none, (some (.ref 0))]⟩⟩
noncomputable def b845 (P : Params) : Obj := tu []
noncomputable def b846 (P : Params) : Obj := fr []
noncomputable def b847 (P : Params) : Obj := ts 1438 ["self", "level", "label"]
noncomputable def b848 (P : Params) : Obj := tu []
noncomputable def b849 (P : Params) : Obj := tf (d2 85 0) "Scope.__init__"
noncomputable def b850 (P : Params) : Obj := cdo "__init__" "Scope.__init__" 1435 827 3 0 0 3 845 true 846 (.ref 847) (.ref 848) (.ref 849) 1441
noncomputable def b851 (P : Params) : Obj := fn (d2 85 0) "Scope.__init__" .none (vs "moduleyard.scopes" 1421) 850
noncomputable def b852 (P : Params) : Obj := ts 1444 ["label", "level", "names", "order", "slots"]
noncomputable def e226 (P : Params) : DictEntry := en P "__dict__" 1451 (.ref 855)
noncomputable def e227 (P : Params) : DictEntry := en P "__weakref__" 1453 (.ref 856)
noncomputable def e228 (P : Params) : DictEntry := en P "__doc__" 1454 .none
noncomputable def b853 (P : Params) : Obj := di [e221 P, e223 P, e224 P, e225 P, e226 P, e227 P, e228 P] 4
noncomputable def b854 (P : Params) : Obj := ⟨(.type "type"), none, cl "Scope" [(.type "object")] [(.ref 854), (.type "object")] 853 "Scope" true [] [] false none false, ⟨[none, none, (some (vs "Scope" 1423)), (some (vs "Scope" 1431)), (some (.builtin "object.__new__")), (some (.bool true))]⟩⟩
noncomputable def b855 (P : Params) : Obj := of "getset_descriptor" [(vs "__dict__" 1450), (.ref 854), (.builtin "function.__dict__"), (.builtin "function.__dict__#set")]
noncomputable def b856 (P : Params) : Obj := of "getset_descriptor" [(vs "__weakref__" 1452), (.ref 854), (.builtin "ExceptionGroup.__weakref__"), .none]
noncomputable def b857 (P : Params) : Obj := of "super" [(.ref 854), (.ref 854), (.ref 854)]
noncomputable def b858 (P : Params) : Obj := of "builtin_function_or_method" [(.builtin "object.__init_subclass__"), (.ref 854)]
noncomputable def e229 (P : Params) : DictEntry := en P "Scopes" 1543 (.ref 917)
noncomputable def b3v18 (P : Params) : Obj := di [e219 P, e1 P, e2 P, e3 P, e4 P, e5 P, e6 P, e7 P, e8 P, e9 P, e10 P, e19 P, e28 P, e39 P, e40 P, e41 P, e53 P, e54 P, e61 P, e69 P, e70 P, e71 P, e84 P, e85 P, e86 P, e87 P, e88 P, e89 P, e90 P, e91 P, e92 P, e93 P, e94 P, e95 P, e112 P, e113 P, e114 P, e115 P, e116 P, e117 P, e118 P, e128 P, e129 P, e130 P, e131 P, e132 P, e133 P, e134 P, e135 P, e136 P, e137 P, e138 P, e139 P, e140 P, e141 P, e142 P, e154 P, e155 P, e156 P, e157 P, e158 P, e159 P, e160 P, e161 P, e162 P, e163 P, e164 P, e165 P, e166 P, e168 P, e169 P, e170 P, e171 P, e172 P, e183 P, e184 P, e185 P, e186 P, e187 P, e188 P, e197 P, e220 P, e229 P] 83
noncomputable def b12v18 (P : Params) : Obj := fr [1, 0, 20, 5, 0, 27, 20, 0, 48, 37, 0, 69, 50, 0, 97, 78, 0, 131, 93, 0, 138, 114, 0, 145, 123, 0, 152, 125, 0, 165, 130, 0, 184, 149, 0, 226, 155, 0, 233, 160, 0, 240, 169, 0, 247, 171, 0, 254, 178, 0, 261, 182, 0, 269, 187, 0, 276, 192, 0, 283, 203, 0, 290, 216, 0, 297, 223, 0, 304, 234, 0, 311, 289, 0, 379, 291, 0, 386, 295, 0, 393, 302, 0, 414, 307, 0, 421, 312, 0, 428, 317, 0, 435, 323, 0, 442, 333, 0, 449, 343, 0, 456, 351, 0, 463, 368, 0, 468, 380, 0, 475, 391, 0, 482, 397, 0, 487, 417, 0, 494, 453, 0, 536, 465, 0, 543, 474, 0, 550, 486, 0, 557, 488, 0, 564, 490, 0, 571, 501, 0, 578, 516, 0, 583, 525, 0, 590, 540, 0, 597, 552, 0, 604, 564, 0, 611, 580, 0, 618, 596, 0, 625, 600, 0, 632, 613, 0, 639, 655, 0, 674, 661, 0, 695, 663, 0, 702, 665, 0, 709, 667, 0, 716, 669, 0, 723, 676, 0, 730, 825, 0, 843, 833, 0, 864]
noncomputable def b859 (P : Params) : Obj := tu []
noncomputable def b860 (P : Params) : Obj := of "builtin_function_or_method" [(.builtin "type.__prepare__"), (.type "type")]
noncomputable def e230 (P : Params) : DictEntry := en P "__module__" 1464 (vs "moduleyard.scopes" 1421)
noncomputable def e231 (P : Params) : DictEntry := en P "__qualname__" 1466 (vs "Scopes" 1465)
noncomputable def e232 (P : Params) : DictEntry := en P "__firstlineno__" 1468 (vi 833 1467)
noncomputable def e233 (P : Params) : DictEntry := en P "__init__" 1477 (.ref 872)
noncomputable def e234 (P : Params) : DictEntry := en P "open" 1486 (.ref 879)
noncomputable def e235 (P : Params) : DictEntry := en P "close" 1494 (.ref 886)
noncomputable def e236 (P : Params) : DictEntry := en P "current" 1501 (.ref 893)
noncomputable def e237 (P : Params) : DictEntry := en P "add" 1510 (.ref 900)
noncomputable def e238 (P : Params) : DictEntry := en P "insert" 1522 (.ref 907)
noncomputable def e239 (P : Params) : DictEntry := en P "find" 1531 (.ref 914)
noncomputable def e240 (P : Params) : DictEntry := en P "__static_attributes__" 1536 (.ref 915)
noncomputable def b861 (P : Params) : Obj := di [e230 P, e231 P, e232 P, e233 P, e234 P, e235 P, e236 P, e237 P, e238 P, e239 P, e240 P] 11
noncomputable def b862 (P : Params) : Obj := tu []
noncomputable def b863 (P : Params) : Obj := fr [835, 4, 871, 841, 4, 878, 847, 4, 885, 852, 4, 892, 855, 4, 899, 866, 4, 906, 875, 4, 913]
noncomputable def b864 (P : Params) : Obj := cdo "Scopes" "Scopes" 1459 833 0 0 0 0 862 false 863 .none .none .none 1462
noncomputable def b865 (P : Params) : Obj := ⟨(.type "frame"), none, .plain, ⟨[(some (.ref 864)), (some (.ref 3)), (some (.ref 861)), none, (some (vs "moduleyard.scopes" 1421)), none, (some (.ref 0))]⟩⟩
noncomputable def b866 (P : Params) : Obj := tu []
noncomputable def b867 (P : Params) : Obj := fr []
noncomputable def b868 (P : Params) : Obj := ts 1472 ["self", "types", "module"]
noncomputable def b869 (P : Params) : Obj := tu []
noncomputable def b870 (P : Params) : Obj := tf (d2 86 0) "Scopes.__init__"
noncomputable def b871 (P : Params) : Obj := cdo "__init__" "Scopes.__init__" 1469 835 3 0 0 3 866 true 867 (.ref 868) (.ref 869) (.ref 870) 1475
noncomputable def b872 (P : Params) : Obj := fn (d2 86 0) "Scopes.__init__" .none (vs "moduleyard.scopes" 1421) 871
noncomputable def b873 (P : Params) : Obj := tu []
noncomputable def b874 (P : Params) : Obj := fr []
noncomputable def b875 (P : Params) : Obj := ts 1481 ["self", "label", "scope"]
noncomputable def b876 (P : Params) : Obj := tu []
noncomputable def b877 (P : Params) : Obj := tf (d2 86 1) "Scopes.open"
noncomputable def b878 (P : Params) : Obj := cdo "open" "Scopes.open" 1478 841 2 0 0 3 873 true 874 (.ref 875) (.ref 876) (.ref 877) 1484
noncomputable def b879 (P : Params) : Obj := fn (d2 86 1) "Scopes.open" .none (vs "moduleyard.scopes" 1421) 878
noncomputable def b880 (P : Params) : Obj := tu []
noncomputable def b881 (P : Params) : Obj := fr []
noncomputable def b882 (P : Params) : Obj := ts 1490 ["self", "scope"]
noncomputable def b883 (P : Params) : Obj := tu []
noncomputable def b884 (P : Params) : Obj := tf (d2 86 2) "Scopes.close"
noncomputable def b885 (P : Params) : Obj := cdo "close" "Scopes.close" 1487 847 1 0 0 3 880 true 881 (.ref 882) (.ref 883) (.ref 884) 1492
noncomputable def b886 (P : Params) : Obj := fn (d2 86 2) "Scopes.close" .none (vs "moduleyard.scopes" 1421) 885
noncomputable def b887 (P : Params) : Obj := tu []
noncomputable def b888 (P : Params) : Obj := fr []
noncomputable def b889 (P : Params) : Obj := ts 1498 ["self"]
noncomputable def b890 (P : Params) : Obj := tu []
noncomputable def b891 (P : Params) : Obj := tf (d2 86 3) "Scopes.current"
noncomputable def b892 (P : Params) : Obj := cdo "current" "Scopes.current" 1495 852 1 0 0 3 887 true 888 (.ref 889) (.ref 890) (.ref 891) 1499
noncomputable def b893 (P : Params) : Obj := fn (d2 86 3) "Scopes.current" .none (vs "moduleyard.scopes" 1421) 892
noncomputable def b894 (P : Params) : Obj := tu []
noncomputable def b895 (P : Params) : Obj := fr []
noncomputable def b896 (P : Params) : Obj := ts 1505 ["self", "obj", "scope"]
noncomputable def b897 (P : Params) : Obj := tu []
noncomputable def b898 (P : Params) : Obj := tf (d2 86 4) "Scopes.add"
noncomputable def b899 (P : Params) : Obj := cdo "add" "Scopes.add" 1502 855 2 0 0 3 894 true 895 (.ref 896) (.ref 897) (.ref 898) 1508
noncomputable def b900 (P : Params) : Obj := fn (d2 86 4) "Scopes.add" .none (vs "moduleyard.scopes" 1421) 899
noncomputable def b901 (P : Params) : Obj := tu []
noncomputable def b902 (P : Params) : Obj := fr []
noncomputable def b903 (P : Params) : Obj := ts 1514 ["self", "name", "kind", "t", "place", "obj"]
noncomputable def b904 (P : Params) : Obj := tu []
noncomputable def b905 (P : Params) : Obj := tf (d2 86 5) "Scopes.insert"
noncomputable def b906 (P : Params) : Obj := cdo "insert" "Scopes.insert" 1511 866 5 0 0 3 901 true 902 (.ref 903) (.ref 904) (.ref 905) 1520
noncomputable def b907 (P : Params) : Obj := fn (d2 86 5) "Scopes.insert" .none (vs "moduleyard.scopes" 1421) 906
noncomputable def b908 (P : Params) : Obj := tu []
noncomputable def b909 (P : Params) : Obj := fr []
noncomputable def b910 (P : Params) : Obj := ts 1526 ["self", "name", "scope"]
noncomputable def b911 (P : Params) : Obj := tu []
noncomputable def b912 (P : Params) : Obj := tf (d2 86 6) "Scopes.find"
noncomputable def b913 (P : Params) : Obj := cdo "find" "Scopes.find" 1523 875 2 0 0 3 908 true 909 (.ref 910) (.ref 911) (.ref 912) 1529
noncomputable def b914 (P : Params) : Obj := fn (d2 86 6) "Scopes.find" .none (vs "moduleyard.scopes" 1421) 913
noncomputable def b915 (P : Params) : Obj := ts 1532 ["level", "module", "stack", "types"]
noncomputable def e241 (P : Params) : DictEntry := en P "__dict__" 1538 (.ref 918)
noncomputable def e242 (P : Params) : DictEntry := en P "__weakref__" 1540 (.ref 919)
noncomputable def e243 (P : Params) : DictEntry := en P "__doc__" 1541 .none
noncomputable def b916 (P : Params) : Obj := di [e230 P, e232 P, e233 P, e234 P, e235 P, e236 P, e237 P, e238 P, e239 P, e240 P, e241 P, e242 P, e243 P] 4
noncomputable def b917 (P : Params) : Obj := ⟨(.type "type"), none, cl "Scopes" [(.type "object")] [(.ref 917), (.type "object")] 916 "Scopes" true [] [] false none false, ⟨[none, none, (some (vs "Scopes" 1457)), (some (vs "Scopes" 1465)), (some (.builtin "object.__new__")), (some (.bool true))]⟩⟩
noncomputable def b918 (P : Params) : Obj := of "getset_descriptor" [(vs "__dict__" 1537), (.ref 917), (.builtin "function.__dict__"), (.builtin "function.__dict__#set")]
noncomputable def b919 (P : Params) : Obj := of "getset_descriptor" [(vs "__weakref__" 1539), (.ref 917), (.builtin "ExceptionGroup.__weakref__"), .none]
noncomputable def b920 (P : Params) : Obj := of "super" [(.ref 917), (.ref 917), (.ref 917)]
noncomputable def b921 (P : Params) : Obj := of "builtin_function_or_method" [(.builtin "object.__init_subclass__"), (.ref 917)]
noncomputable def e244 (P : Params) : DictEntry := en P "__name__" 165 (vs "moduleyard.reader" 1568)
noncomputable def e245 (P : Params) : DictEntry := en P "fill" 1011 (.ref 942)
noncomputable def e246 (P : Params) : DictEntry := en P "std_functions" 1551 (.ref 928)
noncomputable def e247 (P : Params) : DictEntry := en P "std_procedures" 1557 (.ref 935)
noncomputable def e248 (P : Params) : DictEntry := en P "fill_universe" 1567 (.ref 942)
noncomputable def e249 (P : Params) : DictEntry := en P "MOST_PARTS" 1571 (vi 120 1570)
noncomputable def b3v19 (P : Params) : Obj := di [e244 P, e1 P, e2 P, e3 P, e4 P, e5 P, e6 P, e7 P, e8 P, e9 P, e10 P, e19 P, e28 P, e39 P, e40 P, e41 P, e53 P, e54 P, e61 P, e69 P, e70 P, e71 P, e84 P, e85 P, e86 P, e87 P, e88 P, e89 P, e90 P, e91 P, e92 P, e93 P, e94 P, e95 P, e112 P, e113 P, e114 P, e115 P, e116 P, e117 P, e118 P, e128 P, e129 P, e130 P, e131 P, e132 P, e133 P, e134 P, e135 P, e136 P, e137 P, e138 P, e139 P, e140 P, e141 P, e142 P, e154 P, e245 P, e156 P, e157 P, e158 P, e159 P, e160 P, e161 P, e162 P, e163 P, e164 P, e165 P, e166 P, e168 P, e169 P, e170 P, e171 P, e172 P, e183 P, e184 P, e185 P, e186 P, e187 P, e188 P, e197 P, e220 P, e229 P, e246 P, e247 P, e248 P, e249 P] 87
noncomputable def b12v19 (P : Params) : Obj := fr [1, 0, 20, 5, 0, 27, 20, 0, 48, 37, 0, 69, 50, 0, 97, 78, 0, 131, 93, 0, 138, 114, 0, 145, 123, 0, 152, 125, 0, 165, 130, 0, 184, 149, 0, 226, 155, 0, 233, 160, 0, 240, 169, 0, 247, 171, 0, 254, 178, 0, 261, 182, 0, 269, 187, 0, 276, 192, 0, 283, 203, 0, 290, 216, 0, 297, 223, 0, 304, 234, 0, 311, 289, 0, 379, 291, 0, 386, 295, 0, 393, 302, 0, 414, 307, 0, 421, 312, 0, 428, 317, 0, 435, 323, 0, 442, 333, 0, 449, 343, 0, 456, 351, 0, 463, 368, 0, 468, 380, 0, 475, 391, 0, 482, 397, 0, 487, 417, 0, 494, 453, 0, 536, 465, 0, 543, 474, 0, 550, 486, 0, 557, 488, 0, 564, 490, 0, 571, 501, 0, 578, 516, 0, 583, 525, 0, 590, 540, 0, 597, 552, 0, 604, 564, 0, 611, 580, 0, 618, 596, 0, 625, 600, 0, 632, 613, 0, 639, 655, 0, 674, 661, 0, 695, 663, 0, 702, 665, 0, 709, 667, 0, 716, 669, 0, 723, 676, 0, 730, 825, 0, 843, 833, 0, 864, 881, 0, 927, 883, 0, 934, 885, 0, 941]
noncomputable def b922 (P : Params) : Obj := tu []
noncomputable def b923 (P : Params) : Obj := fr []
noncomputable def b924 (P : Params) : Obj := tu []
noncomputable def b925 (P : Params) : Obj := tu []
noncomputable def b926 (P : Params) : Obj := tf (d1 88) "std_functions"
noncomputable def b927 (P : Params) : Obj := cdo "std_functions" "std_functions" 1546 881 0 0 0 3 922 true 923 (.ref 924) (.ref 925) (.ref 926) 1549
noncomputable def b928 (P : Params) : Obj := fn (d1 88) "std_functions" .none (vs "moduleyard.universe" 1544) 927
noncomputable def b929 (P : Params) : Obj := tu []
noncomputable def b930 (P : Params) : Obj := fr []
noncomputable def b931 (P : Params) : Obj := tu []
noncomputable def b932 (P : Params) : Obj := tu []
noncomputable def b933 (P : Params) : Obj := tf (d1 89) "std_procedures"
noncomputable def b934 (P : Params) : Obj := cdo "std_procedures" "std_procedures" 1552 883 0 0 0 3 929 true 930 (.ref 931) (.ref 932) (.ref 933) 1555
noncomputable def b935 (P : Params) : Obj := fn (d1 89) "std_procedures" .none (vs "moduleyard.universe" 1544) 934
noncomputable def b936 (P : Params) : Obj := tu []
noncomputable def b937 (P : Params) : Obj := fr []
noncomputable def b938 (P : Params) : Obj := ts 1561 ["scopes", "types", "name"]
noncomputable def b939 (P : Params) : Obj := tu []
noncomputable def b940 (P : Params) : Obj := tf (d1 90) "fill"
noncomputable def b941 (P : Params) : Obj := cdo "fill" "fill" 1558 885 1 0 0 3 936 true 937 (.ref 938) (.ref 939) (.ref 940) 1564
noncomputable def b942 (P : Params) : Obj := fn (d1 90) "fill" .none (vs "moduleyard.universe" 1544) 941
noncomputable def e250 (P : Params) : DictEntry := en P "Reader" 1699 (.ref 1037)
noncomputable def b3v20 (P : Params) : Obj := di [e244 P, e1 P, e2 P, e3 P, e4 P, e5 P, e6 P, e7 P, e8 P, e9 P, e10 P, e19 P, e28 P, e39 P, e40 P, e41 P, e53 P, e54 P, e61 P, e69 P, e70 P, e71 P, e84 P, e85 P, e86 P, e87 P, e88 P, e89 P, e90 P, e91 P, e92 P, e93 P, e94 P, e95 P, e112 P, e113 P, e114 P, e115 P, e116 P, e117 P, e118 P, e128 P, e129 P, e130 P, e131 P, e132 P, e133 P, e134 P, e135 P, e136 P, e137 P, e138 P, e139 P, e140 P, e141 P, e142 P, e154 P, e245 P, e156 P, e157 P, e158 P, e159 P, e160 P, e161 P, e162 P, e163 P, e164 P, e165 P, e166 P, e168 P, e169 P, e170 P, e171 P, e172 P, e183 P, e184 P, e185 P, e186 P, e187 P, e188 P, e197 P, e220 P, e229 P, e246 P, e247 P, e248 P, e249 P, e250 P] 88
noncomputable def b12v20 (P : Params) : Obj := fr [1, 0, 20, 5, 0, 27, 20, 0, 48, 37, 0, 69, 50, 0, 97, 78, 0, 131, 93, 0, 138, 114, 0, 145, 123, 0, 152, 125, 0, 165, 130, 0, 184, 149, 0, 226, 155, 0, 233, 160, 0, 240, 169, 0, 247, 171, 0, 254, 178, 0, 261, 182, 0, 269, 187, 0, 276, 192, 0, 283, 203, 0, 290, 216, 0, 297, 223, 0, 304, 234, 0, 311, 289, 0, 379, 291, 0, 386, 295, 0, 393, 302, 0, 414, 307, 0, 421, 312, 0, 428, 317, 0, 435, 323, 0, 442, 333, 0, 449, 343, 0, 456, 351, 0, 463, 368, 0, 468, 380, 0, 475, 391, 0, 482, 397, 0, 487, 417, 0, 494, 453, 0, 536, 465, 0, 543, 474, 0, 550, 486, 0, 557, 488, 0, 564, 490, 0, 571, 501, 0, 578, 516, 0, 583, 525, 0, 590, 540, 0, 597, 552, 0, 604, 564, 0, 611, 580, 0, 618, 596, 0, 625, 600, 0, 632, 613, 0, 639, 655, 0, 674, 661, 0, 695, 663, 0, 702, 665, 0, 709, 667, 0, 716, 669, 0, 723, 676, 0, 730, 825, 0, 843, 833, 0, 864, 881, 0, 927, 883, 0, 934, 885, 0, 941, 899, 0, 948]
noncomputable def b943 (P : Params) : Obj := tu []
noncomputable def b944 (P : Params) : Obj := of "builtin_function_or_method" [(.builtin "type.__prepare__"), (.type "type")]
noncomputable def e251 (P : Params) : DictEntry := en P "__module__" 1579 (vs "moduleyard.reader" 1568)
noncomputable def e252 (P : Params) : DictEntry := en P "__qualname__" 1581 (vs "Reader" 1580)
noncomputable def e253 (P : Params) : DictEntry := en P "__firstlineno__" 1583 (vi 899 1582)
noncomputable def e254 (P : Params) : DictEntry := en P "__init__" 1594 (.ref 957)
noncomputable def e255 (P : Params) : DictEntry := en P "step" 1602 (.ref 964)
noncomputable def e256 (P : Params) : DictEntry := en P "at" 1610 (.ref 971)
noncomputable def e257 (P : Params) : DictEntry := en P "skip" 1618 (.ref 978)
noncomputable def e258 (P : Params) : DictEntry := en P "expect" 1627 (.ref 985)
noncomputable def e259 (P : Params) : DictEntry := en P "mark" 1635 (.ref 992)
noncomputable def e260 (P : Params) : DictEntry := en P "name" 1642 (.ref 999)
noncomputable def e261 (P : Params) : DictEntry := en P "give_up" 1649 (.ref 1006)
noncomputable def e262 (P : Params) : DictEntry := en P "enter" 1656 (.ref 1013)
noncomputable def e263 (P : Params) : DictEntry := en P "leave" 1663 (.ref 1020)
noncomputable def e264 (P : Params) : DictEntry := en P "part" 1670 (.ref 1027)
noncomputable def e265 (P : Params) : DictEntry := en P "skip_to" 1678 (.ref 1034)
noncomputable def e266 (P : Params) : DictEntry := en P "__static_attributes__" 1692 (.ref 1035)
noncomputable def b945 (P : Params) : Obj := di [e251 P, e252 P, e253 P, e254 P, e255 P, e256 P, e257 P, e258 P, e259 P, e260 P, e261 P, e262 P, e263 P, e264 P, e265 P, e266 P] 16
noncomputable def b946 (P : Params) : Obj := tu []
noncomputable def b947 (P : Params) : Obj := fr [901, 4, 956, 917, 4, 963, 922, 4, 970, 925, 4, 977, 931, 4, 984, 940, 4, 991, 943, 4, 998, 949, 4, 1005, 953, 4, 1012, 956, 4, 1019, 959, 4, 1026, 964, 4, 1033]
noncomputable def b948 (P : Params) : Obj := cdo "Reader" "Reader" 1574 899 0 0 0 0 946 false 947 .none .none .none 1577
noncomputable def b949 (P : Params) : Obj := ⟨(.type "frame"), none, .plain, ⟨[(some (.ref 948)), (some (.ref 3)), (some (.ref 945)), none, (some (vs "moduleyard.reader" 1568)), none, (some (.ref 0))]⟩⟩
noncomputable def b950 (P : Params) : Obj := tu [.none]
noncomputable def b951 (P : Params) : Obj := tu []
noncomputable def b952 (P : Params) : Obj := fr []
noncomputable def b953 (P : Params) : Obj := ts 1587 ["self", "source", "types", "errors", "importer"]
noncomputable def b954 (P : Params) : Obj := tu []
noncomputable def b955 (P : Params) : Obj := tf (d2 94 0) "Reader.__init__"
noncomputable def b956 (P : Params) : Obj := cdo "__init__" "Reader.__init__" 1584 901 5 0 0 3 951 true 952 (.ref 953) (.ref 954) (.ref 955) 1592
noncomputable def b957 (P : Params) : Obj := fn (d2 94 0) "Reader.__init__" (.ref 950) (vs "moduleyard.reader" 1568) 956
noncomputable def b958 (P : Params) : Obj := tu []
noncomputable def b959 (P : Params) : Obj := fr []
noncomputable def b960 (P : Params) : Obj := ts 1598 ["self", "token"]
noncomputable def b961 (P : Params) : Obj := tu []
noncomputable def b962 (P : Params) : Obj := tf (d2 94 1) "Reader.step"
noncomputable def b963 (P : Params) : Obj := cdo "step" "Reader.step" 1595 917 1 0 0 3 958 true 959 (.ref 960) (.ref 961) (.ref 962) 1600
noncomputable def b964 (P : Params) : Obj := fn (d2 94 1) "Reader.step" .none (vs "moduleyard.reader" 1568) 963
noncomputable def b965 (P : Params) : Obj := tu []
noncomputable def b966 (P : Params) : Obj := fr []
noncomputable def b967 (P : Params) : Obj := ts 1606 ["self", "kind"]
noncomputable def b968 (P : Params) : Obj := tu []
noncomputable def b969 (P : Params) : Obj := tf (d2 94 2) "Reader.at"
noncomputable def b970 (P : Params) : Obj := cdo "at" "Reader.at" 1603 922 2 0 0 3 965 true 966 (.ref 967) (.ref 968) (.ref 969) 1608
noncomputable def b971 (P : Params) : Obj := fn (d2 94 2) "Reader.at" .none (vs "moduleyard.reader" 1568) 970
noncomputable def b972 (P : Params) : Obj := tu []
noncomputable def b973 (P : Params) : Obj := fr []
noncomputable def b974 (P : Params) : Obj := ts 1614 ["self", "kind"]
noncomputable def b975 (P : Params) : Obj := tu []
noncomputable def b976 (P : Params) : Obj := tf (d2 94 3) "Reader.skip"
noncomputable def b977 (P : Params) : Obj := cdo "skip" "Reader.skip" 1611 925 2 0 0 3 972 true 973 (.ref 974) (.ref 975) (.ref 976) 1616
noncomputable def b978 (P : Params) : Obj := fn (d2 94 3) "Reader.skip" .none (vs "moduleyard.reader" 1568) 977
noncomputable def b979 (P : Params) : Obj := tu []
noncomputable def b980 (P : Params) : Obj := fr []
noncomputable def b981 (P : Params) : Obj := ts 1622 ["self", "kind", "name"]
noncomputable def b982 (P : Params) : Obj := tu []
noncomputable def b983 (P : Params) : Obj := tf (d2 94 4) "Reader.expect"
noncomputable def b984 (P : Params) : Obj := cdo "expect" "Reader.expect" 1619 931 2 0 0 3 979 true 980 (.ref 981) (.ref 982) (.ref 983) 1625
noncomputable def b985 (P : Params) : Obj := fn (d2 94 4) "Reader.expect" .none (vs "moduleyard.reader" 1568) 984
noncomputable def b986 (P : Params) : Obj := tu []
noncomputable def b987 (P : Params) : Obj := fr []
noncomputable def b988 (P : Params) : Obj := ts 1631 ["self", "code"]
noncomputable def b989 (P : Params) : Obj := tu []
noncomputable def b990 (P : Params) : Obj := tf (d2 94 5) "Reader.mark"
noncomputable def b991 (P : Params) : Obj := cdo "mark" "Reader.mark" 1628 940 2 0 0 3 986 true 987 (.ref 988) (.ref 989) (.ref 990) 1633
noncomputable def b992 (P : Params) : Obj := fn (d2 94 5) "Reader.mark" .none (vs "moduleyard.reader" 1568) 991
noncomputable def b993 (P : Params) : Obj := tu []
noncomputable def b994 (P : Params) : Obj := fr []
noncomputable def b995 (P : Params) : Obj := ts 1639 ["self"]
noncomputable def b996 (P : Params) : Obj := tu []
noncomputable def b997 (P : Params) : Obj := tf (d2 94 6) "Reader.name"
noncomputable def b998 (P : Params) : Obj := cdo "name" "Reader.name" 1636 943 1 0 0 3 993 true 994 (.ref 995) (.ref 996) (.ref 997) 1640
noncomputable def b999 (P : Params) : Obj := fn (d2 94 6) "Reader.name" .none (vs "moduleyard.reader" 1568) 998
noncomputable def b1000 (P : Params) : Obj := tu []
noncomputable def b1001 (P : Params) : Obj := fr []
noncomputable def b1002 (P : Params) : Obj := ts 1646 ["self"]
noncomputable def b1003 (P : Params) : Obj := tu []
noncomputable def b1004 (P : Params) : Obj := tf (d2 94 7) "Reader.give_up"
noncomputable def b1005 (P : Params) : Obj := cdo "give_up" "Reader.give_up" 1643 949 1 0 0 3 1000 true 1001 (.ref 1002) (.ref 1003) (.ref 1004) 1647
noncomputable def b1006 (P : Params) : Obj := fn (d2 94 7) "Reader.give_up" .none (vs "moduleyard.reader" 1568) 1005
noncomputable def b1007 (P : Params) : Obj := tu []
noncomputable def b1008 (P : Params) : Obj := fr []
noncomputable def b1009 (P : Params) : Obj := ts 1653 ["self"]
noncomputable def b1010 (P : Params) : Obj := tu []
noncomputable def b1011 (P : Params) : Obj := tf (d2 94 8) "Reader.enter"
noncomputable def b1012 (P : Params) : Obj := cdo "enter" "Reader.enter" 1650 953 1 0 0 3 1007 true 1008 (.ref 1009) (.ref 1010) (.ref 1011) 1654
noncomputable def b1013 (P : Params) : Obj := fn (d2 94 8) "Reader.enter" .none (vs "moduleyard.reader" 1568) 1012
noncomputable def b1014 (P : Params) : Obj := tu []
noncomputable def b1015 (P : Params) : Obj := fr []
noncomputable def b1016 (P : Params) : Obj := ts 1660 ["self"]
noncomputable def b1017 (P : Params) : Obj := tu []
noncomputable def b1018 (P : Params) : Obj := tf (d2 94 9) "Reader.leave"
noncomputable def b1019 (P : Params) : Obj := cdo "leave" "Reader.leave" 1657 956 1 0 0 3 1014 true 1015 (.ref 1016) (.ref 1017) (.ref 1018) 1661
noncomputable def b1020 (P : Params) : Obj := fn (d2 94 9) "Reader.leave" .none (vs "moduleyard.reader" 1568) 1019
noncomputable def b1021 (P : Params) : Obj := tu []
noncomputable def b1022 (P : Params) : Obj := fr []
noncomputable def b1023 (P : Params) : Obj := ts 1667 ["self"]
noncomputable def b1024 (P : Params) : Obj := tu []
noncomputable def b1025 (P : Params) : Obj := tf (d2 94 10) "Reader.part"
noncomputable def b1026 (P : Params) : Obj := cdo "part" "Reader.part" 1664 959 1 0 0 3 1021 true 1022 (.ref 1023) (.ref 1024) (.ref 1025) 1668
noncomputable def b1027 (P : Params) : Obj := fn (d2 94 10) "Reader.part" .none (vs "moduleyard.reader" 1568) 1026
noncomputable def b1028 (P : Params) : Obj := tu []
noncomputable def b1029 (P : Params) : Obj := fr []
noncomputable def b1030 (P : Params) : Obj := ts 1674 ["self", "kinds"]
noncomputable def b1031 (P : Params) : Obj := tu []
noncomputable def b1032 (P : Params) : Obj := tf (d2 94 11) "Reader.skip_to"
noncomputable def b1033 (P : Params) : Obj := cdo "skip_to" "Reader.skip_to" 1671 964 2 0 0 3 1028 true 1029 (.ref 1030) (.ref 1031) (.ref 1032) 1676
noncomputable def b1034 (P : Params) : Obj := fn (d2 94 11) "Reader.skip_to" .none (vs "moduleyard.reader" 1568) 1033
noncomputable def b1035 (P : Params) : Obj := ts 1679 ["errors", "forwards", "importer", "level", "module", "nest", "parts", "procs", "records", "scanner", "scopes", "token", "types"]
noncomputable def e267 (P : Params) : DictEntry := en P "__dict__" 1694 (.ref 1038)
noncomputable def e268 (P : Params) : DictEntry := en P "__weakref__" 1696 (.ref 1039)
noncomputable def e269 (P : Params) : DictEntry := en P "__doc__" 1697 .none
noncomputable def b1036 (P : Params) : Obj := di [e251 P, e253 P, e254 P, e255 P, e256 P, e257 P, e258 P, e259 P, e260 P, e261 P, e262 P, e263 P, e264 P, e265 P, e266 P, e267 P, e268 P, e269 P] 4
noncomputable def b1037 (P : Params) : Obj := ⟨(.type "type"), none, cl "Reader" [(.type "object")] [(.ref 1037), (.type "object")] 1036 "Reader" true [] [] false none false, ⟨[none, none, (some (vs "Reader" 1572)), (some (vs "Reader" 1580)), (some (.builtin "object.__new__")), (some (.bool true))]⟩⟩
noncomputable def b1038 (P : Params) : Obj := of "getset_descriptor" [(vs "__dict__" 1693), (.ref 1037), (.builtin "function.__dict__"), (.builtin "function.__dict__#set")]
noncomputable def b1039 (P : Params) : Obj := of "getset_descriptor" [(vs "__weakref__" 1695), (.ref 1037), (.builtin "ExceptionGroup.__weakref__"), .none]
noncomputable def b1040 (P : Params) : Obj := of "super" [(.ref 1037), (.ref 1037), (.ref 1037)]
noncomputable def b1041 (P : Params) : Obj := of "builtin_function_or_method" [(.builtin "object.__init_subclass__"), (.ref 1037)]
noncomputable def e270 (P : Params) : DictEntry := en P "__name__" 165 (vs "law_pq0785_01" 1737)
noncomputable def e271 (P : Params) : DictEntry := en P "ModuleTree" 1736 (.ref 1058)
noncomputable def e272 (P : Params) : DictEntry := en P "_law_take" 1748 (.ref 1069)
noncomputable def e273 (P : Params) : DictEntry := en P "law" 1771 (.ref 1076)
noncomputable def b3v21 (P : Params) : Obj := di [e270 P, e1 P, e2 P, e3 P, e4 P, e5 P, e6 P, e7 P, e8 P, e9 P, e10 P, e19 P, e28 P, e39 P, e40 P, e41 P, e53 P, e54 P, e61 P, e69 P, e70 P, e71 P, e84 P, e85 P, e86 P, e87 P, e88 P, e89 P, e90 P, e91 P, e92 P, e93 P, e94 P, e95 P, e112 P, e113 P, e114 P, e115 P, e116 P, e117 P, e118 P, e128 P, e129 P, e130 P, e131 P, e132 P, e133 P, e134 P, e135 P, e136 P, e137 P, e138 P, e139 P, e140 P, e141 P, e142 P, e154 P, e245 P, e156 P, e157 P, e158 P, e159 P, e160 P, e161 P, e162 P, e163 P, e164 P, e165 P, e166 P, e168 P, e169 P, e170 P, e171 P, e172 P, e183 P, e184 P, e185 P, e186 P, e187 P, e188 P, e197 P, e220 P, e229 P, e246 P, e247 P, e248 P, e249 P, e250 P, e271 P, e272 P, e273 P] 91
noncomputable def b12v21 (P : Params) : Obj := fr [1, 0, 20, 5, 0, 27, 20, 0, 48, 37, 0, 69, 50, 0, 97, 78, 0, 131, 93, 0, 138, 114, 0, 145, 123, 0, 152, 125, 0, 165, 130, 0, 184, 149, 0, 226, 155, 0, 233, 160, 0, 240, 169, 0, 247, 171, 0, 254, 178, 0, 261, 182, 0, 269, 187, 0, 276, 192, 0, 283, 203, 0, 290, 216, 0, 297, 223, 0, 304, 234, 0, 311, 289, 0, 379, 291, 0, 386, 295, 0, 393, 302, 0, 414, 307, 0, 421, 312, 0, 428, 317, 0, 435, 323, 0, 442, 333, 0, 449, 343, 0, 456, 351, 0, 463, 368, 0, 468, 380, 0, 475, 391, 0, 482, 397, 0, 487, 417, 0, 494, 453, 0, 536, 465, 0, 543, 474, 0, 550, 486, 0, 557, 488, 0, 564, 490, 0, 571, 501, 0, 578, 516, 0, 583, 525, 0, 590, 540, 0, 597, 552, 0, 604, 564, 0, 611, 580, 0, 618, 596, 0, 625, 600, 0, 632, 613, 0, 639, 655, 0, 674, 661, 0, 695, 663, 0, 702, 665, 0, 709, 667, 0, 716, 669, 0, 723, 676, 0, 730, 825, 0, 843, 833, 0, 864, 881, 0, 927, 883, 0, 934, 885, 0, 941, 899, 0, 948, 968, 0, 1047, 979, 0, 1068, 985, 0, 1075]
noncomputable def b1042 (P : Params) : Obj := tu []
noncomputable def b1043 (P : Params) : Obj := of "builtin_function_or_method" [(.builtin "type.__prepare__"), (.type "type")]
noncomputable def e274 (P : Params) : DictEntry := en P "__module__" 1709 (vs "moduleyard.trees" 1700)
noncomputable def e275 (P : Params) : DictEntry := en P "__qualname__" 1711 (vs "ModuleTree" 1710)
noncomputable def e276 (P : Params) : DictEntry := en P "__firstlineno__" 1713 (vi 968 1712)
noncomputable def e277 (P : Params) : DictEntry := en P "__init__" 1721 (.ref 1055)
noncomputable def e278 (P : Params) : DictEntry := en P "__static_attributes__" 1729 (.ref 1056)
noncomputable def b1044 (P : Params) : Obj := di [e274 P, e275 P, e276 P, e277 P, e278 P] 5
noncomputable def b1045 (P : Params) : Obj := tu []
noncomputable def b1046 (P : Params) : Obj := fr [970, 4, 1054]
noncomputable def b1047 (P : Params) : Obj := cdo "ModuleTree" "ModuleTree" 1704 968 0 0 0 0 1045 false 1046 .none .none .none 1707
noncomputable def b1048 (P : Params) : Obj := ⟨(.type "frame"), none, .plain, ⟨[(some (.ref 1047)), (some (.ref 3)), (some (.ref 1044)), none, (some (vs "moduleyard.trees" 1700)), none, (some (.ref 0))]⟩⟩
noncomputable def b1049 (P : Params) : Obj := tu []
noncomputable def b1050 (P : Params) : Obj := fr []
noncomputable def b1051 (P : Params) : Obj := ts 1717 ["self", "name"]
noncomputable def b1052 (P : Params) : Obj := tu []
noncomputable def b1053 (P : Params) : Obj := tf (d2 96 0) "ModuleTree.__init__"
noncomputable def b1054 (P : Params) : Obj := cdo "__init__" "ModuleTree.__init__" 1714 970 2 0 0 3 1049 true 1050 (.ref 1051) (.ref 1052) (.ref 1053) 1719
noncomputable def b1055 (P : Params) : Obj := fn (d2 96 0) "ModuleTree.__init__" .none (vs "moduleyard.trees" 1700) 1054
noncomputable def b1056 (P : Params) : Obj := ts 1722 ["body", "imports", "name", "objs", "place", "procs", "records"]
noncomputable def e279 (P : Params) : DictEntry := en P "__dict__" 1731 (.ref 1059)
noncomputable def e280 (P : Params) : DictEntry := en P "__weakref__" 1733 (.ref 1060)
noncomputable def e281 (P : Params) : DictEntry := en P "__doc__" 1734 .none
noncomputable def b1057 (P : Params) : Obj := di [e274 P, e276 P, e277 P, e278 P, e279 P, e280 P, e281 P] 4
noncomputable def b1058 (P : Params) : Obj := ⟨(.type "type"), none, cl "ModuleTree" [(.type "object")] [(.ref 1058), (.type "object")] 1057 "ModuleTree" true [] [] false none false, ⟨[none, none, (some (vs "ModuleTree" 1702)), (some (vs "ModuleTree" 1710)), (some (.builtin "object.__new__")), (some (.bool true))]⟩⟩
noncomputable def b1059 (P : Params) : Obj := of "getset_descriptor" [(vs "__dict__" 1730), (.ref 1058), (.builtin "function.__dict__"), (.builtin "function.__dict__#set")]
noncomputable def b1060 (P : Params) : Obj := of "getset_descriptor" [(vs "__weakref__" 1732), (.ref 1058), (.builtin "ExceptionGroup.__weakref__"), .none]
noncomputable def b1061 (P : Params) : Obj := of "super" [(.ref 1058), (.ref 1058), (.ref 1058)]
noncomputable def b1062 (P : Params) : Obj := of "builtin_function_or_method" [(.builtin "object.__init_subclass__"), (.ref 1058)]
noncomputable def b1063 (P : Params) : Obj := tu []
noncomputable def b1064 (P : Params) : Obj := fr []
noncomputable def b1065 (P : Params) : Obj := ts 1742 ["state", "most", "row", "at"]
noncomputable def b1066 (P : Params) : Obj := tu []
noncomputable def b1067 (P : Params) : Obj := tf (d1 98) "_law_take"
noncomputable def b1068 (P : Params) : Obj := cdo "_law_take" "_law_take" 1739 979 2 0 0 3 1063 true 1064 (.ref 1065) (.ref 1066) (.ref 1067) 1746
noncomputable def b1069 (P : Params) : Obj := fn (d1 98) "_law_take" .none (vs "law_pq0785_01" 1737) 1068
noncomputable def b1070 (P : Params) : Obj := tu []
noncomputable def b1071 (P : Params) : Obj := fr []
noncomputable def b1072 (P : Params) : Obj := ts 1752 ["script", "state", "types", "errors", "said", "rows", "marks", "seen", "held", "count", "go_of", "module", "alias", "start", "place_at", "rd", "tree"]
noncomputable def b1073 (P : Params) : Obj := tu []
noncomputable def b1074 (P : Params) : Obj := tf (d1 99) "law"
noncomputable def b1075 (P : Params) : Obj := cdo "law" "law" 1749 985 1 0 0 3 1070 true 1071 (.ref 1072) (.ref 1073) (.ref 1074) 1769
noncomputable def b1076 (P : Params) : Obj := fn (d1 99) "law" .none (vs "law_pq0785_01" 1737) 1075
noncomputable def l0 (P : Params) : List Obj := low P (boot_o_2 P) (boot_o_3 P) (b12 P) ([])
noncomputable def c0 (P : Params) : List Obj := [b15 P, b16 P, b17 P, b18 P, b19 P, b20 P, b21 P, b22 P, b23 P, b24 P, b25 P, b26 P, b27 P, b28 P, b29 P, b30 P, b31 P, b32 P, b33 P, b34 P, b35 P, b36 P, b37 P, b38 P, b39 P, b40 P, b41 P, b42 P]
noncomputable def l1 (P : Params) : List Obj := low P (boot_o_2 P) (b3v1 P) (b12v1 P) (c0 P)
noncomputable def c1 (P : Params) : List Obj := [b43 P, b44 P, b45 P, b46 P, b47 P, b48 P, b49 P, b50 P, b51 P, b52 P, b53 P, b54 P, b55 P, b56 P, b57 P, b58 P, b59 P, b60 P, b61 P, b62 P, b63 P]
noncomputable def l2 (P : Params) : List Obj := low P (boot_o_2 P) (b3v2 P) (b12v2 P) (c0 P ++ (c1 P))
noncomputable def c2 (P : Params) : List Obj := [b64 P, b65 P, b66 P, b67 P, b68 P, b69 P, b70 P, b71 P, b72 P, b73 P, b74 P, b75 P, b76 P, b77 P, b78 P, b79 P, b80 P, b81 P, b82 P, b83 P, b84 P, b85 P, b86 P, b87 P, b88 P, b89 P, b90 P, b91 P]
noncomputable def l3 (P : Params) : List Obj := low P (boot_o_2 P) (b3v3 P) (b12v3 P) (c0 P ++ (c1 P ++ (c2 P)))
noncomputable def c3 (P : Params) : List Obj := [b92 P, b93 P, b94 P, b95 P, b96 P, b97 P, b98 P, b99 P, b100 P, b101 P, b102 P, b103 P, b104 P, b105 P, b106 P, b107 P, b108 P, b109 P, b110 P, b111 P, b112 P, b113 P, b114 P, b115 P, b116 P, b117 P, b118 P, b119 P, b120 P, b121 P, b122 P, b123 P, b124 P, b125 P, b126 P, b127 P, b128 P, b129 P, b130 P, b131 P, b132 P, b133 P, b134 P, b135 P, b136 P, b137 P, b138 P, b139 P]
noncomputable def l4 (P : Params) : List Obj := low P (boot_o_2 P) (b3v4 P) (b12v4 P) (c0 P ++ (c1 P ++ (c2 P ++ (c3 P))))
noncomputable def c4 (P : Params) : List Obj := [b140 P, b141 P, b142 P, b143 P, b144 P, b145 P, b146 P, b147 P, b148 P, b149 P, b150 P, b151 P, b152 P, b153 P, b154 P, b155 P, b156 P, b157 P, b158 P, b159 P]
noncomputable def l5 (P : Params) : List Obj := low P (b2v5 P) (b3v5 P) (b12v5 P) (c0 P ++ (c1 P ++ (c2 P ++ (c3 P ++ (c4 P)))))
noncomputable def c5 (P : Params) : List Obj := [b140 P, b141 P, b142 P, b143 P, b144 P, b145 P, b146 P, b147 P, b148 P, b149 P, b150 P, b151 P, b152 P, b153 P, b154 P, b155 P, b156v6 P, b157 P, b158 P, b159 P]
noncomputable def c6 (P : Params) : List Obj := [b160 P, b161 P, b162 P, b163 P, b164 P, b165 P, b166 P, b167 P, b168 P, b169 P, b170 P, b171 P, b172 P, b173 P, b174 P, b175 P, b176 P, b177 P, b178 P]
noncomputable def l6 (P : Params) : List Obj := low P (b2v5 P) (b3v6 P) (b12v6 P) (c0 P ++ (c1 P ++ (c2 P ++ (c3 P ++ (c5 P ++ (c6 P))))))
noncomputable def c7 (P : Params) : List Obj := [b179 P, b180 P, b181 P, b182 P, b183 P, b184 P, b185 P, b186 P, b187 P, b188 P, b189 P, b190 P, b191 P, b192 P, b193 P, b194 P, b195 P, b196 P, b197 P, b198 P, b199 P, b200 P, b201 P, b202 P, b203 P, b204 P, b205 P, b206 P, b207 P, b208 P, b209 P, b210 P, b211 P, b212 P, b213 P, b214 P, b215 P, b216 P, b217 P, b218 P, b219 P, b220 P, b221 P, b222 P, b223 P, b224 P, b225 P, b226 P, b227 P, b228 P, b229 P, b230 P, b231 P, b232 P, b233 P, b234 P]
noncomputable def l7 (P : Params) : List Obj := low P (b2v5 P) (b3v7 P) (b12v7 P) (c0 P ++ (c1 P ++ (c2 P ++ (c3 P ++ (c5 P ++ (c6 P ++ (c7 P)))))))
noncomputable def c8 (P : Params) : List Obj := [b235 P, b236 P, b237 P, b238 P, b239 P, b240 P, b241 P, b242 P, b243 P, b244 P, b245 P, b246 P, b247 P, b248 P, b249 P, b250 P, b251 P, b252 P, b253 P, b254 P, b255 P, b256 P, b257 P, b258 P, b259 P, b260 P, b261 P, b262 P, b263 P, b264 P, b265 P, b266 P, b267 P, b268 P, b269 P, b270 P, b271 P, b272 P, b273 P, b274 P, b275 P, b276 P, b277 P, b278 P, b279 P, b280 P, b281 P, b282 P, b283 P, b284 P, b285 P, b286 P, b287 P, b288 P, b289 P, b290 P, b291 P, b292 P, b293 P, b294 P, b295 P, b296 P, b297 P, b298 P, b299 P, b300 P, b301 P, b302 P, b303 P, b304 P, b305 P]
noncomputable def l8 (P : Params) : List Obj := low P (b2v5 P) (b3v8 P) (b12v8 P) (c0 P ++ (c1 P ++ (c2 P ++ (c3 P ++ (c5 P ++ (c6 P ++ (c7 P ++ (c8 P))))))))
noncomputable def c9 (P : Params) : List Obj := [b306 P, b307 P, b308 P, b309 P, b310 P, b311 P, b312 P, b313 P, b314 P, b315 P, b316 P, b317 P, b318 P, b319 P, b320 P, b321 P, b322 P, b323 P, b324 P, b325 P, b326 P, b327 P, b328 P, b329 P, b330 P, b331 P, b332 P, b333 P, b334 P, b335 P, b336 P, b337 P, b338 P, b339 P, b340 P, b341 P, b342 P, b343 P, b344 P, b345 P, b346 P, b347 P, b348 P, b349 P, b350 P, b351 P, b352 P, b353 P, b354 P, b355 P, b356 P, b357 P, b358 P, b359 P, b360 P, b361 P, b362 P, b363 P, b364 P, b365 P, b366 P, b367 P, b368 P, b369 P, b370 P, b371 P, b372 P, b373 P]
noncomputable def l9 (P : Params) : List Obj := low P (b2v5 P) (b3v9 P) (b12v9 P) (c0 P ++ (c1 P ++ (c2 P ++ (c3 P ++ (c5 P ++ (c6 P ++ (c7 P ++ (c8 P ++ (c9 P)))))))))
noncomputable def c10 (P : Params) : List Obj := [b374 P, b375 P, b376 P, b377 P, b378 P, b379 P, b380 P, b381 P, b382 P, b383 P, b384 P, b385 P, b386 P, b387 P, b388 P, b389 P, b390 P, b391 P, b392 P, b393 P, b394 P, b395 P, b396 P, b397 P, b398 P, b399 P, b400 P, b401 P, b402 P, b403 P, b404 P, b405 P, b406 P, b407 P, b408 P, b409 P, b410 P, b411 P, b412 P, b413 P, b414 P, b415 P, b416 P, b417 P, b418 P, b419 P, b420 P, b421 P, b422 P]
noncomputable def l10 (P : Params) : List Obj := low P (b2v5 P) (b3v10 P) (b12v10 P) (c0 P ++ (c1 P ++ (c2 P ++ (c3 P ++ (c5 P ++ (c6 P ++ (c7 P ++ (c8 P ++ (c9 P ++ (c10 P))))))))))
noncomputable def c11 (P : Params) : List Obj := [b423 P, b424 P, b425 P, b426 P, b427 P, b428 P, b429 P, b430 P, b431 P, b432 P, b433 P, b434 P, b435 P, b436 P, b437 P, b438 P, b439 P, b440 P, b441 P, b442 P, b443 P, b444 P, b445 P, b446 P, b447 P, b448 P, b449 P, b450 P, b451 P, b452 P, b453 P, b454 P, b455 P, b456 P, b457 P, b458 P, b459 P, b460 P, b461 P, b462 P, b463 P, b464 P, b465 P, b466 P, b467 P, b468 P, b469 P, b470 P, b471 P, b472 P, b473 P, b474 P, b475 P, b476 P, b477 P, b478 P, b479 P, b480 P, b481 P, b482 P, b483 P, b484 P, b485 P, b486 P, b487 P, b488 P]
noncomputable def l11 (P : Params) : List Obj := low P (b2v5 P) (b3v11 P) (b12v11 P) (c0 P ++ (c1 P ++ (c2 P ++ (c3 P ++ (c5 P ++ (c6 P ++ (c7 P ++ (c8 P ++ (c9 P ++ (c10 P ++ (c11 P)))))))))))
noncomputable def c12 (P : Params) : List Obj := [b489 P, b490 P, b491 P, b492 P, b493 P, b494 P, b495 P, b496 P, b497 P, b498 P, b499 P, b500 P, b501 P, b502 P, b503 P, b504 P, b505 P, b506 P, b507 P, b508 P, b509 P, b510 P, b511 P, b512 P, b513 P, b514 P, b515 P, b516 P, b517 P, b518 P, b519 P, b520 P, b521 P, b522 P, b523 P, b524 P, b525 P, b526 P, b527 P, b528 P, b529 P, b530 P, b531 P, b532 P, b533 P, b534 P, b535 P, b536 P, b537 P]
noncomputable def l12 (P : Params) : List Obj := low P (b2v5 P) (b3v12 P) (b12v12 P) (c0 P ++ (c1 P ++ (c2 P ++ (c3 P ++ (c5 P ++ (c6 P ++ (c7 P ++ (c8 P ++ (c9 P ++ (c10 P ++ (c11 P ++ (c12 P))))))))))))
noncomputable def c13 (P : Params) : List Obj := [b538 P, b539 P, b540 P, b541 P, b542 P, b543 P, b544 P, b545 P, b546 P, b547 P, b548 P, b549 P, b550 P, b551 P, b552 P, b553 P, b554 P, b555 P, b556 P, b557 P, b558 P, b559 P, b560 P, b561 P, b562 P, b563 P, b564 P, b565 P, b566 P, b567 P, b568 P, b569 P, b570 P, b571 P, b572 P, b573 P, b574 P, b575 P, b576 P, b577 P, b578 P, b579 P, b580 P, b581 P, b582 P, b583 P, b584 P, b585 P, b586 P, b587 P, b588 P, b589 P, b590 P, b591 P, b592 P, b593 P, b594 P, b595 P, b596 P, b597 P, b598 P, b599 P, b600 P, b601 P, b602 P, b603 P, b604 P, b605 P, b606 P, b607 P, b608 P, b609 P, b610 P, b611 P, b612 P, b613 P, b614 P, b615 P, b616 P, b617 P, b618 P, b619 P]
noncomputable def l13 (P : Params) : List Obj := low P (b2v5 P) (b3v13 P) (b12v13 P) (c0 P ++ (c1 P ++ (c2 P ++ (c3 P ++ (c5 P ++ (c6 P ++ (c7 P ++ (c8 P ++ (c9 P ++ (c10 P ++ (c11 P ++ (c12 P ++ (c13 P)))))))))))))
noncomputable def c14 (P : Params) : List Obj := [b620 P, b621 P, b622 P, b623 P, b624 P, b625 P, b626 P, b627 P, b628 P, b629 P, b630 P, b631 P, b632 P, b633 P, b634 P, b635 P, b636 P, b637 P, b638 P, b639 P, b640 P, b641 P, b642 P, b643 P, b644 P, b645 P, b646 P, b647 P, b648 P, b649 P, b650 P, b651 P, b652 P, b653 P, b654 P, b655 P, b656 P, b657 P, b658 P, b659 P, b660 P, b661 P, b662 P, b663 P, b664 P, b665 P, b666 P, b667 P, b668 P]
noncomputable def l14 (P : Params) : List Obj := low P (b2v5 P) (b3v14 P) (b12v14 P) (c0 P ++ (c1 P ++ (c2 P ++ (c3 P ++ (c5 P ++ (c6 P ++ (c7 P ++ (c8 P ++ (c9 P ++ (c10 P ++ (c11 P ++ (c12 P ++ (c13 P ++ (c14 P))))))))))))))
noncomputable def c15 (P : Params) : List Obj := [b669 P, b670 P, b671 P, b672 P, b673 P, b674 P, b675 P, b676 P, b677 P, b678 P, b679 P, b680 P, b681 P, b682 P, b683 P, b684 P, b685 P, b686 P, b687 P, b688 P, b689 P, b690 P, b691 P, b692 P, b693 P, b694 P, b695 P, b696 P, b697 P, b698 P, b699 P, b700 P, b701 P, b702 P, b703 P, b704 P, b705 P, b706 P, b707 P, b708 P, b709 P, b710 P, b711 P, b712 P, b713 P, b714 P, b715 P, b716 P, b717 P, b718 P, b719 P, b720 P, b721 P, b722 P, b723 P, b724 P]
noncomputable def l15 (P : Params) : List Obj := low P (b2v5 P) (b3v15 P) (b12v15 P) (c0 P ++ (c1 P ++ (c2 P ++ (c3 P ++ (c5 P ++ (c6 P ++ (c7 P ++ (c8 P ++ (c9 P ++ (c10 P ++ (c11 P ++ (c12 P ++ (c13 P ++ (c14 P ++ (c15 P)))))))))))))))
noncomputable def c16 (P : Params) : List Obj := [b725 P, b726 P, b727 P, b728 P, b729 P, b730 P, b731 P, b732 P, b733 P, b734 P, b735 P, b736 P, b737 P, b738 P, b739 P, b740 P, b741 P, b742 P, b743 P, b744 P, b745 P, b746 P, b747 P, b748 P, b749 P, b750 P, b751 P, b752 P, b753 P, b754 P, b755 P, b756 P, b757 P, b758 P, b759 P, b760 P, b761 P, b762 P, b763 P, b764 P, b765 P, b766 P, b767 P, b768 P, b769 P, b770 P, b771 P, b772 P, b773 P, b774 P, b775 P, b776 P, b777 P, b778 P, b779 P, b780 P, b781 P, b782 P, b783 P, b784 P, b785 P, b786 P, b787 P, b788 P, b789 P, b790 P, b791 P, b792 P, b793 P, b794 P, b795 P, b796 P, b797 P, b798 P, b799 P, b800 P, b801 P, b802 P, b803 P, b804 P, b805 P, b806 P, b807 P, b808 P, b809 P, b810 P, b811 P, b812 P, b813 P, b814 P, b815 P, b816 P, b817 P, b818 P, b819 P, b820 P, b821 P, b822 P, b823 P, b824 P, b825 P, b826 P, b827 P, b828 P, b829 P, b830 P, b831 P, b832 P, b833 P, b834 P, b835 P, b836 P, b837 P]
noncomputable def l16 (P : Params) : List Obj := low P (b2v5 P) (b3v16 P) (b12v16 P) (c0 P ++ (c1 P ++ (c2 P ++ (c3 P ++ (c5 P ++ (c6 P ++ (c7 P ++ (c8 P ++ (c9 P ++ (c10 P ++ (c11 P ++ (c12 P ++ (c13 P ++ (c14 P ++ (c15 P ++ (c16 P))))))))))))))))
noncomputable def c17 (P : Params) : List Obj := [b838 P, b839 P, b840 P, b841 P, b842 P, b843 P, b844 P, b845 P, b846 P, b847 P, b848 P, b849 P, b850 P, b851 P, b852 P, b853 P, b854 P, b855 P, b856 P, b857 P, b858 P]
noncomputable def l17 (P : Params) : List Obj := low P (b2v5 P) (b3v17 P) (b12v17 P) (c0 P ++ (c1 P ++ (c2 P ++ (c3 P ++ (c5 P ++ (c6 P ++ (c7 P ++ (c8 P ++ (c9 P ++ (c10 P ++ (c11 P ++ (c12 P ++ (c13 P ++ (c14 P ++ (c15 P ++ (c16 P ++ (c17 P)))))))))))))))))
noncomputable def c18 (P : Params) : List Obj := [b859 P, b860 P, b861 P, b862 P, b863 P, b864 P, b865 P, b866 P, b867 P, b868 P, b869 P, b870 P, b871 P, b872 P, b873 P, b874 P, b875 P, b876 P, b877 P, b878 P, b879 P, b880 P, b881 P, b882 P, b883 P, b884 P, b885 P, b886 P, b887 P, b888 P, b889 P, b890 P, b891 P, b892 P, b893 P, b894 P, b895 P, b896 P, b897 P, b898 P, b899 P, b900 P, b901 P, b902 P, b903 P, b904 P, b905 P, b906 P, b907 P, b908 P, b909 P, b910 P, b911 P, b912 P, b913 P, b914 P, b915 P, b916 P, b917 P, b918 P, b919 P, b920 P, b921 P]
noncomputable def l18 (P : Params) : List Obj := low P (b2v5 P) (b3v18 P) (b12v18 P) (c0 P ++ (c1 P ++ (c2 P ++ (c3 P ++ (c5 P ++ (c6 P ++ (c7 P ++ (c8 P ++ (c9 P ++ (c10 P ++ (c11 P ++ (c12 P ++ (c13 P ++ (c14 P ++ (c15 P ++ (c16 P ++ (c17 P ++ (c18 P))))))))))))))))))
noncomputable def c19 (P : Params) : List Obj := [b922 P, b923 P, b924 P, b925 P, b926 P, b927 P, b928 P, b929 P, b930 P, b931 P, b932 P, b933 P, b934 P, b935 P, b936 P, b937 P, b938 P, b939 P, b940 P, b941 P, b942 P]
noncomputable def l19 (P : Params) : List Obj := low P (b2v5 P) (b3v19 P) (b12v19 P) (c0 P ++ (c1 P ++ (c2 P ++ (c3 P ++ (c5 P ++ (c6 P ++ (c7 P ++ (c8 P ++ (c9 P ++ (c10 P ++ (c11 P ++ (c12 P ++ (c13 P ++ (c14 P ++ (c15 P ++ (c16 P ++ (c17 P ++ (c18 P ++ (c19 P)))))))))))))))))))
noncomputable def c20 (P : Params) : List Obj := [b943 P, b944 P, b945 P, b946 P, b947 P, b948 P, b949 P, b950 P, b951 P, b952 P, b953 P, b954 P, b955 P, b956 P, b957 P, b958 P, b959 P, b960 P, b961 P, b962 P, b963 P, b964 P, b965 P, b966 P, b967 P, b968 P, b969 P, b970 P, b971 P, b972 P, b973 P, b974 P, b975 P, b976 P, b977 P, b978 P, b979 P, b980 P, b981 P, b982 P, b983 P, b984 P, b985 P, b986 P, b987 P, b988 P, b989 P, b990 P, b991 P, b992 P, b993 P, b994 P, b995 P, b996 P, b997 P, b998 P, b999 P, b1000 P, b1001 P, b1002 P, b1003 P, b1004 P, b1005 P, b1006 P, b1007 P, b1008 P, b1009 P, b1010 P, b1011 P, b1012 P, b1013 P, b1014 P, b1015 P, b1016 P, b1017 P, b1018 P, b1019 P, b1020 P, b1021 P, b1022 P, b1023 P, b1024 P, b1025 P, b1026 P, b1027 P, b1028 P, b1029 P, b1030 P, b1031 P, b1032 P, b1033 P, b1034 P, b1035 P, b1036 P, b1037 P, b1038 P, b1039 P, b1040 P, b1041 P]
noncomputable def l20 (P : Params) : List Obj := low P (b2v5 P) (b3v20 P) (b12v20 P) (c0 P ++ (c1 P ++ (c2 P ++ (c3 P ++ (c5 P ++ (c6 P ++ (c7 P ++ (c8 P ++ (c9 P ++ (c10 P ++ (c11 P ++ (c12 P ++ (c13 P ++ (c14 P ++ (c15 P ++ (c16 P ++ (c17 P ++ (c18 P ++ (c19 P ++ (c20 P))))))))))))))))))))
noncomputable def c21 (P : Params) : List Obj := [b1042 P, b1043 P, b1044 P, b1045 P, b1046 P, b1047 P, b1048 P, b1049 P, b1050 P, b1051 P, b1052 P, b1053 P, b1054 P, b1055 P, b1056 P, b1057 P, b1058 P, b1059 P, b1060 P, b1061 P, b1062 P, b1063 P, b1064 P, b1065 P, b1066 P, b1067 P, b1068 P, b1069 P, b1070 P, b1071 P, b1072 P, b1073 P, b1074 P, b1075 P, b1076 P]
noncomputable def l21 (P : Params) : List Obj := low P (b2v5 P) (b3v21 P) (b12v21 P) (c0 P ++ (c1 P ++ (c2 P ++ (c3 P ++ (c5 P ++ (c6 P ++ (c7 P ++ (c8 P ++ (c9 P ++ (c10 P ++ (c11 P ++ (c12 P ++ (c13 P ++ (c14 P ++ (c15 P ++ (c16 P ++ (c17 P ++ (c18 P ++ (c19 P ++ (c20 P ++ (c21 P)))))))))))))))))))))
noncomputable def T0 (P : Params) : BT := ofL 11 (l0 P)
noncomputable def T1 (P : Params) : BT := ofL 11 (l1 P)
noncomputable def T2 (P : Params) : BT := ofL 11 (l2 P)
noncomputable def T3 (P : Params) : BT := ofL 11 (l3 P)
noncomputable def T4 (P : Params) : BT := ofL 11 (l4 P)
noncomputable def T5 (P : Params) : BT := ofL 11 (l5 P)
noncomputable def T6 (P : Params) : BT := ofL 11 (l6 P)
noncomputable def T7 (P : Params) : BT := ofL 11 (l7 P)
noncomputable def T8 (P : Params) : BT := ofL 11 (l8 P)
noncomputable def T9 (P : Params) : BT := ofL 11 (l9 P)
noncomputable def T10 (P : Params) : BT := ofL 11 (l10 P)
noncomputable def T11 (P : Params) : BT := ofL 11 (l11 P)
noncomputable def T12 (P : Params) : BT := ofL 11 (l12 P)
noncomputable def T13 (P : Params) : BT := ofL 11 (l13 P)
noncomputable def T14 (P : Params) : BT := ofL 11 (l14 P)
noncomputable def T15 (P : Params) : BT := ofL 11 (l15 P)
noncomputable def T16 (P : Params) : BT := ofL 11 (l16 P)
noncomputable def T17 (P : Params) : BT := ofL 11 (l17 P)
noncomputable def T18 (P : Params) : BT := ofL 11 (l18 P)
noncomputable def T19 (P : Params) : BT := ofL 11 (l19 P)
noncomputable def T20 (P : Params) : BT := ofL 11 (l20 P)
noncomputable def T21 (P : Params) : BT := ofL 11 (l21 P)
theorem q1 (w : World) : (fun os => PySem.W.Fast.tw10110043849684766642 PySem.W.Fast.tw14364793385576792824 prg w 11 (some (.ref 6)) 1 274 (St (T0 w.params) 15 187 os) (piecesOf (grp 0 3) env cd ⟨0, 0, 0, 0⟩ [topFrame P0])) =
    fun os => some (.next, St (T1 w.params) 43 238 os, cd, ⟨5, 0, 19, 21⟩) := by kernel_rfl
theorem q2 (w : World) : (fun os => PySem.W.Fast.tw10110043849684766642 PySem.W.Fast.tw14364793385576792824 prg w 11 (some (.ref 6)) 1 239 (St (T1 w.params) 43 238 os) (piecesOf (grp 3 1) env cd ⟨5, 0, 19, 21⟩ [topFrame P0])) =
    fun os => some (.next, St (T2 w.params) 64 283 os, cd, ⟨20, 0, 36, 28⟩) := by kernel_rfl
theorem q3 (w : World) : (fun os => PySem.W.Fast.tw10110043849684766642 PySem.W.Fast.tw14364793385576792824 prg w 11 (some (.ref 6)) 1 260 (St (T2 w.params) 64 283 os) (piecesOf (grp 4 1) env cd ⟨20, 0, 36, 28⟩ [topFrame P0])) =
    fun os => some (.next, St (T3 w.params) 92 325 os, cd, ⟨37, 0, 49, 19⟩) := by kernel_rfl
theorem q4 (w : World) : (fun os => PySem.W.Fast.tw10110043849684766642 PySem.W.Fast.tw14364793385576792824 prg w 11 (some (.ref 6)) 1 372 (St (T3 w.params) 92 325 os) (piecesOf (grp 5 4) env cd ⟨37, 0, 49, 19⟩ [topFrame P0])) =
    fun os => some (.next, St (T4 w.params) 140 405 os, cd, ⟨93, 0, 113, 52⟩) := by kernel_rfl
theorem q5 (w : World) : (fun os => PySem.W.Fast.tw10110043849684766642 PySem.W.Fast.tw14364793385576792824 prg w 11 (some (.ref 6)) 1 237 (St (T4 w.params) 140 405 os) (piecesOf (grp 9 3) env cd ⟨93, 0, 113, 52⟩ [topFrame P0])) =
    fun os => some (.next, St (T5 w.params) 160 436 os, cd, ⟨123, 0, 124, 8⟩) := by kernel_rfl
theorem q6 (w : World) : (fun os => PySem.W.Fast.tw10110043849684766642 PySem.W.Fast.tw14364793385576792824 prg w 11 (some (.ref 6)) 1 248 (St (T5 w.params) 160 436 os) (piecesOf (grp 12 1) env cd ⟨123, 0, 124, 8⟩ [topFrame P0])) =
    fun os => some (.next, St (T6 w.params) 179 463 os, cd, ⟨125, 0, 129, 20⟩) := by kernel_rfl
theorem q7 (w : World) : (fun os => PySem.W.Fast.tw10110043849684766642 PySem.W.Fast.tw14364793385576792824 prg w 11 (some (.ref 6)) 1 396 (St (T6 w.params) 179 463 os) (piecesOf (grp 13 5) env cd ⟨125, 0, 129, 20⟩ [topFrame P0])) =
    fun os => some (.next, St (T7 w.params) 235 535 os, cd, ⟨155, 0, 159, 12⟩) := by kernel_rfl
theorem q8 (w : World) : (fun os => PySem.W.Fast.tw10110043849684766642 PySem.W.Fast.tw14364793385576792824 prg w 11 (some (.ref 6)) 1 347 (St (T7 w.params) 235 535 os) (piecesOf (grp 18 13) env cd ⟨155, 0, 159, 12⟩ [topFrame P0])) =
    fun os => some (.next, St (T8 w.params) 306 639 os, cd, ⟨233, 0, 233, 9⟩) := by kernel_rfl
theorem q9 (w : World) : (fun os => PySem.W.Fast.tw10110043849684766642 PySem.W.Fast.tw14364793385576792824 prg w 11 (some (.ref 6)) 1 447 (St (T8 w.params) 306 639 os) (piecesOf (grp 31 1) env cd ⟨233, 0, 233, 9⟩ [topFrame P0])) =
    fun os => some (.next, St (T9 w.params) 374 726 os, cd, ⟨234, 0, 286, 63⟩) := by kernel_rfl
theorem q10 (w : World) : (fun os => PySem.W.Fast.tw10110043849684766642 PySem.W.Fast.tw14364793385576792824 prg w 11 (some (.ref 6)) 1 378 (St (T9 w.params) 374 726 os) (piecesOf (grp 32 9) env cd ⟨234, 0, 286, 63⟩ [topFrame P0])) =
    fun os => some (.next, St (T10 w.params) 423 794 os, cd, ⟨307, 0, 311, 12⟩) := by kernel_rfl
theorem q11 (w : World) : (fun os => PySem.W.Fast.tw10110043849684766642 PySem.W.Fast.tw14364793385576792824 prg w 11 (some (.ref 6)) 1 357 (St (T10 w.params) 423 794 os) (piecesOf (grp 41 14) env cd ⟨307, 0, 311, 12⟩ [topFrame P0])) =
    fun os => some (.next, St (T11 w.params) 489 902 os, cd, ⟨416, 0, 416, 9⟩) := by kernel_rfl
theorem q12 (w : World) : (fun os => PySem.W.Fast.tw10110043849684766642 PySem.W.Fast.tw14364793385576792824 prg w 11 (some (.ref 6)) 1 372 (St (T11 w.params) 489 902 os) (piecesOf (grp 55 2) env cd ⟨416, 0, 416, 9⟩ [topFrame P0])) =
    fun os => some (.next, St (T12 w.params) 538 986 os, cd, ⟨453, 0, 464, 30⟩) := by kernel_rfl
theorem q13 (w : World) : (fun os => PySem.W.Fast.tw10110043849684766642 PySem.W.Fast.tw14364793385576792824 prg w 11 (some (.ref 6)) 1 393 (St (T12 w.params) 538 986 os) (piecesOf (grp 57 13) env cd ⟨453, 0, 464, 30⟩ [topFrame P0])) =
    fun os => some (.next, St (T13 w.params) 620 1107 os, cd, ⟨580, 0, 595, 73⟩) := by kernel_rfl
theorem q14 (w : World) : (fun os => PySem.W.Fast.tw10110043849684766642 PySem.W.Fast.tw14364793385576792824 prg w 11 (some (.ref 6)) 1 401 (St (T13 w.params) 620 1107 os) (piecesOf (grp 70 7) env cd ⟨580, 0, 595, 73⟩ [topFrame P0])) =
    fun os => some (.next, St (T14 w.params) 669 1194 os, cd, ⟨654, 0, 654, 9⟩) := by kernel_rfl
theorem q15 (w : World) : (fun os => PySem.W.Fast.tw10110043849684766642 PySem.W.Fast.tw14364793385576792824 prg w 11 (some (.ref 6)) 1 375 (St (T14 w.params) 669 1194 os) (piecesOf (grp 77 6) env cd ⟨654, 0, 654, 9⟩ [topFrame P0])) =
    fun os => some (.next, St (T15 w.params) 725 1265 os, cd, ⟨669, 0, 675, 16⟩) := by kernel_rfl
theorem q16 (w : World) : (fun os => PySem.W.Fast.tw10110043849684766642 PySem.W.Fast.tw14364793385576792824 prg w 11 (some (.ref 6)) 1 663 (St (T15 w.params) 725 1265 os) (piecesOf (grp 83 1) env cd ⟨669, 0, 675, 16⟩ [topFrame P0])) =
    fun os => some (.next, St (T16 w.params) 838 1421 os, cd, ⟨676, 0, 823, 17⟩) := by kernel_rfl
theorem q17 (w : World) : (fun os => PySem.W.Fast.tw10110043849684766642 PySem.W.Fast.tw14364793385576792824 prg w 11 (some (.ref 6)) 1 237 (St (T16 w.params) 838 1421 os) (piecesOf (grp 84 2) env cd ⟨676, 0, 823, 17⟩ [topFrame P0])) =
    fun os => some (.next, St (T17 w.params) 859 1457 os, cd, ⟨825, 0, 832, 22⟩) := by kernel_rfl
theorem q18 (w : World) : (fun os => PySem.W.Fast.tw10110043849684766642 PySem.W.Fast.tw14364793385576792824 prg w 11 (some (.ref 6)) 1 425 (St (T17 w.params) 859 1457 os) (piecesOf (grp 86 1) env cd ⟨825, 0, 832, 22⟩ [topFrame P0])) =
    fun os => some (.next, St (T18 w.params) 922 1544 os, cd, ⟨833, 0, 879, 19⟩) := by kernel_rfl
theorem q19 (w : World) : (fun os => PySem.W.Fast.tw10110043849684766642 PySem.W.Fast.tw14364793385576792824 prg w 11 (some (.ref 6)) 1 125 (St (T18 w.params) 922 1544 os) (piecesOf (grp 87 7) env cd ⟨833, 0, 879, 19⟩ [topFrame P0])) =
    fun os => some (.next, St (T19 w.params) 943 1572 os, cd, ⟨898, 0, 898, 10⟩) := by kernel_rfl
theorem q20 (w : World) : (fun os => PySem.W.Fast.tw10110043849684766642 PySem.W.Fast.tw14364793385576792824 prg w 11 (some (.ref 6)) 1 587 (St (T19 w.params) 943 1572 os) (piecesOf (grp 94 1) env cd ⟨898, 0, 898, 10⟩ [topFrame P0])) =
    fun os => some (.next, St (T20 w.params) 1042 1700 os, cd, ⟨899, 0, 966, 23⟩) := by kernel_rfl
theorem q21 (w : World) : (fun os => PySem.W.Fast.tw10110043849684766642 PySem.W.Fast.tw14364793385576792824 prg w 11 (some (.ref 6)) 1 324 (St (T20 w.params) 1042 1700 os) (piecesOf (grp 95 5) env cd ⟨899, 0, 966, 23⟩ [topFrame P0])) =
    fun os => some (.next, St (T21 w.params) 1077 1772 os, cd, ⟨985, 0, 1031, 60⟩) := by kernel_rfl
end hd
end Mine
-- H2
namespace Mine
namespace hd
noncomputable def heap_39 (P : Params) : Frag := [(nat_lit 2, b2v5 P), (nat_lit 3, b3v21 P), (nat_lit 15, b15 P), (nat_lit 17, b17 P), (nat_lit 18, b18 P), (nat_lit 20, b20 P), (nat_lit 21, b21 P), (nat_lit 29, b29 P), (nat_lit 31, b31 P), (nat_lit 32, b32 P), (nat_lit 34, b34 P), (nat_lit 35, b35 P), (nat_lit 36, b36 P), (nat_lit 37, b37 P), (nat_lit 38, b38 P), (nat_lit 39, b39 P), (nat_lit 40, b40 P), (nat_lit 50, b50 P), (nat_lit 52, b52 P), (nat_lit 53, b53 P), (nat_lit 55, b55 P), (nat_lit 56, b56 P), (nat_lit 57, b57 P), (nat_lit 58, b58 P), (nat_lit 59, b59 P), (nat_lit 60, b60 P), (nat_lit 61, b61 P), (nat_lit 71, b71 P), (nat_lit 73, b73 P), (nat_lit 74, b74 P), (nat_lit 76, b76 P), (nat_lit 77, b77 P), (nat_lit 78, b78 P), (nat_lit 80, b80 P), (nat_lit 81, b81 P), (nat_lit 83, b83 P), (nat_lit 84, b84 P), (nat_lit 85, b85 P), (nat_lit 86, b86 P), (nat_lit 87, b87 P), (nat_lit 88, b88 P), (nat_lit 89, b89 P), (nat_lit 99, b99 P), (nat_lit 101, b101 P), (nat_lit 102, b102 P), (nat_lit 104, b104 P), (nat_lit 105, b105 P), (nat_lit 106, b106 P), (nat_lit 107, b107 P), (nat_lit 109, b109 P), (nat_lit 110, b110 P), (nat_lit 112, b112 P), (nat_lit 113, b113 P), (nat_lit 114, b114 P), (nat_lit 116, b116 P), (nat_lit 117, b117 P), (nat_lit 119, b119 P), (nat_lit 120, b120 P), (nat_lit 121, b121 P), (nat_lit 122, b122 P), (nat_lit 123, b123 P), (nat_lit 124, b124 P), (nat_lit 125, b125 P), (nat_lit 128, b128 P), (nat_lit 131, b131 P), (nat_lit 132, b132 P), (nat_lit 133, b133 P), (nat_lit 135, b135 P), (nat_lit 136, b136 P), (nat_lit 138, b138 P), (nat_lit 139, b139 P), (nat_lit 140, b140 P), (nat_lit 142, b142 P), (nat_lit 143, b143 P), (nat_lit 145, b145 P), (nat_lit 146, b146 P), (nat_lit 147, b147 P), (nat_lit 154, b154 P), (nat_lit 155, b155 P), (nat_lit 156, b156v6 P), (nat_lit 157, b157 P), (nat_lit 160, b160 P), (nat_lit 167, b167 P), (nat_lit 169, b169 P), (nat_lit 170, b170 P), (nat_lit 172, b172 P), (nat_lit 173, b173 P), (nat_lit 174, b174 P), (nat_lit 175, b175 P), (nat_lit 176, b176 P), (nat_lit 186, b186 P), (nat_lit 188, b188 P), (nat_lit 189, b189 P), (nat_lit 191, b191 P), (nat_lit 192, b192 P), (nat_lit 193, b193 P), (nat_lit 195, b195 P), (nat_lit 196, b196 P), (nat_lit 198, b198 P), (nat_lit 199, b199 P), (nat_lit 200, b200 P), (nat_lit 202, b202 P), (nat_lit 203, b203 P), (nat_lit 205, b205 P), (nat_lit 206, b206 P), (nat_lit 207, b207 P), (nat_lit 209, b209 P), (nat_lit 210, b210 P), (nat_lit 212, b212 P), (nat_lit 213, b213 P), (nat_lit 214, b214 P), (nat_lit 215, b215 P), (nat_lit 216, b216 P), (nat_lit 217, b217 P), (nat_lit 218, b218 P), (nat_lit 221, b221 P), (nat_lit 223, b223 P), (nat_lit 224, b224 P), (nat_lit 226, b226 P), (nat_lit 227, b227 P), (nat_lit 228, b228 P), (nat_lit 230, b230 P), (nat_lit 231, b231 P), (nat_lit 233, b233 P), (nat_lit 234, b234 P), (nat_lit 235, b235 P), (nat_lit 237, b237 P), (nat_lit 238, b238 P), (nat_lit 240, b240 P), (nat_lit 241, b241 P), (nat_lit 242, b242 P), (nat_lit 244, b244 P), (nat_lit 245, b245 P), (nat_lit 247, b247 P), (nat_lit 248, b248 P), (nat_lit 249, b249 P), (nat_lit 251, b251 P), (nat_lit 252, b252 P), (nat_lit 254, b254 P), (nat_lit 255, b255 P), (nat_lit 256, b256 P), (nat_lit 258, b258 P), (nat_lit 259, b259 P), (nat_lit 261, b261 P), (nat_lit 262, b262 P), (nat_lit 263, b263 P), (nat_lit 264, b264 P), (nat_lit 266, b266 P), (nat_lit 267, b267 P), (nat_lit 269, b269 P), (nat_lit 270, b270 P), (nat_lit 271, b271 P), (nat_lit 273, b273 P), (nat_lit 274, b274 P), (nat_lit 276, b276 P), (nat_lit 277, b277 P), (nat_lit 278, b278 P), (nat_lit 280, b280 P), (nat_lit 281, b281 P), (nat_lit 283, b283 P), (nat_lit 284, b284 P), (nat_lit 285, b285 P), (nat_lit 287, b287 P), (nat_lit 288, b288 P), (nat_lit 290, b290 P), (nat_lit 291, b291 P), (nat_lit 292, b292 P), (nat_lit 294, b294 P), (nat_lit 295, b295 P), (nat_lit 297, b297 P), (nat_lit 298, b298 P), (nat_lit 299, b299 P), (nat_lit 301, b301 P), (nat_lit 302, b302 P), (nat_lit 304, b304 P), (nat_lit 305, b305 P), (nat_lit 313, b313 P), (nat_lit 315, b315 P), (nat_lit 316, b316 P), (nat_lit 318, b318 P), (nat_lit 319, b319 P), (nat_lit 320, b320 P), (nat_lit 322, b322 P), (nat_lit 323, b323 P), (nat_lit 325, b325 P), (nat_lit 326, b326 P), (nat_lit 327, b327 P), (nat_lit 329, b329 P), (nat_lit 330, b330 P), (nat_lit 332, b332 P), (nat_lit 333, b333 P), (nat_lit 334, b334 P), (nat_lit 336, b336 P), (nat_lit 337, b337 P), (nat_lit 339, b339 P), (nat_lit 340, b340 P), (nat_lit 341, b341 P), (nat_lit 343, b343 P), (nat_lit 344, b344 P), (nat_lit 346, b346 P), (nat_lit 347, b347 P), (nat_lit 348, b348 P), (nat_lit 350, b350 P), (nat_lit 351, b351 P), (nat_lit 353, b353 P), (nat_lit 354, b354 P), (nat_lit 355, b355 P), (nat_lit 357, b357 P), (nat_lit 358, b358 P), (nat_lit 360, b360 P), (nat_lit 361, b361 P), (nat_lit 362, b362 P), (nat_lit 365, b365 P), (nat_lit 366, b366 P), (nat_lit 367, b367 P), (nat_lit 368, b368 P), (nat_lit 369, b369 P), (nat_lit 370, b370 P), (nat_lit 371, b371 P), (nat_lit 374, b374 P), (nat_lit 376, b376 P), (nat_lit 377, b377 P), (nat_lit 379, b379 P), (nat_lit 380, b380 P), (nat_lit 381, b381 P), (nat_lit 383, b383 P), (nat_lit 384, b384 P), (nat_lit 386, b386 P), (nat_lit 387, b387 P), (nat_lit 395, b395 P), (nat_lit 397, b397 P), (nat_lit 398, b398 P), (nat_lit 400, b400 P), (nat_lit 401, b401 P), (nat_lit 402, b402 P), (nat_lit 403, b403 P), (nat_lit 404, b404 P), (nat_lit 405, b405 P), (nat_lit 406, b406 P), (nat_lit 409, b409 P), (nat_lit 411, b411 P), (nat_lit 412, b412 P), (nat_lit 414, b414 P), (nat_lit 415, b415 P), (nat_lit 416, b416 P), (nat_lit 418, b418 P), (nat_lit 419, b419 P), (nat_lit 421, b421 P), (nat_lit 422, b422 P), (nat_lit 423, b423 P), (nat_lit 425, b425 P), (nat_lit 426, b426 P), (nat_lit 428, b428 P), (nat_lit 429, b429 P), (nat_lit 430, b430 P), (nat_lit 432, b432 P), (nat_lit 433, b433 P), (nat_lit 435, b435 P), (nat_lit 436, b436 P), (nat_lit 437, b437 P), (nat_lit 439, b439 P), (nat_lit 440, b440 P), (nat_lit 442, b442 P), (nat_lit 443, b443 P), (nat_lit 444, b444 P), (nat_lit 446, b446 P), (nat_lit 447, b447 P), (nat_lit 449, b449 P), (nat_lit 450, b450 P), (nat_lit 451, b451 P), (nat_lit 453, b453 P), (nat_lit 454, b454 P), (nat_lit 456, b456 P), (nat_lit 457, b457 P), (nat_lit 458, b458 P), (nat_lit 460, b460 P), (nat_lit 461, b461 P), (nat_lit 463, b463 P), (nat_lit 464, b464 P), (nat_lit 465, b465 P), (nat_lit 468, b468 P), (nat_lit 469, b469 P), (nat_lit 470, b470 P), (nat_lit 472, b472 P), (nat_lit 473, b473 P), (nat_lit 475, b475 P), (nat_lit 476, b476 P), (nat_lit 477, b477 P), (nat_lit 479, b479 P), (nat_lit 480, b480 P), (nat_lit 482, b482 P), (nat_lit 483, b483 P), (nat_lit 484, b484 P), (nat_lit 487, b487 P), (nat_lit 488, b488 P), (nat_lit 496, b496 P), (nat_lit 498, b498 P), (nat_lit 499, b499 P), (nat_lit 501, b501 P), (nat_lit 502, b502 P), (nat_lit 503, b503 P), (nat_lit 505, b505 P), (nat_lit 506, b506 P), (nat_lit 508, b508 P), (nat_lit 509, b509 P), (nat_lit 510, b510 P), (nat_lit 512, b512 P), (nat_lit 513, b513 P), (nat_lit 515, b515 P), (nat_lit 516, b516 P), (nat_lit 517, b517 P), (nat_lit 519, b519 P), (nat_lit 520, b520 P), (nat_lit 522, b522 P), (nat_lit 523, b523 P), (nat_lit 524, b524 P), (nat_lit 525, b525 P), (nat_lit 526, b526 P), (nat_lit 527, b527 P), (nat_lit 528, b528 P), (nat_lit 531, b531 P), (nat_lit 533, b533 P), (nat_lit 534, b534 P), (nat_lit 536, b536 P), (nat_lit 537, b537 P), (nat_lit 538, b538 P), (nat_lit 540, b540 P), (nat_lit 541, b541 P), (nat_lit 543, b543 P), (nat_lit 544, b544 P), (nat_lit 545, b545 P), (nat_lit 547, b547 P), (nat_lit 548, b548 P), (nat_lit 550, b550 P), (nat_lit 551, b551 P), (nat_lit 552, b552 P), (nat_lit 554, b554 P), (nat_lit 555, b555 P), (nat_lit 557, b557 P), (nat_lit 558, b558 P), (nat_lit 559, b559 P), (nat_lit 561, b561 P), (nat_lit 562, b562 P), (nat_lit 564, b564 P), (nat_lit 565, b565 P), (nat_lit 566, b566 P), (nat_lit 568, b568 P), (nat_lit 569, b569 P), (nat_lit 571, b571 P), (nat_lit 572, b572 P), (nat_lit 573, b573 P), (nat_lit 575, b575 P), (nat_lit 576, b576 P), (nat_lit 578, b578 P), (nat_lit 579, b579 P), (nat_lit 580, b580 P), (nat_lit 583, b583 P), (nat_lit 584, b584 P), (nat_lit 585, b585 P), (nat_lit 587, b587 P), (nat_lit 588, b588 P), (nat_lit 590, b590 P), (nat_lit 591, b591 P), (nat_lit 592, b592 P), (nat_lit 594, b594 P), (nat_lit 595, b595 P), (nat_lit 597, b597 P), (nat_lit 598, b598 P), (nat_lit 599, b599 P), (nat_lit 601, b601 P), (nat_lit 602, b602 P), (nat_lit 604, b604 P), (nat_lit 605, b605 P), (nat_lit 606, b606 P), (nat_lit 608, b608 P), (nat_lit 609, b609 P), (nat_lit 611, b611 P), (nat_lit 612, b612 P), (nat_lit 613, b613 P), (nat_lit 615, b615 P), (nat_lit 616, b616 P), (nat_lit 618, b618 P), (nat_lit 619, b619 P), (nat_lit 620, b620 P), (nat_lit 622, b622 P), (nat_lit 623, b623 P), (nat_lit 625, b625 P), (nat_lit 626, b626 P), (nat_lit 627, b627 P), (nat_lit 629, b629 P), (nat_lit 630, b630 P), (nat_lit 632, b632 P), (nat_lit 633, b633 P), (nat_lit 641, b641 P), (nat_lit 643, b643 P), (nat_lit 644, b644 P), (nat_lit 646, b646 P), (nat_lit 647, b647 P), (nat_lit 648, b648 P), (nat_lit 650, b650 P), (nat_lit 651, b651 P), (nat_lit 653, b653 P), (nat_lit 654, b654 P), (nat_lit 655, b655 P), (nat_lit 657, b657 P), (nat_lit 658, b658 P), (nat_lit 660, b660 P), (nat_lit 661, b661 P), (nat_lit 662, b662 P), (nat_lit 663, b663 P), (nat_lit 664, b664 P), (nat_lit 665, b665 P), (nat_lit 666, b666 P), (nat_lit 676, b676 P), (nat_lit 678, b678 P), (nat_lit 679, b679 P), (nat_lit 681, b681 P), (nat_lit 682, b682 P), (nat_lit 683, b683 P), (nat_lit 684, b684 P), (nat_lit 685, b685 P), (nat_lit 686, b686 P), (nat_lit 687, b687 P), (nat_lit 690, b690 P), (nat_lit 692, b692 P), (nat_lit 693, b693 P), (nat_lit 695, b695 P), (nat_lit 696, b696 P), (nat_lit 697, b697 P), (nat_lit 699, b699 P), (nat_lit 700, b700 P), (nat_lit 702, b702 P), (nat_lit 703, b703 P), (nat_lit 704, b704 P), (nat_lit 706, b706 P), (nat_lit 707, b707 P), (nat_lit 709, b709 P), (nat_lit 710, b710 P), (nat_lit 711, b711 P), (nat_lit 713, b713 P), (nat_lit 714, b714 P), (nat_lit 716, b716 P), (nat_lit 717, b717 P), (nat_lit 718, b718 P), (nat_lit 720, b720 P), (nat_lit 721, b721 P), (nat_lit 723, b723 P), (nat_lit 724, b724 P), (nat_lit 732, b732 P), (nat_lit 734, b734 P), (nat_lit 735, b735 P), (nat_lit 737, b737 P), (nat_lit 738, b738 P), (nat_lit 739, b739 P), (nat_lit 740, b740 P), (nat_lit 742, b742 P), (nat_lit 743, b743 P), (nat_lit 745, b745 P), (nat_lit 746, b746 P), (nat_lit 747, b747 P), (nat_lit 749, b749 P), (nat_lit 750, b750 P), (nat_lit 752, b752 P), (nat_lit 753, b753 P), (nat_lit 754, b754 P), (nat_lit 756, b756 P), (nat_lit 757, b757 P), (nat_lit 759, b759 P), (nat_lit 760, b760 P), (nat_lit 761, b761 P), (nat_lit 763, b763 P), (nat_lit 764, b764 P), (nat_lit 766, b766 P), (nat_lit 767, b767 P), (nat_lit 768, b768 P), (nat_lit 770, b770 P), (nat_lit 771, b771 P), (nat_lit 773, b773 P), (nat_lit 774, b774 P), (nat_lit 775, b775 P), (nat_lit 777, b777 P), (nat_lit 778, b778 P), (nat_lit 780, b780 P), (nat_lit 781, b781 P), (nat_lit 782, b782 P), (nat_lit 784, b784 P), (nat_lit 785, b785 P), (nat_lit 787, b787 P), (nat_lit 788, b788 P), (nat_lit 789, b789 P), (nat_lit 791, b791 P), (nat_lit 792, b792 P), (nat_lit 794, b794 P), (nat_lit 795, b795 P), (nat_lit 796, b796 P), (nat_lit 798, b798 P), (nat_lit 799, b799 P), (nat_lit 801, b801 P), (nat_lit 802, b802 P), (nat_lit 803, b803 P), (nat_lit 805, b805 P), (nat_lit 806, b806 P), (nat_lit 808, b808 P), (nat_lit 809, b809 P), (nat_lit 810, b810 P), (nat_lit 812, b812 P), (nat_lit 813, b813 P), (nat_lit 815, b815 P), (nat_lit 816, b816 P), (nat_lit 817, b817 P), (nat_lit 819, b819 P), (nat_lit 820, b820 P), (nat_lit 822, b822 P), (nat_lit 823, b823 P), (nat_lit 824, b824 P), (nat_lit 826, b826 P), (nat_lit 827, b827 P), (nat_lit 829, b829 P), (nat_lit 830, b830 P), (nat_lit 831, b831 P), (nat_lit 832, b832 P), (nat_lit 833, b833 P), (nat_lit 834, b834 P), (nat_lit 835, b835 P), (nat_lit 845, b845 P), (nat_lit 847, b847 P), (nat_lit 848, b848 P), (nat_lit 850, b850 P), (nat_lit 851, b851 P), (nat_lit 852, b852 P), (nat_lit 853, b853 P), (nat_lit 854, b854 P), (nat_lit 855, b855 P), (nat_lit 856, b856 P), (nat_lit 866, b866 P), (nat_lit 868, b868 P), (nat_lit 869, b869 P), (nat_lit 871, b871 P), (nat_lit 872, b872 P), (nat_lit 873, b873 P), (nat_lit 875, b875 P), (nat_lit 876, b876 P), (nat_lit 878, b878 P), (nat_lit 879, b879 P), (nat_lit 880, b880 P), (nat_lit 882, b882 P), (nat_lit 883, b883 P), (nat_lit 885, b885 P), (nat_lit 886, b886 P), (nat_lit 887, b887 P), (nat_lit 889, b889 P), (nat_lit 890, b890 P), (nat_lit 892, b892 P), (nat_lit 893, b893 P), (nat_lit 894, b894 P), (nat_lit 896, b896 P), (nat_lit 897, b897 P), (nat_lit 899, b899 P), (nat_lit 900, b900 P), (nat_lit 901, b901 P), (nat_lit 903, b903 P), (nat_lit 904, b904 P), (nat_lit 906, b906 P), (nat_lit 907, b907 P), (nat_lit 908, b908 P), (nat_lit 910, b910 P), (nat_lit 911, b911 P), (nat_lit 913, b913 P), (nat_lit 914, b914 P), (nat_lit 915, b915 P), (nat_lit 916, b916 P), (nat_lit 917, b917 P), (nat_lit 918, b918 P), (nat_lit 919, b919 P), (nat_lit 922, b922 P), (nat_lit 924, b924 P), (nat_lit 925, b925 P), (nat_lit 927, b927 P), (nat_lit 928, b928 P), (nat_lit 929, b929 P), (nat_lit 931, b931 P), (nat_lit 932, b932 P), (nat_lit 934, b934 P), (nat_lit 935, b935 P), (nat_lit 936, b936 P), (nat_lit 938, b938 P), (nat_lit 939, b939 P), (nat_lit 941, b941 P), (nat_lit 942, b942 P), (nat_lit 950, b950 P), (nat_lit 951, b951 P), (nat_lit 953, b953 P), (nat_lit 954, b954 P), (nat_lit 956, b956 P), (nat_lit 957, b957 P), (nat_lit 958, b958 P), (nat_lit 960, b960 P), (nat_lit 961, b961 P), (nat_lit 963, b963 P), (nat_lit 964, b964 P), (nat_lit 965, b965 P), (nat_lit 967, b967 P), (nat_lit 968, b968 P), (nat_lit 970, b970 P), (nat_lit 971, b971 P), (nat_lit 972, b972 P), (nat_lit 974, b974 P), (nat_lit 975, b975 P), (nat_lit 977, b977 P), (nat_lit 978, b978 P), (nat_lit 979, b979 P), (nat_lit 981, b981 P), (nat_lit 982, b982 P), (nat_lit 984, b984 P), (nat_lit 985, b985 P), (nat_lit 986, b986 P), (nat_lit 988, b988 P), (nat_lit 989, b989 P), (nat_lit 991, b991 P), (nat_lit 992, b992 P), (nat_lit 993, b993 P), (nat_lit 995, b995 P), (nat_lit 996, b996 P), (nat_lit 998, b998 P), (nat_lit 999, b999 P), (nat_lit 1000, b1000 P), (nat_lit 1002, b1002 P), (nat_lit 1003, b1003 P), (nat_lit 1005, b1005 P), (nat_lit 1006, b1006 P), (nat_lit 1007, b1007 P), (nat_lit 1009, b1009 P), (nat_lit 1010, b1010 P), (nat_lit 1012, b1012 P), (nat_lit 1013, b1013 P), (nat_lit 1014, b1014 P), (nat_lit 1016, b1016 P), (nat_lit 1017, b1017 P), (nat_lit 1019, b1019 P), (nat_lit 1020, b1020 P), (nat_lit 1021, b1021 P), (nat_lit 1023, b1023 P), (nat_lit 1024, b1024 P), (nat_lit 1026, b1026 P), (nat_lit 1027, b1027 P), (nat_lit 1028, b1028 P), (nat_lit 1030, b1030 P), (nat_lit 1031, b1031 P), (nat_lit 1033, b1033 P), (nat_lit 1034, b1034 P), (nat_lit 1035, b1035 P), (nat_lit 1036, b1036 P), (nat_lit 1037, b1037 P), (nat_lit 1038, b1038 P), (nat_lit 1039, b1039 P), (nat_lit 1049, b1049 P), (nat_lit 1051, b1051 P), (nat_lit 1052, b1052 P), (nat_lit 1054, b1054 P), (nat_lit 1055, b1055 P), (nat_lit 1056, b1056 P), (nat_lit 1057, b1057 P), (nat_lit 1058, b1058 P), (nat_lit 1059, b1059 P), (nat_lit 1060, b1060 P), (nat_lit 1063, b1063 P), (nat_lit 1065, b1065 P), (nat_lit 1066, b1066 P), (nat_lit 1068, b1068 P), (nat_lit 1069, b1069 P), (nat_lit 1070, b1070 P), (nat_lit 1072, b1072 P), (nat_lit 1073, b1073 P), (nat_lit 1075, b1075 P), (nat_lit 1076, b1076 P)]
noncomputable def adr : List Addr := [2, 3, 15, 17, 18, 20, 21, 29, 31, 32, 34, 35, 36, 37, 38, 39, 40, 50, 52, 53, 55, 56, 57, 58, 59, 60, 61, 71, 73, 74, 76, 77, 78, 80, 81, 83, 84, 85, 86, 87, 88, 89, 99, 101, 102, 104, 105, 106, 107, 109, 110, 112, 113, 114, 116, 117, 119, 120, 121, 122, 123, 124, 125, 128, 131, 132, 133, 135, 136, 138, 139, 140, 142, 143, 145, 146, 147, 154, 155, 156, 157, 160, 167, 169, 170, 172, 173, 174, 175, 176, 186, 188, 189, 191, 192, 193, 195, 196, 198, 199, 200, 202, 203, 205, 206, 207, 209, 210, 212, 213, 214, 215, 216, 217, 218, 221, 223, 224, 226, 227, 228, 230, 231, 233, 234, 235, 237, 238, 240, 241, 242, 244, 245, 247, 248, 249, 251, 252, 254, 255, 256, 258, 259, 261, 262, 263, 264, 266, 267, 269, 270, 271, 273, 274, 276, 277, 278, 280, 281, 283, 284, 285, 287, 288, 290, 291, 292, 294, 295, 297, 298, 299, 301, 302, 304, 305, 313, 315, 316, 318, 319, 320, 322, 323, 325, 326, 327, 329, 330, 332, 333, 334, 336, 337, 339, 340, 341, 343, 344, 346, 347, 348, 350, 351, 353, 354, 355, 357, 358, 360, 361, 362, 365, 366, 367, 368, 369, 370, 371, 374, 376, 377, 379, 380, 381, 383, 384, 386, 387, 395, 397, 398, 400, 401, 402, 403, 404, 405, 406, 409, 411, 412, 414, 415, 416, 418, 419, 421, 422, 423, 425, 426, 428, 429, 430, 432, 433, 435, 436, 437, 439, 440, 442, 443, 444, 446, 447, 449, 450, 451, 453, 454, 456, 457, 458, 460, 461, 463, 464, 465, 468, 469, 470, 472, 473, 475, 476, 477, 479, 480, 482, 483, 484, 487, 488, 496, 498, 499, 501, 502, 503, 505, 506, 508, 509, 510, 512, 513, 515, 516, 517, 519, 520, 522, 523, 524, 525, 526, 527, 528, 531, 533, 534, 536, 537, 538, 540, 541, 543, 544, 545, 547, 548, 550, 551, 552, 554, 555, 557, 558, 559, 561, 562, 564, 565, 566, 568, 569, 571, 572, 573, 575, 576, 578, 579, 580, 583, 584, 585, 587, 588, 590, 591, 592, 594, 595, 597, 598, 599, 601, 602, 604, 605, 606, 608, 609, 611, 612, 613, 615, 616, 618, 619, 620, 622, 623, 625, 626, 627, 629, 630, 632, 633, 641, 643, 644, 646, 647, 648, 650, 651, 653, 654, 655, 657, 658, 660, 661, 662, 663, 664, 665, 666, 676, 678, 679, 681, 682, 683, 684, 685, 686, 687, 690, 692, 693, 695, 696, 697, 699, 700, 702, 703, 704, 706, 707, 709, 710, 711, 713, 714, 716, 717, 718, 720, 721, 723, 724, 732, 734, 735, 737, 738, 739, 740, 742, 743, 745, 746, 747, 749, 750, 752, 753, 754, 756, 757, 759, 760, 761, 763, 764, 766, 767, 768, 770, 771, 773, 774, 775, 777, 778, 780, 781, 782, 784, 785, 787, 788, 789, 791, 792, 794, 795, 796, 798, 799, 801, 802, 803, 805, 806, 808, 809, 810, 812, 813, 815, 816, 817, 819, 820, 822, 823, 824, 826, 827, 829, 830, 831, 832, 833, 834, 835, 845, 847, 848, 850, 851, 852, 853, 854, 855, 856, 866, 868, 869, 871, 872, 873, 875, 876, 878, 879, 880, 882, 883, 885, 886, 887, 889, 890, 892, 893, 894, 896, 897, 899, 900, 901, 903, 904, 906, 907, 908, 910, 911, 913, 914, 915, 916, 917, 918, 919, 922, 924, 925, 927, 928, 929, 931, 932, 934, 935, 936, 938, 939, 941, 942, 950, 951, 953, 954, 956, 957, 958, 960, 961, 963, 964, 965, 967, 968, 970, 971, 972, 974, 975, 977, 978, 979, 981, 982, 984, 985, 986, 988, 989, 991, 992, 993, 995, 996, 998, 999, 1000, 1002, 1003, 1005, 1006, 1007, 1009, 1010, 1012, 1013, 1014, 1016, 1017, 1019, 1020, 1021, 1023, 1024, 1026, 1027, 1028, 1030, 1031, 1033, 1034, 1035, 1036, 1037, 1038, 1039, 1049, 1051, 1052, 1054, 1055, 1056, 1057, 1058, 1059, 1060, 1063, 1065, 1066, 1068, 1069, 1070, 1072, 1073, 1075, 1076]
noncomputable def H0 (P : Params) : Heap := ⟨⟨l0 P⟩, {}⟩
noncomputable abbrev Ann : Option Value := some (.ref 6)
noncomputable abbrev boot (w : World) (os : OsState) : Shared := { heap := boot_heap w.params, drawn := boot_drawn, toks := boot_toks, os := os }
noncomputable abbrev S0 (w : World) (os : OsState) : Shared := { heap := H0 w.params, toks := 187, os := os }
noncomputable def H1 (P : Params) : Heap := absHeap (T21 P) 1077 {}
noncomputable abbrev S1 (w : World) (os : OsState) : Shared := { heap := H1 w.params, toks := 1772, os := os }
theorem pre (w : World) : (fun os => PySem.W.Fast.tw15667345088766844465 PySem.W.Fast.tw14364793385576792824 prg w 11 Ann 12 (boot w os) (topStub prg)) =
    fun os => some (S0 w os, { cur := PySem.W.Fast.tw11892475500146522536 PySem.W.Fast.tw14364793385576792824 cd, code := cd, pos := P0, stack := [topFrame P0] }) := by kernel_rfl
theorem pre' (w : World) (os : OsState) : topGo treeTable prg w 11 Ann 12 (boot w os) (topStub prg) = some (S0 w os, { cur := denote treeTable cd, code := cd, pos := P0, stack := [topFrame P0] }) := by
  rw [PySem.W.Fast.te15667345088766844465, PySem.W.Fast.te14364793385576792824, PySem.W.Fast.te11892475500146522536]
  exact congrFun (pre w) os
theorem blk (w : World) : (fun os => PySem.W.Fast.tw14374325043358763698 PySem.W.Fast.tw14364793385576792824 prg w 11 Ann 1 1 (S0 w os) (blockOf bd env cd P0 [topFrame P0])) =
    fun os => some (.next, (St (T0 w.params) 15 187 os).abs, cd, P0) := by kernel_rfl
theorem blk' (w : World) (os : OsState) : segRun treeTable prg w 11 Ann 1 1 (S0 w os) (blockOf bd env cd P0 [topFrame P0]) = some (.next, (St (T0 w.params) 15 187 os).abs, cd, P0) := by
  rw [PySem.W.Fast.te14374325043358763698, PySem.W.Fast.te14364793385576792824]
  exact congrFun (blk w) os
theorem fin (w : World) : (fun os => PySem.W.Fast.tw14082659384304107361 PySem.W.Fast.tw14364793385576792824 prg w 11 Ann 2 (St (T21 w.params) 1077 1772 os).abs { cur := doneF .next, code := cd, pos := ⟨985, 0, 1031, 60⟩, stack := [topFrame P0] }) =
    fun os => some (S1 w os) := by kernel_rfl
theorem fin' (w : World) (os : OsState) : topRun treeTable prg w 11 Ann 2 (St (T21 w.params) 1077 1772 os).abs { cur := doneF .next, code := cd, pos := ⟨985, 0, 1031, 60⟩, stack := [topFrame P0] } = some (S1 w os) := by
  rw [PySem.W.Fast.te14082659384304107361, PySem.W.Fast.te14364793385576792824]
  exact congrFun (fin w) os
theorem seg {w : World} {n : Nat} {s s' : SharedT} {t : Thread} {p : Pos} (h : PySem.W.Fast.tw10110043849684766642 PySem.W.Fast.tw14364793385576792824 prg w 11 Ann 1 n s t = some (.next, s', cd, p)) :
    segRun treeTable prg w 11 Ann 1 n s.abs t = some (.next, s'.abs, cd, p) := by
  apply segRun_of
  rw [PySem.W.Fast.te10110043849684766642, PySem.W.Fast.te14364793385576792824]
  exact h
theorem bd_grp : bd = (grp 0 3 ++ (grp 3 1 ++ (grp 4 1 ++ (grp 5 4 ++ (grp 9 3 ++ (grp 12 1 ++ (grp 13 5 ++ (grp 18 13 ++ (grp 31 1 ++ (grp 32 9 ++ (grp 41 14 ++ (grp 55 2 ++ (grp 57 13 ++ (grp 70 7 ++ (grp 77 6 ++ (grp 83 1 ++ (grp 84 2 ++ (grp 86 1 ++ (grp 87 7 ++ (grp 94 1 ++ (grp 95 5 ++ []))))))))))))))))))))) := by kernel_rfl
theorem run_all (w : World) (os : OsState) : topRun treeTable prg w 11 Ann (Nat.add 274 (Nat.add 239 (Nat.add 260 (Nat.add 372 (Nat.add 237 (Nat.add 248 (Nat.add 396 (Nat.add 347 (Nat.add 447 (Nat.add 378 (Nat.add 357 (Nat.add 372 (Nat.add 393 (Nat.add 401 (Nat.add 375 (Nat.add 663 (Nat.add 237 (Nat.add 425 (Nat.add 125 (Nat.add 587 (Nat.add 324 2))))))))))))))))))))) (St (T0 w.params) 15 187 os).abs (restOf (grp 0 3 ++ (grp 3 1 ++ (grp 4 1 ++ (grp 5 4 ++ (grp 9 3 ++ (grp 12 1 ++ (grp 13 5 ++ (grp 18 13 ++ (grp 31 1 ++ (grp 32 9 ++ (grp 41 14 ++ (grp 55 2 ++ (grp 57 13 ++ (grp 70 7 ++ (grp 77 6 ++ (grp 83 1 ++ (grp 84 2 ++ (grp 86 1 ++ (grp 87 7 ++ (grp 94 1 ++ (grp 95 5 ++ []))))))))))))))))))))) env cd P0 [topFrame P0]) = some (S1 w os) :=
  (piece_app (seg (congrFun (q1 w) os)) (piece_app (seg (congrFun (q2 w) os)) (piece_app (seg (congrFun (q3 w) os)) (piece_app (seg (congrFun (q4 w) os)) (piece_app (seg (congrFun (q5 w) os)) (piece_app (seg (congrFun (q6 w) os)) (piece_app (seg (congrFun (q7 w) os)) (piece_app (seg (congrFun (q8 w) os)) (piece_app (seg (congrFun (q9 w) os)) (piece_app (seg (congrFun (q10 w) os)) (piece_app (seg (congrFun (q11 w) os)) (piece_app (seg (congrFun (q12 w) os)) (piece_app (seg (congrFun (q13 w) os)) (piece_app (seg (congrFun (q14 w) os)) (piece_app (seg (congrFun (q15 w) os)) (piece_app (seg (congrFun (q16 w) os)) (piece_app (seg (congrFun (q17 w) os)) (piece_app (seg (congrFun (q18 w) os)) (piece_app (seg (congrFun (q19 w) os)) (piece_app (seg (congrFun (q20 w) os)) (piece_app (seg (congrFun (q21 w) os)) (piece_nil (fin' w os)))))))))))))))))))))))
theorem run (w : World) (os : OsState) : topRun treeTable prg w 11 Ann (Nat.add 12 (Nat.add 1 (Nat.add 274 (Nat.add 239 (Nat.add 260 (Nat.add 372 (Nat.add 237 (Nat.add 248 (Nat.add 396 (Nat.add 347 (Nat.add 447 (Nat.add 378 (Nat.add 357 (Nat.add 372 (Nat.add 393 (Nat.add 401 (Nat.add 375 (Nat.add 663 (Nat.add 237 (Nat.add 425 (Nat.add 125 (Nat.add 587 (Nat.add 324 2))))))))))))))))))))))) (boot w os) (topStub prg) = some (S1 w os) :=
  go_top (pre' w os) (piece_block (b := bd) (blk' w os) (by have := run_all w os; rw [← bd_grp] at this; exact this))
end hd
end Mine
-- H3
namespace Mine
namespace hd
noncomputable def qv : Program := view prg [0, 2, 3, 4, 5, 7, 8, 9, 11, 12, 13, 15, 17, 18, 20, 21, 22, 24, 25, 26, 27, 28, 30, 31, 33, 34, 35, 37, 38, 39, 40, 41, 42, 43, 44, 45, 46, 47, 48, 49, 50, 52, 53, 54, 55, 56, 57, 59, 60, 61, 62, 63, 64, 65, 66, 67, 68, 69, 70, 71, 73, 75, 76, 77, 78, 79, 80, 81, 82, 83, 85, 86, 88, 89, 90, 91, 93, 94, 96, 98, 99]
abbrev lo : List Str := [Str.ofString "parameter", Str.ofString "fill_symread", Str.ofString "fill_universe"]
theorem adr_eq (P : Params) : adr = (heap_39 P).map (·.1) := by kernel_rfl
noncomputable abbrev HH : Hook := kHook heap_39 adr adr_eq
theorem k_stat (w : World) : (fun os => staticsOk (PySem.W.Fast.tw5923862056798008813 prg.main.body) (boot_heap w.params) (H1 w.params) && namesBound prg (H1 w.params) && gensDone (S1 w os) && laidKept (boot_heap w.params) (H1 w.params)) = fun _ => true := by kernel_rfl
theorem k_seen (w : World) : (fun os => PySem.W.Fast.tw5160383126252970620 (R.mapR (fun x => x.name) (PySem.W.Fast.tw3399658132070893891 qv)) (PySem.W.Fast.tw5991557255702980513 qv) [] { S1 w os with gens := #[] }) = fun _ => expectedOf qv := by kernel_rfl
theorem k_blt (w : World) : (fun os => (S1 w os).heap.bltView) = fun _ => bltViewBooted := by kernel_rfl
theorem k_tabs (w : World) : (fun os => PySem.W.Fast.tw479339242167458305 qv (S1 w os)) = fun _ => true := by kernel_rfl
theorem k_pin (w : World) : (fun os => PySem.W.Fast.tw16090120013241838585 qv (PySem.W.Fast.tw3247288618530077131 qv) (S1 w os)) = fun _ => pinGoodD (PySem.W.Fast.tw3247288618530077131 qv) := by kernel_rfl
theorem k_pe (w : World) : (fun os => PySem.W.Fast.tw2386780881361962483 qv (PySem.W.Fast.tw821141287760084731 qv lo) (S1 w os)) = fun _ => plainGoodE qv (PySem.W.Fast.tw821141287760084731 qv lo) := by kernel_rfl
theorem k_pd (w : World) : (fun os => PySem.W.Fast.tw11698064438423848299 qv lo (S1 w os)) = fun _ => plainGoodD qv lo := by kernel_rfl
theorem k_wide (w : World) : (fun os => PySem.W.Fast.tw7317090234206586261 qv (S1 w os)) = fun _ => wideGood qv := by kernel_rfl
theorem k_cls (w : World) : (fun os => PySem.W.Fast.tw7369524293546568484 qv lo (S1 w os)) = fun _ => clsGoodW qv lo := by kernel_rfl
theorem k_keys (w : World) : (fun os => PySem.W.Fast.tw10880121769531294198 (S1 w os).heap (PySem.W.Fast.tw821141287760084731 qv lo) (R.mapR (fun x => x.name) (PySem.W.Fast.tw3399658132070893891 qv)) (R.mapR (fun x => x.fst) (PySem.W.Fast.tw7409074990110511671 qv)) (R.mapR (fun x => x.name) (PySem.W.Fast.tw13664370479719496447 qv (PySem.W.Fast.tw821141287760084731 qv lo))) && PySem.W.Fast.tw14722251495701143533 (S1 w os).heap (PySem.W.Fast.tw5923862056798008813 prg.main.body) && (S1 w os).heap.isNs mainGlobals && (S1 w os).heap.isNs builtinsNs && PySem.W.Fast.tw10994771534591457954 qv (S1 w os).heap && (fun s => xlAt qv [] s && recOk (RowW.records PySem.Challenge.rw_pq0785_01.row.toRowW) s) (S1 w os) && (if true = true then (S1 w os).gens.size == 0 else !leftWithCleanup (S1 w os).gens)) = fun _ => true := by kernel_rfl
noncomputable def liv (o : Option Obj) : Option Obj := match o with
  | some ⟨_, _, .freed, _⟩ => none
  | o => o
theorem abs_look (t : BT) (n : Nat) (life : Life) (a : Addr) : (absHeap t n life).get? a = liv (if a < n then some ((t.get a).getD default) else none) := by
  rw [← absHeap_at t n life a]; rfl
theorem k_hook (w : World) : (fun os => HH.obs (S1 w os)) = fun _ => HH.val w := by
  funext os
  have e : HH.obs (S1 w os) = adr.map fun a => liv (if a < 1077 then some (((T21 w.params).get a).getD default) else none) := List.map_congr_left fun a _ => abs_look _ _ _ a
  rw [e]
  kernel_rfl
theorem k_size (w : World) : ((boot_heap w.params).isNs mainGlobals && (#[] : Array GenState).size == 0, (boot_heap w.params).objs.size, (boot_heap w.params).nsMap mainGlobals "__annotations__") = (true, 11, some (.ref 6)) := by kernel_rfl
end hd
end Mine
-- H4
namespace Mine
namespace hd
noncomputable abbrev Xt : Shared → Bool := fun s => xlAt qv [] s && recOk (RowW.records PySem.Challenge.rw_pq0785_01.row.toRowW) s
theorem open_ok (w : World) : (fencedOpening treeTable prg w 14998).map (fun s => (s.heap, s.gens, s.drawn, s.toks)) = some (boot_heap w.params, #[], boot_drawn, boot_toks) :=
  boot_open (p := prg) (N := 14998) (by rfl) (by decide) (fun s => by rfl) w
theorem looks (w : World) : (fun os => ((staticsOk (importedModules prg.main.body) (boot_heap w.params) (H1 w.params) && namesBound prg (H1 w.params) && gensDone (S1 w os) && laidKept (boot_heap w.params) (H1 w.params)),
    openSeen qv lo (importedModules prg.main.body) Xt true (S1 w os), HH.obs (S1 w os))) = fun _ => (true, openGood qv lo, HH.val w) := by
  funext os
  refine looks_pair ?_ (looks_pair ?_ (congrFun (k_hook w) os))
  · rw [PySem.W.Fast.te5923862056798008813]; exact congrFun (k_stat w) os
  · unfold openSeen openGood
    refine looks_pair ?_ (looks_pair (congrFun (k_blt w) os) (looks_pair ?_ (looks_pair ?_ (looks_pair ?_ (looks_pair ?_ (looks_pair ?_ (looks_pair ?_ ?_)))))))
    · rw [R.mapR_eq, PySem.W.Fast.te5160383126252970620, PySem.W.Fast.te3399658132070893891, PySem.W.Fast.te5991557255702980513]; exact congrFun (k_seen w) os
    · rw [R.mapR_eq, PySem.W.Fast.te10880121769531294198, PySem.W.Fast.te821141287760084731, PySem.W.Fast.te3399658132070893891, PySem.W.Fast.te7409074990110511671, PySem.W.Fast.te13664370479719496447, PySem.W.Fast.te14722251495701143533, PySem.W.Fast.te5923862056798008813, PySem.W.Fast.te10994771534591457954]; exact congrFun (k_keys w) os
    · rw [PySem.W.Fast.te479339242167458305]; exact congrFun (k_tabs w) os
    · rw [PySem.W.Fast.te16090120013241838585, PySem.W.Fast.te3247288618530077131]; exact congrFun (k_pin w) os
    · rw [PySem.W.Fast.te2386780881361962483, PySem.W.Fast.te821141287760084731]; exact congrFun (k_pe w) os
    · rw [PySem.W.Fast.te11698064438423848299]; exact congrFun (k_pd w) os
    · rw [PySem.W.Fast.te7317090234206586261]; exact congrFun (k_wide w) os
    · rw [PySem.W.Fast.te7369524293546568484]; exact congrFun (k_cls w) os
theorem left : LeftO prg qv lo Xt HH.obs HH.val 14998 :=
  LeftO.of_pieces open_ok k_size run (by decide) looks
end hd
end Mine
-- H5
namespace Mine
namespace hd
abbrev RW : OpenLaw := PySem.Challenge.rw_pq0785_01
theorem s1 : sreFenced RW.row.prog.main = true := by
  rw [PySem.W.Fast.te11788848310118352699]
  kernel_rfl
theorem s2 : ((moduleNames RW.row.prog.main.body).isEmpty || lookedIntoSs (moduleNames RW.row.prog.main.body) RW.row.prog.main.body) = true := by
  rw [PySem.W.Fast.te9807087744658564304, PySem.W.Fast.te12862048085361865435]
  kernel_rfl
theorem s3 : namesResolve RW.row.prog = true := by
  rw [PySem.W.Fast.te8377067652309620493]
  kernel_rfl
theorem s4 : RW.row.prog.boundNames.all (fun n => !worldNames.contains n) = true := by
  rw [R.allR_eq, PySem.W.Fast.te18344453789297297638, PySem.W.Fast.te14412699480532031325, PySem.W.Fast.te3471404346716756564]
  kernel_rfl
theorem s5 : noRoadLSs { strict := !(importedModules RW.row.prog.main.body).all cThrough.contains, foot := none, bare := (["vars", "dir", "locals"] : List Str).filter (readsOut RW.row.prog RW.row.prog.main.body) } RW.row.prog.main.body = true := by
  rw [R.allR_eq, R.filterR_eq, PySem.W.Fast.te8326940854005059898, PySem.W.Fast.te5923862056798008813, PySem.W.Fast.te3471404346716756564, PySem.W.Fast.te17691160309236699985, PySem.W.Fast.te13343964577679436407]
  kernel_rfl
theorem s6 : (namesMeet RW.row.prog RW.row.prog.main.body fun _ n => attrL n) = true := by
  rw [PySem.W.Fast.te17119622794617984870, PySem.W.Fast.te17868728402115742887]
  kernel_rfl
theorem s7 : RW.row.loose.isEmpty = true := by kernel_rfl
theorem s8 : RW.row.makers.isEmpty = true := by kernel_rfl
theorem s9 : (RW.row.records.isEmpty || RW.row.raises.all fun ct => ct.1 != .builtin "AttributeError" && ct.1 != .builtin "TypeError") = true := by kernel_rfl
theorem s10 : (RW.row.raises.all fun ct => match ct.1 with | .builtin n => !RW.row.prog.boundNames.contains (Str.ofString n) && !ofTheWorld.contains n | .own _ => true) = true := by kernel_rfl
theorem s11 : decide (RW.row.records.map (·.1)).Nodup = true := by kernel_rfl
theorem s12 : (RW.row.records.all fun x => !x.1.opensWith "__" && !builtinNamed x.1 && RW.row.prog.boundNames.contains x.1 && x.2.all fun f => !f.1.opensWith "__") = true := by kernel_rfl
theorem s13 : RW.row.toRowW.solid = true := by
  rw [PySem.W.Fast.te13582783067957832011]
  kernel_rfl
theorem s14 : RW.row.pre.litsOk = true := by
  rw [PySem.W.Fast.te5318747976498570220]
  kernel_rfl
theorem s15 : RW.row.post.litsOk = true := by
  rw [PySem.W.Fast.te5318747976498570220]
  kernel_rfl
theorem s16 : RW.row.raises.all (·.2.litsOk) = true := by kernel_rfl
theorem s17 : RW.row.mutates.all (fun i => match RW.row.args[i]? with
    | some sh => !sh.arms.any WShape.isObj
    | none => false) = true := by kernel_rfl
theorem s18 : RW.row.within.all (fun i => decide (i < RW.row.args.length)) = true := by kernel_rfl
theorem s19 : RW.row.same.all (fun i => decide (i < RW.row.args.length)) = true := by kernel_rfl
theorem s20 : RW.row.prog.boundNames.contains RW.row.name = true := by
  rw [PySem.W.Fast.te3471404346716756564, PySem.W.Fast.te18344453789297297638]
  kernel_rfl
theorem s21 : (!startupNames.contains RW.row.name) = true := by
  rw [PySem.W.Fast.te3471404346716756564, PySem.W.Fast.te12749700546528644094]
  kernel_rfl
theorem s22 : decide (RW.foot ≤ (behindTheImports RW.prog).length) = true := by kernel_rfl
theorem s23 : RW.footing.all footLine = true := by
  rw [R.allR_eq, PySem.W.Fast.te10501279942588096481]
  kernel_rfl
theorem s24 : noClassBlock RW.prog RW.footing = true := by
  rw [PySem.W.Fast.te8179353310426384613]
  kernel_rfl
theorem s25 : RW.most.all (fun n => decide (63 ≤ n)) = true := by kernel_rfl
theorem s26 : RW.bound.all (fun n => decide (2 ^ 63 ≤ n)) = true := by kernel_rfl
theorem s27 : noRoadLSs { strict := true, foot := some RW.bound', writes := RW.writes, may := RW.may } RW.footing = true := by
  rw [PySem.W.Fast.te8326940854005059898, PySem.W.Fast.te797321630700447069, PySem.W.Fast.te9572597257264208301]
  kernel_rfl
theorem s28 : defStands RW.about RW.above = true := by
  rw [PySem.W.Fast.te9558739934217749035]
  kernel_rfl
theorem s29 : RW.namesIt = true := by
  rw [PySem.W.Fast.te16286561074155671207]
  kernel_rfl
theorem s30 : (["type", "isinstance", "issubclass", "getattr", "hasattr"] : List Str).all (fun n => RW.about != [n]) = true := by
  rw [R.allR_eq]
  kernel_rfl
theorem s31 : RW.bound'.all (fun n => !builtinNamed n || RW.about == [n] || !RW.reads n) = true := by
  rw [R.allR_eq, PySem.W.Fast.te797321630700447069, PySem.W.Fast.te6984425678791042302]
  kernel_rfl
theorem s32 : (!RW.writes || (RW.prog.main.body.flatMap importedNames).all fun n => !RW.reads n) = true := by
  rw [R.allR_eq, PySem.W.Fast.te17095254045102204799, PySem.W.Fast.te12879404354523853263, PySem.W.Fast.te6984425678791042302]
  kernel_rfl
theorem s33 : (RW.prog.main.body.flatMap importedNames).all (fun n => !RW.reads n || (drawsOf n RW.prog.main.body).all fun mn => mn.2 != ("attrgetter" : Str) && mn.2 != ("methodcaller" : Str)) = true := by
  rw [R.allR_eq, PySem.W.Fast.te17095254045102204799, PySem.W.Fast.te12879404354523853263, PySem.W.Fast.te6984425678791042302, PySem.W.Fast.te482687673346738481]
  kernel_rfl
theorem s34 : namesMeet RW.prog RW.footing (fun sc n => (!(["type", "isinstance", "issubclass", "getattr", "hasattr"] : List Str).contains n || sc.names.lookup n == some .globalImplicit) &&
    (RW.may != some n || sc.kind == .module || sc.names.lookup n == some .globalImplicit)) = true := by
  rw [PySem.W.Fast.te17119622794617984870, PySem.W.Fast.te3471404346716756564, PySem.W.Fast.te9572597257264208301]
  kernel_rfl
theorem s35 : RW.own.contains RW.name = true := by
  rw [PySem.W.Fast.te3471404346716756564, PySem.W.Fast.te10792542408131684335]
  kernel_rfl
theorem s36 : (RW.own.eraseDups.length == RW.own.length) = true := by
  rw [PySem.W.Fast.te7723801398212525404, PySem.W.Fast.te10792542408131684335]
  kernel_rfl
theorem s37 : RW.own.all (fun n => !builtinNamed n) = true := by
  rw [R.allR_eq, PySem.W.Fast.te10792542408131684335]
  kernel_rfl
theorem s38 : namesMeet RW.prog RW.above (fun _ n => !RW.own.contains n) = true := by
  rw [PySem.W.Fast.te17119622794617984870, PySem.W.Fast.te3471404346716756564, PySem.W.Fast.te10792542408131684335]
  kernel_rfl
theorem s39 : (namesMeet RW.prog RW.footing fun sc n => sc.kind == .module || sc.names.lookup n != some .globalExplicit) = true := by
  rw [PySem.W.Fast.te17119622794617984870]
  kernel_rfl
theorem said : PySem.Challenge.rw_pq0785_01.wellSaid = true :=
  (look_both (look_both (look_both (look_both (look_both (look_both (look_both (look_both (look_both (look_both (look_both (look_both (look_both (look_both (look_both (look_both (look_both (look_both (look_both (look_both (look_both (look_both (look_both (look_both (look_both (look_both (look_both (look_both (look_both (look_both (look_both (look_both (look_both (look_both (look_both (look_both (look_both (look_both s1 s2) s3) s4) s5) s6) s7) s8) s9) s10) s11) s12) s13) s14) s15) s16) s17) s18) s19) s20) s21) s22) s23) s24) s25) s26) s27) s28) s29) s30) s31) s32) s33) s34) s35) s36) s37) s38) s39)
end hd
end Mine
section
open PySem.Calls PySem.Spec
-- NK
namespace Mine
noncomputable def kS : Sto → List (Str × V) → Nat → Nat → List Nat := fun _ loc j e => List.range 30 ++ [j, e] ++ [32, 33, 34, 35, 36, 37] ++ (match refOf (lk (Str.ofString "names") loc) with | some l => [l] | none => [])
noncomputable def specS : List Nat := [2, 12, 13, 17, 18, 22, 28, 29, 34, 35, 36, 37]
theorem t_no (w : World) (y : Sy) (x : Tn) (tx pl : S) : endO kI specI specI ((ev (Mine.hd.heap_39 w.params) tab gtab fntab 62).t (whileTest (Mine.hd.heap_39 w.params)) ⟨scopeAt (Mine.hd.heap_39 w.params) 146, locA, ofL (stI (y.at tx pl (.str ";") .any .any))⟩) 0 (stI { x with kind := .str ";", val := .any, tpl := .any }) locA = some (false, true, sameI y tx pl) := by kernel_rfl
theorem t_end (w : World) (y : Sy) (x : Tn) : endO kI specI specI (unitO (stepPre (ev (Mine.hd.heap_39 w.params) tab gtab fntab 62) 1 ((bodyOf (Mine.hd.heap_39 w.params) 146).drop 4) ⟨scopeAt (Mine.hd.heap_39 w.params) 146, locA, ofL (stI (y.at (.txt y.s true beginW) (.off 0) (.str ";") .any .any))⟩)) 0 (stI { x with kind := .str "BEGIN", val := .any, tpl := .any }) [] = some ((), true, sameI y (.txt y.s true beginW) (.off 6)) := by kernel_rfl
theorem t_yes (w : World) (y : Sy) (x : Tn) (m : Md) (a : Al) (last : Bool) : endO kI specI specI ((ev (Mine.hd.heap_39 w.params) tab gtab fntab 62).t (whileTest (Mine.hd.heap_39 w.params)) ⟨scopeAt (Mine.hd.heap_39 w.params) 146, locA, ofL (stI (y.at (.txt y.s false (winA m a last)) (.off 0) (.str ",") .any .any))⟩) 0 (stI { x with kind := .str "ident", val := .str (a.str m), tpl := .off 1 }) locA = some (true, true, sameI y (.txt y.s false (winA m a last)) (.off (wEnd m a))) := by
  cases a
  · cases m <;> cases last <;> kernel_rfl
  · kernel_rfl
  · kernel_rfl
theorem t_start (w : World) (y : Sy) (x : Tn) (m : Md) (a : Al) (last : Bool) : endO kS specS specS (unitO (stepPre (ev (Mine.hd.heap_39 w.params) tab gtab fntab 62) 2 (bodyOf (Mine.hd.heap_39 w.params) 146) ⟨scopeAt (Mine.hd.heap_39 w.params) 146, [("tree", rf 32), ("rd", rf 19)], ofL (stI ({ y with last := .gone }.at (.txt y.s false (winA m a last)) (.off 0) (.str "IMPORT") .any .any))⟩)) 0 (stI { x with kind := .str "ident", val := .str (a.str m), tpl := .off 1, last := .list [] }) locA = some ((), true, (sameI y (.txt y.s false (winA m a last)) (.off (wEnd m a))).take 12) := by
  cases a
  · cases m <;> cases last <;> kernel_rfl
  · kernel_rfl
  · kernel_rfl
theorem t_lex (w : World) (y : Sy) (x : Tn) (m : Md) (a : Al) (last : Bool) : endO (kB a) specI specI (unitO (stepPre (ev (Mine.hd.heap_39 w.params) tab gtab fntab 60) 4 (bodyOf (Mine.hd.heap_39 w.params) 139) ⟨scopeAt (Mine.hd.heap_39 w.params) 139, locA, ofL (stI (y.at (.txt y.s false (winB m a last)) (.off (wEnd m a)) (.str "ident") (.str (a.str m)) (.off 1)))⟩)) 0 (stB { x with kind := .str "ident", val := .str (a.str m), tpl := .off 1 } (.str (sepS last)) .any .any (tokB m a)) (locB a) = some ((), true, sameI y (.txt y.s false (winB m a last)) (.off (sAt m a + 1))) := by
  cases a <;> cases m <;> cases last <;> kernel_rfl
theorem t_do (w : World) (y : Sy) (x : Tn) (nm : List Str) (tx pl k v t : S) (d : Int) (o : Oc) (m : Md) (a : Al) : endO kC specC pickC (okO ((ev (Mine.hd.heap_39 w.params) tab gtab fntab 120).ss ((bodyOf (Mine.hd.heap_39 w.params) 139).drop 4) ⟨scopeAt (Mine.hd.heap_39 w.params) 139, locB a, ofL (stB ({ y with last := .slist nm 20 (knL o m) }.atC tx pl (.str (a.str m)) (.off 1) (knN o m) (knN o m) (knS o m a)) k v t (tokB m a))⟩)) d (stI x) [] = some (true, true, pickE y nm (effOf o m a) tx pl k v t) := by
  cases o <;> cases a <;> cases m <;> kernel_rfl
end Mine
-- N7
namespace Mine
noncomputable abbrev HK (w : World) : Frag := Mine.hd.heap_39 w.params
theorem tab_ok (w : World) : tab.all (clsOk (HK w)) = true := by kernel_rfl
theorem gtab_ok (w : World) : gtab.all (gtOk (HK w)) = true := by kernel_rfl
theorem fntab_ok (w : World) : fntab.all (fnOk (HK w)) = true := by kernel_rfl
noncomputable def mkG (prog : Program) (w : World) (pv : Program) (loose : List Str) (mean : ExcName → Option Value) (mg mb : Str → Option Value) : G := ⟨prog, w, HK w, tab, pv, loose, mean, mg, mb, tab_ok w, gtab, gtab_ok w, fntab, fntab_ok w⟩
theorem fd_139 (w : World) : fdOk (HK w) 139 ["rd", "tree", "names"] = true := by kernel_rfl
theorem fd_146 (w : World) : fdOk (HK w) 146 ["rd", "tree"] = true := by kernel_rfl
theorem dice_ok (w : World) : DiceAt (HK w) 1069 (takeH (bodyOf (HK w) 1069)) (takeK (bodyOf (HK w) 1069)) := ⟨by kernel_rfl, by kernel_rfl, by kernel_rfl, by kernel_rfl, by kernel_rfl⟩
theorem binds_139 : (bindsOf [("rd" : Str), "tree", "names"] [rf 19, rf 32, rf 38] []).reverse = locA := by kernel_rfl
theorem fill_139 : fillOk [("rd" : Str), "tree", "names"] [rf 19, rf 32, rf 38] [] = true := by kernel_rfl
noncomputable def keptI : List Nat := [10, 19, 32, 34, 35, 36, 37, 38]
noncomputable def stY (f : Fin) (g : Gh) (q : Ds) (txt place kind val tpl : S) : List O := stI (tn f g q txt place kind val tpl [] [] [] [])
section
variable {prog : Program} {w : World} {pv : Program} {loose : List Str} {mean : ExcName → Option Value} {mg mb : Str → Option Value}
theorem keepB_specI {a : Al} {os : Sto} {loc : List (Str × V)} {j e : Nat} : ∀ i < 39, (kB a os loc j e)[i]? = some i := fun i hi => by
  unfold kB keepB
  rw [List.append_assoc]
  exact range_get hi
theorem specI_lt : ∀ i ∈ specI, i < 39 := by decide
theorem one_call {n : Nat} {A₀ A : Around} {base h₀ : Heap} {outer : List Env} {cn : Str} {L a : Addr} {ccd : Value} (C : Cx (mkG prog w pv loose mean mg mb) (n + 121) A₀ A base h₀ outer cn (scopeAt (HK w) 146) L a ccd) {f : Fin} {gh : Gh} {q : Ds} {c : Nat} {m : Md} {al : Al} {last : Bool} {p : P} {s : Shared} {ys : List Value} {R : Result → Shared → Prop}
    (Rp : Rep prog w h₀ L p ⟨scopeAt (HK w) 146, locA, ofL (stY f gh q (.txt f.T false (winB m al last)) (.off (wEnd m al)) (.str "ident") (.str (al.str m)) (.off 1))⟩ s.heap) (ok : Ok f gh q c) (hc : c ≤ 19) (hβ : p.β + dl m al ≤ 500) (hw0 : Window f.T p.β false (winB m al last)) {e' : Bool} {win' : List Nat} (hw : Window f.T (p.β + dl m al) e' win') (hv : RVs p [rf 19, rf 32, rf 38] ys)
    (K : ∀ p' h' tk, Kp keptI p p' → p'.β = p.β + dl m al → Rep prog w h₀ L p' ⟨scopeAt (HK w) 146, locA, ofL (stY f (gh.app p.β (effOf (ocOf gh m al) m al)) (q.app p.β (effOf (ocOf gh m al) m al)) (.txt f.T e' win') (.off 0) (.str (sepS last)) .any .any)⟩ h' → R (.ok (.ret .none)) { s with heap := h', toks := tk }) :
    codeAny (model prog w) A (.call (.ref 139) ⟨ys, []⟩) R s := by
  let g := mkG prog w pv loose mean mg mb
  have hdl : 0 ≤ dl m al := by cases m <;> cases al <;> decide
  refine enter (g := g) (n := n + 120) (fd_139 w) rfl fill_139 C Rp hv fun A' h₀' L' h₁ tk cn' ccd' C' R' E => ?_
  rw [binds_139] at R'
  -- the lexing
  obtain ⟨kk, kn, ksn, kl⟩ := kn_ok ok m al
  obtain ⟨σ1, j, e, hr, hp, hs, hn, hb, hl⟩ := trim_of (t_lex w (mkY f gh q) (tn f gh q (.txt f.T false (winB m al last)) (.off (dl m al)) .any .any .any (knN (ocOf gh m al) m) (knN (ocOf gh m al) m) (knS (ocOf gh m al) m al) (knL (ocOf gh m al) m)) m al last)
  have S1 := sound_pre (good g 60) 4 _ _ _ (unitO_of hr)
  have hsc : σ1.sc = scopeAt (HK w) 139 := S1.1
  refine S1.2 A A' base h₀' _ cn' L' 139 ccd' (C'.less (by omega)) p { s with heap := h₁, toks := tk } _ _ R' fun p1 h1 tk1 le1 R1 => ?_
  have hβ1 : p1.β = p.β := le1.β.symm
  have R2 := R1.trimS (sc := scopeAt (HK w) 139) hs hn hb (loc_sub (R1.keeps1 hb) hl) (same_all (kind := .str "ident") (val := .str (al.str m)) (tpl := .off 1) hp ok (by omega) (fun i hi => keepB_specI i (specI_lt i hi)) (keepB_specI 10 (by decide)) (all_in ⟨rfl, rfl, rfl, rfl, rfl, rfl, rfl, rfl, rfl, rfl, rfl, rfl, rfl, trivial⟩) (by omega) (hβ1 ▸ hw0) kk kn ksn kl)
  -- the rest
  obtain ⟨σ2, j2, e2, hr2, hp2, hs2, _, hb2, _⟩ := trim_of (t_do w (mkY f gh q) (tn f (gh.app p.β (effOf (ocOf gh m al) m al)) (q.app p.β (effOf (ocOf gh m al) m al)) (.txt f.T e' win') (.off 0) (.str (sepS last)) .any .any [] [] [] []) gh.seen (.txt f.T false (winB m al last)) (.off (dl m al)) (.str (sepS last)) .any .any (dl m al) (ocOf gh m al) m al)
  obtain ⟨o2, hr2, hdone⟩ := okO_of hr2
  have S2 := (good g 120).ss _ _ _ _ hr2
  have hlt : ∀ i ∈ q.is, i < p.β := by
    obtain ⟨mm, obs, RX⟩ := Rp
    have h13 : sget (ofL (stY f gh q (.txt f.T false (winB m al last)) (.off (wEnd m al)) (.str "ident") (.str (al.str m)) (.off 1))) 13 = some (.jdict q.is 20 true) := by
      rw [← toL_get, toL_ofL]; rfl
    obtain ⟨ad, ob, _, _, ⟨kvs, _, _, _, h⟩, _⟩ := RX.get h13
    exact h rfl
  refine S2.run (s := { s with heap := h1, toks := tk1 }) rfl (C'.less (by omega)) R2 fun p3 fl h3 tk3 le3 R3 hf => ?_
  have hβ3 : p3.β = p.β := by
    rw [← le3.β]
    show p1.β + 0 = p.β
    omega
  have hkC : ∀ i ∈ specI, (kC σ2.objs σ2.loc j2 e2)[i]? = some i := by
    exact all_in ⟨rfl, rfl, rfl, rfl, rfl, rfl, rfl, rfl, rfl, rfl, rfl, rfl, rfl, trivial⟩
  have R4 := R3.trimS (sc := scopeAt (HK w) 139) (loc := []) hs2 ‹_› hb2 (fun x v e => by cases e) (do_all (p := p3) (m := m) (a := al) hp2 ok hc (efOk _ _ _) hkC rfl rfl (fun i hi => by
    rw [hβ3]) (by omega) hdl (fun i hi => by rw [hβ3]; exact hlt i hi) (hβ3 ▸ hw))
  have kp : Kp keptI p (p3.re (kC σ2.objs σ2.loc j2 e2) (dl m al)) := by
    refine (Kp.le le1).trans ((Kp.re (ks := kB al σ1.objs σ1.loc j e) (d := 0) fun l hl => keepB_specI l ?_).trans ((Kp.le le3).trans (Kp.re fun l hl => ?_)))
    · revert l; decide
    · simp only [keptI, List.mem_cons, List.not_mem_nil, or_false] at hl
      rcases hl with rfl | rfl | rfl | rfl | rfl | rfl | rfl | rfl <;> rfl
  refine ⟨_, _, _, _, h3, tk3, rfl, R4, fun back => ?_⟩
  have key := K _ h3 tk3 kp (by show p3.β + _ = _; rw [hβ3]) (back locA fun mm hm => hm.kp kp fun x hx => by
    simp only [locA, List.mem_cons, List.not_mem_nil, or_false] at hx
    rcases hx with rfl | rfl | rfl
    · exact ⟨38, by decide, rfl⟩
    · exact ⟨32, by decide, rfl⟩
    · exact ⟨19, by decide, rfl⟩)
  cases o2 with
  | next => cases hf; exact key
  | cont => cases hf; exact key
  | ret v =>
    obtain ⟨y, rfl, hy⟩ := hf
    cases v with
    | sc v =>
      cases v <;> first
        | (cases hdone; done)
        | (cases hy; exact key)
    | tup _ => cases hdone
end
end Mine
-- N8
namespace Mine

structure TI (T : Str) (β : Int) (r : Items) : Prop where
  lo : 0 ≤ β
  dr : T.cps.toList.drop β.toNat = itemsT r
  len : T.length ≤ 200
theorem itemsT_ne (r : Items) : itemsT r ≠ [] := by cases r <;> simp [itemsT, beginW]
theorem itemsT_32 (r : Items) : ∃ z, itemsT r = 32 :: z := by
  cases r with
  | nil => exact ⟨_, rfl⟩
  | cons x r => exact ⟨_, rfl⟩
theorem len_toList (s : Str) : s.length = s.cps.toList.length := by
  obtain ⟨⟨x⟩⟩ := s; rfl
theorem TI.hi {T : Str} {β : Int} {r : Items} (h : TI T β r) : β ≤ 200 := by
  have h1 := h.dr
  have h2 := h.len
  rw [len_toList] at h2
  have : ¬ T.cps.toList.length ≤ β.toNat := fun hle => by
    rw [List.drop_eq_nil_of_le hle] at h1
    exact itemsT_ne r h1.symm
  have := h.lo
  omega
theorem itemT_len (m : Md) (a : Al) : (dl m a).toNat = (itemT m a).length + 2 := by cases m <;> cases a <;> rfl
theorem dl_pos (m : Md) (a : Al) : 0 ≤ dl m a ∧ dl m a ≤ 20 := by cases m <;> cases a <;> exact ⟨by decide, by decide⟩
theorem TI.next {T : Str} {β : Int} {m : Md} {a : Al} {r : Items} (h : TI T β ((m, a) :: r)) : TI T (β + dl m a) r := by
  have hp := dl_pos m a
  have h0 := h.lo
  refine ⟨by omega, ?_, h.len⟩
  have e : (β + dl m a).toNat = β.toNat + ((itemT m a).length + 2) := by rw [← itemT_len]; omega
  rw [e, ← List.drop_drop, h.dr]
  show List.drop ((itemT m a).length + 2) (32 :: (itemT m a ++ sepC r.isEmpty :: itemsT r)) = itemsT r
  rw [List.drop_succ_cons, List.drop_append]
  simp
theorem TI.winB {T : Str} {β : Int} {m : Md} {a : Al} {r : Items} (h : TI T β ((m, a) :: r)) : Window T β false (winB m a r.isEmpty) := by
  refine ⟨h.lo, ?_, by have := h.len; omega⟩
  obtain ⟨z, hz⟩ := itemsT_32 r
  refine ⟨z, ?_, fun e => by cases e⟩
  rw [h.dr]
  show 32 :: (itemT m a ++ sepC r.isEmpty :: itemsT r) = 32 :: (itemT m a ++ [sepC r.isEmpty, 32]) ++ z
  rw [hz]
  simp
theorem TI.winA {T : Str} {β : Int} {m : Md} {a : Al} {r : Items} (h : TI T β ((m, a) :: r)) : Window T β false (winA m a r.isEmpty) := by
  refine ⟨h.lo, ?_, by have := h.len; omega⟩
  rw [h.dr]
  show ∃ rest, 32 :: (itemT m a ++ sepC r.isEmpty :: itemsT r) = _ ∧ _
  cases a
  · exact ⟨itemsT r, by simp [itemT, Mine.winA], fun e => by cases e⟩
  · exact ⟨58 :: 61 :: 32 :: (m.cs ++ sepC r.isEmpty :: itemsT r), by simp [itemT, Mine.winA], fun e => by cases e⟩
  · exact ⟨58 :: 61 :: 32 :: (m.cs ++ sepC r.isEmpty :: itemsT r), by simp [itemT, Mine.winA], fun e => by cases e⟩
theorem TI.winN {T : Str} {β : Int} (h : TI T β []) : Window T β true beginW := by
  refine ⟨h.lo, ⟨[], ?_, fun _ => rfl⟩, by have := h.len; omega⟩
  rw [h.dr]; rfl

noncomputable def oneOf (h : Nat → Pos) : Expr := .Call (.Name "import_one" (h 0)) [.Name "rd" (h 1), .Name "tree" (h 2), .Name "names" (h 3)] [] (h 4)
noncomputable def oneP (e : Expr) : List Pos := [eP e 1, eP e 2, eP e 3, eP e 4, eP e 0]
noncomputable def oneH (e : Expr) : Nat → Pos := fun i => (oneP e).getD i default
structure ImpP where
  s1 : Stmt
  s2 : Stmt
  e1 : Expr
  p1 : Pos
  wt : Expr
  e2 : Expr
  p2 : Pos
  pw : Pos
  s5 : Stmt
noncomputable def impP (b : List Stmt) : ImpP := ⟨b.getD 0 default, b.getD 1 default, sE (b.getD 2 default) 0, sP (b.getD 2 default), sE (b.getD 3 default) 0, sE (sB (b.getD 3 default) 0) 0, sP (sB (b.getD 3 default) 0), sP (b.getD 3 default), b.getD 4 default⟩
noncomputable def impOf (x : ImpP) : List Stmt := [x.s1, x.s2, .Expr (oneOf (oneH x.e1)) x.p1, .While x.wt [.Expr (oneOf (oneH x.e2)) x.p2] [] x.pw, x.s5]
theorem imports_ok (w : World) : ∃ x : ImpP, bodyOf (HK w) 146 = impOf x := ⟨impP (bodyOf (HK w) 146), by kernel_rfl⟩
theorem nm_139 (w : World) (os : Sto) : nameV gtab "import_one" ⟨scopeAt (HK w) 146, locA, os⟩ = some (.sc (.raw (.ref 139))) := by kernel_rfl
theorem ar_139 (w : World) (os : Sto) (q1 q2 q3 : Pos) : (ev (HK w) tab gtab fntab 5).es [.Name "rd" q1, .Name "tree" q2, .Name "names" q3] ⟨scopeAt (HK w) 146, locA, os⟩ = some ([rf 19, rf 32, rf 38], ⟨scopeAt (HK w) 146, locA, os⟩) := by kernel_rfl
theorem co_139 : Mine.callOk tab fntab 139 = true := by kernel_rfl
section
variable {prog : Program} {w : World} {pv : Program} {loose : List Str} {mean : ExcName → Option Value} {mg mb : Str → Option Value}
noncomputable def txtW (T : Str) : Items → S
  | [] => .txt T true beginW
  | (m, a) :: r => .txt T false (winA m a r.isEmpty)
theorem one_expr {n : Nat} {A₀ A : Around} {base h₀ : Heap} {outer : List Env} {cn : Str} {L a : Addr} {ccd : Value} (C : Cx (mkG prog w pv loose mean mg mb) (n + 121) A₀ A base h₀ outer cn (scopeAt (HK w) 146) L a ccd) {e : Expr} {eh : Nat → Pos} (he : e = oneOf eh) {f : Fin} {gh : Gh} {q : Ds} {c : Nat} {m : Md} {al : Al} {r : Items} {p : P} {s : Shared} {Q E : Value → Shared → Prop}
    (Rp : Rep prog w h₀ L p ⟨scopeAt (HK w) 146, locA, ofL (stY f gh q (.txt f.T false (winB m al r.isEmpty)) (.off (wEnd m al)) (.str "ident") (.str (al.str m)) (.off 1))⟩ s.heap) (ok : Ok f gh q c) (hc : c ≤ 19) (hT : TI f.T p.β ((m, al) :: r))
    (K : ∀ p' h' tk, Kp keptI p p' → p'.β = p.β + dl m al → Rep prog w h₀ L p' ⟨scopeAt (HK w) 146, locA, ofL (stY f (gh.app p.β (effOf (ocOf gh m al) m al)) (q.app p.β (effOf (ocOf gh m al) m al)) (txtW f.T r) (.off 0) (.str (sepS r.isEmpty)) .any .any)⟩ h' → Q .none { s with heap := h', toks := tk }) :
    wpAny (model prog w) A (eval e (envOf cn (scopeAt (HK w) 146) L a ccd)) Q E s := by
  subst he
  unfold oneOf
  let g := mkG prog w pv loose mean mg mb
  have hn := hT.next
  refine call_expr (g := g) (m := 5) (n := n + 121) (σ := ⟨scopeAt (HK w) 146, locA, _⟩) (nm_139 w _) (by decide +kernel) co_139 rfl (by simp) (good g 5) (ar_139 w _ _ _ _) (by omega) C Rp fun p' ys h' tk le R1 hv => ?_
  have hβ : p'.β = p.β := le.β.symm
  have hd := dl_pos m al
  have hhi := hT.hi
  have fin : ∀ {e' : Bool} {win' : List Nat}, Window f.T (p'.β + dl m al) e' win' → txtW f.T r = .txt f.T e' win' → codeAny (model prog w) A (.call (.ref 139) ⟨ys, []⟩) (fun r s' => match r with | .ok (.ret v) => Q v s' | .ok _ => False | .error e => E e s') { s with heap := h', toks := tk } := by
    intro e' win' hw ht
    refine one_call (n := n) C (m := m) (al := al) (last := r.isEmpty) (s := { s with heap := h', toks := tk }) R1 ok hc (by omega) (hβ ▸ hT.winB) hw hv fun p2 h2 tk2 kp hb R2 => ?_
    rw [ht] at K
    refine K p2 h2 tk2 ((Kp.le le).trans kp) (by omega) ?_
    rw [hβ] at R2
    exact R2
  cases r with
  | nil => exact fin (by rw [hβ]; exact hn.winN) rfl
  | cons x r =>
    obtain ⟨m2, a2⟩ := x
    exact fin (by rw [hβ]; exact hn.winA) rfl
end
end Mine
-- N9
namespace Mine
theorem fd_146b (w : World) : fillOk [("rd" : Str), "tree"] [rf 19, rf 32] [] = true := by kernel_rfl
theorem binds_146 : (bindsOf [("rd" : Str), "tree"] [rf 19, rf 32] []).reverse = [(("tree" : Str), rf 32), ("rd", rf 19)] := by kernel_rfl
noncomputable def keptL : List Nat := [10, 19, 32, 34, 35, 36, 37]
section
variable {prog : Program} {w : World} {pv : Program} {loose : List Str} {mean : ExcName → Option Value} {mg mb : Str → Option Value}
theorem keepI_specI {os : Sto} {loc : List (Str × V)} {j e : Nat} : ∀ i ∈ specI, (kI os loc j e)[i]? = some i :=
  all_in ⟨rfl, rfl, rfl, rfl, rfl, rfl, rfl, rfl, rfl, rfl, rfl, rfl, rfl, trivial⟩
theorem keepI_kept {os : Sto} {loc : List (Str × V)} {j e : Nat} : ∀ i ∈ keptI, (kI os loc j e)[i]? = some i :=
  all_in ⟨rfl, rfl, rfl, rfl, rfl, rfl, rfl, rfl, trivial⟩
theorem imports_rest {n : Nat} {A₀ A : Around} {base h₀ : Heap} {outer : List Env} {cn : Str} {L a : Addr} {ccd : Value} (C : Cx (mkG prog w pv loose mean mg mb) (n + 121) A₀ A base h₀ outer cn (scopeAt (HK w) 146) L a ccd) {f : Fin} {e2 : Expr} {eh : Nat → Pos} {p2 : Pos} (he : e2 = oneOf eh) {p₀ : P} {s : Shared} {R : Result → Shared → Prop} {ghF : Gh}
    (K : ∀ p' q' h' tk, Kp keptI p₀ p' → Rep prog w h₀ L p' ⟨scopeAt (HK w) 146, locA, ofL (stY f ghF q' (.txt f.T true beginW) (.off 0) (.str ";") .any .any)⟩ h' → p'.β ≤ 200 → Window f.T p'.β true beginW → (∃ c, c ≤ 20 ∧ Ok f ghF q' c) → R (.ok .next) { s with heap := h', toks := tk })
    {gh : Gh} {q : Ds} {c : Nat} {r : Items} {p : P} {h : Heap} {tk : Nat} (kp : Kp keptI p₀ p) (Rp : Rep prog w h₀ L p ⟨scopeAt (HK w) 146, locA, ofL (stY f gh q (txtW f.T r) (.off 0) (.str (sepS r.isEmpty)) .any .any)⟩ h) (ok : Ok f gh q c) (hc : c + r.length ≤ 19) (hT : TI f.T p.β r) (hF : run gh p.β r = ghF) :
    codeAny (model prog w) A (.whileLoop (whileTest (HK w)) [.Expr e2 p2] [] (envOf cn (scopeAt (HK w) 146) L a ccd)) R { s with heap := h, toks := tk } := by
  refine codeAny_whileLoop (fun k s' => ∃ (gh : Gh) (q : Ds) (c : Nat) (r : Items) (p : P) (h : Heap) (tk : Nat), s' = { s with heap := h, toks := tk } ∧ k = r.length ∧ Kp keptI p₀ p ∧ Rep prog w h₀ L p ⟨scopeAt (HK w) 146, locA, ofL (stY f gh q (txtW f.T r) (.off 0) (.str (sepS r.isEmpty)) .any .any)⟩ h ∧ Ok f gh q c ∧ c + r.length ≤ 19 ∧ TI f.T p.β r ∧ run gh p.β r = ghF) ?_ r.length ⟨gh, q, c, r, p, h, tk, rfl, rfl, kp, Rp, ok, hc, hT, hF⟩
  rintro k _ ⟨gh, q, c, r, p, h, tk, rfl, hk, kp, Rp, ok, hc, hT, hF⟩
  have hhi := hT.hi
  cases r with
  | nil =>
    obtain ⟨σ1, j, e, hr, hp, hs, hn, hb, hl⟩ := trim_of (t_no w (mkY f gh q) (tn f gh q (.txt f.T true beginW) (.off 0) .any .any .any [] [] [] []) (.txt f.T true beginW) (.off 0))
    have S1 := (good (mkG prog w pv loose mean mg mb) 62).t _ _ _ _ hr
    refine S1.run (s := { s with heap := h, toks := tk }) rfl (C.less (by omega)) Rp fun p1 h1 tk1 le1 R1 => ?_
    have hβ1 : p1.β = p.β := le1.β.symm
    have R2 := R1.trimS (sc := scopeAt (HK w) 146) hs hn hb (loc_sub (R1.keeps1 hb) hl) (same_all (kind := .str ";") (val := .any) (tpl := .any) hp ok (by simp at hc; omega) keepI_specI rfl (fun i hi => rfl) (by omega) (hβ1 ▸ hT.winN) KnX.nil KnX.nil KnX.nil KnL.nil)
    rw [if_neg Bool.false_ne_true]
    refine wpAny_execs_nil ?_
    have hF : gh = ghF := hF
    subst hF
    refine K _ q h1 tk1 (kp.trans ((Kp.le le1).trans (Kp.re keepI_kept))) R2 ?_ ?_ ⟨c, by simp at hc; omega, ok⟩
    · show p1.β + 0 ≤ 200; omega
    · show Window f.T (p1.β + 0) true beginW
      rw [Int.add_zero, hβ1]; exact hT.winN
  | cons x r =>
    obtain ⟨m, al⟩ := x
    obtain ⟨σ1, j, e, hr, hp, hs, hn, hb, hl⟩ := trim_of (t_yes w (mkY f gh q) (tn f gh q (.txt f.T false (winB m al r.isEmpty)) (.off (wEnd m al)) .any .any .any [] [] [] []) m al r.isEmpty)
    have S1 := (good (mkG prog w pv loose mean mg mb) 62).t _ _ _ _ hr
    refine S1.run (s := { s with heap := h, toks := tk }) rfl (C.less (by omega)) Rp fun p1 h1 tk1 le1 R1 => ?_
    have hβ1 : p1.β = p.β := le1.β.symm
    have R2 := R1.trimS (sc := scopeAt (HK w) 146) hs hn hb (loc_sub (R1.keeps1 hb) hl) (same_all (kind := .str "ident") (val := .str (al.str m)) (tpl := .off 1) hp ok (by simp at hc; omega) keepI_specI rfl (fun i hi => rfl) (by omega) (hβ1 ▸ hT.winB) KnX.nil KnX.nil KnX.nil KnL.nil)
    rw [if_pos rfl]
    have hβ2 : (p1.re (kI σ1.objs σ1.loc j e) 0).β = p.β := by show p1.β + 0 = p.β; omega
    refine wpAny_execs_cons (wpAny_Expr_any (one_expr (n := n) (s := { s with heap := h1, toks := tk1 }) C he R2 ok (by simp at hc; omega) (hβ2 ▸ hT) fun p3 h3 tk3 kp3 hb3 R3 => ?_) ?_ ?_)
    · refine wpAny_execs_nil ⟨r.length, by rw [hk]; simp, _, _, c + 1, r, p3, h3, tk3, rfl, rfl, ?_, R3, ok.app _ (efOk _ _ _), by simp at hc; omega, ?_, ?_⟩
      · exact kp.trans ((Kp.le le1).trans ((Kp.re keepI_kept).trans kp3))
      · rw [hb3, hβ2]; exact hT.next
      · rw [hb3, hβ2]; exact hF
    · unfold interactive
      show ((scopeAt (HK w) 146).kind == ScopeKind.module && _) = false
      rw [C.hk]
      rfl
    · subst he; rfl
end
end Mine
-- N10
namespace Mine
noncomputable def g0 : Gh := ⟨[], [], [], []⟩
noncomputable def q0 : Ds := ⟨[], [], []⟩
noncomputable def stL (f : Fin) (txt place kind : S) : List O := stI (Sy.at { mkY f g0 q0 with last := .gone } txt place kind .any .any)
noncomputable def locL : List (Str × V) := [("errors", rf 10), ("rd", rf 19), ("tree", rf 32), ("marks", rf 35), ("rows", rf 36), ("held", rf 37)]
section
variable {prog : Program} {w : World} {pv : Program} {loose : List Str} {mean : ExcName → Option Value} {mg mb : Str → Option Value} {p : P}
theorem specS_all {Pr : Nat → O → Prop} {ks : List Nat} {x : Tn} {τ : List O} (hk : ∀ i ∈ specS, ks[i]? = some i) (hτ : ∀ i ∈ specS, τ[i]? = (stI x)[i]?)
    (h2 : Pr 2 (.tdict 0)) (h12 : Pr 12 (.slst x.errs 20)) (h13 : Pr 13 (.jdict x.is 20 true)) (h17 : Pr 17 (.xdict x.ks 20 x.knK)) (h18 : Pr 18 (.xdict x.ns 20 x.knN)) (h22 : Pr 22 (scnD x.txt x.place)) (h28 : Pr 28 (.xdict x.sn 20 x.knS)) (h29 : Pr 29 (.alist 0)) (h34 : Pr 34 (.slst x.irows 20))
    (h35 : Pr 35 (.slst x.marks 20)) (h36 : Pr 36 (.slst x.rows 20)) (h37 : Pr 37 (.slist x.held 20 [])) : ∀ i ∈ specS, ∀ (l : Nat) (o' : O), ks[i]? = some l → τ[i]? = some o' → Pr l o' :=
  all_in ⟨at_one (hk 2 (by decide)) (hτ 2 (by decide)) h2, at_one (hk 12 (by decide)) (hτ 12 (by decide)) h12, at_one (hk 13 (by decide)) (hτ 13 (by decide)) h13, at_one (hk 17 (by decide)) (hτ 17 (by decide)) h17, at_one (hk 18 (by decide)) (hτ 18 (by decide)) h18, at_one (hk 22 (by decide)) (hτ 22 (by decide)) h22, at_one (hk 28 (by decide)) (hτ 28 (by decide)) h28, at_one (hk 29 (by decide)) (hτ 29 (by decide)) h29, at_one (hk 34 (by decide)) (hτ 34 (by decide)) h34, at_one (hk 35 (by decide)) (hτ 35 (by decide)) h35, at_one (hk 36 (by decide)) (hτ 36 (by decide)) h36, at_one (hk 37 (by decide)) (hτ 37 (by decide)) h37, trivial⟩
theorem start_all {os : Sto} {f : Fin} {g : Gh} {q : Ds} {c : Nat} {e e' : Bool} {win win' : List Nat} {k : Int} {kind val tpl : S} {last : O} {ks : List Nat} {τ : List O} (h : pickAt os specS = (sameI { mkY f g q with last := .gone } (.txt f.T e win) (.off k)).take 12) (ok : Ok f g q c) (hc : c ≤ 20)
    (hk : ∀ i ∈ specS, ks[i]? = some i) (h10 : ks[10]? = some 10) (hτ : ∀ i ∈ specS, τ[i]? = (stI { tn f g q (.txt f.T e' win') (.off k) kind val tpl [] [] [] [] with last := last })[i]?) (hβ : p.β ≤ 500) (hw : Window f.T p.β e' win') :
    ∀ i ∈ specS, ∀ (l : Nat) (o' : O), ks[i]? = some l → τ[i]? = some o' → Sp prog w p ks 0 os l o' := by
  have h : [normO (sget os 2), normO (sget os 12), normO (sget os 13), normO (sget os 17), normO (sget os 18), normO (sget os 22), normO (sget os 28), normO (sget os 29), normO (sget os 34), normO (sget os 35), normO (sget os 36), normO (sget os 37)] = (sameI { mkY f g q with last := .gone } (.txt f.T e win) (.off k)).take 12 := h
  unfold sameI at h
  simp only [List.take, List.cons.injEq, and_true] at h
  obtain ⟨p2, p12, p13, p17, p18, p22, p28, p29, p34, p35, p36, p37⟩ := h
  obtain ⟨h1, h2, h3, h4, h5, h6, h7, h8, h9, hM, hR, hH⟩ := ok
  exact specS_all hk hτ (S_td p2 (by omega) (by omega)) (S_rows p12 (Nat.le_trans h1 hc)) (S_jd p13 (by omega) (Nat.le_trans h5 hc)) (S_xd p17 (Nat.le_trans h6 hc) KnX.nil) (S_xd p18 (Nat.le_trans h7 hc) KnX.nil) (S_scn p22 (by omega) h10 (by rw [Int.add_zero]; exact hw)) (S_xd p28 (Nat.le_trans h4 hc) KnX.nil) (S_al p29 (by omega) (by omega)) (S_imps p34 (Nat.le_trans h2 hc)) (S_rows p35 hM) (S_imps p36 hR) (S_sl p37 hH KnL.nil)
theorem imports_call {n : Nat} {A₀ A : Around} {base h₀ : Heap} {outer : List Env} {cn : Str} {sc : Scope} {L a : Addr} {ccd : Value} (C : Cx (mkG prog w pv loose mean mg mb) (n + 122) A₀ A base h₀ outer cn sc L a ccd) {f : Fin} {m : Md} {al : Al} {r : Items} {s : Shared} {ys : List Value} {R : Result → Shared → Prop}
    (Rp : Rep prog w h₀ L p ⟨sc, locL, ofL (stL f (.txt f.T false (winA m al r.isEmpty)) (.off 0) (.str "IMPORT"))⟩ s.heap) (hM : f.M.length ≤ 20) (hR : f.R.length ≤ 20) (hH : f.H.length ≤ 20) (hc : r.length ≤ 18) (hT : TI f.T p.β ((m, al) :: r)) (hv : RVs p [rf 19, rf 32] ys)
    (K : ∀ p' q' h' tk, Rep prog w h₀ L p' ⟨sc, locL, ofL (stY f (run g0 p.β ((m, al) :: r)) q' (.txt f.T true beginW) (.off 6) (.str "BEGIN") .any .any)⟩ h' → (∃ c, c ≤ 20 ∧ Ok f (run g0 p.β ((m, al) :: r)) q' c) → R (.ok (.ret .none)) { s with heap := h', toks := tk }) :
    codeAny (model prog w) A (.call (.ref 146) ⟨ys, []⟩) R s := by
  let g := mkG prog w pv loose mean mg mb
  refine enter (g := g) (n := n + 121) (fd_146 w) rfl (fd_146b w) C Rp hv fun A' h₀' L' h₁ tk cn' ccd' C' R' E => ?_
  rw [binds_146] at R'
  have ok0 : Ok f g0 q0 0 := ⟨by decide, by decide, by decide, by decide, by decide, by decide, by decide, fun x h => (by cases h), fun x h => (by cases h), hM, hR, hH⟩
  have hhi := hT.hi
  obtain ⟨σ1, j, e, hr, hp, hs, hn, hb, hl⟩ := trim_of (t_start w (mkY f g0 q0) (tn f g0 q0 (.txt f.T false (winB m al r.isEmpty)) (.off (wEnd m al)) .any .any .any [] [] [] []) m al r.isEmpty)
  have S1 := sound_pre (good g 62) 2 _ _ _ (unitO_of hr)
  refine S1.2 A A' base h₀' _ cn' L' 146 ccd' (C'.less (by omega)) p { s with heap := h₁, toks := tk } _ _ R' fun p1 h1 tk1 le1 R1 => ?_
  have hβ1 : p1.β = p.β := le1.β.symm
  have hkS : ∀ i ∈ specS, (kS σ1.objs σ1.loc j e)[i]? = some i := all_in ⟨rfl, rfl, rfl, rfl, rfl, rfl, rfl, rfl, rfl, rfl, rfl, rfl, trivial⟩
  have R2 := R1.trimS (sc := scopeAt (HK w) 146) hs hn hb (loc_sub (R1.keeps1 hb) hl) (start_all (kind := .str "ident") (val := .str (al.str m)) (tpl := .off 1) (last := .list []) hp ok0 (by omega) hkS rfl (fun i hi => rfl) (by omega) (hβ1 ▸ hT.winB))
  have R3 := R2.weaken (i := 38) (o := .list []) (o' := .slist [] 20 []) rfl (fun e => by cases e) fun ob ⟨vs, k, z1, z2, z3⟩ => ⟨vs, k, z1, z2, ⟨by simp, by omega⟩, fun x hx => by cases hx⟩
  have hβ2 : (p1.re (kS σ1.objs σ1.loc j e) 0).β = p.β := by show p1.β + 0 = p.β; omega
  have kpS : Kp keptL p (p1.re (kS σ1.objs σ1.loc j e) 0) := (Kp.le le1).trans (Kp.re (all_in ⟨rfl, rfl, rfl, rfl, rfl, rfl, rfl, trivial⟩))
  obtain ⟨⟨s1, s2, e1, pe1, wt, e2, pe2, pw, s5⟩, hbody⟩ := imports_ok w
  unfold impOf at hbody
  have hwt : whileTest (HK w) = wt := by unfold whileTest; rw [hbody]; rfl
  have hd4 : (bodyOf (HK w) 146).drop 4 = [s5] := by rw [hbody]; rfl
  have hi : ∀ cn L ccd, interactive (envOf cn (scopeAt (HK w) 146) L 146 ccd) = false := fun cn L ccd => by
    unfold interactive
    show ((scopeAt (HK w) 146).kind == ScopeKind.module && _) = false
    rw [show (scopeAt (HK w) 146).kind = .function from C'.hk]
    rfl
  show wpAny _ _ (execs ((bodyOf (HK w) 146).drop 2) _) _ _ _
  rw [hbody]
  refine wpAny_execs_cons (wpAny_Expr_any (one_expr (n := n) (s := { s with heap := h1, toks := tk1 }) C' rfl R3 ok0 (by omega) (hβ2 ▸ hT) fun p3 h3 tk3 kp3 hb3 R4 => ?_) (hi _ _ _) ?_)
  rotate_left
  · rfl
  refine wpAny_execs_cons (wpAny_While ?_)
  rw [← hwt]
  refine imports_rest (n := n) (s := s) C' rfl (p₀ := p3) (ghF := run g0 p.β ((m, al) :: r)) (fun p5 q5 h5 tk5 kp5 R5 hβ5 hw5 hok5 => ?_) (fun _ _ _ h => h) R4 (ok0.app _ (efOk _ _ _)) (by omega) (by rw [hb3, hβ2]; exact hT.next) (by rw [hb3, hβ2]; rfl)
  obtain ⟨c5, hc5, ok5⟩ := hok5
  obtain ⟨σ6, j6, e6, hr6, hp6, hs6, hn6, hb6, _⟩ := trim_of (t_end w (mkY f (run g0 p.β ((m, al) :: r)) q5) (tn f (run g0 p.β ((m, al) :: r)) q5 (.txt f.T true beginW) (.off 6) .any .any .any [] [] [] []))
  have S6 := sound_pre (good g 62) 1 _ _ _ (unitO_of hr6)
  rw [hd4] at S6
  refine S6.2 A A' base h₀' _ cn' L' 146 ccd' (C'.less (by omega)) p5 { s with heap := h5, toks := tk5 } _ _ R5 fun p6 h6 tk6 le6 R6 => ?_
  have hβ6 : p6.β = p5.β := le6.β.symm
  have R7 := R6.trimS (sc := scopeAt (HK w) 146) (loc := []) hs6 hn6 hb6 (fun x v e => by cases e) (same_all (kind := .str "BEGIN") (val := .any) (tpl := .any) hp6 ok5 hc5 keepI_specI rfl (fun i hi => rfl) (by omega) (hβ6 ▸ hw5) KnX.nil KnX.nil KnX.nil KnL.nil)
  refine wpAny_execs_nil ⟨_, _, _, _, h6, tk6, rfl, R7, fun back => ?_⟩
  have hsub : ∀ l ∈ keptL, l ∈ keptI := by decide
  have kp : Kp keptL p (p6.re (kI σ6.objs σ6.loc j6 e6) 0) := kpS.trans (((kp3.trans kp5).trans ((Kp.le le6).trans (Kp.re keepI_kept))).sub hsub)
  exact K _ q5 h6 tk6 (back locL fun mm hm => hm.kp kp fun x hx => by
    simp only [locL, List.mem_cons, List.not_mem_nil, or_false] at hx
    rcases hx with rfl | rfl | rfl | rfl | rfl | rfl
    · exact ⟨10, by decide, rfl⟩
    · exact ⟨19, by decide, rfl⟩
    · exact ⟨32, by decide, rfl⟩
    · exact ⟨35, by decide, rfl⟩
    · exact ⟨36, by decide, rfl⟩
    · exact ⟨37, by decide, rfl⟩) ⟨c5, hc5, ok5⟩
end
end Mine
-- NL0
namespace Mine
noncomputable def endM {α : Type} (keep : Sto → List (Str × V) → List Nat) (spec pick : List Nat) (r : Option (α × St)) (δ : Int) (τ : List O) (loc : List (Str × V)) (nms : List Str) : Option (α × Bool × List (Option O) × List (Option V)) := match r with
  | some (v, σ) => some (v, subAll (keep σ.objs σ.loc) spec δ σ.objs (keep σ.objs σ.loc) 0 τ && nodupB (keep σ.objs σ.loc) && (keep σ.objs σ.loc).all (fun l => Nat.blt l (slen σ.objs)) && subLoc (keep σ.objs σ.loc) δ σ.loc loc, pickAt σ.objs pick, nms.map fun x => lk x σ.loc)
  | none => none
noncomputable def endK {α : Type} (keep : Sto → List (Str × V) → List Nat) (spec pick : List Nat) (r : Option (α × St)) (δ : Int) (τ : List O) (loc : List (Str × V)) : Option (α × Bool × List Nat × List (Option O)) := match r with
  | some (v, σ) => some (v, subAll (keep σ.objs σ.loc) spec δ σ.objs (keep σ.objs σ.loc) 0 τ && nodupB (keep σ.objs σ.loc) && (keep σ.objs σ.loc).all (fun l => Nat.blt l (slen σ.objs)) && subLoc (keep σ.objs σ.loc) δ σ.loc loc, keep σ.objs σ.loc, pickAt σ.objs pick)
  | none => none
noncomputable def fld (os : Sto) (l : Option Nat) (f : Str) : Option Nat := match l with
  | some l => match dictAt (sget os l) with
    | some d => refOf (lk f (idOf (sget os d)))
    | none => none
  | none => none
noncomputable def dct (os : Sto) (l : Option Nat) : Option Nat := match l with
  | some l => dictAt (sget os l)
  | none => none
noncomputable def catO : List (Option Nat) → List Nat
  | [] => []
  | some x :: r => x :: catO r
  | none :: r => catO r
noncomputable def keepT (os : Sto) (loc : List (Str × V)) : List Nat := 
  let ty := refOf (lk (Str.ofString "types") loc)
  let er := refOf (lk (Str.ofString "errors") loc)
  catO [ty, dct os ty, fld os ty "known", fld os ty "boolean", dct os (fld os ty "boolean"), fld os ty "char", dct os (fld os ty "char"), fld os ty "integer", dct os (fld os ty "integer"), fld os ty "none",
    er, dct os er, fld os er "rows", fld os er "places", some 0, refOf (lk (Str.ofString "marks") loc), refOf (lk (Str.ofString "rows") loc), refOf (lk (Str.ofString "seen") loc), refOf (lk (Str.ofString "held") loc), fld os ty "byte", fld os ty "mask"]
noncomputable def keep19 (_ : Sto) (_ : List (Str × V)) : List Nat := List.range 21
noncomputable def stM (dc mk rw se he : O) : List O := [
  .inst 123 1,
  .idict [("counter", .sc .num), ("known", rf 2), ("boolean", rf 3), ("char", rf 5), ("byte", rf 19), ("integer", rf 7), ("mask", rf 20), ("nil", an), ("none", rf 9)],
  .sdict [], .inst 38 4, tyD "boolean", .inst 38 6, tyD "char", .inst 38 8, tyD "integer", .gone,
  .inst 216 11, .idict [("rows", rf 12), ("places", rf 13)], .list [], .sdict [], dc, mk, rw, se, he, .gone, .gone]
noncomputable def locM : List (Str × V) := [("state", rf 14), ("types", rf 0), ("errors", rf 10), ("marks", rf 15), ("rows", rf 16), ("seen", rf 17), ("held", rf 18)]
noncomputable def specM : List Nat := [14, 15, 16, 17, 18]
noncomputable def lawSc (K : Frag) : Scope := scopeAt K 1076
noncomputable def loopOf (K : Frag) : List Stmt := (sI ((bodyOf K 1076).getD 10 default)).2.1
noncomputable def iterOf (K : Frag) : Expr := sE ((bodyOf K 1076).getD 10 default) 1
noncomputable def Md.ix : Md → Int
  | .O => 0 | .I => 1 | .S => 2 | .M => 3 | .Z => 4
inductive Dr | a0 | a1 | a2 | a3
noncomputable def Dr.ix : Dr → Int
  | .a0 => 0 | .a1 => 1 | .a2 => 2 | .a3 => 3
noncomputable def Dr.al : Dr → Al
  | .a0 => .own | .a1 => .x | .a2 => .y | .a3 => .own
noncomputable def saidN (T : Str) (m : Md) (a : Al) : Str := match a with
  | .own => T ++ m.str
  | .x => T ++ "x" ++ " := " ++ m.str
  | .y => T ++ "y" ++ " := " ++ m.str
noncomputable def plN (T : Str) (a : Al) : Int := match a with
  | .own => T.length
  | .x => (T ++ "x" ++ " := " : Str).length
  | .y => (T ++ "y" ++ " := " : Str).length
noncomputable def bdN (m : Md) (a : Al) : Nat := match a with
  | .own => 300 + m.str.length
  | .x => 300 + 1 + 4 + m.str.length
  | .y => 300 + 1 + 4 + m.str.length
noncomputable def pickN (T : Str) (dc : O) (mk rw : List V) (se he : List Str) (o : Oc) (m : Md) (a : Al) : List (Option O) := [
  some dc,
  some (match (effOf o m a).em with | none => .slst mk 20 | some (_, c) => .slst (mk ++ [.tup [.sint (match o with | .taken => T.length | _ => plN T a), .str c]]) 21),
  some (match (effOf o m a).ir with | none => .slst rw 20 | some (x, i) => .slst (rw ++ [.tup [.str x, .int i]]) 21),
  some (match (effOf o m a).nm with | none => .slist se 20 [] | some x => .slist (se ++ [x]) 21 []),
  some (match (effOf o m a).sn with | none => .slist he 20 [] | some x => .slist (he ++ [x]) 21 [])]
noncomputable def knH (o : Oc) (m : Md) (a : Al) : List (Str × Bool) := match o with | .twice => [] | .taken => [(a.str m, true)] | .fresh => [(a.str m, false)]
noncomputable def keepR (os : Sto) (loc : List (Str × V)) : List Nat :=
  let rd := refOf (lk (Str.ofString "rd") loc)
  let im := fld os rd "importer"
  let sn := fld os rd "scanner"
  let ss := fld os rd "scopes"
  let sk := fld os ss "stack"
  let sc := match sk with
    | some l => match sget os l with
      | some (.list [_, v]) => refOf (some v)
      | _ => none
    | none => none
  let tk := fld os rd "token"
  let tr := refOf (lk (Str.ofString "tree") loc)
  List.range 14 ++ (catO [im, dct os im, fld os im "library", fld os im "keys", fld os im "interfaces", rd, dct os rd, sn, dct os sn, ss, dct os ss, sk, sc, dct os sc, fld os sc "names", fld os sc "order", tk, dct os tk, tr, dct os tr, fld os tr "imports"] ++ [15, 16, 18, 17])
noncomputable def stR (scn : O) (kind : S) (mk rw he : O) : List O := [
  .inst 123 1,
  .idict [("counter", .sc .num), ("known", rf 2), ("boolean", rf 3), ("char", rf 5), ("byte", an), ("integer", rf 7), ("mask", an), ("nil", an), ("none", rf 9)],
  .sdict [],
  .inst 38 4, tyD "boolean", .inst 38 6, tyD "char", .inst 38 8, tyD "integer", .gone,
  .inst 216 11, .idict [("rows", rf 12), ("places", rf 13)], .list [], .sdict [],
  .inst 664 15, .idict [("types", rf 0), ("library", rf 16), ("keys", rf 17), ("interfaces", rf 18)], .sdict [], .sdict [], .sdict [],
  .inst 1037 20, .idict [("scanner", rf 21), ("types", rf 0), ("errors", rf 10), ("importer", rf 14), ("scopes", rf 23), ("module", st "M"), ("procs", an), ("records", an), ("forwards", an), ("level", an), ("nest", an), ("parts", an), ("token", rf 30)],
  .inst 833 22, scn,
  .inst 917 24, .idict [("types", rf 0), ("module", st ""), ("stack", rf 25), ("level", .sc (.int 0))], .list [an, rf 26],
  .inst 854 27, .idict [("level", .sc (.int 0)), ("label", an), ("names", rf 28), ("order", rf 29), ("slots", an)], .sdict [], .list [],
  .inst 685 31, .idict [("kind", .sc kind), ("value", an), ("place", an)],
  .inst 1058 33, .idict [("name", an), ("imports", rf 34), ("objs", an), ("procs", an), ("body", an), ("records", an), ("place", an)], .list [],
  mk, rw, he, .gone]
noncomputable def specR : List Nat := [22, 35, 36, 37]
noncomputable def doneL (o : Ou) : Bool := match o with
  | .next => true
  | .cont => true
  | _ => false
noncomputable def okL : Option (Ou × St) → Option (Bool × St)
  | some (o, σ) => some (doneL o, σ)
  | none => none
theorem okL_of {r : Option (Ou × St)} {b : Bool} {σ : St} (h : okL r = some (b, σ)) : ∃ o, r = some (o, σ) ∧ doneL o = b := by
  cases r with
  | none => cases h
  | some x => cases h; exact ⟨_, rfl, rfl⟩
noncomputable def firstT (c : Nat) : Str := match c with
  | 0 => ""
  | _ + 1 => "IMPORT "
noncomputable def impW : List Nat := [73, 77, 80, 79, 82, 84, 32]
end Mine
-- NL
namespace Mine
theorem l_make (w : World) (xs : List Int) : endK keepT [14] [0] (unitO (stepPre (evD (HK w) tab gtab fntab 1069 80) 7 ((bodyOf (HK w) 1076).drop 1) ⟨lawSc (HK w), [("state", rf 0)], ofL [.dice [] xs 0]⟩)) 0 (stM .gone (.list []) (.list []) (.list []) (.list [])) (locM ++ [(("said" : Str), st "")]) = some ((), true, [2, 1, 3, 5, 4, 10, 9, 20, 19, 35, 40, 39, 41, 42, 0, 44, 43, 45, 46, 15, 25], [some (.dice [] xs 0)]) := by kernel_rfl
theorem l_count (w : World) (xs : List Int) (mk rw se he : O) (c : Nat) (hc : c ≤ 5) : endM keep19 specM specM (unitO (stepPre (evD (HK w) tab gtab fntab 1069 80) 2 ((bodyOf (HK w) 1076).drop 8) ⟨lawSc (HK w), locM ++ [(("said" : Str), st "")], ofL (stM (.dice [(6, c)] xs 0) mk rw se he)⟩)) 0 (stM .gone .gone .gone .gone .gone) locM ["count", "said"] = some ((), true, [some (.dice [] xs 1), normO (some mk), normO (some rw), normO (some se), normO (some he)], [some (.sc (.int c)), some (st (firstT c))]) := by
  match c, hc with
  | 0, _ => kernel_rfl
  | 1, _ => kernel_rfl
  | 2, _ => kernel_rfl
  | 3, _ => kernel_rfl
  | 4, _ => kernel_rfl
  | 5, _ => kernel_rfl
theorem l_iter (w : World) (dc mk rw se he : O) (c : Int) (T : Str) : (evD (HK w) tab gtab fntab 1069 80).e (iterOf (HK w)) ⟨lawSc (HK w), ("said", .sc (.sstr T 200)) :: ("count", .sc (.int c)) :: locM, ofL (stM dc mk rw se he)⟩ = some (rf 21, ⟨lawSc (HK w), ("said", .sc (.sstr T 200)) :: ("count", .sc (.int c)) :: locM, spush (ofL (stM dc mk rw se he)) (.rng c)⟩) := by kernel_rfl
theorem l_draw (w : World) (xs : List Int) (k : Nat) (mk rw se he : O) (c i : Int) (T : Str) (m : Md) (a : Dr) : endM keep19 specM specM (unitO (stepPre (evD (HK w) tab gtab fntab 1069 80) 2 (loopOf (HK w)) ⟨lawSc (HK w), ("said", .sc (.sstr T 200)) :: ("count", .sc (.int c)) :: (locM ++ [(("go_of" : Str), .sc (.int i))]), ofL (stM (.dice [(5, m.ix), (4, a.ix)] xs k) mk rw se he)⟩)) 0 (stM .gone .gone .gone .gone .gone) (locM ++ [(("module" : Str), st m.str), ("alias", st (a.al.str m))]) ["count", "said", "go_of"] = some ((), true, [some (.dice [] xs (k + 2)), normO (some mk), normO (some rw), normO (some se), normO (some he)], [some (.sc (.int c)), some (.sc (.sstr T 200)), some (.sc (.int i))]) := by
  cases m <;> cases a <;> kernel_rfl
theorem l_comma0 (w : World) (dc mk rw se he : O) (c : Int) (T ms as : Str) : endM keep19 specM specM (unitO (stepPre (evD (HK w) tab gtab fntab 1069 80) 1 ((loopOf (HK w)).drop 2) ⟨lawSc (HK w), ("said", .sc (.sstr T 200)) :: ("count", .sc (.int c)) :: ("go_of", .sc (.int 0)) :: (locM ++ [(("module" : Str), st ms), ("alias", st as)]), ofL (stM dc mk rw se he)⟩)) 0 (stM .gone .gone .gone .gone .gone) locM ["count", "said", "module", "alias"] = some ((), true, [normO (some dc), normO (some mk), normO (some rw), normO (some se), normO (some he)], [some (.sc (.int c)), some (.sc (.sstr T 200)), some (st ms), some (st as)]) := by kernel_rfl
theorem l_comma (w : World) (dc mk rw se he : O) (c : Int) (T ms as : Str) (i : Nat) (h1 : 1 ≤ i) (h2 : i ≤ 4) : endM keep19 specM specM (unitO (stepPre (evD (HK w) tab gtab fntab 1069 80) 1 ((loopOf (HK w)).drop 2) ⟨lawSc (HK w), ("said", .sc (.sstr T 200)) :: ("count", .sc (.int c)) :: ("go_of", .sc (.int i)) :: (locM ++ [(("module" : Str), st ms), ("alias", st as)]), ofL (stM dc mk rw se he)⟩)) 0 (stM .gone .gone .gone .gone .gone) locM ["count", "said", "module", "alias"] = some ((), true, [normO (some dc), normO (some mk), normO (some rw), normO (some se), normO (some he)], [some (.sc (.int c)), some (.sc (.sstr (T ++ ", ") 202)), some (st ms), some (st as)]) := by
  match i, h1, h2 with
  | 1, _, _ => kernel_rfl
  | 2, _, _ => kernel_rfl
  | 3, _, _ => kernel_rfl
  | 4, _, _ => kernel_rfl
theorem l_rest (w : World) (dc : O) (mk rw : List V) (se he : List Str) (c : Int) (T : Str) (o : Oc) (m : Md) (a : Al) : endM keep19 specM specM (okL ((evD (HK w) tab gtab fntab 1069 80).ss ((loopOf (HK w)).drop 3) ⟨lawSc (HK w), ("said", .sc (.sstr T 300)) :: ("count", .sc (.int c)) :: ("module", st m.str) :: ("alias", st (a.str m)) :: locM, ofL (stM dc (.slst mk 20) (.slst rw 20) (.slist se 20 (knL o m)) (.slist he 20 (knH o m a)))⟩)) 0 (stM .gone .gone .gone .gone .gone) locM ["count", "said"] = some (true, true, (match pickN T dc mk rw se he o m a with | _ :: r => normO (some dc) :: r | [] => []), [some (.sc (.int c)), some (.sc (.sstr (saidN T m a) (bdN m a)))]) := by
  cases o <;> cases a <;> cases m <;> kernel_rfl
theorem l_semi (w : World) (dc mk rw se he : O) (T : Str) (c : Nat) (h1 : 1 ≤ c) (h2 : c ≤ 5) : endM keep19 specM specM (unitO (stepPre (evD (HK w) tab gtab fntab 1069 80) 1 ((bodyOf (HK w) 1076).drop 11) ⟨lawSc (HK w), ("said", .sc (.sstr T 200)) :: ("count", .sc (.int c)) :: locM, ofL (stM dc mk rw se he)⟩)) 0 (stM .gone .gone .gone .gone .gone) locM ["said"] = some ((), true, [normO (some dc), normO (some mk), normO (some rw), normO (some se), normO (some he)], [some (.sc (.sstr (T ++ ";") 201))]) := by
  match c, h1, h2 with
  | 1, _, _ => kernel_rfl
  | 2, _, _ => kernel_rfl
  | 3, _, _ => kernel_rfl
  | 4, _, _ => kernel_rfl
  | 5, _, _ => kernel_rfl
theorem l_read (w : World) (dc mk rw se he : O) (T : Str) : endK keepR specR [28, 15, 16, 18] (unitO (stepPre (evD (HK w) tab gtab fntab 1069 80) 4 ((bodyOf (HK w) 1076).drop 12) ⟨lawSc (HK w), ("said", .sc (.atx T 300 impW)) :: locM, ofL (stM dc mk rw se he)⟩)) 6 (stR .gone (.str "IMPORT") .gone .gone .gone) locL = some ((), true, [0, 1, 2, 3, 4, 5, 6, 7, 8, 9, 10, 11, 12, 13, 23, 22, 21, 24, 25, 27, 26, 29, 28, 31, 30, 36, 85, 84, 86, 87, 83, 82, 89, 88, 90, 15, 16, 18, 17], [some (scnD (.atx (T ++ " BEGIN") 306 impW) (.int 6)), normO (some mk), normO (some rw), normO (some he)]) := by kernel_rfl
theorem l_zero (w : World) (dc mk rw se he : O) : endK keepR [35, 36, 37] [15, 16, 18] (unitO (stepPre (evD (HK w) tab gtab fntab 1069 80) 6 ((bodyOf (HK w) 1076).drop 11) ⟨lawSc (HK w), ("said", st "") :: ("count", .sc (.int 0)) :: locM, ofL (stM dc mk rw se he)⟩)) 0 (stR (scnD (.str " BEGIN") (.int 6)) (.str "BEGIN") .gone .gone .gone) locL = some ((), true, [0, 1, 2, 3, 4, 5, 6, 7, 8, 9, 10, 11, 12, 13, 23, 22, 21, 24, 25, 27, 26, 29, 28, 31, 30, 36, 85, 84, 86, 87, 83, 82, 89, 88, 90, 15, 16, 18, 17], [normO (some mk), normO (some rw), normO (some he)]) := by kernel_rfl
end Mine
-- NE
namespace Mine

noncomputable def dM (x : Int × Str) : PyData := .tuple [.int x.1, .str x.2]
noncomputable def dI (x : Str × Int) : PyData := .tuple [.str x.1, .int x.2]
theorem eqv_dM : ∀ l : List (Int × Str), PyData.eqvAll (l.map dM) (l.map dM) = true
  | [] => by simp [PyData.eqvAll]
  | x :: r => by simp [PyData.eqvAll, dM, PyData.eqv, eqv_dM r]
theorem eqv_dI : ∀ l : List (Str × Int), PyData.eqvAll (l.map dI) (l.map dI) = true
  | [] => by simp [PyData.eqvAll]
  | x :: r => by simp [PyData.eqvAll, dI, PyData.eqv, eqv_dI r]
theorem eqv_S : ∀ l : List Str, PyData.eqvAll (l.map .str) (l.map .str) = true
  | [] => by simp [PyData.eqvAll]
  | x :: r => by simp [PyData.eqvAll, PyData.eqv, eqv_S r]
theorem lay_dM : ∀ l : List (Int × Str), (∀ x ∈ l, PyData.strOk x.2 = true) → PyData.canLayAll0 (l.map dM) = true
  | [], _ => by simp [PyData.canLayAll0]
  | x :: r, h => by simp [PyData.canLayAll0, dM, PyData.canLay0, h x (.head _), lay_dM r fun y hy => h y (.tail _ hy)]
theorem lay_dI : ∀ l : List (Str × Int), (∀ x ∈ l, PyData.strOk x.1 = true) → PyData.canLayAll0 (l.map dI) = true
  | [], _ => by simp [PyData.canLayAll0]
  | x :: r, h => by simp [PyData.canLayAll0, dI, PyData.canLay0, h x (.head _), lay_dI r fun y hy => h y (.tail _ hy)]
theorem lay_S : ∀ l : List Str, (∀ x ∈ l, PyData.strOk x = true) → PyData.canLayAll0 (l.map .str) = true
  | [], _ => by simp [PyData.canLayAll0]
  | x :: r, h => by simp [PyData.canLayAll0, PyData.canLay0, h x (.head _), lay_S r fun y hy => h y (.tail _ hy)]
theorem dep_dM : ∀ l : List (Int × Str), PyData.depthAll (l.map dM) ≤ 10
  | [] => by simp [PyData.depthAll]
  | x :: r => by
    have := dep_dM r
    simp only [List.map_cons, PyData.depthAll, dM, PyData.depth]
    omega
theorem dep_dI : ∀ l : List (Str × Int), PyData.depthAll (l.map dI) ≤ 10
  | [] => by simp [PyData.depthAll]
  | x :: r => by
    have := dep_dI r
    simp only [List.map_cons, PyData.depthAll, dI, PyData.depth]
    omega
theorem dep_S : ∀ l : List Str, PyData.depthAll (l.map .str) ≤ 10
  | [] => by simp [PyData.depthAll]
  | x :: r => by
    have := dep_S r
    simp only [List.map_cons, PyData.depthAll, PyData.depth]
    omega
theorem shaped_of {l : List PyData} (h1 : PyData.canLayAll0 l = true) (h2 : PyData.depthAll l ≤ 10) : PySem.SeqAt.shaped (.list l) = true := by
  unfold PySem.SeqAt.shaped
  rw [Bool.and_eq_true]
  refine ⟨by rw [PyData.canLay0]; exact h1, ?_⟩
  rw [PyData.depth]
  exact decide_eq_true (by omega)
section
variable {p : P} {h : Heap}
theorem reads_dM (hf : ∀ x ∈ p.fr, h.get? x.1 = some x.2) : ∀ {l : List (Int × Str)} {vs : List Value}, RVs p (l.map rowV) vs → ∃ as, ReadsAll h vs (l.map dM) as
  | [], [], _ => ⟨_, .nil⟩
  | x :: r, v :: vs, ⟨⟨a, ys, e, h1, h2⟩, h3⟩ => by
    obtain ⟨as, ih⟩ := reads_dM hf h3
    match ys, h2 with
    | [u, v2], ⟨⟨t, e1⟩, ⟨t2, e2⟩, _⟩ =>
      subst e e1 e2
      exact ⟨_, .cons (.tuple (hf _ h1) rfl rfl (.cons (.int _ _) (.cons (.str _ _) .nil))) ih⟩
  | [], _ :: _, h => h.elim
  | _ :: _, [], h => h.elim
theorem reads_dI (hf : ∀ x ∈ p.fr, h.get? x.1 = some x.2) : ∀ {l : List (Str × Int)} {vs : List Value}, RVs p (l.map impV) vs → ∃ as, ReadsAll h vs (l.map dI) as
  | [], [], _ => ⟨_, .nil⟩
  | x :: r, v :: vs, ⟨⟨a, ys, e, h1, h2⟩, h3⟩ => by
    obtain ⟨as, ih⟩ := reads_dI hf h3
    match ys, h2 with
    | [u, v2], ⟨⟨t, e1⟩, ⟨t2, e2⟩, _⟩ =>
      subst e e1 e2
      exact ⟨_, .cons (.tuple (hf _ h1) rfl rfl (.cons (.str _ _) (.cons (.int _ _) .nil))) ih⟩
  | [], _ :: _, h => h.elim
  | _ :: _, [], h => h.elim
theorem reads_S : ∀ {ss : List Str} {vs : List Value}, StrsAre vs ss → ∃ as, ReadsAll h vs (ss.map .str) as
  | _, _, .nil => ⟨_, .nil⟩
  | _, _, .cons x t hr => by
    obtain ⟨as, ih⟩ := reads_S hr
    exact ⟨_, .cons (.str x t) ih⟩
end
theorem rising_all : ∀ (l : List Str) (p : Str), risingS p l = true → ∀ x ∈ l, ltCps x.cps.toList p.cps.toList = false
  | [], _, _, _, h => by cases h
  | y :: r, p, h, x, hx => by
    have h : (!ltCps y.cps.toList p.cps.toList && risingS y r) = true := h
    rw [Bool.and_eq_true, Bool.not_eq_true'] at h
    rcases List.mem_cons.mp hx with rfl | hx
    · exact h.1
    · have h2 := rising_all r y h.2 x hx
      have h1 := h.1
      rw [ltCps_eq] at h1 h2 ⊢
      simp only [decide_eq_false_iff_not, List.not_lt] at h1 h2 ⊢
      exact List.le_trans h1 h2
theorem sortedS_tail {x : Str} {r : List Str} (h : sortedS (x :: r) = true) : sortedS r = true := by
  cases r with
  | nil => rfl
  | cons y r =>
    have h : (!ltCps y.cps.toList x.cps.toList && risingS y r) = true := h
    rw [Bool.and_eq_true] at h
    exact h.2
theorem sortedS_uniq : ∀ {a b : List Str}, a.Perm b → sortedS a = true → sortedS b = true → a = b
  | [], b, p, _, _ => (List.nil_perm.mp p).symm
  | x :: r, [], p, _, _ => absurd (List.perm_nil.mp p) (by simp)
  | x :: r, y :: t, p, ha, hb => by
    have e : x = y := by
      by_cases hxy : x = y
      · exact hxy
      · have h1 : y ∈ r := by
          have : y ∈ x :: r := p.mem_iff.mpr (.head _)
          rcases List.mem_cons.mp this with e | h
          · exact absurd e.symm hxy
          · exact h
        have h2 : x ∈ t := by
          have : x ∈ y :: t := p.mem_iff.mp (.head _)
          rcases List.mem_cons.mp this with e | h
          · exact absurd e hxy
          · exact h
        have a1 := rising_all r x ha y h1
        have a2 := rising_all t y hb x h2
        rw [ltCps_eq] at a1 a2
        simp only [decide_eq_false_iff_not, List.not_lt] at a1 a2
        have := List.le_antisymm a1 a2
        obtain ⟨⟨u⟩⟩ := x
        obtain ⟨⟨v⟩⟩ := y
        have : u = v := this
        rw [this]
    subst e
    rw [sortedS_uniq (List.Perm.cons_inv p) (sortedS_tail ha) (sortedS_tail hb)]
section
variable {prog : Program} {w : World} {A : Around} {E : Value → Shared → Prop} {s : Shared} {h₀ : Heap} {L d : Addr} {m : Str → Option Value} {news : List (Addr × Obj)} {Q : Value → Shared → Prop}
theorem strs_keys {kvs : List (Str × Value)} : ∀ {vs : List Value}, vs.length = kvs.length → (∀ (j : Nat) (v : Value), vs[j]? = some v → ∃ k x, kvs[j]? = some (k, x) ∧ (PySem.strKind prog w).is k v = true) → StrsAre vs (kvs.map (·.1)) := by
  induction kvs with
  | nil => intro vs h _; rw [List.length_eq_zero_iff.mp h]; exact .nil
  | cons q r ih =>
    intro vs h hv
    cases vs with
    | nil => simp at h
    | cons v vs =>
      obtain ⟨k, x, e1, e2⟩ := hv 0 v rfl
      cases e1
      have := ih (vs := vs) (by simpa using h) fun j v hj => hv (j + 1) v (by simpa using hj)
      have hs : ∃ t, v = .str k t := by
        have e2 : Value.isStrOf k v = true := e2
        cases v with
        | str y t =>
          have : y = k := by simpa [Value.isStrOf] using e2
          exact ⟨t, by rw [this]⟩
        | _ => cases e2
      obtain ⟨t, rfl⟩ := hs
      exact .cons k t this
theorem sorted_dict (hh : A.handled = none) (F : Fr h₀ L s.heap m) (N : News h₀ L s.heap news) {ob : Obj} {kvs : List (Str × Value)} (hd : (d, ob) ∈ news) (hk : ob.IsDictOf (PySem.strKind prog w) kvs) (lo : (d == sysModules) = false) (hlen : kvs.length < 64)
    (h : ∀ D h' tk vs' ss' e, Fr h₀ L h' m → News h₀ L h' ((D, seqObj "list" (List.toArray vs') e) :: news) → (∀ q ∈ news, q.1 ≠ D) → StrsAre vs' ss' → ss'.Perm (kvs.map (·.1)) → sortedS ss' = true → Q (.ref D) { s with heap := h', toks := tk }) :
    wpAny (model prog w) A (call (.builtin "sorted") [.ref d]) Q E s := by
  have hD : s.heap.DictOf (PySem.strKind prog w) d kvs := Heap.dictOf_iff.mpr ⟨ob, (N _ hd).1, hk⟩
  obtain ⟨ep, hat⟩ := hD.dictAt
  refine kdu_sorted (kdl_dict (knd := PySem.strKind prog w) (kvs := kvs) (ep := ep) lo) hh F N hat (by rw [sizeLine_eq]; omega) fun D h' tk vs F' N' l1 hl hv => ?_
  have hS := strs_keys hl hv
  have nz := N' (D, listOf vs.toArray 0) (.head _)
  have hoD : h'.get? D = some (seqObj "list" vs.toArray 0) := nz.1
  refine wpAny_call_entry slot_list_sort ⟨_, hoD, rfl⟩ entry_list_sort (list_sort_treeK (s := { s with heap := h', toks := tk }) PyProof.Rows.strKind_oneLt hoD hS.keysOf (fun v₁ v₂ rest e => keyKind_strs (by rw [← e]; exact hS)) (by omega) fun st' a1 a2 => ⟨_, rfl, ?_⟩) (args_list_sort _)
  obtain ⟨ss', z1, z2, z3⟩ := sorted_out_str hS a1 a2
  obtain ⟨e, he⟩ := sortedHeap_at (out := (arrOf st').map (·.2)) hoD
  have hne : ∀ q ∈ news, q.1 ≠ D := fun q hq => Nat.ne_of_lt (l1 q hq)
  refine h D _ tk ((arrOf st').map (·.2)).toList ss' e ?_ ?_ hne z1 z2 z3
  · unfold sortedHeap
    have F1 := F'.change (Heap.SameBut.update h' D (Obj.mapSeq fun _ => #[])) nz.2.1 nz.2.2
    exact ((F1.push _).push _).change (Heap.SameBut.update _ D (Obj.mapSeq fun _ => (arrOf st').map (·.2))) nz.2.1 nz.2.2
  · intro q hq
    rcases List.mem_cons.mp hq with rfl | hq
    · exact ⟨by rw [Array.toArray_toList]; exact he, nz.2⟩
    · have := N' q (.tail _ hq)
      exact ⟨(sortedHeap_old (hne q hq) (Heap.lt_size this.1)).trans this.1, this.2⟩
end
end Mine
-- NF
namespace Mine
noncomputable def chkE (K : Frag) : List Expr :=
  let t := sE ((bodyOf K 1076).getD 17 default) 0
  let r := sE ((bodyOf K 1076).getD 18 default) 0
  let c := fun i => (eI t).1.getD i default
  let p := fun (e : Expr) i => (eI e).1.getD i default
  [p (c 0) 0, p (c 0) 1, p (c 1) 0, p (c 1) 1, .BoolOp .Or [c 2] (eI t).2.1, p (p r 0) 1, p (p r 1) 1]
noncomputable def chkP (b : List Stmt) : List Pos × Expr × Stmt :=
  let t := sE (b.getD 0 default) 0
  let r := sE (b.getD 1 default) 0
  let p := fun (e : Expr) i => (eI e).1.getD i default
  ([eP (p t 0) 0, eP (p t 1) 0, eP t 0, sP (b.getD 0 default), eP (p r 0) 1, eP (p r 0) 0, eP (p r 1) 1, eP (p r 1) 0, eP r 0, sP (b.getD 1 default)], p t 2, sB (b.getD 0 default) 0)
noncomputable def chkOf (q : Nat → Pos) (e1 e2 e3 e4 c3 e7 e8 : Expr) (rt : Stmt) : List Stmt :=
  [.If (.BoolOp .Or [.Compare e1 [.NotEq] [e2] (q 0), .Compare e3 [.NotEq] [e4] (q 1), c3] (q 2)) [rt] [] (q 3), .Return (some (.Compare (.Call (.Name "sorted" (q 4)) [e7] [] (q 5)) [.Eq] [.Call (.Name "sorted" (q 6)) [e8] [] (q 7)] (q 8))) (q 9)]
noncomputable def chkQ (K : Frag) (i : Nat) : Pos := (chkP ((bodyOf K 1076).drop 17)).1.getD i default
theorem check_ok (w : World) : (bodyOf (HK w) 1076).drop 17 = chkOf (chkQ (HK w)) ((chkE (HK w)).getD 0 default) ((chkE (HK w)).getD 1 default) ((chkE (HK w)).getD 2 default) ((chkE (HK w)).getD 3 default) (chkP ((bodyOf (HK w) 1076).drop 17)).2.1 ((chkE (HK w)).getD 5 default) ((chkE (HK w)).getD 6 default) (chkP ((bodyOf (HK w) 1076).drop 17)).2.2 := by kernel_rfl
theorem check_t (w : World) : (chkE (HK w)).getD 4 default = .BoolOp .Or [(chkP ((bodyOf (HK w) 1076).drop 17)).2.1] (chkQ (HK w) 2) := by kernel_rfl
theorem check_u (w : World) : unstarred [(chkE (HK w)).getD 5 default] = true ∧ unstarred [(chkE (HK w)).getD 6 default] = true ∧ behindInMarks .NotEq ((chkE (HK w)).getD 1 default) = false ∧ behindInMarks .NotEq ((chkE (HK w)).getD 3 default) = false := ⟨by kernel_rfl, by kernel_rfl, by kernel_rfl, by kernel_rfl⟩
theorem c_e1 (w : World) (x : Tn) : (ev (HK w) tab gtab fntab 20).e ((chkE (HK w)).getD 0 default) ⟨lawSc (HK w), locL, ofL (stI x)⟩ = some (rf 12, ⟨lawSc (HK w), locL, ofL (stI x)⟩) := by kernel_rfl
theorem c_e2 (w : World) (x : Tn) : (ev (HK w) tab gtab fntab 20).e ((chkE (HK w)).getD 1 default) ⟨lawSc (HK w), locL, ofL (stI x)⟩ = some (rf 35, ⟨lawSc (HK w), locL, ofL (stI x)⟩) := by kernel_rfl
theorem c_e3 (w : World) (x : Tn) : (ev (HK w) tab gtab fntab 20).e ((chkE (HK w)).getD 2 default) ⟨lawSc (HK w), locL, ofL (stI x)⟩ = some (rf 34, ⟨lawSc (HK w), locL, ofL (stI x)⟩) := by kernel_rfl
theorem c_e4 (w : World) (x : Tn) : (ev (HK w) tab gtab fntab 20).e ((chkE (HK w)).getD 3 default) ⟨lawSc (HK w), locL, ofL (stI x)⟩ = some (rf 36, ⟨lawSc (HK w), locL, ofL (stI x)⟩) := by kernel_rfl
theorem c_t (w : World) (x : Tn) : (ev (HK w) tab gtab fntab 20).t ((chkE (HK w)).getD 4 default) ⟨lawSc (HK w), locL, ofL (stI { x with kind := .str "BEGIN" })⟩ = some (false, ⟨lawSc (HK w), locL, ofL (stI { x with kind := .str "BEGIN" })⟩) := by kernel_rfl
theorem c_e7 (w : World) (x : Tn) : (ev (HK w) tab gtab fntab 20).e ((chkE (HK w)).getD 5 default) ⟨lawSc (HK w), locL, ofL (stI x)⟩ = some (rf 28, ⟨lawSc (HK w), locL, ofL (stI x)⟩) := by kernel_rfl
theorem c_e8 (w : World) (x : Tn) : (ev (HK w) tab gtab fntab 20).e ((chkE (HK w)).getD 6 default) ⟨lawSc (HK w), locL, ofL (stI x)⟩ = some (rf 37, ⟨lawSc (HK w), locL, ofL (stI x)⟩) := by kernel_rfl
theorem srt_ns (w : World) : nsIn (HK w) mainGlobals "sorted" = some none := by kernel_rfl
theorem srt_bt : bootBuiltins ("sorted" : Str) = some (.builtin "sorted") := by kernel_rfl
theorem srt_sc (w : World) : (lawSc (HK w)).names.lookup ("sorted" : Str) = some .globalImplicit := by kernel_rfl
end Mine
-- NG
namespace Mine
section
variable {prog : Program} {w : World} {pv : Program} {loose : List Str} {mean : ExcName → Option Value} {mg mb : Str → Option Value}
structure Eqs (x : Tn) (M : List (Int × Str)) (R : List (Str × Int)) (H : List Str) : Prop where
  errs : x.errs = M.map rowV
  marks : x.marks = M.map rowV
  irows : x.irows = R.map impV
  rows : x.rows = R.map impV
  sn : x.sn = H
  held : x.held = H
  lH : H.length ≤ 20
  oM : ∀ q ∈ M, PyData.strOk q.2 = true
  oR : ∀ q ∈ R, PyData.strOk q.1 = true
  oH : ∀ q ∈ H, PyData.strOk q = true
theorem sget_ofL (τ : List O) (l : Nat) : sget (ofL τ) l = τ[l]? := by rw [← toL_get, toL_ofL]
theorem final_check {n : Nat} {A₀ A : Around} {base h₀ : Heap} {outer : List Env} {cn : Str} {L a : Addr} {ccd : Value} (C : Cx (mkG prog w pv loose mean mg mb) (n + 20) A₀ A base h₀ outer cn (lawSc (HK w)) L a ccd) {x : Tn} {M : List (Int × Str)} {R : List (Str × Int)} {H : List Str} {p : P} {s : Shared} {Q : Flow → Shared → Prop} {E : Value → Shared → Prop}
    (hE : Eqs x M R H) (Rp : Rep prog w h₀ L p ⟨lawSc (HK w), locL, ofL (stI { x with kind := .str "BEGIN" })⟩ s.heap)
    (K : ∀ h' tk m news, Fr h₀ L h' m → News h₀ L h' news → Q (.ret (.bool true)) { s with heap := h', toks := tk }) :
    wpAny (model prog w) A (execs ((bodyOf (HK w) 1076).drop 17) (envOf cn (lawSc (HK w)) L a ccd)) Q E s := by
  let g := mkG prog w pv loose mean mg mb
  obtain ⟨q1, q2, q3, q4, q5, q6, lH, oM, oR, oH⟩ := hE
  have hbody := check_ok w
  have ht := check_t w
  obtain ⟨u7, u8, m2, m4⟩ := check_u w
  have k1 := c_e1 w { x with kind := .str "BEGIN" }
  have k2 := c_e2 w { x with kind := .str "BEGIN" }
  have k3 := c_e3 w { x with kind := .str "BEGIN" }
  have k4 := c_e4 w { x with kind := .str "BEGIN" }
  have k5 := c_t w x
  have k7 := c_e7 w { x with kind := .str "BEGIN" }
  have k8 := c_e8 w { x with kind := .str "BEGIN" }
  rw [ht] at k5
  generalize (chkE (HK w)).getD 0 default = e1 at hbody k1
  generalize (chkE (HK w)).getD 1 default = e2 at hbody k2 m2
  generalize (chkE (HK w)).getD 2 default = e3 at hbody k3
  generalize (chkE (HK w)).getD 3 default = e4 at hbody k4 m4
  generalize (chkP ((bodyOf (HK w) 1076).drop 17)).2.1 = c3 at hbody k5
  generalize (chkE (HK w)).getD 5 default = e7 at hbody k7 u7
  generalize (chkE (HK w)).getD 6 default = e8 at hbody k8 u8
  generalize (chkP ((bodyOf (HK w) 1076).drop 17)).2.2 = rt at hbody
  generalize chkQ (HK w) = qc at hbody k5
  unfold chkOf at hbody
  have S1 := (good g 20).e e1 _ _ _ k1
  have S2 := (good g 20).e e2 _ _ _ k2
  have S3 := (good g 20).e e3 _ _ _ k3
  have S4 := (good g 20).e e4 _ _ _ k4
  have S5 := (good g 20).t (.BoolOp .Or [c3] (qc 2)) _ _ _ k5
  have S7 := (good g 20).e e7 _ _ _ k7
  have S8 := (good g 20).e e8 _ _ _ k8
  have CC := C.less (m := 20) (by omega)
  have hun : A.units + 64 < cLine := by have := C.un; show A.units + 64 < 9900; omega
  rw [hbody]
  refine wpAny_execs_cons (wpAny_If (isTrue_or (wpAny_isTrue_Compare1 (S1.run rfl CC Rp fun p1 y1 h1 tk1 le1 R1 hy1 => ?_) m2)))
  refine S2.run rfl CC R1 fun p2 y2 h2 tk2 le2 R2 hy2 => ?_
  obtain ⟨a1, ha1, rfl⟩ := hy1.mono le2
  obtain ⟨a2, ha2, rfl⟩ := hy2
  obtain ⟨m2', obs2, R2x⟩ := id R2
  have g12 : sget (ofL (stI { x with kind := .str "BEGIN" })) 12 = some (.slst (M.map rowV) 20) := by rw [sget_ofL, ← q1]; rfl
  have g35 : sget (ofL (stI { x with kind := .str "BEGIN" })) 35 = some (.slst (M.map rowV) 20) := by rw [sget_ofL, ← q2]; rfl
  have g34 : sget (ofL (stI { x with kind := .str "BEGIN" })) 34 = some (.slst (R.map impV) 20) := by rw [sget_ofL, ← q3]; rfl
  have g36 : sget (ofL (stI { x with kind := .str "BEGIN" })) 36 = some (.slst (R.map impV) 20) := by rw [sget_ofL, ← q4]; rfl
  have g28 : sget (ofL (stI { x with kind := .str "BEGIN" })) 28 = some (.xdict H 20 x.knS) := by rw [sget_ofL, ← q5]; rfl
  have g37 : sget (ofL (stI { x with kind := .str "BEGIN" })) 37 = some (.slist H 20 []) := by rw [sget_ofL, ← q6]; rfl
  have shM := shaped_of (lay_dM M oM) (dep_dM M)
  have shR := shaped_of (lay_dI R oR) (dep_dI R)
  have frs : ∀ {p : P} {h : Heap} {m : Str → Option Value} {obs : List Obj} {σ : St}, RepX prog w h₀ L p σ h m obs → ∀ q ∈ p.fr, h.get? q.1 = some q.2 := fun R q hq => (R.N q (List.mem_append_right _ hq)).1
  obtain ⟨b1, ob1, z1, z2, ⟨vs1, j1, rfl, z3, _⟩, z4⟩ := R2x.get g12
  obtain ⟨b2, ob2, y1, y2, ⟨vs2, j2, rfl, y3, _⟩, y4⟩ := R2x.get g35
  rw [ha1] at z1; cases z1
  rw [ha2] at y1; cases y1
  obtain ⟨as1, ra1⟩ := reads_dM (frs R2x) z3
  obtain ⟨as2, ra2⟩ := reads_dM (frs R2x) y3
  refine ne_dataH (s := { s with heap := h2, toks := tk2 }) (da := .list (M.map dM)) (db := .list (M.map dM)) (Reads.list (R2x.heap z4) rfl rfl (by simpa using ra1)) (Reads.list (R2x.heap y4) rfl rfl (by simpa using ra2)) shM shM hun ?_
  rw [show PyData.eqv (.list (M.map dM)) (.list (M.map dM)) = true from by rw [PyData.eqv]; exact eqv_dM M]
  refine wpAny_truthy_bool ?_
  rw [show (!true) = false from rfl, if_neg Bool.false_ne_true]
  refine isTrue_or (wpAny_isTrue_Compare1 (S3.run (s := { s with heap := h2, toks := tk2 }) rfl CC R2 fun p3 w3 h3 tk3 le3 R3 hy3 => ?_) m4)
  refine S4.run rfl CC R3 fun p4 w4 h4 tk4 le4 R4 hy4 => ?_
  obtain ⟨a3, ha3, rfl⟩ := hy3.mono le4
  obtain ⟨a4, ha4, rfl⟩ := hy4
  obtain ⟨m4', obs4, R4x⟩ := id R4
  obtain ⟨b3, ob3, x1, x2, ⟨vs3, j3, rfl, x3, _⟩, x4⟩ := R4x.get g34
  obtain ⟨b4, ob4, t1, t2, ⟨vs4, j4, rfl, t3, _⟩, t4⟩ := R4x.get g36
  rw [ha3] at x1; cases x1
  rw [ha4] at t1; cases t1
  obtain ⟨as3, ra3⟩ := reads_dI (frs R4x) x3
  obtain ⟨as4, ra4⟩ := reads_dI (frs R4x) t3
  refine ne_dataH (s := { s with heap := h4, toks := tk4 }) (da := .list (R.map dI)) (db := .list (R.map dI)) (Reads.list (R4x.heap x4) rfl rfl (by simpa using ra3)) (Reads.list (R4x.heap t4) rfl rfl (by simpa using ra4)) shR shR hun ?_
  rw [show PyData.eqv (.list (R.map dI)) (.list (R.map dI)) = true from by rw [PyData.eqv]; exact eqv_dI R]
  refine wpAny_truthy_bool ?_
  rw [show (!true) = false from rfl, if_neg Bool.false_ne_true]
  refine S5.run (s := { s with heap := h4, toks := tk4 }) rfl CC R4 fun p5 h5 tk5 le5 R5 => ?_
  rw [if_neg Bool.false_ne_true]
  refine wpAny_execs_nil ?_
  -- sorted(..) == sorted(..)
  have hsd : ∀ {h : Heap} {m : Str → Option Value} {pos : Pos} {Q E : Value → Shared → Prop} {s : Shared}, Fr h₀ L s.heap m → Q (.builtin "sorted") s → wpAny (model prog w) A (eval (.Name "sorted" pos) (envOf cn (lawSc (HK w)) L a ccd)) Q E s := fun {h m pos Q E s} F k =>
    name_B F C.X (topRead_of C.T) (srt_ns w) srt_bt (by decide +kernel) k C.hk (kindOf_sc (srt_sc w)) (by decide +kernel)
  refine wpAny_execs_cons (wpAny_Return_some (wpAny_Compare1 ?_ rfl))
  obtain ⟨m5, obs5, R5x⟩ := id R5
  refine Call_ (hsd (h := h5) (s := { s with heap := h5, toks := tk5 }) R5x.F ?_)
  rw [back_plain u7]
  refine w_callWithB (spliced_cons (S7.run (s := { s with heap := h5, toks := tk5 }) rfl CC R5 fun p7 w7 h7 tk7 le7 R7 hy7 => spliced_nil ?_))
  obtain ⟨m7, obs7, R7x⟩ := id R7
  obtain ⟨a7, ha7, rfl⟩ := hy7
  obtain ⟨b7, ob7, s1, s2, ⟨kvs, hD, hks, _, _⟩, s4⟩ := R7x.get g28
  rw [ha7] at s1; cases s1
  have hbig := R7x.bigAt ha7 g28 rfl
  have hlk : kvs.length = H.length := by rw [← hks, List.length_map]
  refine sorted_dict (s := { s with heap := h7, toks := tk7 }) C.hd R7x.F R7x.N (List.mem_append_left _ s4) hD hbig (by omega) fun D1 h8 tk8 vs8 ss8 c8 F8 N8 hne8 hS8 hP8 hO8 => ?_
  obtain ⟨le8, R8x⟩ := R7x.freeze F8 N8 hne8
  have R8 : Rep prog w h₀ L _ ⟨lawSc (HK w), locL, ofL (stI { x with kind := .str "BEGIN" })⟩ h8 := ⟨m7, obs7, R8x⟩
  refine Call_ (hsd (h := h8) (s := { s with heap := h8, toks := tk8 }) R8x.F ?_)
  rw [back_plain u8]
  refine w_callWithB (spliced_cons (S8.run (s := { s with heap := h8, toks := tk8 }) rfl CC R8 fun p9 w9 h9 tk9 le9 R9 hy9 => spliced_nil ?_))
  obtain ⟨m9, obs9, R9x⟩ := id R9
  obtain ⟨a9, ha9, rfl⟩ := hy9
  obtain ⟨b9, ob9, v1, v2, ⟨vs9, j9, rfl, v3, _, _⟩, v4⟩ := R9x.get g37
  rw [ha9] at v1; cases v1
  have hS9 := strs_map v3
  refine sorted_N_str (s := { s with heap := h9, toks := tk9 }) R9x.F R9x.N ⟨_, R9x.heap v4, rfl, j9, rfl⟩ hS9 (by have := hS9.length; omega) fun h10 vs10 ss10 c10 F10 N10 hS10 hP10 hO10 => ?_
  have hm8 := le9.fr _ (show (D1, seqObj "list" (List.toArray vs8) c8) ∈ ((D1, seqObj "list" (List.toArray vs8) c8) :: p7.fr) from .head _)
  have heq : ss8 = ss10 := sortedS_uniq (hP8.trans (by rw [hks]; exact hP10.symm)) hO8 hO10
  subst heq
  have hok : ∀ q ∈ ss8, PyData.strOk q = true := fun q hq => oH q (hP10.mem_iff.mp hq)
  obtain ⟨as8, ra8⟩ := reads_S (h := h10) hS8
  obtain ⟨as10, ra10⟩ := reads_S (h := h10) hS10
  have shS := shaped_of (lay_S ss8 hok) (dep_S ss8)
  refine eq_dataH (s := { s with heap := h10, toks := tk9 }) (da := .list (ss8.map .str)) (db := .list (ss8.map .str)) (Reads.list (N10 _ (.tail _ (List.mem_append_right _ hm8))).1 rfl rfl (by simpa using ra8)) (Reads.list (N10 _ (.head _)).1 rfl rfl (by simpa using ra10)) shS shS hun ?_
  rw [show PyData.eqv (.list (ss8.map .str)) (.list (ss8.map .str)) = true from by rw [PyData.eqv]; exact eqv_S ss8]
  exact K h10 tk9 m9 _ F10 N10
end
end Mine
-- NH
namespace Mine
inductive TrimM {α : Type} (keep : Sto → List (Str × V) → List Nat) (spec pick : List Nat) (r : Option (α × St)) (δ : Int) (τ : List O) (loc : List (Str × V)) (nms : List Str) (v : α) (picks : List (Option O)) (vals : List (Option V)) : Prop
  | mk (σ : St) (h1 : r = some (v, σ)) (h2 : pickAt σ.objs pick = picks) (h3 : subAll (keep σ.objs σ.loc) spec δ σ.objs (keep σ.objs σ.loc) 0 τ = true) (h4 : nodupB (keep σ.objs σ.loc) = true) (h5 : (keep σ.objs σ.loc).all (fun l => Nat.blt l (slen σ.objs)) = true) (h6 : subLoc (keep σ.objs σ.loc) δ σ.loc loc = true) (h7 : (nms.map fun x => lk x σ.loc) = vals)
theorem trimM_of {α : Type} {keep : Sto → List (Str × V) → List Nat} {spec pick : List Nat} {r : Option (α × St)} {δ : Int} {τ : List O} {loc : List (Str × V)} {nms : List Str} {v : α} {picks : List (Option O)} {vals : List (Option V)} (h : endM keep spec pick r δ τ loc nms = some (v, true, picks, vals)) :
    TrimM keep spec pick r δ τ loc nms v picks vals := by
  unfold endM at h
  split at h
  · rename_i v' σ
    simp only [Option.some.injEq, Prod.mk.injEq, Bool.and_eq_true] at h
    obtain ⟨rfl, ⟨⟨⟨h1, h2⟩, h3⟩, h4⟩, h5, h6⟩ := h
    exact ⟨σ, rfl, h5, h1, h2, h3, h4, h6⟩
  · cases h
theorem hl_cons {p q : P} {σ : St} {k : Str} {v : V} {loc : List (Str × V)} (hd : ∃ u, σ.loc.lookup k = some u ∧ ∀ y, RV p u y → RV q v y) (hl : ∀ (x : Str) (v : V), loc.lookup x = some v → ∃ u, σ.loc.lookup x = some u ∧ ∀ y, RV p u y → RV q v y) :
    ∀ (x : Str) (v' : V), ((k, v) :: loc).lookup x = some v' → ∃ u, σ.loc.lookup x = some u ∧ ∀ y, RV p u y → RV q v' y := by
  intro x v' e
  rw [List.lookup_cons] at e
  cases hk : (x == k) with
  | true =>
    rw [hk] at e
    cases e
    have : x = k := by simpa using hk
    subst this
    exact hd
  | false => rw [hk] at e; exact hl x v' e
theorem stM_same (a b c d e a' b' c' d' e' : O) : sameBut specM 0 (stM a b c d e) (stM a' b' c' d' e') := by
  refine ⟨.inr rfl, .inr rfl, .inr rfl, .inr rfl, .inr rfl, .inr rfl, .inr rfl, .inr rfl, .inr rfl, .inr rfl, .inr rfl, .inr rfl, .inr rfl, .inr rfl, .inl rfl, .inl rfl, .inl rfl, .inl rfl, .inl rfl, .inr rfl, .inr rfl, trivial⟩
theorem stR_same (s a b c s' a' b' c' : O) (k : S) : sameBut specR 0 (stR s k a b c) (stR s' k a' b' c') := by
  refine ⟨.inr rfl, .inr rfl, .inr rfl, .inr rfl, .inr rfl, .inr rfl, .inr rfl, .inr rfl, .inr rfl, .inr rfl, .inr rfl, .inr rfl, .inr rfl, .inr rfl, .inr rfl, .inr rfl, .inr rfl, .inr rfl, .inr rfl, .inr rfl, .inr rfl, .inr rfl, .inl rfl, .inr rfl, .inr rfl, .inr rfl, .inr rfl, .inr rfl, .inr rfl, .inr rfl, .inr rfl, .inr rfl, .inr rfl, .inr rfl, .inr rfl, .inl rfl, .inl rfl, .inl rfl, .inr rfl, trivial⟩
theorem stR_same' (s a b c a' b' c' : O) (k : S) : sameBut [35, 36, 37] 0 (stR s k a b c) (stR s k a' b' c') := by
  refine ⟨.inr rfl, .inr rfl, .inr rfl, .inr rfl, .inr rfl, .inr rfl, .inr rfl, .inr rfl, .inr rfl, .inr rfl, .inr rfl, .inr rfl, .inr rfl, .inr rfl, .inr rfl, .inr rfl, .inr rfl, .inr rfl, .inr rfl, .inr rfl, .inr rfl, .inr rfl, .inr rfl, .inr rfl, .inr rfl, .inr rfl, .inr rfl, .inr rfl, .inr rfl, .inr rfl, .inr rfl, .inr rfl, .inr rfl, .inr rfl, .inr rfl, .inl rfl, .inl rfl, .inl rfl, .inr rfl, trivial⟩
section
variable {prog : Program} {w : World} {p : P} {keep : List Nat} {d : Int} {os : Sto} {l : Nat}
theorem S_dice {fut : List (Int × Int)} {xs : List Int} {k : Nat} (h : normO (sget os l) = some (.dice fut xs k)) : Sp prog w p keep d os l (.dice fut xs k) := ⟨_, normO_id h trivial, fun e => (by cases e), fun _ ⟨a, b, c, e, f, g, h, i⟩ => ⟨a, b, c, e, f, g, h, i⟩⟩
theorem S_gone {o : O} (h : sget os l = some o) : Sp prog w p keep d os l .gone := ⟨_, h, fun e => (by cases e), fun _ _ => trivial⟩
theorem specM_all {Pr : Nat → O → Prop} {a b c d e : O} (h14 : Pr 14 a) (h15 : Pr 15 b) (h16 : Pr 16 c) (h17 : Pr 17 d) (h18 : Pr 18 e) : ∀ i ∈ specM, ∀ (l : Nat) (o' : O), (List.range 21)[i]? = some l → (stM a b c d e)[i]? = some o' → Pr l o' :=
  all_in ⟨at_one rfl rfl h14, at_one rfl rfl h15, at_one rfl rfl h16, at_one rfl rfl h17, at_one rfl rfl h18, trivial⟩
theorem pickM {a b c d e : O} (h : pickAt os specM = [normO (some a), normO (some b), normO (some c), normO (some d), normO (some e)]) : normO (sget os 14) = normO (some a) ∧ normO (sget os 15) = normO (some b) ∧ normO (sget os 16) = normO (some c) ∧ normO (sget os 17) = normO (some d) ∧ normO (sget os 18) = normO (some e) := by
  have h : [normO (sget os 14), normO (sget os 15), normO (sget os 16), normO (sget os 17), normO (sget os 18)] = _ := h
  simp only [List.cons.injEq, and_true] at h
  exact h
end
structure OkG (g : Gh) (c : Nat) : Prop where
  marks : g.marks.length ≤ c
  rows : g.rows.length ≤ c
  seen : g.seen.length ≤ c
  held : g.held.length ≤ c
theorem OkG.app {g : Gh} {c : Nat} (h : OkG g c) (β : Int) (e : Ef) : OkG (g.app β e) (c + 1) := by
  obtain ⟨h1, h2, h3, h4⟩ := h
  refine ⟨?_, ?_, ?_, ?_⟩
  · show List.length (_ ++ _) ≤ _; rw [List.length_append]; have := ol_le (atB β e.em); omega
  · show List.length (_ ++ _) ≤ _; rw [List.length_append]; have := ol_le e.ir; omega
  · show List.length (_ ++ _) ≤ _; rw [List.length_append]; have := ol_le e.nm; omega
  · show List.length (_ ++ _) ≤ _; rw [List.length_append]; have := ol_le e.sn; omega
structure OkS (g : Gh) : Prop where
  M : ∀ q ∈ g.marks, PyData.strOk q.2 = true
  R : ∀ q ∈ g.rows, PyData.strOk q.1 = true
  H : ∀ q ∈ g.held, PyData.strOk q = true
noncomputable def efS (e : Ef) : Bool := (match e.em with | none => true | some (_, c) => PyData.strOk c) && (match e.ir with | none => true | some (x, _) => PyData.strOk x) && (match e.sn with | none => true | some x => PyData.strOk x)
theorem efS_ok (o : Oc) (m : Md) (a : Al) : efS (effOf o m a) = true := by cases o <;> cases m <;> cases a <;> decide +kernel
theorem OkS.app {g : Gh} (h : OkS g) (β : Int) (o : Oc) (m : Md) (a : Al) : OkS (g.app β (effOf o m a)) := by
  have he := efS_ok o m a
  unfold efS at he
  simp only [Bool.and_eq_true] at he
  obtain ⟨⟨e1, e2⟩, e3⟩ := he
  refine ⟨fun q hq => ?_, fun q hq => ?_, fun q hq => ?_⟩
  · rcases List.mem_append.mp hq with hq | hq
    · exact h.M q hq
    · have := ol_mem hq
      revert e1 this
      cases (effOf o m a).em with
      | none => intro _ h; cases h
      | some x => intro e1 h; cases Option.some.inj h; exact e1
  · rcases List.mem_append.mp hq with hq | hq
    · exact h.R q hq
    · rw [ol_mem hq] at e2; exact e2
  · rcases List.mem_append.mp hq with hq | hq
    · exact h.H q hq
    · rw [ol_mem hq] at e3; exact e3
noncomputable def flat : Items → List Nat
  | [] => []
  | (m, a) :: r => 32 :: (itemT m a ++ 44 :: flat r)
noncomputable def preT (d : Items) : List Nat := [73, 77, 80, 79, 82, 84] ++ (flat d ++ [32])
noncomputable def tot : Items → Int
  | [] => 0
  | (m, a) :: r => dl m a + tot r
theorem flat_snoc : ∀ (d : Items) (m : Md) (a : Al), flat (d ++ [(m, a)]) = flat d ++ (32 :: (itemT m a ++ [44]))
  | [], m, a => rfl
  | (m', a') :: r, m, a => by
    show 32 :: (itemT m' a' ++ 44 :: flat (r ++ [(m, a)])) = 32 :: (itemT m' a' ++ 44 :: flat r) ++ _
    rw [flat_snoc r m a]
    simp
theorem flat_len : ∀ d : Items, ((flat d).length : Int) = tot d
  | [] => rfl
  | (m, a) :: r => by
    have h := itemT_len m a
    have hp := dl_pos m a
    have ih := flat_len r
    show ((32 :: (itemT m a ++ 44 :: flat r)).length : Int) = dl m a + tot r
    simp only [List.length_cons, List.length_append]
    omega
theorem tot_snoc : ∀ (d : Items) (m : Md) (a : Al), tot (d ++ [(m, a)]) = tot d + dl m a
  | [], m, a => by show dl m a + 0 = 0 + dl m a; omega
  | (m', a') :: r, m, a => by
    show dl m' a' + tot (r ++ [(m, a)]) = dl m' a' + tot r + dl m a
    rw [tot_snoc r m a]; omega
theorem tot_le : ∀ d : Items, 0 ≤ tot d ∧ tot d ≤ 20 * d.length
  | [] => by exact ⟨Int.le_refl _, by simp [tot]⟩
  | (m, a) :: r => by
    have := tot_le r
    have hp := dl_pos m a
    show 0 ≤ dl m a + tot r ∧ dl m a + tot r ≤ 20 * ((r.length + 1 : Nat) : Int)
    omega
theorem run_snoc : ∀ (l : Items) (g : Gh) (β : Int) (m : Md) (a : Al), run g β (l ++ [(m, a)]) = (run g β l).app (β + tot l) (effOf (ocOf (run g β l) m a) m a)
  | [], g, β, m, a => by show g.app β _ = g.app (β + 0) _; rw [Int.add_zero]; rfl
  | (m', a') :: r, g, β, m, a => by
    show run (g.app β (effOf (ocOf g m' a') m' a')) (β + dl m' a') (r ++ [(m, a)]) = _
    rw [run_snoc r]
    show _ = (run (g.app β (effOf (ocOf g m' a') m' a')) (β + dl m' a') r).app (β + (dl m' a' + tot r)) _
    rw [show β + (dl m' a' + tot r) = β + dl m' a' + tot r by omega]
    rfl
theorem items_flat : ∀ (d : Items) (m : Md) (a : Al), flat d ++ (32 :: (itemT m a ++ 59 :: beginW)) = itemsT (d ++ [(m, a)])
  | [], m, a => rfl
  | (m', a') :: r, m, a => by
    have hne : (r ++ [(m, a)]).isEmpty = false := by cases r <;> rfl
    show 32 :: (itemT m' a' ++ 44 :: flat r) ++ _ = 32 :: (itemT m' a' ++ sepC (r ++ [(m, a)]).isEmpty :: itemsT (r ++ [(m, a)]))
    rw [hne, ← items_flat r m a]
    simp [sepC]
noncomputable def SaidOk (T : Str) (dn : Items) : Prop := (dn = [] ∧ T.cps.toList = impW) ∨ ∃ d m a, dn = d ++ [(m, a)] ∧ T.cps.toList = preT d ++ itemT m a
theorem SaidOk.comma {T : Str} {dn : Items} (h : SaidOk T dn) (hne : dn ≠ []) : (T ++ ", ").cps.toList = preT dn := by
  rcases h with ⟨e, _⟩ | ⟨d, m, a, rfl, e⟩
  · exact absurd e hne
  · rw [cps_append, e]
    show preT d ++ itemT m a ++ [44, 32] = preT (d ++ [(m, a)])
    unfold preT
    rw [flat_snoc]
    simp
theorem preT_len (d : Items) : ((preT d).length : Int) = 7 + tot d := by
  unfold preT
  have := flat_len d
  simp only [List.length_append, List.length_cons, List.length_nil]
  omega
theorem str_len (m : Md) : (m.str).length = m.cs.length ∧ m.str.cps.toList = m.cs := by cases m <;> exact ⟨by decide +kernel, by decide +kernel⟩
theorem saidN_ok {T : Str} {dn : Items} (h : T.cps.toList = preT dn) (m : Md) (a : Al) : SaidOk (saidN T m a) (dn ++ [(m, a)]) := by
  refine .inr ⟨dn, m, a, rfl, ?_⟩
  cases a
  · show (T ++ m.str).cps.toList = _
    rw [cps_append, h, (str_len m).2]; rfl
  · show (T ++ "x" ++ " := " ++ m.str : Str).cps.toList = _
    rw [cps_append, cps_append, cps_append, h, (str_len m).2]
    show preT dn ++ [120] ++ [32, 58, 61, 32] ++ m.cs = _
    simp [itemT]
  · show (T ++ "y" ++ " := " ++ m.str : Str).cps.toList = _
    rw [cps_append, cps_append, cps_append, h, (str_len m).2]
    show preT dn ++ [121] ++ [32, 58, 61, 32] ++ m.cs = _
    simp [itemT]
theorem plN_ok {T : Str} {dn : Items} (h : T.cps.toList = preT dn) (a : Al) : plN T a = 6 + tot dn + mAt a ∧ (T.length : Int) = 6 + tot dn + 1 := by
  have hl : (T.length : Int) = 7 + tot dn := by rw [len_toList, h]; exact preT_len dn
  refine ⟨?_, by omega⟩
  cases a
  · show (T.length : Int) = 6 + tot dn + 1; omega
  · show (((T ++ "x" ++ " := " : Str)).length : Int) = 6 + tot dn + 6
    rw [Str.length_append, Str.length_append]
    show ((T.length + 1 + 4 : Nat) : Int) = _
    omega
  · show (((T ++ "y" ++ " := " : Str)).length : Int) = 6 + tot dn + 6
    rw [Str.length_append, Str.length_append]
    show ((T.length + 1 + 4 : Nat) : Int) = _
    omega
theorem SaidOk.len {T : Str} {dn : Items} (h : SaidOk T dn) (hd : dn.length ≤ 5) : T.length ≤ 130 := by
  rw [len_toList]
  rcases h with ⟨_, e⟩ | ⟨d, m, a, rfl, e⟩
  · rw [e]; decide
  · rw [e, List.length_append]
    have h1 := preT_len d
    have h2 := tot_le d
    have h3 := itemT_len m a
    have h4 := dl_pos m a
    simp only [List.length_append, List.length_cons, List.length_nil] at hd
    omega
end Mine
-- NI
namespace Mine
theorem ga_ok : gtab.lookup ("abs" : Str) = some (.builtin "abs") := by kernel_rfl
theorem gl_ok : gtab.lookup ("len" : Str) = some (.builtin "len") := by kernel_rfl
theorem draw_range (xs : List Int) (k : Nat) {m : Int} (hm : 0 < m) : 0 ≤ draw xs k m ∧ draw xs k m < m := by
  cases xs with
  | nil => exact ⟨Int.le_refl _, hm⟩
  | cons x r => exact ⟨fmod_lo _ hm, fmod_hi _ hm⟩
theorem draw_md (xs : List Int) (k : Nat) : ∃ m : Md, draw xs k 5 = m.ix := by
  have h := draw_range xs k (m := 5) (by decide)
  have : draw xs k 5 = 0 ∨ draw xs k 5 = 1 ∨ draw xs k 5 = 2 ∨ draw xs k 5 = 3 ∨ draw xs k 5 = 4 := by omega
  rcases this with e | e | e | e | e
  · exact ⟨.O, e⟩
  · exact ⟨.I, e⟩
  · exact ⟨.S, e⟩
  · exact ⟨.M, e⟩
  · exact ⟨.Z, e⟩
theorem draw_dr (xs : List Int) (k : Nat) : ∃ a : Dr, draw xs k 4 = a.ix := by
  have h := draw_range xs k (m := 4) (by decide)
  have : draw xs k 4 = 0 ∨ draw xs k 4 = 1 ∨ draw xs k 4 = 2 ∨ draw xs k 4 = 3 := by omega
  rcases this with e | e | e | e
  · exact ⟨.a0, e⟩
  · exact ⟨.a1, e⟩
  · exact ⟨.a2, e⟩
  · exact ⟨.a3, e⟩
noncomputable def locP (c : Int) (T : Str) : List (Str × V) := ("said", .sc (.sstr T 200)) :: ("count", .sc (.int c)) :: locM
noncomputable def stLoop (xs : List Int) (k : Nat) (gh : Gh) : List O := stM (.dice [] xs k) (.slst (gh.marks.map rowV) 20) (.slst (gh.rows.map impV) 20) (.slist gh.seen 20 []) (.slist gh.held 20 [])
theorem knH_ok (gh : Gh) (m : Md) (a : Al) : KnL (knL (ocOf gh m a) m) gh.seen ∧ KnL (knH (ocOf gh m a) m a) gh.held := by
  unfold ocOf
  split
  · rename_i h1
    refine ⟨fun x hx => ?_, KnL.nil⟩
    rw [List.mem_singleton.mp hx]; exact h1
  · rename_i h1
    split
    · rename_i h2
      refine ⟨fun x hx => ?_, fun x hx => ?_⟩
      · rw [List.mem_singleton.mp hx]; exact h1
      · rw [List.mem_singleton.mp hx]; exact h2
    · rename_i h2
      refine ⟨fun x hx => ?_, fun x hx => ?_⟩
      · rw [List.mem_singleton.mp hx]; exact h1
      · rw [List.mem_singleton.mp hx]; exact h2
section
variable {prog : Program} {w : World} {pv : Program} {loose : List Str} {mean : ExcName → Option Value} {mg mb : Str → Option Value}
theorem goodL : Good (mkG prog w pv loose mean mg mb) 86 (evD (HK w) tab gtab fntab 1069 80) := goodD (g := mkG prog w pv loose mean mg mb) (dice_ok w) (by kernel_rfl) ga_ok gl_ok 80
theorem lk_vals {σ : St} {x : Str} {v : Option V} (h : lk x σ.loc = v) : σ.loc.lookup x = v := by rw [← lk_eq]; exact h
noncomputable def Plain (v : V) : Prop := ∀ (p : P) (keep : List Nat) (y : Value), RV p v y → RV (p.re keep 0) v y
theorem plain_int (i : Int) : Plain (.sc (.int i)) := fun _ _ _ h => h
theorem plain_str (i : Str) : Plain (.sc (.str i)) := fun _ _ _ h => h
theorem plain_sstr (T : Str) (n : Nat) : Plain (.sc (.sstr T n)) := fun _ _ _ h => h
theorem hl_same {p : P} {keep : List Nat} {σ : St} {k : Str} {v : V} (h : σ.loc.lookup k = some v) (hp : Plain v) : ∃ u, σ.loc.lookup k = some u ∧ ∀ y, RV p u y → RV (p.re keep 0) v y := ⟨v, h, fun y r => hp p keep y r⟩
theorem hl_sstr {p : P} {keep : List Nat} {σ : St} {k : Str} {T : Str} {n n' : Nat} (h : σ.loc.lookup k = some (.sc (.sstr T n))) (hl : T.length ≤ n') (h4 : n' ≤ 4096) : ∃ u, σ.loc.lookup k = some u ∧ ∀ y, RV p u y → RV (p.re keep 0) (.sc (.sstr T n')) y := ⟨_, h, fun _ r => ⟨r.1, hl, h4⟩⟩
theorem S_rest {p : P} {keep : List Nat} {os : Sto} {T : Str} {dn : Items} {gh : Gh} {c : Nat} (hT : T.cps.toList = preT dn) (ok : OkG gh c) (hc : c ≤ 19) (m : Md) (a : Al) {dc : O}
    (h : pickAt os specM = (match pickN T dc (gh.marks.map rowV) (gh.rows.map impV) gh.seen gh.held (ocOf gh m a) m a with | _ :: r => normO (some dc) :: r | [] => [])) :
    normO (sget os 14) = normO (some dc) ∧ Sp prog w p keep 0 os 15 (.slst ((gh.app (6 + tot dn) (effOf (ocOf gh m a) m a)).marks.map rowV) 20) ∧ Sp prog w p keep 0 os 16 (.slst ((gh.app (6 + tot dn) (effOf (ocOf gh m a) m a)).rows.map impV) 20) ∧
      Sp prog w p keep 0 os 17 (.slist (gh.app (6 + tot dn) (effOf (ocOf gh m a) m a)).seen 20 []) ∧ Sp prog w p keep 0 os 18 (.slist (gh.app (6 + tot dn) (effOf (ocOf gh m a) m a)).held 20 []) := by
  obtain ⟨h1, h2, h3, h4⟩ := ok
  have h : [normO (sget os 14), normO (sget os 15), normO (sget os 16), normO (sget os 17), normO (sget os 18)] = _ := h
  unfold pickN at h
  simp only [List.cons.injEq, and_true] at h
  obtain ⟨p14, p15, p16, p17, p18⟩ := h
  obtain ⟨l1, l2⟩ := plN_ok hT a
  refine ⟨p14, ?_, ?_, S_addL p17 (by omega), S_addL p18 (by omega)⟩
  · show Sp _ _ _ _ _ _ _ (.slst ((gh.marks ++ ol (atB (6 + tot dn) (effOf (ocOf gh m a) m a).em)).map rowV) 20)
    have hp : ∀ q c, (effOf (ocOf gh m a) m a).em = some (q, c) → (match ocOf gh m a with | .taken => (T.length : Int) | _ => plN T a) = 6 + tot dn + q := by
      intro q c e
      revert e
      cases ocOf gh m a with
      | twice => intro e; cases Option.some.inj (show some (mAt a, _) = some (q, c) from e); exact l1
      | taken => intro e; cases Option.some.inj (show some ((1 : Int), _) = some (q, c) from e); exact l2
      | fresh =>
        intro e
        cases m <;> first
          | (cases (show (none : Option (Int × Str)) = some (q, c) from e); done)
          | (cases Option.some.inj (show some (mAt a, _) = some (q, c) from e); exact l1)
    revert p15 hp
    cases (effOf (ocOf gh m a) m a).em with
    | none => intro p15 _; rw [show gh.marks ++ ol (atB (6 + tot dn) none) = gh.marks from List.append_nil _]; exact S_rows p15 (by omega)
    | some x =>
      obtain ⟨q, cd⟩ := x
      intro p15 hp
      have hp := hp q cd rfl
      refine S_rows (n := 21) ?_ (by show (gh.marks ++ [_]).length ≤ 20; rw [List.length_append]; simp; omega)
      rw [p15, List.map_append]
      exact congrArg (fun z => some (O.slst (gh.marks.map rowV ++ [V.tup [S.sint z, S.str cd]]) 21)) hp
  · show Sp _ _ _ _ _ _ _ (.slst ((gh.rows ++ ol (effOf (ocOf gh m a) m a).ir).map impV) 20)
    revert p16
    cases (effOf (ocOf gh m a) m a).ir with
    | none => intro p16; rw [show gh.rows ++ ol (none : Option (Str × Int)) = gh.rows from List.append_nil _]; exact S_imps p16 (by omega)
    | some x =>
      intro p16
      refine S_imps (n := 21) ?_ (by show (gh.rows ++ [_]).length ≤ 20; rw [List.length_append]; simp; omega)
      rw [List.map_append]; exact p16
end
end Mine
-- NJ
namespace Mine
section
variable {prog : Program} {w : World} {pv : Program} {loose : List Str} {mean : ExcName → Option Value} {mg mb : Str → Option Value}
noncomputable def frL (p q : P) : Prop := p.β = q.β ∧ ∀ x ∈ p.fr, x ∈ q.fr
theorem frL.le {p q : P} (h : p.le q) : frL p q := ⟨h.β, h.fr⟩
theorem frL.re {p : P} {ks : List Nat} : frL p (p.re ks 0) := ⟨by show p.β = p.β + 0; omega, fun _ h => h⟩
theorem frL.trans {p q r : P} (h : frL p q) (g : frL q r) : frL p r := ⟨h.1.trans g.1, fun x hx => g.2 x (h.2 x hx)⟩
theorem law_turn {n : Nat} {A₀ A : Around} {base h₀ : Heap} {outer : List Env} {cn : Str} {L a : Addr} {ccd : Value} (C : Cx (mkG prog w pv loose mean mg mb) (n + 86) A₀ A base h₀ outer cn (lawSc (HK w)) L a ccd) {xs : List Int} {k c : Nat} {gh : Gh} {dn : Items} {T : Str} {p : P} {s : Shared} {Q : Flow → Shared → Prop} {E : Value → Shared → Prop}
    (Rp : Rep prog w h₀ L p ⟨lawSc (HK w), ("said", .sc (.sstr T 200)) :: ("count", .sc (.int c)) :: (locM ++ [(("go_of" : Str), .sc (.int dn.length))]), ofL (stLoop xs k gh)⟩ s.heap) (hk : k ≤ 20) (hdn : dn.length ≤ 4) (hT : SaidOk T dn) (ok : OkG gh dn.length)
    (K : ∀ p' fl h' tk m al T', (fl = .next ∨ fl = .cont) → frL p p' → Rep prog w h₀ L p' ⟨lawSc (HK w), locP c T', ofL (stLoop xs (k + 2) (gh.app (6 + tot dn) (effOf (ocOf gh m al) m al)))⟩ h' → SaidOk T' (dn ++ [(m, al)]) → Q fl { s with heap := h', toks := tk }) :
    wpAny (model prog w) A (execs (loopOf (HK w)) (envOf cn (lawSc (HK w)) L a ccd)) Q E s := by
  obtain ⟨m, hm⟩ := draw_md xs k
  obtain ⟨dr, hdr⟩ := draw_dr xs (k + 1)
  have R0 := Rp.weaken (i := 14) (o := .dice [] xs k) (o' := .dice [(5, m.ix), (4, dr.ix)] xs k) rfl (fun e => by cases e) (fun ob ⟨row, n, t, j, ys, z1, z2, z3, z4, z5, _⟩ => ⟨row, n, t, j, ys, z1, z2, z3, z4, by simp; omega, fun i q hq => by
    match i, hq with
    | 0, hq => cases hq; exact hm
    | 1, hq => cases hq; exact hdr
    | i + 2, hq => cases hq⟩)
  -- the draws
  obtain ⟨σ1, hr1, hp1, hs1, hn1, hb1, hl1, hv1⟩ := trimM_of (l_draw w xs k (.slst (gh.marks.map rowV) 20) (.slst (gh.rows.map impV) 20) (.slist gh.seen 20 []) (.slist gh.held 20 []) c dn.length T m dr)
  have S1 := sound_pre (goodL (prog := prog) (w := w) (pv := pv) (loose := loose) (mean := mean) (mg := mg) (mb := mb)) 2 _ _ _ (unitO_of hr1)
  refine S1.2 A₀ A base h₀ outer cn L a ccd (C.less (by omega)) p s _ _ R0 fun p1 h1 tk1 le1 R1 => ?_
  obtain ⟨a14, a15, a16, a17, a18⟩ := pickM (a := .dice [] xs (k + 2)) hp1
  simp only [List.map, List.cons.injEq, and_true] at hv1
  obtain ⟨v1, v2, v3⟩ := hv1
  obtain ⟨o1, o2, o3, o4⟩ := ok
  have R2 := R1.trimS (sc := lawSc (HK w)) (τ := stM (.dice [] xs (k + 2)) (.slst (gh.marks.map rowV) 20) (.slst (gh.rows.map impV) 20) (.slist gh.seen 20 []) (.slist gh.held 20 [])) (subAll_swap hs1 (stM_same ..)) hn1 hb1
    (hl_cons (k := "said") (v := .sc (.sstr T 200)) (hl_same (lk_vals v2) (plain_sstr _ _)) (hl_cons (k := "count") (v := .sc (.int c)) (hl_same (lk_vals v1) (plain_int _)) (hl_cons (k := "go_of") (v := .sc (.int dn.length)) (hl_same (lk_vals v3) (plain_int _)) (loc_sub (R1.keeps1 hb1) hl1))))
    (specM_all (S_dice a14) (S_rows a15 (by omega)) (S_imps a16 (by omega)) (S_sl a17 (by omega) KnL.nil) (S_sl a18 (by omega) KnL.nil))
  -- the comma
  have comma : ∃ (T1 : Str) (σ2 : St), T1.cps.toList = preT dn ∧ stepPre (evD (HK w) tab gtab fntab 1069 80) 1 ((loopOf (HK w)).drop 2) ⟨lawSc (HK w), ("said", .sc (.sstr T 200)) :: ("count", .sc (.int c)) :: ("go_of", .sc (.int dn.length)) :: (locM ++ [(("module" : Str), st m.str), ("alias", st (dr.al.str m))]), ofL (stM (.dice [] xs (k + 2)) (.slst (gh.marks.map rowV) 20) (.slst (gh.rows.map impV) 20) (.slist gh.seen 20 []) (.slist gh.held 20 []))⟩ = some σ2 ∧
      pickAt σ2.objs specM = [normO (some (.dice [] xs (k + 2))), normO (some (.slst (gh.marks.map rowV) 20)), normO (some (.slst (gh.rows.map impV) 20)), normO (some (.slist gh.seen 20 [])), normO (some (.slist gh.held 20 []))] ∧ subAll (keep19 σ2.objs σ2.loc) specM 0 σ2.objs (keep19 σ2.objs σ2.loc) 0 (stM .gone .gone .gone .gone .gone) = true ∧ nodupB (keep19 σ2.objs σ2.loc) = true ∧ (keep19 σ2.objs σ2.loc).all (fun l => Nat.blt l (slen σ2.objs)) = true ∧ subLoc (keep19 σ2.objs σ2.loc) 0 σ2.loc locM = true ∧
      lk "count" σ2.loc = some (.sc (.int c)) ∧ (∃ nb, lk "said" σ2.loc = some (.sc (.sstr T1 nb))) ∧ lk "module" σ2.loc = some (st m.str) ∧ lk "alias" σ2.loc = some (st (dr.al.str m)) := by
    by_cases hz : dn = []
    · subst hz
      obtain ⟨σ2, hr2, hp2, hs2, hn2, hb2, hl2, hv2⟩ := trimM_of (l_comma0 w (.dice [] xs (k + 2)) (.slst (gh.marks.map rowV) 20) (.slst (gh.rows.map impV) 20) (.slist gh.seen 20 []) (.slist gh.held 20 []) c T m.str (dr.al.str m))
      simp only [List.map, List.cons.injEq, and_true] at hv2
      obtain ⟨u1, u2, u3, u4⟩ := hv2
      refine ⟨T, σ2, ?_, unitO_of hr2, hp2, hs2, hn2, hb2, hl2, u1, ⟨_, u2⟩, u3, u4⟩
      rcases hT with ⟨_, e⟩ | ⟨d, m', a', e, _⟩
      · exact e
      · exact absurd e (by simp)
    · have h1 : 1 ≤ dn.length := by cases dn with | nil => exact absurd rfl hz | cons => simp
      obtain ⟨σ2, hr2, hp2, hs2, hn2, hb2, hl2, hv2⟩ := trimM_of (l_comma w (.dice [] xs (k + 2)) (.slst (gh.marks.map rowV) 20) (.slst (gh.rows.map impV) 20) (.slist gh.seen 20 []) (.slist gh.held 20 []) c T m.str (dr.al.str m) dn.length h1 hdn)
      simp only [List.map, List.cons.injEq, and_true] at hv2
      obtain ⟨u1, u2, u3, u4⟩ := hv2
      exact ⟨T ++ ", ", σ2, hT.comma hz, unitO_of hr2, hp2, hs2, hn2, hb2, hl2, u1, ⟨_, u2⟩, u3, u4⟩
  obtain ⟨T1, σ2, hT1, hr2, hp2, hs2, hn2, hb2, hl2, u1, ⟨nb, u2⟩, u3, u4⟩ := comma
  have hl1' : T1.length ≤ 300 := by
    have := preT_len dn
    have h2 := tot_le dn
    rw [len_toList, hT1]; omega
  have S2 := sound_pre (goodL (prog := prog) (w := w) (pv := pv) (loose := loose) (mean := mean) (mg := mg) (mb := mb)) 1 _ _ _ hr2
  refine S2.2 A₀ A base h₀ outer cn L a ccd (C.less (by omega)) _ { s with heap := h1, toks := tk1 } _ _ R2 fun p2 h2 tk2 le2 R3 => ?_
  obtain ⟨b14, b15, b16, b17, b18⟩ := pickM hp2
  obtain ⟨kl1, kl2⟩ := knH_ok gh m dr.al
  have R4 := R3.trimS (sc := lawSc (HK w)) (τ := stM (.dice [] xs (k + 2)) (.slst (gh.marks.map rowV) 20) (.slst (gh.rows.map impV) 20) (.slist gh.seen 20 (knL (ocOf gh m dr.al) m)) (.slist gh.held 20 (knH (ocOf gh m dr.al) m dr.al))) (subAll_swap hs2 (stM_same ..)) hn2 hb2
    (hl_cons (k := "said") (v := .sc (.sstr T1 300)) (hl_sstr (lk_vals u2) hl1' (by decide)) (hl_cons (k := "count") (v := .sc (.int c)) (hl_same (lk_vals u1) (plain_int _)) (hl_cons (k := "module") (v := st m.str) (hl_same (lk_vals u3) (plain_str _)) (hl_cons (k := "alias") (v := st (dr.al.str m)) (hl_same (lk_vals u4) (plain_str _)) (loc_sub (R3.keeps1 hb2) hl2)))))
    (specM_all (S_dice b14) (S_rows b15 (by omega)) (S_imps b16 (by omega)) (S_sl b17 (by omega) kl1) (S_sl b18 (by omega) kl2))
  -- the rest
  obtain ⟨σ3, hr3, hp3, hs3, hn3, hb3, hl3, hv3⟩ := trimM_of (l_rest w (.dice [] xs (k + 2)) (gh.marks.map rowV) (gh.rows.map impV) gh.seen gh.held c T1 (ocOf gh m dr.al) m dr.al)
  obtain ⟨o, hr3, hdone⟩ := okL_of hr3
  simp only [List.map, List.cons.injEq, and_true] at hv3
  obtain ⟨t1, t2⟩ := hv3
  have S3 := (goodL (prog := prog) (w := w) (pv := pv) (loose := loose) (mean := mean) (mg := mg) (mb := mb)).ss _ _ _ _ hr3
  show wpAny _ _ (execs ((loopOf (HK w)).drop 3) _) _ _ _
  refine S3.run (s := { s with heap := h2, toks := tk2 }) rfl (C.less (by omega)) R4 fun p3 fl h3 tk3 le3 R5 hf => ?_
  obtain ⟨c14, c15, c16, c17, c18⟩ := S_rest (prog := prog) (w := w) (p := p3) (keep := keep19 σ3.objs σ3.loc) hT1 ⟨o1, o2, o3, o4⟩ (by omega) m dr.al hp3
  have hsaid := saidN_ok hT1 m dr.al
  have R6 := R5.trimS (sc := lawSc (HK w)) (τ := stLoop xs (k + 2) (gh.app (6 + tot dn) (effOf (ocOf gh m dr.al) m dr.al))) (subAll_swap hs3 (stM_same ..)) hn3 hb3
    (hl_cons (k := "said") (v := .sc (.sstr (saidN T1 m dr.al) 200)) (hl_sstr (lk_vals t2) (by have := hsaid.len (by simp; omega); omega) (by decide)) (hl_cons (k := "count") (v := .sc (.int c)) (hl_same (lk_vals t1) (plain_int _)) (loc_sub (R5.keeps1 hb3) hl3)))
    (specM_all (S_dice c14) c15 c16 c17 c18)
  refine K _ fl h3 tk3 m dr.al (saidN T1 m dr.al) ?_ ((frL.le le1).trans (frL.re.trans ((frL.le le2).trans (frL.re.trans ((frL.le le3).trans frL.re))))) R6 hsaid
  cases o with
  | next => exact .inl hf
  | cont => exact .inr hf
  | ret v => cases hdone
end
end Mine
-- NO
namespace Mine
theorem loop_ok (w : World) : ∃ tp pos, (bodyOf (HK w) 1076).drop 10 = .For (.Name "go_of" tp) (iterOf (HK w)) (loopOf (HK w)) [] pos :: (bodyOf (HK w) 1076).drop 11 := ⟨eP (sE ((bodyOf (HK w) 1076).getD 10 default) 0) 0, sP ((bodyOf (HK w) 1076).getD 10 default), by kernel_rfl⟩
theorem loop_plain (w : World) : plainIter (iterOf (HK w)) = true := by kernel_rfl
theorem aset_go (c : Int) (T : Str) (v : V) : aset "go_of" v (locP c T) = (("said" : Str), V.sc (.sstr T 200)) :: ("count", V.sc (.int c)) :: (locM ++ [(("go_of" : Str), v)]) := by kernel_rfl
theorem go_local (w : World) (l : List (Str × V)) (o : Sto) : isLocal ⟨lawSc (HK w), l, o⟩ "go_of" = true := by kernel_rfl
theorem drop_rng (a b c d e x a' b' c' d' e' : O) : subAll (List.range 21) specM 0 (spush (ofL (stM a b c d e)) x) (List.range 21) 0 (stM a' b' c' d' e') = true := by kernel_rfl
theorem drop_len (a b c d e x : O) : (List.range 21).all (fun l => Nat.blt l (slen (spush (ofL (stM a b c d e)) x))) = true := by kernel_rfl
theorem nodup21 : nodupB (List.range 21) = true := by kernel_rfl
theorem sub_locM (c : Int) (T : Str) : subLoc (List.range 21) 0 (locP c T) locM = true := by kernel_rfl
theorem sget_push (σ : Sto) (x : O) (l : Nat) (h : l < slen σ) : sget (spush σ x) l = sget σ l := by
  rw [← toL_get, toL_push, List.getElem?_append_left (by rw [toL_len]; exact h), toL_get]
theorem sget_last (σ : Sto) (x : O) : sget (spush σ x) (slen σ) = some x := by
  rw [← toL_get, toL_push, ← toL_len, List.getElem?_append_right (Nat.le_refl _), Nat.sub_self]; rfl
theorem lenM (a b c d e : O) : slen (ofL (stM a b c d e)) = 21 := by kernel_rfl
theorem hd_said (c : Int) (T : Str) : (locP c T).lookup ("said" : Str) = some (.sc (.sstr T 200)) := by kernel_rfl
theorem hd_count (c : Int) (T : Str) : (locP c T).lookup ("count" : Str) = some (.sc (.int c)) := by kernel_rfl
section
variable {prog : Program} {w : World} {pv : Program} {loose : List Str} {mean : ExcName → Option Value} {mg mb : Str → Option Value}
theorem law_loop {n : Nat} {A₀ A : Around} {base h₀ : Heap} {outer : List Env} {cn : Str} {L a : Addr} {ccd : Value} (C : Cx (mkG prog w pv loose mean mg mb) (n + 86) A₀ A base h₀ outer cn (lawSc (HK w)) L a ccd) {xs : List Int} {c : Nat} {T0 : Str} {p : P} {s : Shared} {Q : Flow → Shared → Prop} {E : Value → Shared → Prop}
    (Rp : Rep prog w h₀ L p ⟨lawSc (HK w), locP c T0, ofL (stLoop xs 1 g0)⟩ s.heap) (hc : c ≤ 5) (hT : c = 0 ∨ SaidOk T0 [])
    (K : ∀ p' h' tk (dn : Items) T, dn.length = c → p'.β = p.β → Rep prog w h₀ L p' ⟨lawSc (HK w), locP c T, ofL (stLoop xs (1 + 2 * c) (run g0 6 dn))⟩ h' → (c = 0 ∨ SaidOk T dn) → (dn = [] → T = T0) → OkG (run g0 6 dn) c → OkS (run g0 6 dn) →
      wpAny (model prog w) A (execs ((bodyOf (HK w) 1076).drop 11) (envOf cn (lawSc (HK w)) L a ccd)) Q E { s with heap := h', toks := tk }) :
    wpAny (model prog w) A (execs ((bodyOf (HK w) 1076).drop 10) (envOf cn (lawSc (HK w)) L a ccd)) Q E s := by
  let g := mkG prog w pv loose mean mg mb
  obtain ⟨tp, pos, hbody⟩ := loop_ok w
  have hpl := loop_plain w
  generalize hit : iterOf (HK w) = it at hbody hpl
  generalize hlp : loopOf (HK w) = body at hbody
  generalize hrest : (bodyOf (HK w) 1076).drop 11 = rest at hbody
  rw [hbody]
  have k1 := l_iter w (.dice [] xs 1) (.slst (g0.marks.map rowV) 20) (.slst (g0.rows.map impV) 20) (.slist g0.seen 20 []) (.slist g0.held 20 []) c T0
  rw [hit] at k1
  have S1 := (goodL (prog := prog) (w := w) (pv := pv) (loose := loose) (mean := mean) (mg := mg) (mb := mb)).e _ _ _ _ k1
  refine wpAny_execs_cons (wpAny_For (S1.run rfl (C.less (by omega)) Rp fun p1 y1 h1 tk1 le1 R1 hy1 => ?_) (fold_plain hpl))
  have hsrc : srcOf (spush (ofL (stM (.dice [] xs 1) (.slst (g0.marks.map rowV) 20) (.slst (g0.rows.map impV) 20) (.slist g0.seen 20 []) (.slist g0.held 20 []))) (.rng c)) (rf 21) = some (.rng c) := by
    show (match sget (spush (ofL _) (.rng c)) 21 with | some (.list _) => _ | some (.rng n) => _ | _ => _) = _
    have := sget_last (ofL (stM (.dice [] xs 1) (.slst (g0.marks.map rowV) 20) (.slst (g0.rows.map impV) 20) (.slist g0.seen 20 []) (.slist g0.held 20 []))) (.rng c)
    rw [lenM] at this
    rw [this]
    show (match decide ((0 : Int) ≤ (c : Int)) && decide ((c : Int) ≤ 1000) with | true => some (Src.rng c) | false => none) = _
    rw [decide_eq_true (by omega), decide_eq_true (by omega)]
    rfl
  obtain ⟨m1, obs1, R1x⟩ := R1
  refine s_iter (g := g) (s := { s with heap := h1, toks := tk1 }) R1x hy1 hsrc fun It ob p2 h2 tk2 le2 hne hIt hAt R2 => ?_
  have hs0 : ∀ l, l < 21 → sget (spush (ofL (stM (.dice [] xs 1) (.slst (g0.marks.map rowV) 20) (.slst (g0.rows.map impV) 20) (.slist g0.seen 20 []) (.slist g0.held 20 []))) (.rng c)) l = (stM (.dice [] xs 1) (.slst (g0.marks.map rowV) 20) (.slst (g0.rows.map impV) 20) (.slist g0.seen 20 []) (.slist g0.held 20 []))[l]? := fun l hl => by
    rw [sget_push _ _ _ (by rw [lenM]; exact hl), sget_ofL]
  have R3 := R2.trimS (sc := lawSc (HK w)) (loc := locP c T0) (τ := stLoop xs 1 g0) (keep := List.range 21) (d := 0) (drop_rng ..) nodup21 (drop_len ..)
    (hl_cons (k := "said") (v := .sc (.sstr T0 200)) (hl_same (hd_said c T0) (plain_sstr _ _)) (hl_cons (k := "count") (v := .sc (.int c)) (hl_same (hd_count c T0) (plain_int _)) (loc_sub (R2.keeps1 (drop_len ..)) (sub_locM c T0))))
    (specM_all (S_dice (by rw [hs0 14 (by decide)]; rfl)) (S_rows (n := 20) (by rw [hs0 15 (by decide)]; rfl) (by decide)) (S_imps (n := 20) (by rw [hs0 16 (by decide)]; rfl) (by decide)) (S_sl (n := 20) (by rw [hs0 17 (by decide)]; rfl) (by decide) KnL.nil) (S_sl (n := 20) (by rw [hs0 18 (by decide)]; rfl) (by decide) KnL.nil))
  -- the loop
  refine codeAny_forLoop_any (fun f s' => ∃ (dn : Items) (T : Str) (q : P) (ob : Obj) (h' : Heap) (tk : Nat), s' = { s with heap := h', toks := tk } ∧ dn.length + f = c + 1 ∧ dn.length ≤ c ∧ q.β = p.β ∧ (It, ob) ∈ q.fr ∧ ItAt q (.rng c) dn.length ob ∧ Rep prog w h₀ L q ⟨lawSc (HK w), locP c T, ofL (stLoop xs (1 + 2 * dn.length) (run g0 6 dn))⟩ h' ∧ (c = 0 ∨ SaidOk T dn) ∧ (dn = [] → T = T0) ∧ OkG (run g0 6 dn) dn.length ∧ OkS (run g0 6 dn)) ?_ (c + 1)
    ⟨[], T0, p2.re (List.range 21) 0, ob, h2, tk2, rfl, by simp, by simp, by show p2.β + 0 = p.β; rw [← le2.β, ← le1.β]; omega, hIt, by unfold ItAt at hAt ⊢; exact hAt, R3, hT, fun _ => rfl, ⟨by decide, by decide, by decide, by decide⟩, ⟨fun q hq => (by cases hq), fun q hq => (by cases hq), fun q hq => (by cases hq)⟩⟩
  rintro f _ ⟨dn, T, q, ob, h', tk, rfl, hf, hle, hβ, hI, hi, Rq, hs, hz, okg, oks⟩
  have hit' := hi.isIt
  obtain ⟨mq, obsq, Rqx⟩ := id Rq
  have z := Rqx.N _ (List.mem_append_right _ hI)
  by_cases hlt : dn.length < c
  · -- one turn more
    have hv : srcGet (.rng c) (ofL (stLoop xs (1 + 2 * dn.length) (run g0 6 dn))) dn.length = some (some (.sc (.int dn.length))) := by
      unfold srcGet
      show (match decide ((dn.length : Int) < (c : Int)) with | true => some (some (V.sc (S.int dn.length))) | false => some none) = _
      rw [decide_eq_true (by omega)]
    refine next_some (g := g) (s := { s with heap := h', toks := tk }) Rqx z.1 hi hv fun y ob' g1 tk1 hy hi1 hg hsb => ?_
    have Rn := RepX.nextIt (g := g) (s := { s with heap := h', toks := tk }) Rqx hI hit' hsb.extBut hg
    refine letOwned (s := { s with heap := g1, toks := tk1 }) hg (hi1.isIt) ?_
    have lw1 := off_lw_of (g := g) (s := { s with heap := h', toks := tk }) Rqx hI hit'
    refine s_assign (g := g) (s := { s with heap := g1, toks := tk1 }) (v := .sc (.int dn.length)) (τ := ⟨lawSc (HK w), aset "go_of" (.sc (.int dn.length)) (locP c T), ofL (stLoop xs (1 + 2 * dn.length) (run g0 6 dn))⟩) C.hd (by unfold storeV; simp only [go_local]) C.hk ⟨mq, obsq, Rn⟩ hy fun g2 tk2 R4 e4 => ?_
    rw [aset_go] at R4
    rw [← hlp]
    refine law_turn (n := n) (s := { s with heap := g2, toks := tk2 }) C R4 (by omega) (by omega) (hs.resolve_left (by omega)) okg fun p5 fl h5 tk5 m al T' hfl hfr R5 hs5 => ?_
    have hβ5 : p5.β = p.β := by rw [← hfr.1]; exact hβ
    have J : ∃ m', m' < f ∧ ∃ (dn : Items) (T : Str) (q : P) (ob : Obj) (h' : Heap) (tk : Nat), ({ s with heap := h5, toks := tk5 } : Shared) = { s with heap := h', toks := tk } ∧ dn.length + m' = c + 1 ∧ dn.length ≤ c ∧ q.β = p.β ∧ (It, ob) ∈ q.fr ∧ ItAt q (.rng c) dn.length ob ∧ Rep prog w h₀ L q ⟨lawSc (HK w), locP c T, ofL (stLoop xs (1 + 2 * dn.length) (run g0 6 dn))⟩ h' ∧ (c = 0 ∨ SaidOk T dn) ∧ (dn = [] → T = T0) ∧ OkG (run g0 6 dn) dn.length ∧ OkS (run g0 6 dn) := by
      refine ⟨f - 1, by omega, dn ++ [(m, al)], T', p5, ob', h5, tk5, rfl, by simp; omega, by simp; omega, hβ5, hfr.2 _ (.head _), ?_, ?_, .inr hs5, fun e => absurd e (by simp), ?_, ?_⟩
      · unfold ItAt at hi1 ⊢
        rw [hi1]; simp
      · rw [run_snoc, show 1 + 2 * (dn ++ [(m, al)]).length = 1 + 2 * dn.length + 2 by simp; omega]
        exact R5
      · rw [run_snoc, show (dn ++ [(m, al)]).length = dn.length + 1 by simp]
        exact okg.app _ _
      · rw [run_snoc]; exact oks.app _ _ _ _
    rcases hfl with rfl | rfl
    · exact J
    · exact J
  · -- the end
    have hv : srcGet (.rng c) (ofL (stLoop xs (1 + 2 * dn.length) (run g0 6 dn))) dn.length = some none := by
      unfold srcGet
      show (match decide ((dn.length : Int) < (c : Int)) with | true => some (some (V.sc (S.int dn.length))) | false => some none) = _
      rw [decide_eq_false (by omega)]
    refine next_none (g := g) (s := { s with heap := h', toks := tk }) Rqx C.hd z.1 hi hv fun g1 tk1 hsb => ?_
    refine wpAny_execs_nil ?_
    have Rn := RepX.dropIt (g := g) (s := { s with heap := h', toks := tk }) Rqx hI hit' hsb
    have hdc : dn.length = c := by omega
    show wpAny _ _ (execs rest _) _ _ _
    rw [← hrest]
    refine K (q.off It) g1 tk1 dn T hdc hβ ?_ hs hz (hdc ▸ okg) oks
    rw [show 1 + 2 * c = 1 + 2 * dn.length by omega]
    exact ⟨mq, obsq, Rn⟩
end
end Mine
-- NP
namespace Mine
section
variable {prog : Program} {w : World} {p : P} {ob : Obj}
theorem empty_dict (h : ob.IsDictOf (PySem.strKind prog w) []) : ob.ExactDict ∧ ∃ ep, ob.data = .dict #[] ep := by
  obtain ⟨es, ep, h1, h2, _, h4, _⟩ := h
  have : es.toList = [] := by
    revert h4
    cases es.toList with
    | nil => intro _; rfl
    | cons a l => intro h; cases h
  have he : es = #[] := by rw [← Array.toArray_toList (xs := es), this]
  exact ⟨h1, ep, by rw [h2, he]⟩
theorem dict_empty {K : Type} [DecidableEq K] (knd : PySem.KeyKind prog w K) (h : ob.ExactDict) {ep : Nat} (hd : ob.data = .dict #[] ep) : ob.IsDictOf knd [] :=
  ⟨#[], ep, h, hd, fun _ h => by simp at h, by first | exact .nil | trivial | constructor, by simp⟩
theorem sd_nil (h : RO prog w p (.sdict []) ob) : ob.IsDictOf (PySem.strKind prog w) [] := by
  obtain ⟨kvs, h1, h2, _, _⟩ := h
  have : kvs = [] := by simpa using h2
  subst this; exact h1
theorem w_td (h0 : 0 ≤ p.β) (h1 : p.β ≤ 500) (h : RO prog w p (.sdict []) ob) : RO prog w p (.tdict 0) ob := by
  obtain ⟨z1, ep, z2⟩ := empty_dict (sd_nil h)
  exact ⟨[], #[], ep, z1, z2, rfl, by simp, fun x hx => (by cases hx), by show ((0 : Nat) : Int) ≤ p.β + 0; omega, h1, by omega⟩
theorem w_jd (h : RO prog w p (.sdict []) ob) : RO prog w p (.jdict [] 20 true) ob := by
  obtain ⟨z1, ep, z2⟩ := empty_dict (sd_nil h)
  exact ⟨[], dict_empty _ z1 z2, rfl, ⟨by simp, by omega⟩, fun _ i hi => by cases hi⟩
theorem w_xd (h : RO prog w p (.sdict []) ob) : RO prog w p (.xdict [] 20 []) ob :=
  ⟨[], sd_nil h, rfl, ⟨by simp, by omega⟩, fun x hx => by cases hx⟩
theorem w_sl0 (h : RO prog w p (.list []) ob) : RO prog w p (.slst [] 20) ob := by
  obtain ⟨vs, n, z1, z2, _⟩ := h
  exact ⟨vs, n, z1, z2, by simp, by omega⟩
theorem w_slist (h : RO prog w p (.list []) ob) : RO prog w p (.slist [] 20 []) ob := by
  obtain ⟨vs, n, z1, z2, _⟩ := h
  exact ⟨vs, n, z1, z2, ⟨by simp, by omega⟩, fun x hx => by cases hx⟩
theorem w_al (h0 : 0 ≤ p.β) (h1 : p.β ≤ 500) (h : RO prog w p (.list []) ob) : RO prog w p (.alist 0) ob := by
  obtain ⟨vs, n, z1, z2, _⟩ := h
  have : vs = [] := List.length_eq_zero_iff.mp z2.length.symm
  subst this
  exact ⟨[], n, z1, by show ((0 : Nat) : Int) ≤ p.β + 0; omega, h1, by omega⟩
theorem S_scn0 {keep : List Nat} {os : Sto} {l : Nat} {T : Str} {n : Nat} {wn : List Nat} {k : Int} {e' : Bool} {win' : List Nat} (h : normO (sget os l) = some (scnD (.atx T n wn) (.int k))) (hk : p.β = 0) (h10 : keep[10]? = some 10) (hw : Window T k e' win') : Sp prog w p keep k os l (scnD (.txt T e' win') (.off 0)) := by
  refine ⟨_, normO_id h trivial, fun e => (by cases e), fun ob r => ?_⟩
  obtain ⟨es, n, q1, q2, q3⟩ := r
  refine ⟨es, n, q1, REs_imp q2 ⟨⟨rfl, fun y a => ⟨a.1, ?_⟩⟩, ⟨rfl, fun y a => ?_⟩, ⟨rfl, fun y a => ?_⟩, ⟨rfl, fun y a => ?_⟩, trivial⟩, q3⟩
  · show Window T (p.β + k) e' win'
    rw [hk, Int.zero_add]; exact hw
  · obtain ⟨a, z1, z2⟩ := a
    exact ⟨a, re_get h10 z1, z2⟩
  · obtain ⟨t, z⟩ := a
    refine ⟨t, ?_⟩
    rw [z]
    show Value.int _ t = Value.int _ t
    congr 1
    show k = p.β + k + 0
    omega
  · obtain ⟨a, ys, z1, z2, z3⟩ := a
    exact ⟨a, ys, z1, z2, RSs_str rfl z3⟩
theorem w_scn {T : Str} {e' : Bool} {win' : List Nat} {k : Int} (hk : p.β = 0) (hw : Window T 0 e' win') (h : RO prog w p (scnD (.str T) (.int k)) ob) : RO prog w p (scnD (.txt T e' win') (.off k)) ob := by
  obtain ⟨es, n, q1, q2, q3⟩ := h
  refine ⟨es, n, q1, REs_imp q2 ⟨⟨rfl, fun y a => ⟨a, ?_⟩⟩, ⟨rfl, fun y a => a⟩, ⟨rfl, fun y a => ?_⟩, ⟨rfl, fun y a => a⟩, trivial⟩, q3⟩
  · show Window T p.β e' win'
    rw [hk]; exact hw
  · obtain ⟨t, z⟩ := a
    refine ⟨t, ?_⟩
    rw [z]
    show Value.int _ t = Value.int _ t
    congr 1
    show k = p.β + k
    omega
theorem Rep.toL {h₀ h : Heap} {L : Addr} {sc : Scope} {loc : List (Str × V)} {scn mk rw he : O} {kind : S} (R : Rep prog w h₀ L p ⟨sc, loc, ofL (stR scn kind mk rw he)⟩ h) (h0 : 0 ≤ p.β) (h1 : p.β ≤ 500) :
    Rep prog w h₀ L p ⟨sc, loc, ofL ((((((((stR scn kind mk rw he).set 2 (.tdict 0)).set 12 (.slst [] 20)).set 13 (.jdict [] 20 true)).set 17 (.xdict [] 20 [])).set 18 (.xdict [] 20 [])).set 28 (.xdict [] 20 [])).set 29 (.alist 0) |>.set 34 (.slst [] 20))⟩ h := by
  have r1 := R.weaken (i := 2) (o := .sdict []) (o' := .tdict 0) rfl (fun _ => rfl) fun _ => w_td h0 h1
  have r2 := r1.weaken (i := 12) (o := .list []) (o' := .slst [] 20) rfl (fun e => by cases e) fun _ => w_sl0
  have r3 := r2.weaken (i := 13) (o := .sdict []) (o' := .jdict [] 20 true) rfl (fun _ => rfl) fun _ => w_jd
  have r4 := r3.weaken (i := 17) (o := .sdict []) (o' := .xdict [] 20 []) rfl (fun _ => rfl) fun _ => w_xd
  have r5 := r4.weaken (i := 18) (o := .sdict []) (o' := .xdict [] 20 []) rfl (fun _ => rfl) fun _ => w_xd
  have r6 := r5.weaken (i := 28) (o := .sdict []) (o' := .xdict [] 20 []) rfl (fun _ => rfl) fun _ => w_xd
  have r7 := r6.weaken (i := 29) (o := .list []) (o' := .alist 0) rfl (fun e => by cases e) fun _ => w_al h0 h1
  exact r7.weaken (i := 34) (o := .list []) (o' := .slst [] 20) rfl (fun e => by cases e) fun _ => w_sl0
end
end Mine
-- NQ
namespace Mine
noncomputable def tailP (s : Stmt) : List Pos := [eP (sE s 0) 1, eP (sE s 0) 2, eP (sE s 0) 3, eP (sE s 0) 0, sP s]
theorem tail_ok (w : World) : ∃ q : Nat → Pos, (bodyOf (HK w) 1076).drop 16 = .Expr (.Call (.Name "imports" (q 0)) [.Name "rd" (q 1), .Name "tree" (q 2)] [] (q 3)) (q 4) :: (bodyOf (HK w) 1076).drop 17 := ⟨fun i => (tailP ((bodyOf (HK w) 1076).getD 16 default)).getD i default, by kernel_rfl⟩
theorem nm_146 (w : World) (os : Sto) : nameV gtab "imports" ⟨lawSc (HK w), locL, os⟩ = some (.sc (.raw (.ref 146))) := by kernel_rfl
theorem ar_146 (w : World) (os : Sto) (q1 q2 : Pos) : (ev (HK w) tab gtab fntab 5).es [.Name "rd" q1, .Name "tree" q2] ⟨lawSc (HK w), locL, os⟩ = some ([rf 19, rf 32], ⟨lawSc (HK w), locL, os⟩) := by kernel_rfl
theorem co_146 : Mine.callOk tab fntab 146 = true := by kernel_rfl
theorem flat_32 (d : Items) (r : List Nat) : ∃ z, flat d ++ 32 :: r = 32 :: z := by
  cases d with
  | nil => exact ⟨_, rfl⟩
  | cons x d => exact ⟨_, rfl⟩
noncomputable def keepRL : List Nat := [0, 1, 2, 3, 4, 5, 6, 7, 8, 9, 10, 11, 12, 13, 23, 22, 21, 24, 25, 27, 26, 29, 28, 31, 30, 36, 85, 84, 86, 87, 83, 82, 89, 88, 90, 15, 16, 18, 17]
section
variable {prog : Program} {w : World} {pv : Program} {loose : List Str} {mean : ExcName → Option Value} {mg mb : Str → Option Value}
inductive TrimK {α : Type} (spec pick : List Nat) (r : Option (α × St)) (δ : Int) (τ : List O) (loc : List (Str × V)) (v : α) (picks : List (Option O)) (ks : List Nat) : Prop
  | mk (σ : St) (h1 : r = some (v, σ)) (h2 : pickAt σ.objs pick = picks) (h3 : subAll ks spec δ σ.objs ks 0 τ = true) (h4 : nodupB ks = true) (h5 : ks.all (fun l => Nat.blt l (slen σ.objs)) = true) (h6 : subLoc ks δ σ.loc loc = true)
theorem trimK_of {α : Type} {keep : Sto → List (Str × V) → List Nat} {spec pick : List Nat} {r : Option (α × St)} {δ : Int} {τ : List O} {loc : List (Str × V)} {v : α} {picks : List (Option O)} {ks : List Nat} (h : endK keep spec pick r δ τ loc = some (v, true, ks, picks)) :
    TrimK spec pick r δ τ loc v picks ks := by
  unfold endK at h
  split at h
  · rename_i v' σ
    simp only [Option.some.injEq, Prod.mk.injEq, Bool.and_eq_true] at h
    obtain ⟨rfl, ⟨⟨⟨h1, h2⟩, h3⟩, h4⟩, rfl, h6⟩ := h
    exact ⟨σ, rfl, h6, h1, h2, h3, h4⟩
  · cases h
theorem specR_all {Pr : Nat → O → Prop} {scn a b c : O} {kind : S} (h22 : Pr 28 scn) (h35 : Pr 15 a) (h36 : Pr 16 b) (h37 : Pr 18 c) : ∀ i ∈ specR, ∀ (l : Nat) (o' : O), keepRL[i]? = some l → (stR scn kind a b c)[i]? = some o' → Pr l o' :=
  all_in ⟨at_one rfl rfl h22, at_one rfl rfl h35, at_one rfl rfl h36, at_one rfl rfl h37, trivial⟩
theorem specR_all' {Pr : Nat → O → Prop} {scn a b c : O} {kind : S} (h35 : Pr 15 a) (h36 : Pr 16 b) (h37 : Pr 18 c) : ∀ i ∈ [35, 36, 37], ∀ (l : Nat) (o' : O), keepRL[i]? = some l → (stR scn kind a b c)[i]? = some o' → Pr l o' :=
  all_in ⟨at_one rfl rfl h35, at_one rfl rfl h36, at_one rfl rfl h37, trivial⟩
theorem law_pos {n : Nat} {A₀ A : Around} {base h₀ : Heap} {outer : List Env} {cn : Str} {L a : Addr} {ccd : Value} (C : Cx (mkG prog w pv loose mean mg mb) (n + 122) A₀ A base h₀ outer cn (lawSc (HK w)) L a ccd) {xs : List Int} {k c : Nat} {T : Str} {dn : Items} {p : P} {s : Shared} {Q : Flow → Shared → Prop} {E : Value → Shared → Prop}
    (Rp : Rep prog w h₀ L p ⟨lawSc (HK w), locP c T, ofL (stLoop xs k (run g0 6 dn))⟩ s.heap) (hβ : p.β = 0) (h1 : 1 ≤ c) (hc : c ≤ 5) (hdn : dn.length = c) (hT : SaidOk T dn) (okg : OkG (run g0 6 dn) c) (oks : OkS (run g0 6 dn))
    (K : ∀ h' tk m news, Fr h₀ L h' m → News h₀ L h' news → Q (.ret (.bool true)) { s with heap := h', toks := tk }) :
    wpAny (model prog w) A (execs ((bodyOf (HK w) 1076).drop 11) (envOf cn (lawSc (HK w)) L a ccd)) Q E s := by
  let g := mkG prog w pv loose mean mg mb
  obtain ⟨o1, o2, o3, o4⟩ := okg
  obtain ⟨s1, s2, s3⟩ := oks
  -- the text
  rcases hT with ⟨rfl, _⟩ | ⟨d, m, al, rfl, hT⟩
  · simp at hdn; omega
  have hcps : (T ++ ";" ++ " BEGIN" : Str).cps.toList = [73, 77, 80, 79, 82, 84] ++ itemsT (d ++ [(m, al)]) := by
    rw [cps_append, cps_append, hT, ← items_flat]
    show preT d ++ itemT m al ++ [59] ++ beginW = _
    unfold preT
    simp
  have hlen : (T ++ ";" ++ " BEGIN" : Str).length ≤ 200 := by
    have := (SaidOk.len (T := T) (.inr ⟨d, m, al, rfl, hT⟩) (by omega))
    rw [Str.length_append, Str.length_append]
    show T.length + 1 + 6 ≤ 200
    omega
  have hTI : TI (T ++ ";" ++ " BEGIN" : Str) 6 (d ++ [(m, al)]) := ⟨by decide, by rw [hcps]; rfl, hlen⟩
  have himp : ∃ rest, (T ++ ";" : Str).cps.toList = impW ++ rest := by
    rw [cps_append, hT]
    obtain ⟨z, hz⟩ := flat_32 d (itemT m al ++ (";" : Str).cps.toList)
    refine ⟨z, ?_⟩
    unfold preT
    have : flat d ++ [32] ++ itemT m al ++ (";" : Str).cps.toList = 32 :: z := by rw [← hz]; simp
    show [73, 77, 80, 79, 82, 84] ++ (flat d ++ [32]) ++ itemT m al ++ _ = _
    rw [List.append_assoc, List.append_assoc, ← List.append_assoc (flat d ++ [32]), this]
    rfl
  -- the semicolon
  obtain ⟨σ1, hr1, hp1, hs1, hn1, hb1, hl1, hv1⟩ := trimM_of (l_semi w (.dice [] xs k) (.slst ((run g0 6 (d ++ [(m, al)])).marks.map rowV) 20) (.slst ((run g0 6 (d ++ [(m, al)])).rows.map impV) 20) (.slist (run g0 6 (d ++ [(m, al)])).seen 20 []) (.slist (run g0 6 (d ++ [(m, al)])).held 20 []) T c h1 hc)
  simp only [List.map, List.cons.injEq, and_true] at hv1
  have S1 := sound_pre (goodL (prog := prog) (w := w) (pv := pv) (loose := loose) (mean := mean) (mg := mg) (mb := mb)) 1 _ _ _ (unitO_of hr1)
  refine S1.2 A₀ A base h₀ outer cn L a ccd (C.less (by omega)) p s _ _ Rp fun p1 h1' tk1 le1 R1 => ?_
  rw [List.drop_drop]
  obtain ⟨a14, a15, a16, a17, a18⟩ := pickM hp1
  have R2 := R1.trimS (sc := lawSc (HK w)) (τ := stM (.dice [] xs k) (.slst ((run g0 6 (d ++ [(m, al)])).marks.map rowV) 20) (.slst ((run g0 6 (d ++ [(m, al)])).rows.map impV) 20) (.slist (run g0 6 (d ++ [(m, al)])).seen 20 []) (.slist (run g0 6 (d ++ [(m, al)])).held 20 [])) (subAll_swap hs1 (stM_same ..)) hn1 hb1
    (hl_cons (k := "said") (v := .sc (.atx (T ++ ";") 300 impW)) ⟨_, lk_vals hv1, fun y r => ⟨r.1, himp, by have := r.2; rw [Str.length_append] at this ⊢; omega, by decide⟩⟩ (loc_sub (R1.keeps1 hb1) hl1))
    (specM_all (S_dice a14) (S_rows a15 (by omega)) (S_imps a16 (by omega)) (S_sl a17 (by omega) KnL.nil) (S_sl a18 (by omega) KnL.nil))
  -- the reader
  obtain ⟨σ3, hr3, hp3, hs3, hn3, hb3, hl3⟩ := trimK_of (l_read w (.dice [] xs k) (.slst ((run g0 6 (d ++ [(m, al)])).marks.map rowV) 20) (.slst ((run g0 6 (d ++ [(m, al)])).rows.map impV) 20) (.slist (run g0 6 (d ++ [(m, al)])).seen 20 []) (.slist (run g0 6 (d ++ [(m, al)])).held 20 []) (T ++ ";"))
  have S3 := sound_pre (goodL (prog := prog) (w := w) (pv := pv) (loose := loose) (mean := mean) (mg := mg) (mb := mb)) 4 _ _ _ (unitO_of hr3)
  refine S3.2 A₀ A base h₀ outer cn L a ccd (C.less (by omega)) _ { s with heap := h1', toks := tk1 } _ _ R2 fun p3 h3 tk3 le3 R3 => ?_
  rw [List.drop_drop]
  have hp3' : [normO (sget σ3.objs 28), normO (sget σ3.objs 15), normO (sget σ3.objs 16), normO (sget σ3.objs 18)] = _ := hp3
  simp only [List.cons.injEq, and_true] at hp3'
  obtain ⟨b28, b15, b16, b18⟩ := hp3'
  have hβ3 : p3.β = 0 := by
    rw [← le3.β]
    show p1.β + 0 = 0
    rw [← le1.β]; omega
  obtain ⟨m0, al0, r0, hdr⟩ : ∃ m0 al0 r0, d ++ [(m, al)] = (m0, al0) :: r0 := by
    cases d with
    | nil => exact ⟨_, _, _, rfl⟩
    | cons x d => exact ⟨_, _, _, rfl⟩
  rw [hdr] at hTI
  have hr0 : r0.length ≤ 4 := by
    have : (d ++ [(m, al)]).length = r0.length + 1 := by rw [hdr]; rfl
    omega
  have R4 := R3.trimS (sc := lawSc (HK w)) (loc := locL) (τ := stR (scnD (.txt (T ++ ";" ++ " BEGIN") false (winA m0 al0 r0.isEmpty)) (.off 0)) (.str "IMPORT") (.slst ((run g0 6 (d ++ [(m, al)])).marks.map rowV) 20) (.slst ((run g0 6 (d ++ [(m, al)])).rows.map impV) 20) (.slist (run g0 6 (d ++ [(m, al)])).held 20 [])) (subAll_swap hs3 (stR_same ..)) hn3 hb3 (loc_sub (R3.keeps1 hb3) hl3)
    (specR_all (S_scn0 b28 hβ3 rfl hTI.winA) (S_rows b15 (by omega)) (S_imps b16 (by omega)) (S_sl b18 (by omega) KnL.nil))
  have hβ4 : (p3.re keepRL 6).β = 6 := by show p3.β + 6 = 6; omega
  have R5 := R4.toL (by show 0 ≤ p3.β + 6; omega) (by show p3.β + 6 ≤ 500; omega)
  -- the imports
  obtain ⟨qt, hbody⟩ := tail_ok w
  generalize hrest : (bodyOf (HK w) 1076).drop 17 = rest at hbody
  show wpAny _ _ (execs ((bodyOf (HK w) 1076).drop 16) _) _ _ _
  rw [hbody]
  refine wpAny_execs_cons (wpAny_Expr_any (call_expr (g := g) (m := 5) (n := n + 122) (s := { s with heap := h3, toks := tk3 }) (σ := ⟨lawSc (HK w), locL, _⟩) (nm_146 w _) (by decide +kernel) co_146 rfl (by simp) (good g 5) (ar_146 w _ _ _) (by omega) C R5 fun p6 ys h6 tk6 le6 R6 hv => ?_) ?_ rfl)
  · have hβ6 : p6.β = 6 := by rw [← le6.β]; exact hβ4
    refine imports_call (n := n) (s := { s with heap := h6, toks := tk6 }) (f := ⟨T ++ ";" ++ " BEGIN", (run g0 6 (d ++ [(m, al)])).marks, (run g0 6 (d ++ [(m, al)])).rows, (run g0 6 (d ++ [(m, al)])).held⟩) (m := m0) (al := al0) (r := r0) C R6 (Nat.le_trans o1 (by omega)) (Nat.le_trans o2 (by omega)) (Nat.le_trans o4 (by omega)) (by omega) (by rw [hβ6]; exact hTI) hv fun p7 q7 h7 tk7 R7 hok7 => ?_
    show wpAny _ _ (execs rest _) _ _ _
    rw [← hrest]
    rw [hβ6, ← hdr] at R7
    exact final_check (n := n + 102) (s := { s with heap := h7, toks := tk7 }) (M := (run g0 6 (d ++ [(m, al)])).marks) (R := (run g0 6 (d ++ [(m, al)])).rows) (H := (run g0 6 (d ++ [(m, al)])).held) (x := tn ⟨T ++ ";" ++ " BEGIN", (run g0 6 (d ++ [(m, al)])).marks, (run g0 6 (d ++ [(m, al)])).rows, (run g0 6 (d ++ [(m, al)])).held⟩ (run g0 6 (d ++ [(m, al)])) q7 (.txt (T ++ ";" ++ " BEGIN") true beginW) (.off 6) .any .any .any [] [] [] []) C ⟨rfl, rfl, rfl, rfl, rfl, rfl, by omega, s1, s2, s3⟩ R7 K
  · unfold interactive
    show ((lawSc (HK w)).kind == ScopeKind.module && _) = false
    rw [show (lawSc (HK w)).kind = .function from C.hk]
    rfl
end
end Mine
-- NR
namespace Mine
noncomputable def stateP (s : Stmt) : List Pos × List Nat := ([eP (sE s 0) 0, eP (sE s 1) 2, eP (sE s 1) 4, eP (sE s 1) 3, eP (sE s 1) 1, eP (sE s 1) 5, eP (sE s 1) 0, sP s], [eK (sE s 1) 4, eK (sE s 1) 5])
noncomputable def stateOf (q : Nat → Pos) (k : Nat → Nat) : Stmt := .Assign [.Name "state" (q 0)] (.List [.Subscript (.Name "script" (q 1)) (.Slice none (some (.Constant (.int 40) (k 0) (q 2))) none (q 3)) (q 4), .Constant (.int 0) (k 1) (q 5)] (q 6)) (q 7)
theorem state_ok (w : World) : ∃ q k, bodyOf (HK w) 1076 = stateOf q k :: (bodyOf (HK w) 1076).drop 1 := ⟨fun i => (stateP ((bodyOf (HK w) 1076).getD 0 default)).1.getD i default, fun i => (stateP ((bodyOf (HK w) 1076).getD 0 default)).2.getD i default, by kernel_rfl⟩
theorem sc_script (w : World) : (lawSc (HK w)).names.lookup ("script" : Str) = some .local := by kernel_rfl
theorem sc_state (w : World) : (lawSc (HK w)).names.lookup ("state" : Str) = some .local := by kernel_rfl
theorem aset_state (v : V) : aset "state" v [] = [(("state" : Str), v)] := by kernel_rfl
section
variable {prog : Program} {w : World} {pv : Program} {loose : List Str} {mean : ExcName → Option Value} {mg mb : Str → Option Value}
theorem Rep.reloc {h₀ h : Heap} {L : Addr} {p : P} {sc sc' : Scope} {loc loc' : List (Str × V)} {os : Sto} (R : Rep prog w h₀ L p ⟨sc, loc, os⟩ h) (hl : ∀ m, RL p loc m → RL p loc' m) : Rep prog w h₀ L p ⟨sc', loc', os⟩ h := by
  obtain ⟨m, obs, R⟩ := R
  exact ⟨m, obs, R.F, R.N, hl m R.loc, R.len, R.ob, R.nd, R.off, R.big⟩
theorem RL_head {p : P} {k : Str} {u v : V} {loc : List (Str × V)} {m : Str → Option Value} (h : ∀ y, RV p u y → RV p v y) (R : RL p ((k, u) :: loc) m) : RL p ((k, v) :: loc) m := by
  intro x v' e
  rw [List.lookup_cons] at e
  have R := R x
  rw [List.lookup_cons] at R
  cases hk : (x == k) with
  | true =>
    rw [hk] at e R
    cases e
    obtain ⟨y, h1, h2⟩ := R u rfl
    exact ⟨y, h1, h y h2⟩
  | false => rw [hk] at e R; exact R v' e
theorem law_zero {n : Nat} {A₀ A : Around} {base h₀ : Heap} {outer : List Env} {cn : Str} {L a : Addr} {ccd : Value} (C : Cx (mkG prog w pv loose mean mg mb) (n + 122) A₀ A base h₀ outer cn (lawSc (HK w)) L a ccd) {xs : List Int} {k : Nat} {p : P} {s : Shared} {Q : Flow → Shared → Prop} {E : Value → Shared → Prop}
    (Rp : Rep prog w h₀ L p ⟨lawSc (HK w), locP 0 "", ofL (stLoop xs k g0)⟩ s.heap) (hβ : p.β = 0)
    (K : ∀ h' tk m news, Fr h₀ L h' m → News h₀ L h' news → Q (.ret (.bool true)) { s with heap := h', toks := tk }) :
    wpAny (model prog w) A (execs ((bodyOf (HK w) 1076).drop 11) (envOf cn (lawSc (HK w)) L a ccd)) Q E s := by
  have R0 := Rp.reloc (sc' := lawSc (HK w)) (loc' := ("said", st "") :: ("count", .sc (.int 0)) :: locM) fun m hm => RL_head (u := .sc (.sstr "" 200)) (v := st "") (fun y r => r.1) hm
  obtain ⟨σ3, hr3, hp3, hs3, hn3, hb3, hl3⟩ := trimK_of (l_zero w (.dice [] xs k) (.slst (g0.marks.map rowV) 20) (.slst (g0.rows.map impV) 20) (.slist g0.seen 20 []) (.slist g0.held 20 []))
  have S3 := sound_pre (goodL (prog := prog) (w := w) (pv := pv) (loose := loose) (mean := mean) (mg := mg) (mb := mb)) 6 _ _ _ (unitO_of hr3)
  refine S3.2 A₀ A base h₀ outer cn L a ccd (C.less (by omega)) _ s _ _ R0 fun p3 h3 tk3 le3 R3 => ?_
  rw [List.drop_drop]
  have hp3' : [normO (sget σ3.objs 15), normO (sget σ3.objs 16), normO (sget σ3.objs 18)] = _ := hp3
  simp only [List.cons.injEq, and_true] at hp3'
  obtain ⟨b15, b16, b18⟩ := hp3'
  have hβ3 : p3.β = 0 := by rw [← le3.β]; exact hβ
  have R4 := R3.trimS (sc := lawSc (HK w)) (loc := locL) (τ := stR (scnD (.str " BEGIN") (.int 6)) (.str "BEGIN") (.slst (g0.marks.map rowV) 20) (.slst (g0.rows.map impV) 20) (.slist g0.held 20 [])) (subAll_swap hs3 (stR_same' ..)) hn3 hb3 (loc_sub (R3.keeps1 hb3) hl3)
    (specR_all' (S_rows b15 (by decide)) (S_imps b16 (by decide)) (S_sl b18 (by decide) KnL.nil))
  have R5 := R4.toL (by show 0 ≤ p3.β + 0; omega) (by show p3.β + 0 ≤ 500; omega)
  show wpAny _ _ (execs ((bodyOf (HK w) 1076).drop 17) _) _ _ _
  exact final_check (n := n + 102) (s := { s with heap := h3, toks := tk3 }) (M := []) (R := []) (H := []) (x := { tn ⟨"", [], [], []⟩ g0 q0 (.str " BEGIN") (.int 6) .any .any .any [] [] [] [] with last := .gone }) C ⟨rfl, rfl, rfl, rfl, rfl, rfl, by decide, fun q hq => (by cases hq), fun q hq => (by cases hq), fun q hq => (by cases hq)⟩ R5 K
theorem law_state {n : Nat} {A₀ A : Around} {base h₀ : Heap} {outer : List Env} {cn : Str} {L a : Addr} {ccd : Value} (C : Cx (mkG prog w pv loose mean mg mb) n A₀ A base h₀ outer cn (lawSc (HK w)) L a ccd) {l : Addr} {vs : List Value} {xs : List Int} {s : Shared} {m : Str → Option Value} {Q : Flow → Shared → Prop} {E : Value → Shared → Prop}
    (F : Fr h₀ L s.heap m) (hm : m ("script" : Str) = some (.ref l)) (N : News h₀ L s.heap []) (hL : h₀.IsList l (List.toArray vs)) (hI : IntsAre vs xs) (hlen : xs.length ≤ 63)
    (K : ∀ (p : P) h' tk ys, p.β = 0 → ys.length ≤ 63 → Rep prog w h₀ L p ⟨lawSc (HK w), [(("state" : Str), rf 0)], ofL [.dice [] ys 0]⟩ h' → wpAny (model prog w) A (execs ((bodyOf (HK w) 1076).drop 1) (envOf cn (lawSc (HK w)) L a ccd)) Q E { s with heap := h', toks := tk }) :
    wpAny (model prog w) A (execs (bodyOf (HK w) 1076) (envOf cn (lawSc (HK w)) L a ccd)) Q E s := by
  obtain ⟨qs, ks, hbody⟩ := state_ok w
  generalize hrest : (bodyOf (HK w) 1076).drop 1 = rest at hbody
  rw [hbody]
  unfold stateOf
  refine wpAny_execs_cons (wpAny_Assign_Name (List_ ?_) rfl)
  rw [back_plain rfl]
  refine spliced_cons ?_
  refine Subscript_ (ld F hm ?_ C.hk (sc_script w) (by decide +kernel))
  refine wpAny_Slice ?_
  refine wpAny_pure ?_
  refine wpAny_Constant_int (k := ks 0) (pos := qs 2) ?_
  refine wpAny_pure ?_
  have hL1 : s.heap.IsList l (List.toArray vs) := by
    obtain ⟨o, z1, z2⟩ := hL
    exact ⟨o, F.keep _ _ z1, z2⟩
  refine kmk_slice_ints (ns := xs) (ms := xs.take 40) (lo := none) (hi := some 40) (s := { s with toks := s.toks + 1 }) F N hL1 .none (.int 40 _) hI (kmk_upto hI (by decide)) rfl (fun D ws h1 F1 N1 l1 hws _ hle => ?_) rfl (by intro r; rfl) (by rw [sizeLine_eq, List.size_toArray, hI.length]; omega)
  refine spliced_cons (wpAny_Constant_int (spliced_nil ?_))
  refine newList_N F1 N1 (fun h2 F2 N2 => ?_) (by rw [sizeLine_eq]; show 2 ≤ 16777216; omega)
  have hlt : D < h1.objs.size := Heap.lt_size (N1 _ (.head _)).1
  have R : RepX prog w h₀ L ⟨0, [h1.objs.size], [(D, listOf (List.toArray ws) 0)]⟩ ⟨lawSc (HK w), [], ofL [.dice [] (xs.take 40) 0]⟩ h2 m [listOf #[.ref D, .int 0 (s.toks + 1)] 0] := by
    refine ⟨F2, ?_, fun x v e => (by cases e), rfl, ?_, by simp, ?_, ?_⟩
    · intro q hq
      simp only [List.zip_cons_cons, List.zip_nil_right, List.cons_append, List.nil_append, List.mem_cons, List.not_mem_nil, or_false] at hq
      rcases hq with rfl | rfl
      · exact N2 _ (.head _)
      · exact N2 _ (.tail _ (.head _))
    · show ROs prog w _ (toL (ofL [.dice [] (xs.take 40) 0])) _
      rw [toL_ofL]
      exact ⟨⟨D, 0, _, 0, ws, rfl, .head _, hws, by rw [List.length_take]; omega, by simp, fun i q hq => by cases hq⟩, trivial⟩
    · intro a' ha q hq
      rw [List.mem_singleton.mp ha, List.mem_singleton.mp hq]
      exact Nat.ne_of_gt hlt
    · show Big _ (toL (ofL [.dice [] (xs.take 40) 0]))
      rw [toL_ofL]
      intro l' a' o h1' h2' h3'
      cases l' with
      | zero => cases h2'; cases h3'
      | succ l' => simp at h2'
  refine s_storeName (g := mkG prog w pv loose mean mg mb) (σ := ⟨lawSc (HK w), [], ofL [.dice [] (xs.take 40) 0]⟩) (v := rf 0) (p := ⟨0, [h1.objs.size], [(D, listOf (List.toArray ws) 0)]⟩) (s := { s with heap := h2, toks := _ }) ⟨m, _, R⟩ C.hk (sc_state w) ⟨_, rfl, rfl⟩ fun h3 tk3 R3 => ?_
  show wpAny _ _ (execs rest _) _ _ _
  rw [← hrest]
  rw [aset_state] at R3
  exact K _ h3 tk3 (xs.take 40) rfl (by rw [List.length_take]; omega) R3
end
end Mine
-- NS
namespace Mine
noncomputable def keepTL : List Nat := [2, 1, 3, 5, 4, 10, 9, 20, 19, 35, 40, 39, 41, 42, 0, 44, 43, 45, 46, 15, 25]
section
variable {prog : Program} {w : World} {pv : Program} {loose : List Str} {mean : ExcName → Option Value} {mg mb : Str → Option Value}
theorem law_all {n : Nat} {A₀ A : Around} {base h₀ : Heap} {outer : List Env} {cn : Str} {L a : Addr} {ccd : Value} (C : Cx (mkG prog w pv loose mean mg mb) (n + 122) A₀ A base h₀ outer cn (lawSc (HK w)) L a ccd) {l : Addr} {vs : List Value} {xs : List Int} {s : Shared} {m : Str → Option Value} {Q : Flow → Shared → Prop} {E : Value → Shared → Prop}
    (F : Fr h₀ L s.heap m) (hm : m ("script" : Str) = some (.ref l)) (N : News h₀ L s.heap []) (hL : h₀.IsList l (List.toArray vs)) (hI : IntsAre vs xs) (hlen : xs.length ≤ 63)
    (K : ∀ h' tk m news, Fr h₀ L h' m → News h₀ L h' news → Q (.ret (.bool true)) { s with heap := h', toks := tk }) :
    wpAny (model prog w) A (execs (bodyOf (HK w) 1076) (envOf cn (lawSc (HK w)) L a ccd)) Q E s := by
  refine law_state (n := n + 122) C F hm N hL hI hlen fun p h1 tk1 ys hβ hys R1 => ?_
  -- types .. held
  obtain ⟨σ1, hr1, hp1, hs1, hn1, hb1, hl1⟩ := trimK_of (l_make w ys)
  have S1 := sound_pre (goodL (prog := prog) (w := w) (pv := pv) (loose := loose) (mean := mean) (mg := mg) (mb := mb)) 7 _ _ _ (unitO_of hr1)
  refine S1.2 A₀ A base h₀ outer cn L a ccd (C.less (by omega)) p { s with heap := h1, toks := tk1 } _ _ R1 fun p2 h2 tk2 le2 R2 => ?_
  rw [List.drop_drop]
  have hp1' : [normO (sget σ1.objs 0)] = _ := hp1
  simp only [List.cons.injEq, and_true] at hp1'
  have hsb : sameBut [14] 0 (stM .gone (.list []) (.list []) (.list []) (.list [])) (stM (.dice [] ys 0) (.list []) (.list []) (.list []) (.list [])) := by
    refine ⟨.inr rfl, .inr rfl, .inr rfl, .inr rfl, .inr rfl, .inr rfl, .inr rfl, .inr rfl, .inr rfl, .inr rfl, .inr rfl, .inr rfl, .inr rfl, .inr rfl, .inl rfl, .inr rfl, .inr rfl, .inr rfl, .inr rfl, .inr rfl, .inr rfl, trivial⟩
  have R3 := R2.trimS (sc := lawSc (HK w)) (keep := keepTL) (subAll_swap hs1 hsb) hn1 hb1 (loc_sub (R2.keeps1 hb1) hl1) (fun i hi l' o' e1 e2 => by
    rw [List.mem_singleton.mp hi] at e1 e2
    cases (Option.some.inj (show some _ = some l' from e1)); cases (Option.some.inj (show some _ = some o' from e2))
    exact S_dice hp1')
  have r1 := R3.weaken (i := 15) (o := .list []) (o' := .slst [] 20) rfl (fun e => by cases e) fun _ => w_sl0
  have r2 := r1.weaken (i := 16) (o := .list []) (o' := .slst [] 20) rfl (fun e => by cases e) fun _ => w_sl0
  have r3 := r2.weaken (i := 17) (o := .list []) (o' := .slist [] 20 []) rfl (fun e => by cases e) fun _ => w_slist
  have r4 := r3.weaken (i := 18) (o := .list []) (o' := .slist [] 20 []) rfl (fun e => by cases e) fun _ => w_slist
  -- the count
  obtain ⟨c, hc, hdc⟩ : ∃ c : Nat, c ≤ 5 ∧ draw ys 0 6 = (c : Int) := by
    have h := draw_range ys 0 (m := 6) (by decide)
    exact ⟨(draw ys 0 6).toNat, by omega, by omega⟩
  have r5 := r4.weaken (i := 14) (o := .dice [] ys 0) (o' := .dice [(6, (c : Int))] ys 0) rfl (fun e => by cases e) (fun ob ⟨row, n, t, j, zs, z1, z2, z3, z4, z5, _⟩ => ⟨row, n, t, j, zs, z1, z2, z3, z4, by simp, fun i q hq => by
    match i, hq with
    | 0, hq => cases hq; exact hdc
    | i + 1, hq => cases hq⟩)
  obtain ⟨σ4, hr4, hp4, hs4, hn4, hb4, hl4, hv4⟩ := trimM_of (l_count w ys (.slst [] 20) (.slst [] 20) (.slist [] 20 []) (.slist [] 20 []) c hc)
  simp only [List.map, List.cons.injEq, and_true] at hv4
  obtain ⟨v1, v2⟩ := hv4
  have S4 := sound_pre (goodL (prog := prog) (w := w) (pv := pv) (loose := loose) (mean := mean) (mg := mg) (mb := mb)) 2 _ _ _ (unitO_of hr4)
  show wpAny _ _ (execs ((bodyOf (HK w) 1076).drop 8) _) _ _ _
  refine S4.2 A₀ A base h₀ outer cn L a ccd (C.less (by omega)) _ { s with heap := h2, toks := tk2 } _ _ r5 fun p5 h5 tk5 le5 R5 => ?_
  rw [List.drop_drop]
  obtain ⟨a14, a15, a16, a17, a18⟩ := pickM (a := .dice [] ys 1) hp4
  have hβ5 : p5.β = 0 := by
    rw [← le5.β]
    show p2.β + 0 = 0
    rw [← le2.β]; omega
  have R6 : Rep prog w h₀ L (p5.re (List.range 21) 0) ⟨lawSc (HK w), locP c (firstT c), ofL (stLoop ys 1 g0)⟩ h5 := R5.trimS (sc := lawSc (HK w)) (subAll_swap hs4 (stM_same ..)) hn4 hb4
    (hl_cons (k := "said") (v := .sc (.sstr (firstT c) 200)) ⟨_, lk_vals v2, fun y r => ⟨r, by
      cases c with
      | zero => decide +kernel
      | succ c => show (Str.ofString "IMPORT ").length ≤ 200; decide +kernel, by decide⟩⟩ (hl_cons (k := "count") (v := .sc (.int c)) (hl_same (lk_vals v1) (plain_int _)) (loc_sub (R5.keeps1 hb4) hl4)))
    (specM_all (S_dice a14) (S_rows (l0 := []) a15 (by decide)) (S_imps (l0 := []) a16 (by decide)) (S_sl a17 (by decide) KnL.nil) (S_sl a18 (by decide) KnL.nil))
  have hβ6 : (p5.re (List.range 21) 0).β = 0 := by show p5.β + 0 = 0; omega
  show wpAny _ _ (execs ((bodyOf (HK w) 1076).drop 10) _) _ _ _
  refine law_loop (n := n + 36) (s := { s with heap := h5, toks := tk5 }) C R6 hc ?_ fun p7 h7 tk7 dn T hdn hβ7 R7 hT hT0 okg oks => ?_
  · cases c with
    | zero => exact .inl rfl
    | succ c => exact .inr (.inl ⟨rfl, by show (Str.ofString "IMPORT ").cps.toList = impW; decide +kernel⟩)
  · have hβ7' : p7.β = 0 := hβ7.trans hβ6
    cases c with
    | zero =>
      have hd : dn = [] := List.length_eq_zero_iff.mp hdn
      subst hd
      have : T = "" := hT0 rfl
      subst this
      exact law_zero (n := n) (s := { s with heap := h7, toks := tk7 }) C R7 hβ7' K
    | succ c =>
      exact law_pos (n := n) (s := { s with heap := h7, toks := tk7 }) C R7 hβ7' (by omega) hc hdn (hT.resolve_left (by omega)) okg oks K
end
end Mine
end
-- the law
local macro_rules
  | `(tactic| k_qdec) => `(tactic| decide +kernel)
theorem PySem.Challenge.cw_pq0785_01_holds : PySem.Challenge.rw_pq0785_01.Holds := by
  w_on
  refine holds_law Mine.hd.said fun _ => ?_
  refine holds_open (q := Mine.hd.qv) (loose := Mine.hd.lo) (Xt := Mine.hd.Xt) (XP := XL Mine.hd.qv []) (Yf := Hook.obs Mine.hd.HH) (Ya := Hook.val Mine.hd.HH) (YP := Hook.says Mine.hd.HH) (N := 14998) Mine.hd.left (Hook.of Mine.hd.HH) (Hook.keeps Mine.hd.HH) (fun s e => xl_of s (Bool.and_eq_true_iff.mp e).1) XL.keeps (by rfl) (by rfl) (by rfl) (fun s e => recFacts_of (Bool.and_eq_true_iff.mp e).2) (by rfl) (by first | assumption | decide +kernel) (by decide +kernel) ⟨rfl, rfl, rfl, rfl, rfl, by decide +kernel⟩ ?hw ?hc
  case hw => w_witness2
  w_strict k_go0
  all_goals try k_fold
  rename_i w s₀ s₁ mg mb G Y fa o pm doc kV ho hg KX X V GL T B TE TW wa wo M wb wc hcd xs hs hlay0 hL1 hr1 hl2 wd we wf ys wg hL ra w1 r0 hI hr hlen hcond K0 hD h₁ F N0
  have key : ∀ (nm : Str) (sc : Scope) (body : List Stmt), sc = Mine.lawSc (Mine.HK w) → body = Mine.bodyOf (Mine.HK w) 1076 → ∀ (ccd : Value) (m : Str → Option Value), Fr s₁.heap s₁.heap.objs.size h₁ m → m ("script" : Str) = some (.ref wf) →
      wpAny (model PySem.Challenge.rw_pq0785_01.row.prog w) (callerA.deeper (envOf nm sc s₁.heap.objs.size fa ccd)) (execs body (envOf nm sc s₁.heap.objs.size fa ccd))
        (fun fl s' => fl = Flow.ret (.bool true) ∧ ∃ (h' : Heap) (tk : Nat), s' = { s₁ with heap := h', toks := tk } ∧ ∃ m news, Fr s₁.heap s₁.heap.objs.size h' m ∧ News s₁.heap s₁.heap.objs.size h' news) (fun _ _ => False) { s₁ with heap := h₁, toks := s₁.toks + 1 } := by
    intro nm sc body e1 e2 ccd m F hm
    subst e1 e2
    refine Mine.law_all (n := 100) (A₀ := callerA) (base := s₁.heap) (outer := []) (s := { s₁ with heap := h₁, toks := s₁.toks + 1 }) ⟨K0, KX, T, rfl, rfl, by kernel_rfl, (by show callerA.depth + 1 + 2 * (100 + 122) < 950; decide), (by show callerA.units + 3 + 8 * (100 + 122) < 9800; decide)⟩ F hm N0 hL hI (by omega) fun h' tk m news F' N' => ⟨rfl, h', tk, rfl, m, news, F', N'⟩
  refine wpAny_mono (key _ _ _ (by kernel_rfl) (by kernel_rfl) _ _ F rfl) ?_ (fun _ _ h => h.elim)
  rintro fl s' ⟨rfl, h', tk, rfl, m, news, F', N'⟩
  try k_unfold
  wrow_close
