import PyProof.Rows.All
import Wide.All
import OpenK.AllK
import Wide.FinOn
import HandS.ForMost
import HandS.TupAny
import HandS.TupMul
import HandS.More
import HandS.Exc
import HandS.Slots
import HandS.SlotsOwn
import HandS.ExcField
import HandS.Wide
import HandS.Star
import HandS.Text
import HandS.OwnIter
import HandS.IterVal
import HandS.IsInst
import HandS.RaiseMore
import HandS.Zip
import KE.KExcSuper
import HandS.ExcInit
import HandS.Small
import HandS.SortInts
import HandS.SortKw
import HandS.Style
import KE.DataMinMax
import KE.KTupSum
import HandS.OwnEq
import KE.GoesEnum
import KE.DataCmp
import KE.SortData
import HandS.Ends
import HandS.HeadEnd
import HandS.HeadHook2
import PyProof.Rows.RegStrFacts
import HandS.Head0
import HandS.Head1
import HandS.Head2
import HandS.Codes
import HandS.Words
import PySem.Challenge.RW_primekinds_k07_whole_turned_and_joined_k
set_option Elab.async false
set_option linter.all false
set_option maxRecDepth 100000
set_option maxHeartbeats 0
namespace PyI
open PySem PySem.Spec PyProof.Rows L2
theorem tuple_mul1 (l : Addr) (items : Array Value) (n : Nat) (dd : Option Addr) (sl : Array (Option Value)) (x : Int) (u : Tok) (c0 : (decide (x < -(2 ^ 63)) || decide (x ≥ 2 ^ 63)) = false) (c1 : (items.isEmpty || x == 1) = true) :
    Meets (Builtin.«tuple.__mul__» ⟨[.ref l, .int x u], []⟩) (fun _ R s => s.heap.get? l = some { cls := .type "tuple", dict := dd, data := .seq items n, slots := sl } ∧ R (.ok (.ret (Value.ref l))) s) :=
  .of_wp fun prog w A R s h => by
    obtain ⟨hp, g, d, tk, os⟩ := s
    obtain ⟨hl, h⟩ := h
    have f1 := AutoSeq1.idx_int
    wp_walk using wpAny_loadPart' hl
    repeat (first
      | (refine wpAny_ite_false (decide_eq_false (by rw [c0]; exact Bool.false_ne_true)) ?_; wp_walk using wpAny_loadPart' hl)
      | (refine wpAny_ite_true (decide_eq_true (by rw [c1])) ?_; wp_walk using wpAny_loadPart' hl))
    exact ⟨_, rfl, h⟩
theorem tuple_mul0 (l : Addr) (items : Array Value) (n : Nat) (dd : Option Addr) (sl : Array (Option Value)) (x : Int) (u : Tok) (c0 : (decide (x < -(2 ^ 63)) || decide (x ≥ 2 ^ 63)) = false) (c1 : (items.isEmpty || x == 1) = false) (c2 : (decide (x ≤ 0) || items.isEmpty) = true) :
    Meets (Builtin.«tuple.__mul__» ⟨[.ref l, .int x u], []⟩) (fun _ R s => s.heap.get? l = some { cls := .type "tuple", dict := dd, data := .seq items n, slots := sl } ∧
      R (.ok (.ret (Value.ref s.heap.objs.size))) { s with heap := s.heap.push { cls := Value.type "tuple", data := Data.seq #[] }, toks := s.toks }) :=
  .of_wp fun prog w A R s h => by
    obtain ⟨hp, g, d, tk, os⟩ := s
    obtain ⟨hl, h⟩ := h
    have f1 := AutoSeq1.idx_int
    wp_walk using wpAny_loadPart' hl
    repeat (first
      | (refine wpAny_ite_false (decide_eq_false (by rw [c0]; exact Bool.false_ne_true)) ?_; wp_walk using wpAny_loadPart' hl)
      | (refine wpAny_ite_false (decide_eq_false (by rw [c1]; exact Bool.false_ne_true)) ?_; wp_walk using wpAny_loadPart' hl)
      | (refine wpAny_ite_true (decide_eq_true (by rw [c2])) ?_; wp_walk using wpAny_loadPart' hl))
    exact ⟨_, rfl, h⟩
def rRepA (K : PySem.W.Frag) : R2 := fun x y H Q => ∃ l k xs, x = .ref l ∧ y = .int k ∧ SqT K H l xs ∧ -1000 ≤ k ∧ k ≤ 1000 ∧ xs.length ≤ 1000 ∧ (xs = [] ∨ k = 1 → Q (.ref l) H) ∧
  (xs ≠ [] → k ≠ 1 → ∀ p, H p = none → Q (.ref p) (upd H p (.tup (List.replicate k.toNat xs).flatten)))
theorem op_repA {X : Cx} : OpR X (binaryOp .Mult) (rRepA X.K) := by
  intro pins s σ H x y v u Q I rx ry h
  obtain ⟨l, k, xs, rfl, rfl, hT, h0, h1, hz, q1, q2⟩ := h
  by_cases hk : xs ≠ [] ∧ 2 ≤ k
  · exact op_repT pins s σ H _ _ v u Q I rx ry ⟨l, k, xs, rfl, rfl, hT, hk.1, hk.2, h1, hz, q2 hk.1 (by omega)⟩
  · cases rx
    obtain ⟨t, rfl⟩ := ry
    obtain ⟨its, r, ⟨⟨cls, dd, data, sl⟩, ho, hc, n, hd⟩, hs⟩ := I.tuple hT
    simp only at hc hd
    subst hc hd
    have c0 : (decide (k < -(2 ^ 63)) || decide (k ≥ 2 ^ 63)) = false := by
      rw [decide_eq_false (by omega), decide_eq_false (by omega)] <;> rfl
    by_cases hx : xs = []
    · have hi : its = [] := by
        have := r.length
        rw [hx] at this
        exact List.eq_nil_of_length_eq_zero this.symm
      refine wpAny_binaryOp_repeat_ref (T := "tuple") (U := "int") (by decide) ⟨_, ho, rfl⟩ (fun s' => typeIs_int s' k t) noFill_tuple_mul F.fills_int_mul F.slot_int_rmul repeat_tuple F.slot_int_index.lookup
        (call_meets F.slot_int_rmul (typeIs_int s k t) F.entry_int_rmul (F.args_int_rmul_2 _ _) (int_rmul_tuple k t l its.toArray n dd sl)
          ⟨ho, rfl, ⟨_, ho, rfl⟩, call_meets F.slot_tuple_mul ⟨_, ho, rfl⟩ F.entry_tuple_mul (F.args_tuple_mul_2 _ _) (tuple_mul1 l its.toArray n dd sl k t c0 (by rw [hi]; rfl)) ⟨ho, ?_⟩⟩)
      exact ⟨.ref l, H, I, rfl, q1 (.inl hx)⟩
    · by_cases h1' : k = 1
      · refine wpAny_binaryOp_repeat_ref (T := "tuple") (U := "int") (by decide) ⟨_, ho, rfl⟩ (fun s' => typeIs_int s' k t) noFill_tuple_mul F.fills_int_mul F.slot_int_rmul repeat_tuple F.slot_int_index.lookup
          (call_meets F.slot_int_rmul (typeIs_int s k t) F.entry_int_rmul (F.args_int_rmul_2 _ _) (int_rmul_tuple k t l its.toArray n dd sl)
            ⟨ho, rfl, ⟨_, ho, rfl⟩, call_meets F.slot_tuple_mul ⟨_, ho, rfl⟩ F.entry_tuple_mul (F.args_tuple_mul_2 _ _) (tuple_mul1 l its.toArray n dd sl k t c0 (by rw [h1']; simp)) ⟨ho, ?_⟩⟩)
        exact ⟨.ref l, H, I, rfl, q1 (.inr h1')⟩
      · have hk0 : k ≤ 0 := by
          rcases Int.lt_or_le k 2 with z | z
          · omega
          · exact absurd ⟨hx, z⟩ hk
        have hne : its.toArray.isEmpty = false := by
          cases its with
          | nil => cases r; exact absurd rfl hx
          | cons a b => rfl
        have e0 : k.toNat = 0 := by omega
        refine wpAny_binaryOp_repeat_ref (T := "tuple") (U := "int") (by decide) ⟨_, ho, rfl⟩ (fun s' => typeIs_int s' k t) noFill_tuple_mul F.fills_int_mul F.slot_int_rmul repeat_tuple F.slot_int_index.lookup
          (call_meets F.slot_int_rmul (typeIs_int s k t) F.entry_int_rmul (F.args_int_rmul_2 _ _) (int_rmul_tuple k t l its.toArray n dd sl)
            ⟨ho, rfl, ⟨_, ho, rfl⟩, call_meets F.slot_tuple_mul ⟨_, ho, rfl⟩ F.entry_tuple_mul (F.args_tuple_mul_2 _ _) (tuple_mul0 l its.toArray n dd sl k t c0 (by rw [hne, Bool.false_or]; exact beq_eq_false_iff_ne.mpr h1') (by rw [decide_eq_true hk0]; rfl)) ⟨ho, ?_⟩⟩)
        have q3 := q2 hx h1' _ (I.hok.fresh (Nat.le_refl _))
        rw [e0] at q3
        refine ⟨.ref s.heap.objs.size, _, I.laid (t' := s.toks) (o := .tup []) (fun b ob q => Heap.get?_push_of_some _ q) (Nat.le_refl _) ?_, rfl, q3⟩
        exact ⟨Nat.zero_le _, [], .nil, IsTup.new _ _⟩
end PyI
namespace PyI
open PySem PySem.Spec PyProof.Rows L2

/-- plain data: no aliasing is seen of it, it never changes -/
inductive D where
  | non | bl (b : Bool) | int (i : Int) | str (x : Str) | ty (n : String)
  | fn (k : Nat) | cls (c : Nat)
  | tup (l : List D) | lst (l : List D) | scr (l : List D)
  | ins (c : Nat) (l : List D)
  deriving Inhabited

/-- a value: data, or a place of the store -/
inductive DV where
  | d (x : D) | loc (n : Nat)
  deriving Inhabited

/-- what stands in a place of the store -/
inductive SO where
  | dead
  | lst (l : List D)
  | obj (c : Nat) (l : List (Option D))

abbrev Store := List SO
abbrev DEnv := List (Option DV)

/-- a result: a value, an exception (its class, what it keeps), or nothing known -/
inductive R (α : Type) where
  | ok (a : α) (st : Store)
  | ex (c : Nat) (x : Option D) (st : Store)
  | no
def R.bind {α β : Type} (m : R α) (k : α → Store → R β) : R β := match m with
  | .ok a st => k a st
  | .ex c x st => .ex c x st
  | .no => .no

abbrev FT := Nat → List DV → Store → R DV
/-- the functions that may be called: at the level below, at the next one, at the third -/
structure FTs where
  a : FT
  b : FT
  c : FT

/-- where the functions, the classes and their slots stand -/
structure Tb where
  K : PySem.W.Frag
  fa : Nat → Addr
  ca : Nat → Addr

/-- the addresses of the store's places (a dead one has none) -/
abbrev Mu := List (Option (Addr × Addr))
def Mu.has (μ : Mu) (a : Addr) : Prop := ∃ (n : Nat) (p : Addr × Addr), μ[n]? = some (some p) ∧ (a = p.1 ∨ a = p.2)

/-- it stands at a, and no place of the store is there -/
def At (μ : Mu) (H : Hp) (a : Addr) (o : HO) : Prop := H a = some o ∧ ¬ μ.has a

/-- a tuple to be read, that stays -/
def TupAt (K : PySem.W.Frag) (μ : Mu) (H : Hp) (a : Addr) (xs : List V) : Prop :=
  At μ H a (.tup xs) ∨ ∃ (o : Obj) (its : Array Value) (n : Nat), K.lookup a = some o ∧ o.cls = .type "tuple" ∧ o.data = .seq its n ∧ its.size ≤ sizeLine ∧ Vals xs its.toList
def LstAt (μ : Mu) (H : Hp) (a : Addr) (xs : List V) : Prop := At μ H a (.lst xs)
/-- a list that was handed in -/
def ScrAt (K : PySem.W.Frag) (μ : Mu) (H : Hp) (a : Addr) (xs : List V) : Prop := At μ H a (.lst xs) ∨ (∃ ob, At μ H a (.frz ob (.lst xs))) ∨
  ∃ (o : Obj) (its : Array Value) (n : Nat), K.lookup a = some o ∧ o.cls = .type "list" ∧ o.dict = none ∧ o.data = .seq its n ∧ its.size ≤ sizeLine ∧ Vals xs its.toList

mutual
inductive RD (T : Tb) (μ : Mu) (H : Hp) : D → V → Prop
  | non : RD T μ H .non .non
  | bl (b : Bool) : RD T μ H (.bl b) (.bl b)
  | int (i : Int) : RD T μ H (.int i) (.int i)
  | str (x : Str) : RD T μ H (.str x) (.str x)
  | ty (n : String) : RD T μ H (.ty n) (.ty n)
  | fn (k : Nat) : RD T μ H (.fn k) (.ref (T.fa k))
  | cls (c : Nat) : RD T μ H (.cls c) (.ref (T.ca c))
  | tup {ds : List D} {a : Addr} {xs : List V} (h : TupAt T.K μ H a xs) (r : RDs T μ H ds xs) : RD T μ H (.tup ds) (.ref a)
  | lst {ds : List D} {a : Addr} {xs : List V} (h : LstAt μ H a xs) (r : RDs T μ H ds xs) : RD T μ H (.lst ds) (.ref a)
  | scr {ds : List D} {a : Addr} {xs : List V} (h : ScrAt T.K μ H a xs) (r : RDs T μ H ds xs) : RD T μ H (.scr ds) (.ref a)
  | ins {c : Nat} {ds : List D} {a dx : Addr} {vs : List V} (h1 : At μ H a (SlX.SlO a (T.ca c) dx (vs.map some))) (h2 : At μ H dx (.xd [])) (r : RDs T μ H ds vs) : RD T μ H (.ins c ds) (.ref a)
inductive RDs (T : Tb) (μ : Mu) (H : Hp) : List D → List V → Prop
  | nil : RDs T μ H [] []
  | cons {d : D} {v : V} {ds : List D} {vs : List V} (h : RD T μ H d v) (t : RDs T μ H ds vs) : RDs T μ H (d :: ds) (v :: vs)
end

/-- a value of the store's -/
inductive RV (T : Tb) (μ : Mu) (H : Hp) : DV → V → Prop
  | d {x : D} {v : V} (h : RD T μ H x v) : RV T μ H (.d x) v
  | loc {n : Nat} {v : V} (hn : n < μ.length) (h : ∀ p : Addr × Addr, μ[n]? = some (some p) → v = .ref p.1) : RV T μ H (.loc n) v
inductive RVs (T : Tb) (μ : Mu) (H : Hp) : List DV → List V → Prop
  | nil : RVs T μ H [] []
  | cons {d : DV} {v : V} {ds : List DV} {vs : List V} (h : RV T μ H d v) (t : RVs T μ H ds vs) : RVs T μ H (d :: ds) (v :: vs)

/-- slots under construction -/
inductive RSl (T : Tb) (μ : Mu) (H : Hp) : List (Option D) → List (Option V) → Prop
  | nil : RSl T μ H [] []
  | some {d : D} {v : V} {ds : List (Option D)} {vs : List (Option V)} (h : RD T μ H d v) (t : RSl T μ H ds vs) : RSl T μ H (Option.some d :: ds) (Option.some v :: vs)
  | none {ds : List (Option D)} {vs : List (Option V)} (t : RSl T μ H ds vs) : RSl T μ H (Option.none :: ds) (Option.none :: vs)

/-- a place of the store -/
def RSo (T : Tb) (μ : Mu) (H : Hp) : SO → Option (Addr × Addr) → Prop
  | .dead, o => o = none
  | .lst ds, o => ∃ a xs, o = some (a, a) ∧ H a = some (.lst xs) ∧ RDs T μ H ds xs
  | .obj c fs, o => ∃ a dx vs, o = some (a, dx) ∧ dx ≠ a ∧ SlX.Slt H a (T.ca c) dx vs ∧ (∃ u, H dx = some u) ∧ RSl T μ H fs vs

structure RSt (T : Tb) (μ : Mu) (H : Hp) (st : Store) : Prop where
  len : μ.length = st.length
  at_ : ∀ (n : Nat) (so : SO), st[n]? = some so → ∃ o, μ[n]? = some o ∧ RSo T μ H so o
  apart : ∀ (n m : Nat) (p q : Addr × Addr), μ[n]? = some (some p) → μ[m]? = some (some q) → (p.1 = q.1 ∨ p.1 = q.2 ∨ p.2 = q.1 ∨ p.2 = q.2) → n = m

/-- what may have come between -/
structure Ext (μ : Mu) (H : Hp) (μ' : Mu) (H' : Hp) : Prop where
  keep : ∀ a o, At μ H a o → At μ' H' a o
  len : μ.length ≤ μ'.length
  old : ∀ (n : Nat) (p : Addr × Addr), n < μ.length → μ'[n]? = some (some p) → μ[n]? = some (some p)
section
variable {T : Tb} {μ μ' μ'' : Mu} {H H' H'' : Hp}
theorem Ext.refl : Ext μ H μ H := ⟨fun _ _ h => h, Nat.le_refl _, fun _ _ _ h => h⟩
theorem Ext.trans (a : Ext μ H μ' H') (b : Ext μ' H' μ'' H'') : Ext μ H μ'' H'' :=
  ⟨fun _ _ h => b.keep _ _ (a.keep _ _ h), Nat.le_trans a.len b.len, fun n p hn h => a.old n p hn (b.old n p (Nat.lt_of_lt_of_le hn a.len) h)⟩

theorem TupAt.keep (k : ∀ a o, At μ H a o → At μ' H' a o) {a : Addr} {xs : List V} (h : TupAt T.K μ H a xs) : TupAt T.K μ' H' a xs := by
  rcases h with h | h
  · exact .inl (k _ _ h)
  · exact .inr h
theorem LstAt.keep (k : ∀ a o, At μ H a o → At μ' H' a o) {a : Addr} {xs : List V} (h : LstAt μ H a xs) : LstAt μ' H' a xs := by
  exact k _ _ h
theorem ScrAt.keep {K : PySem.W.Frag} (k : ∀ a o, At μ H a o → At μ' H' a o) {a : Addr} {xs : List V} (h : ScrAt K μ H a xs) : ScrAt K μ' H' a xs := by
  rcases h with h | ⟨o, h⟩ | h
  · exact .inl (k _ _ h)
  · exact .inr (.inl ⟨o, k _ _ h⟩)
  · exact .inr (.inr h)
mutual
theorem RD.keep (k : ∀ a o, At μ H a o → At μ' H' a o) : ∀ {d : D} {v : V}, RD T μ H d v → RD T μ' H' d v
  | _, _, .non => .non
  | _, _, .bl b => .bl b
  | _, _, .int i => .int i
  | _, _, .str x => .str x
  | _, _, .ty n => .ty n
  | _, _, .fn k => .fn k
  | _, _, .cls c => .cls c
  | _, _, .tup h r => .tup (h.keep k) (RDs.keep k r)
  | _, _, .lst h r => .lst (LstAt.keep k h) (RDs.keep k r)
  | _, _, .scr h r => .scr (h.keep k) (RDs.keep k r)
  | _, _, .ins h1 h2 r => .ins (k _ _ h1) (k _ _ h2) (RDs.keep k r)
theorem RDs.keep (k : ∀ a o, At μ H a o → At μ' H' a o) : ∀ {ds : List D} {vs : List V}, RDs T μ H ds vs → RDs T μ' H' ds vs
  | _, _, .nil => .nil
  | _, _, .cons h t => .cons (RD.keep k h) (RDs.keep k t)
end
theorem TupAt.ext {a : Addr} {xs : List V} (h : TupAt T.K μ H a xs) (e : Ext μ H μ' H') : TupAt T.K μ' H' a xs := h.keep e.keep
theorem LstAt.ext {a : Addr} {xs : List V} (h : LstAt μ H a xs) (e : Ext μ H μ' H') : LstAt μ' H' a xs := LstAt.keep e.keep h
theorem RD.ext (e : Ext μ H μ' H') {d : D} {v : V} (h : RD T μ H d v) : RD T μ' H' d v := h.keep e.keep
theorem RDs.ext (e : Ext μ H μ' H') {ds : List D} {vs : List V} (h : RDs T μ H ds vs) : RDs T μ' H' ds vs := h.keep e.keep
theorem RSl.keep (k : ∀ a o, At μ H a o → At μ' H' a o) : ∀ {ds : List (Option D)} {vs : List (Option V)}, RSl T μ H ds vs → RSl T μ' H' ds vs
  | _, _, .nil => .nil
  | _, _, .some h t => .some (RD.keep k h) (RSl.keep k t)
  | _, _, .none t => .none (RSl.keep k t)
theorem RV.ext {d : DV} {v : V} (h : RV T μ H d v) (e : Ext μ H μ' H') : RV T μ' H' d v := by
  cases h with
  | d h => exact .d (h.ext e)
  | loc hn h => exact .loc (Nat.lt_of_lt_of_le hn e.len) fun p q => h p (e.old _ p hn q)
theorem RVs.ext (e : Ext μ H μ' H') : ∀ {ds : List DV} {vs : List V}, RVs T μ H ds vs → RVs T μ' H' ds vs
  | _, _, .nil => .nil
  | _, _, .cons h t => .cons (h.ext e) (RVs.ext e t)
theorem RSl.ext (e : Ext μ H μ' H') {ds : List (Option D)} {vs : List (Option V)} (h : RSl T μ H ds vs) : RSl T μ' H' ds vs := h.keep e.keep
theorem RDs.length : ∀ {ds : List D} {vs : List V}, RDs T μ H ds vs → ds.length = vs.length
  | _, _, .nil => rfl
  | _, _, .cons _ t => congrArg (· + 1) (RDs.length t)
theorem RVs.length : ∀ {ds : List DV} {vs : List V}, RVs T μ H ds vs → ds.length = vs.length
  | _, _, .nil => rfl
  | _, _, .cons _ t => congrArg (· + 1) (RVs.length t)
theorem RDs.get : ∀ {ds : List D} {vs : List V} {i : Nat} {d : D}, RDs T μ H ds vs → ds[i]? = some d → ∃ v, vs[i]? = some v ∧ RD T μ H d v
  | _, _, _, _, .nil, e => by simp at e
  | _, _, 0, _, .cons h _, e => by simp at e; subst e; exact ⟨_, rfl, h⟩
  | _, _, i + 1, d, .cons _ t, e => by
    obtain ⟨v, h1, h2⟩ := RDs.get (i := i) (d := d) t (by simpa using e)
    exact ⟨v, by simpa using h1, h2⟩
theorem RDs.getV : ∀ {ds : List D} {vs : List V} {i : Nat} {v : V}, RDs T μ H ds vs → vs[i]? = some v → ∃ d, ds[i]? = some d ∧ RD T μ H d v
  | _, _, _, _, .nil, e => by simp at e
  | _, _, 0, _, .cons h _, e => by simp at e; subst e; exact ⟨_, rfl, h⟩
  | _, _, i + 1, d, .cons _ t, e => by
    obtain ⟨v, h1, h2⟩ := RDs.getV (i := i) (v := d) t (by simpa using e)
    exact ⟨v, by simpa using h1, h2⟩
theorem RDs.append : ∀ {ds es : List D} {vs ws : List V}, RDs T μ H ds vs → RDs T μ H es ws → RDs T μ H (ds ++ es) (vs ++ ws)
  | _, _, _, _, .nil, s => s
  | _, _, _, _, .cons h t, s => .cons h (RDs.append t s)
theorem RDs.take : ∀ {ds : List D} {vs : List V} (n : Nat), RDs T μ H ds vs → RDs T μ H (ds.take n) (vs.take n)
  | _, _, 0, _ => .nil
  | _, _, _ + 1, .nil => .nil
  | _, _, n + 1, .cons h t => .cons h (RDs.take n t)
theorem RDs.drop : ∀ {ds : List D} {vs : List V} (n : Nat), RDs T μ H ds vs → RDs T μ H (ds.drop n) (vs.drop n)
  | _, _, 0, h => h
  | _, _, _ + 1, .nil => .nil
  | _, _, n + 1, .cons _ t => RDs.drop n t
theorem RDs.set {d : D} {v : V} (h : RD T μ H d v) : ∀ {ds : List D} {vs : List V} (i : Nat), RDs T μ H ds vs → RDs T μ H (ds.set i d) (vs.set i v)
  | _, _, _, .nil => .nil
  | _, _, 0, .cons _ t => .cons h t
  | _, _, i + 1, .cons q t => .cons q (RDs.set h i t)
theorem RDs.reverse {ds : List D} {vs : List V} (h : RDs T μ H ds vs) : RDs T μ H ds.reverse vs.reverse := by
  induction ds generalizing vs with
  | nil => cases h; exact .nil
  | cons d ds ih =>
    cases h with
    | cons h t =>
      rw [List.reverse_cons, List.reverse_cons]
      exact (ih t).append (.cons h .nil)
theorem RDs.ints {ns : List Int} : RDs T μ H (ns.map .int) (ns.map .int) := by
  induction ns with
  | nil => exact .nil
  | cons n ns ih => exact .cons (.int n) ih
theorem RDs.ofInts : ∀ {ns : List Int} {vs : List V}, RDs T μ H (ns.map .int) vs → vs = ns.map .int
  | [], _, .nil => rfl
  | _ :: _, _, .cons (.int _) t => by rw [RDs.ofInts t]; rfl
theorem RDs.ofBls : ∀ {ns : List Bool} {vs : List V}, RDs T μ H (ns.map .bl) vs → vs = ns.map .bl
  | [], _, .nil => rfl
  | _ :: _, _, .cons (.bl _) t => by rw [RDs.ofBls t]; rfl
theorem RDs.ofStrs : ∀ {ns : List Str} {vs : List V}, RDs T μ H (ns.map .str) vs → vs = ns.map .str
  | [], _, .nil => rfl
  | _ :: _, _, .cons (.str _) t => by rw [RDs.ofStrs t]; rfl

/-- a live place is tracked -/
theorem RSt.there {st : Store} (r : RSt T μ H st) {a : Addr} (h : μ.has a) : ∃ o, H a = some o := by
  obtain ⟨n, p, e, q⟩ := h
  have hn : n < st.length := by rw [← r.len]; exact (List.getElem?_eq_some_iff.mp e).1
  obtain ⟨o, e2, s⟩ := r.at_ n st[n] (by simp [hn])
  rw [e] at e2; cases e2
  cases hs : st[n] with
  | dead => rw [hs] at s; cases s
  | lst ds =>
    rw [hs] at s
    obtain ⟨a', xs, e3, e4, _⟩ := s
    cases e3
    rcases q with q | q <;> (rw [q]; exact ⟨_, e4⟩)
  | obj c fs =>
    rw [hs] at s
    obtain ⟨a', dx, vs, e3, _, e4, e5, _⟩ := s
    cases e3
    rcases q with q | q
    · rcases e4 with ⟨e4, _⟩ | ⟨e4, _⟩
      · rw [q]; exact ⟨_, e4⟩
      · rw [q]; exact ⟨_, e4⟩
    · rw [q]; exact e5

/-- the store cut off: what lay in the places behind is forgotten -/
theorem has_take {m : Nat} {a : Addr} (h : Mu.has (μ.take m) a) : μ.has a := by
  obtain ⟨n, p, e, q⟩ := h
  rw [List.getElem?_take] at e
  split at e
  · exact ⟨n, p, e, q⟩
  · cases e
theorem At.take {m : Nat} {a : Addr} {o : HO} (h : At μ H a o) : At (μ.take m) H a o := ⟨h.1, fun q => h.2 (has_take q)⟩
theorem RSt.take {st : Store} (r : RSt T μ H st) (m : Nat) : RSt T (μ.take m) H (st.take m) := by
  refine ⟨by rw [List.length_take, List.length_take, r.len], fun n so h => ?_, fun n k p q h1 h2 h3 => ?_⟩
  · rw [List.getElem?_take] at h
    split at h
    · rename_i c
      obtain ⟨o, e, s⟩ := r.at_ n so h
      refine ⟨o, by rw [List.getElem?_take, if_pos c]; exact e, ?_⟩
      cases so with
      | dead => exact s
      | lst ds =>
        obtain ⟨a, xs, e1, e2, e3⟩ := s
        exact ⟨a, xs, e1, e2, RDs.keep (fun _ _ q => q.take) e3⟩
      | obj c fs =>
        obtain ⟨a, dx, vs, e1, e2, e3, e4, e5⟩ := s
        exact ⟨a, dx, vs, e1, e2, e3, e4, RSl.keep (fun _ _ q => q.take) e5⟩
    · cases h
  · rw [List.getElem?_take] at h1 h2
    split at h1
    · split at h2
      · exact r.apart n k p q h1 h2 h3
      · cases h2
    · cases h1
theorem Ext.take {m : Nat} (e : Ext μ H μ' H') (hm : μ.length ≤ m) : Ext μ H (μ'.take m) H' := by
  refine ⟨fun a o h => (e.keep a o h).take, ?_, fun n p hn h => ?_⟩
  · rw [List.length_take]
    have := e.len
    omega
  · rw [List.getElem?_take] at h
    split at h
    · exact e.old n p hn h
    · cases h
end
end PyI
namespace PyI
open PySem PySem.Spec PyProof.Rows L2

/-- what an exception keeps, by the name of its attribute -/
def RX (T : Tb) (xf : Nat → Str) (μ : Mu) (H : Hp) (c : Nat) (x : Option D) (cls : Value) (dd : Option Addr) : Prop :=
  cls = .ref (T.ca c) ∧ ∀ d, x = some d → ∃ a v, dd = some a ∧ At μ H a (.xd [(xf c, v)]) ∧ RD T μ H d v

/-- what a name of the module is -/
inductive Gb where
  | fn (k : Nat) | cls (c : Nat) | val (d : D) | blt
/-- what an attribute of a class is: a slot, a method, a property -/
inductive At1 where
  | slot (i : Nat) | meth (k : Nat) | prop (k : Nat)
/-- the type of a value -/
inductive TK where
  | ty (n : String) | own (c : Nat)
  deriving DecidableEq
def tkv (T : Tb) : TK → Value
  | .ty n => .type n
  | .own c => .ref (T.ca c)
/-- the text, as the interpreter knows it: what exceptions keep, the module's names, the classes' attributes, how many slots -/
structure Tx extends Tb where
  xf : Nat → Str
  G : Str → Option Gb
  att : Nat → Str → Option At1
  slots : Nat → Nat
  init : Nat → Option Nat
  spm : Nat → Str → Option Nat
  isI : Nat → Bool
  isa : TK → TK → Option Bool
  fst : Nat → TK → Bool
  sfst : Nat → Bool
  neO : Nat → Bool
  nsq : Nat → Bool
  bop : Nat → Operator → String → Bool
  itr : Nat → Option Nat
  exn : Nat → Option Bool
  exm : Nat → TK → Option Bool
/-- .. and that it is so -/
structure TxOk (T : Tx) (mg : Str → Option Value) : Prop where
  fn : ∀ x k, T.G x = some (.fn k) → mg x = some (.ref (T.fa k)) ∧ PySem.W.keepIn T.K (.ref (T.fa k)) = true
  cls : ∀ x c, T.G x = some (.cls c) → mg x = some (.ref (T.ca c)) ∧ PySem.W.keepIn T.K (.ref (T.ca c)) = true
  val : ∀ x d, T.G x = some (.val d) → ∃ u v, mg x = some u ∧ RelV v u ∧ ∀ μ H, RD T.toTb μ H d v
  blt : ∀ x, T.G x = some .blt → mg x = none
  mke : ∀ c k, T.init c = some k → Mk T.K (T.ca c) (T.fa k)
  sl : ∀ c f i, T.att c f = some (.slot i) → SlX.SCls T.K (T.ca c) ∧ ∃ p, SlX.Slot1 T.K (T.ca c) f p i
  me : ∀ c f k, T.att c f = some (.meth k) → SlX.SCls T.K (T.ca c) ∧ Meth T.K (T.ca c) f (T.fa k)
  pr : ∀ c f k, T.att c f = some (.prop k) → SlX.SCls T.K (T.ca c) ∧ ∃ p, PySem.W.findIn T.K (.ref (T.ca c)) f = some (some (.ref p)) ∧ PySem.W.specialIn T.K (.ref p) "__get__" = some (some (.builtin "property.__get__")) ∧
    PySem.W.takesIn T.K (.ref p) = some true ∧ ∃ rest, PySem.W.recIn T.K p "property" = some (.ref (T.fa k) :: rest)
  sp : ∀ c m k, T.spm c m = some k → SlX.SCls T.K (T.ca c) ∧ PySem.W.findIn T.K (.ref (T.ca c)) m = some (some (.ref (T.fa k))) ∧ PySem.W.isFn T.K (.ref (T.fa k)) = true ∧ PySem.W.fnIn T.K (T.fa k) = true
  si : ∀ c, T.isI c = true → SlX.SCls T.K (T.ca c) ∧ SlX.SIsi T.K (T.ca c)
  isa : ∀ t u b, T.isa t u = some b → PySem.W.kitOne T.K (tkv T.toTb t) (tkv T.toTb u) = some b
  fst : ∀ c t, T.fst c t = true → PySem.W.notFirst T.K (T.ca c) (tkv T.toTb t) = true
  sfst : ∀ c, T.sfst c = true → PySem.W.selfFirst T.K (T.ca c) = true
  neO : ∀ c, T.neO c = true → PySem.W.findIn T.K (.ref (T.ca c)) "__ne__" = some (some (.builtin "object.__ne__"))
  nsq : ∀ c, T.nsq c = true → PySem.W.noSeq T.K (T.ca c) = true
  bop : ∀ c op ty, T.bop c op ty = true → ∃ fo ro rc, PySem.W.findIn T.K (.ref (T.ca c)) (dunderR op.info.2) = some rc ∧ (rc = none ∨ ∃ g : Addr, rc = some (.ref g)) ∧ PySem.W.findIn T.K (.type ty) (PySem.dunder op.info.2) = some fo ∧ PySem.W.findIn T.K (.type ty) (dunderR op.info.2) = some ro ∧ PySem.W.subIn T.K (.type ty) (.ref (T.ca c)) = some false
  exm : ∀ c t b, T.exm c t = some b → PySem.W.exmOne T.K (.ref (T.ca c)) (tkv T.toTb t) = some b
  xfc : ∀ c, T.exn c = some true → XfC T.K (T.ca c) ∧ PySem.W.findIn T.K (.ref (T.ca c)) (T.xf c) = some none
variable {T : Tx}

/-- what is wanted behind a result; Rel: how the interpreter's answer and the program's go together -/
def PST (T : Tx) {α β : Type} (Rel : Mu → Hp → α → β → Prop) (E : XK) (μ : Mu) (H : Hp) (r : R α) (Q : β → Hp → Prop) : Prop := match r with
  | .ok d st => ∀ μ' v H', Ext μ H μ' H' → RSt T.toTb μ' H' st → Rel μ' H' d v → Q v H'
  | .ex c x st => ∀ μ' H' cls dd, Ext μ H μ' H' → RSt T.toTb μ' H' st → RX T.toTb T.xf μ' H' c x cls dd → E cls dd H'
  | .no => False
section
variable {α β γ δ : Type} {Rel : Mu → Hp → α → β → Prop} {Rel' : Mu → Hp → γ → δ → Prop}
theorem PST.ext {E : XK} {μ μ1 : Mu} {H H1 : Hp} {r : R α} {Q : β → Hp → Prop} (h : PST T Rel E μ H r Q) (e : Ext μ H μ1 H1) : PST T Rel E μ1 H1 r Q := by
  cases r with
  | ok d st => exact fun μ' v H' e' => h μ' v H' (e.trans e')
  | ex c x st => exact fun μ' H' cls dd e' => h μ' H' cls dd (e.trans e')
  | no => exact h
theorem PST.mono {E : XK} {μ : Mu} {H : Hp} {r : R α} {Q Q' : β → Hp → Prop} (h : PST T Rel E μ H r Q) (k : ∀ v H', Q v H' → Q' v H') : PST T Rel E μ H r Q' := by
  cases r with
  | ok d st => exact fun μ' v H' e rs rv => k _ _ (h μ' v H' e rs rv)
  | ex c x st => exact h
  | no => exact h
/-- an answer is there -/
theorem PST.done {E : XK} {μ : Mu} {H : Hp} {d : α} {st : Store} {Q : β → Hp → Prop} {v : β} (h : PST T Rel E μ H (.ok d st) Q) (rs : RSt T.toTb μ H st) (rv : Rel μ H d v) : Q v H := h μ v H .refl rs rv
/-- what stands behind a first part -/
def MidG (T : Tx) {α β γ δ : Type} (Rel : Mu → Hp → α → β → Prop) (Rel' : Mu → Hp → γ → δ → Prop) (E : XK) (μ : Mu) (H : Hp) (k : α → Store → R γ) (Q : δ → Hp → Prop) : β → Hp → Prop := fun v H1 => ∃ μ1 d st1, Ext μ H μ1 H1 ∧ RSt T.toTb μ1 H1 st1 ∧ Rel μ1 H1 d v ∧ PST T Rel' E μ1 H1 (k d st1) Q
theorem PST.bind {E : XK} {μ : Mu} {H : Hp} {r : R α} {k : α → Store → R γ} {Q : δ → Hp → Prop} (h : PST T Rel' E μ H (r.bind k) Q) : PST T Rel E μ H r (MidG T Rel Rel' E μ H k Q) := by
  cases r with
  | ok d st => exact fun μ' v H' e rs rv => ⟨μ', d, st, e, rs, rv, PST.ext (r := k d st) h e⟩
  | ex c x st => exact h
  | no => exact h
end
/-- .. with the rest wanted from the start -/
theorem PST.bindAt {α β γ δ : Type} {Rel : Mu → Hp → α → β → Prop} {Rel' : Mu → Hp → γ → δ → Prop} {E : XK} {μ μ2 : Mu} {H H2 : Hp} {r : R α} {k : α → Store → R γ} {Q : δ → Hp → Prop} (h : PST T Rel' E μ H (r.bind k) Q) (e2 : Ext μ H μ2 H2) :
    PST T Rel E μ2 H2 r (fun v H1 => ∃ μ1 d st1, Ext μ2 H2 μ1 H1 ∧ RSt T.toTb μ1 H1 st1 ∧ Rel μ1 H1 d v ∧ PST T Rel' E μ H (k d st1) Q) := by
  cases r with
  | ok d st => exact fun μ' v H' e rs rv => ⟨μ', d, st, e, rs, rv, h⟩
  | ex c x st => exact fun μ' H' cls dd e' => h μ' H' cls dd (e2.trans e')
  | no => exact h
abbrev POST (T : Tx) (E : XK) (μ : Mu) (H : Hp) (r : R DV) (Q : VK) : Prop := PST T (RV T.toTb) E μ H r Q
theorem POST.mono {E : XK} {μ : Mu} {H : Hp} {r : R DV} {Q Q' : VK} (h : POST T E μ H r Q) (k : ∀ v H', Q v H' → Q' v H') : POST T E μ H r Q' := PST.mono h k
theorem POST.done {E : XK} {μ : Mu} {H : Hp} {d : DV} {st : Store} {Q : VK} {v : V} (h : POST T E μ H (.ok d st) Q) (rs : RSt T.toTb μ H st) (rv : RV T.toTb μ H d v) : Q v H := PST.done h rs rv
theorem POST.bind {E : XK} {μ : Mu} {H : Hp} {r : R DV} {k : DV → Store → R DV} {Q : VK} (h : POST T E μ H (r.bind k) Q) : POST T E μ H r (MidG T (RV T.toTb) (RV T.toTb) E μ H k Q) := PST.bind h

/-- the frame's slots -/
inductive REnv (T : Tb) (μ : Mu) (H : Hp) : DEnv → L2.St → Prop
  | nil : REnv T μ H [] []
  | some {d : DV} {v : V} {ds : DEnv} {vs : L2.St} (h : RV T μ H d v) (t : REnv T μ H ds vs) : REnv T μ H (Option.some d :: ds) (Option.some v :: vs)
  | none {o : Option V} {ds : DEnv} {vs : L2.St} (t : REnv T μ H ds vs) : REnv T μ H (Option.none :: ds) (o :: vs)
section
variable {μ μ' : Mu} {H H' : Hp} {T : Tb}
theorem REnv.ext (e : Ext μ H μ' H') : ∀ {ds : DEnv} {vs : L2.St}, REnv T μ H ds vs → REnv T μ' H' ds vs
  | _, _, .nil => .nil
  | _, _, .some h t => .some (h.ext e) (REnv.ext e t)
  | _, _, .none t => .none (REnv.ext e t)
theorem REnv.get : ∀ {ds : DEnv} {vs : L2.St} {i : Nat} {d : DV}, REnv T μ H ds vs → ds[i]? = Option.some (Option.some d) → ∃ v, vs[i]? = Option.some (Option.some v) ∧ RV T μ H d v
  | _, _, _, _, .nil, e => by simp at e
  | _, _, 0, _, .some h _, e => by simp at e; subst e; exact ⟨_, rfl, h⟩
  | _, _, 0, _, .none _, e => by simp at e
  | _, _, i + 1, d, .some _ t, e => by
    obtain ⟨v, h1, h2⟩ := REnv.get (i := i) (d := d) t (by simpa using e)
    exact ⟨v, by simpa using h1, h2⟩
  | _, _, i + 1, d, .none t, e => by
    obtain ⟨v, h1, h2⟩ := REnv.get (i := i) (d := d) t (by simpa using e)
    exact ⟨v, by simpa using h1, h2⟩
theorem REnv.set {d : DV} {v : V} (h : RV T μ H d v) : ∀ {ds : DEnv} {vs : L2.St} (i : Nat), REnv T μ H ds vs → REnv T μ H (ds.set i (Option.some d)) (vs.set i (Option.some v))
  | _, _, _, .nil => .nil
  | _, _, 0, .some _ t => .some h t
  | _, _, 0, .none t => .some h t
  | _, _, i + 1, .some q t => .some q (REnv.set h i t)
  | _, _, i + 1, .none t => .none (REnv.set h i t)
theorem REnv.clear {o : Option V} : ∀ {ds : DEnv} {vs : L2.St} (i : Nat), REnv T μ H ds vs → REnv T μ H (ds.set i Option.none) (vs.set i o)
  | _, _, _, .nil => .nil
  | _, _, 0, .some _ t => .none t
  | _, _, 0, .none t => .none t
  | _, _, i + 1, .some q t => .some q (REnv.clear i t)
  | _, _, i + 1, .none t => .none (REnv.clear i t)
theorem REnv.length : ∀ {ds : DEnv} {vs : L2.St}, REnv T μ H ds vs → ds.length = vs.length
  | _, _, .nil => rfl
  | _, _, .some _ t => congrArg (· + 1) (REnv.length t)
  | _, _, .none t => congrArg (· + 1) (REnv.length t)
end

def spOf (T : Tx) (f : List DV → Store → R DV) : Sp := fun vs H Q E => ∃ μ st args, RVs T.toTb μ H args vs ∧ RSt T.toTb μ H st ∧ POST T E μ H (f args st) Q
/-- FnR, with no repr around -/
def FnG (P : Program) (w : World) (K : PySem.W.Frag) (mg : Str → Option Value) (base : Heap) (k : Nat) (f : Addr) (sp : Sp) : Prop :=
  ∀ (A : Around) (outer : List Env) (s : Shared) (H : Hp) (us : List Value) (vs : List V) (Q : VK) (E : XK), Room (k + 3) A → A.guards = some [] → Env0 P w K mg base A outer s H → Vals vs us → sp vs H Q E →
    codeAny (model P w) A (.call (.ref f) ⟨us, []⟩) (CR (L2.CX P w) outer P w H s Q E) s

/-- at it an iterator over the tuple at t, at its start -/
def TItO (t it : Addr) : HO := .ext fun h => h.IsTupleIter it t 0
/-- a def that hands the tuple self.f, f at place i, to a built-in -/
def FnB (P : Program) (w : World) (K : PySem.W.Frag) (mg : Str → Option Value) (base : Heap) (f C : Addr) (i : Nat) (R : Addr → List V → Shared → Hp → VK) : Prop :=
  ∀ (A : Around) (outer : List Env) (s : Shared) (H : Hp) (a dx t : Addr) (sl : List (Option V)) (xs : List V), Room 0 A → A.guards = some [] → Env0 P w K mg base A outer s H → SlX.Slt H a C dx sl → sl[i]? = some (some (.ref t)) → SqT K H t xs →
    codeAny (model P w) A (.call (.ref f) ⟨[.ref a], []⟩) (CR (L2.CX P w) outer P w H s (R t xs s H) fun _ _ _ => False) s
abbrev RIt : Addr → List V → Shared → Hp → VK := fun t _ s H v H' => ∃ it, v = .ref it ∧ H it = none ∧ s.heap.objs.size ≤ it ∧ H' = upd H it (TItO t it)
abbrev RLn : Addr → List V → Shared → Hp → VK := fun _ xs _ H v H' => v = .int xs.length ∧ H' = H
/-- the class at C iterates over its slot i, and is as long as it -/
def Itb (P : Program) (w : World) (K : PySem.W.Frag) (mg : Str → Option Value) (base : Heap) (C : Addr) (i : Nat) : Prop :=
  ∃ f g, PySem.W.findIn K (.ref C) "__iter__" = some (some (.ref f)) ∧ PySem.W.isFn K (.ref f) = true ∧ FnB P w K mg base f C i RIt ∧ PySem.W.findIn K (.ref C) "__len__" = some (some (.ref g)) ∧ PySem.W.isFn K (.ref g) = true ∧ FnB P w K mg base g C i RLn
/-- an exception of the class at C is made: with a field, or without -/
def rMk (C : Addr) (b : Bool) (f : Str) : List V → Hp → XK → Prop := fun xs H Q => if b = true then ∃ v, xs = [v] ∧ ∀ d, H d = none → Q (.ref C) (some d) (upd H d (.xd [(f, v)])) else xs.length ≤ 1000 ∧ Q (.ref C) none H
def MkOk (P : Program) (w : World) (K : PySem.W.Frag) (mg : Str → Option Value) (base : Heap) (C : Addr) (b : Bool) (f : Str) : Prop :=
  ∀ (X : Cx) (pins : List (Addr × Obj)) (s : Shared) (σ : L2.St) (H : Hp) (xs : List V) (us : List Value) (Q : XK), X.prog = P → X.w = w → X.K = K → X.mg = mg → X.base = base → X.calm = true → Room 3 X.A → X.A.guards = some [] → Inv X pins σ H s → Vals xs us → rMk C b f xs H Q →
    wpAny (model X.prog X.w) X.A (call (.ref C) us) (MkP X pins σ Q) X.xe s
/-- where an expression is read: n the level of the functions that may be called; W: what is wanted of exceptions -/
structure GX (T : Tx) (F : FTs) (n : Nat) (N : List Str) (sc : Scope) (fn : Str → Bool) (W : WX) (X : Cx) : Prop where
  tx : TxOk T X.mg
  hK : X.K = T.K
  calm : X.calm = true
  hN : X.N = N
  nd : N.Nodup
  hsc : X.env.scope = sc
  hfn : ∀ x, fn x = true → X.fn x = true
  room : Room (n + 3) X.A
  grd : X.A.guards = some []
  takes : Takes X W
  pass : PassesOwn (model X.prog X.w) X.A X.env X.xe
  fa : ∀ k, FnG X.prog X.w X.K X.mg X.base n (T.fa k) (spOf T (F.a k))
  fb : ∀ m, n = m + 1 → ∀ k, FnG X.prog X.w X.K X.mg X.base m (T.fa k) (spOf T (F.b k))
  fb0 : n = 0 → ∀ k xs st, F.b k xs st = .no
  fc0 : n ≤ 1 → ∀ k xs st, F.c k xs st = .no
  itr : ∀ c i, T.itr c = some i → Itb X.prog X.w X.K X.mg X.base (T.ca c) i
  exn : ∀ c b, T.exn c = some b → MkOk X.prog X.w X.K X.mg X.base (T.ca c) b (T.xf c) ∧ PySem.W.keepIn X.K (.ref (T.ca c)) = true
  top : (∀ x, fn x = true) → X.stack = X.env :: X.outer ∧ X.env.frame = some X.env.locals
  fc : ∀ m, n = m + 2 → ∀ k, FnG X.prog X.w X.K X.mg X.base m (T.fa k) (spOf T (F.c k))

/-- an expression's meaning -/
abbrev EF := FTs → DEnv → Store → R DV
/-- the wish about exceptions, at the slots of the frame -/
abbrev atS (W : WX) (σ : L2.St) : XK := fun cls d H => W cls d σ H
/-- the reading of an expression -/
def tE (T : Tx) (F : FTs) (W : WX) (f : EF) : TE := fun σ H Q => ∃ μ env st, REnv T.toTb μ H env σ ∧ RSt T.toTb μ H st ∧ POST T (atS W σ) μ H (f F env st) Q
theorem PE.imp {X : Cx} {e : Expr} {t t' : TE} (h : PE X e t) (k : ∀ σ H Q, t' σ H Q → t σ H Q) : PE X e t' := ⟨fun pins s σ H Q I q => h.run pins s σ H Q I (k _ _ _ q)⟩
theorem PT.imp {X : Cx} {e : Expr} {t t' : TT} (h : PT X e t) (k : ∀ σ H Q, t' σ H Q → t σ H Q) : PT X e t' := ⟨fun pins s σ H Q I q => h.run pins s σ H Q I (k _ _ _ q)⟩
theorem PW.imp {X : Cx} {e : Expr} {t t' : TT} (h : PW X e t) (k : ∀ σ H Q, t' σ H Q → t σ H Q) : PW X e t' := ⟨fun wh pins s σ H Q I q => h.run wh pins s σ H Q I (k _ _ _ q)⟩
theorem PA.imp {X : Cx} {e : List Expr} {t t' : TA} (h : PA X e t) (k : ∀ σ H Q, t' σ H Q → t σ H Q) : PA X e t' := ⟨fun p pins s σ H Q I q => h.run p pins s σ H Q I (k _ _ _ q)⟩
theorem PS.imp {X : Cx} {e : Stmt} {t t' : TS} (h : PS X e t) (k : ∀ D σ H, t' D σ H → t D σ H) : PS X e t' := ⟨fun pins s σ H D I q => h.run pins s σ H D I (k _ _ _ q)⟩
theorem PSs.imp {X : Cx} {e : List Stmt} {t t' : TS} (h : PSs X e t) (k : ∀ D σ H, t' D σ H → t D σ H) : PSs X e t' := ⟨fun pins s σ H D I q => h.run pins s σ H D I (k _ _ _ q)⟩

/-- the meaning f is that of e, wherever it is read -/
def EOk (T : Tx) (N : List Str) (sc : Scope) (fn : Str → Bool) (e : Expr) (f : EF) : Prop := ∀ F n W X, GX T F n N sc fn W X → PE X e (tE T F W f)

def cVar (i : Nat) : EF := fun _ env st => match env[i]? with
  | some (some d) => .ok d st
  | _ => .no
def cCon (d : D) : EF := fun _ _ st => .ok (.d d) st
section
variable {N : List Str} {sc : Scope} {fn : Str → Bool} {pos : Pos}
def visB (sc : Scope) (x : Str) : Bool := match sc.names.lookup x with
  | some .local => true
  | some .cell => true
  | some .free => true
  | _ => false
theorem vis_of {sc : Scope} {x : Str} (h : visB sc x = true) : Vis sc x := by
  unfold visB at h
  unfold Vis
  split at h
  · rename_i e; exact .inl e
  · rename_i e; exact .inr (.inl e)
  · rename_i e; exact .inr (.inr e)
  · cases h
theorem ok_var {i : Nat} {x : Str} (hN : N[i]? = some x) (hv : visB sc x = true) (hd : (x == ("__debug__" : Str)) = false) (hcd : (x == ("__classdict__" : Str)) = false) : EOk T N sc fn (.Name x pos) (cVar i) := by
  intro F n W X g
  refine PE.imp (pe_var (X := X) (i := i) (by rw [g.hN]; exact hN) (by rw [g.hsc]; exact vis_of hv) hd hcd) fun σ H Q ⟨μ, env, st, re, rs, h⟩ => ?_
  unfold cVar at h
  split at h
  · rename_i d e
    obtain ⟨v, h1, h2⟩ := re.get e
    exact ⟨v, h1, h.done rs h2⟩
  · exact h.elim
theorem ok_int {i j} : EOk T N sc fn (.Constant (.int i) j pos) (cCon (.int i)) := fun F n W X g => PE.imp pe_int fun σ H Q ⟨μ, env, st, re, rs, h⟩ => h.done rs (.d (.int i))
theorem ok_bl {i j} : EOk T N sc fn (.Constant (.bool i) j pos) (cCon (.bl i)) := fun F n W X g => PE.imp pe_bl fun σ H Q ⟨μ, env, st, re, rs, h⟩ => h.done rs (.d (.bl i))
theorem ok_non {j} : EOk T N sc fn (.Constant .none j pos) (cCon .non) := fun F n W X g => PE.imp pe_non fun σ H Q ⟨μ, env, st, re, rs, h⟩ => h.done rs (.d .non)
theorem ok_str {i j} : EOk T N sc fn (.Constant (.str i) j pos) (cCon (.str i)) := fun F n W X g => PE.imp pe_str fun σ H Q ⟨μ, env, st, re, rs, h⟩ => h.done rs (.d (.str i))
end

/-- what a rule upon two values does -/
abbrev G2 := FTs → DV → DV → Store → R DV
def OpOk (T : Tx) (F : FTs) (W : WX) (X : Cx) (f : Value → Value → Sem Value) (g : G2) : Prop :=
  ∀ (pins : List (Addr × Obj)) (s : Shared) (σ : L2.St) (H : Hp) (μ : Mu) (st : Store) (a b : DV) (x y : V) (v u : Value) (Q : VK), Inv X pins σ H s → RSt T.toTb μ H st → RV T.toTb μ H a x → RV T.toTb μ H b y → RelV x v → RelV y u →
    POST T (atS W σ) μ H (g F a b st) Q → wpAny (model X.prog X.w) X.A (f v u) (EP X pins σ Q) X.xe s
def c2 (g : G2) (a b : EF) : EF := fun F env st => (a F env st).bind fun x st => (b F env st).bind fun y st => g F x y st
theorem tE2 {F : FTs} {W : WX} {g : G2} {fa fb : EF} {σ : L2.St} {H : Hp} {Q : VK} {R : V → V → Hp → Prop} (h : tE T F W (c2 g fa fb) σ H Q)
    (k : ∀ μ st a b x y H2, RSt T.toTb μ H2 st → RV T.toTb μ H2 a x → RV T.toTb μ H2 b y → POST T (atS W σ) μ H2 (g F a b st) Q → R x y H2) :
    tE T F W fa σ H fun x H1 => tE T F W fb σ H1 fun y H2 => R x y H2 := by
  obtain ⟨μ, env, st, re, rs, h⟩ := h
  refine ⟨μ, env, st, re, rs, POST.mono (POST.bind h) fun x H1 ⟨μ1, a, st1, e1, rs1, ra, h1⟩ => ?_⟩
  refine ⟨μ1, env, st1, re.ext e1, rs1, POST.mono (POST.bind h1) fun y H2 ⟨μ2, b, st2, e2, rs2, rb, h2⟩ => ?_⟩
  exact k μ2 st2 a b x y H2 rs2 (ra.ext e2) rb h2
section
variable {N : List Str} {sc : Scope} {fn : Str → Bool} {pos : Pos}
theorem ok_bin {a b : Expr} {op : Operator} {g : G2} {fa fb : EF} (ho : ∀ F n W X, GX T F n N sc fn W X → OpOk T F W X (binaryOp op) g) (ha : EOk T N sc fn a fa) (hb : EOk T N sc fn b fb) : EOk T N sc fn (.BinOp a op b pos) (c2 g fa fb) := by
  intro F n W X gx
  refine ⟨fun pins s σ H Q I h => ?_⟩
  refine wpAny_BinOp (bin (R := fun x y H2 => ∃ μ st a b, RSt T.toTb μ H2 st ∧ RV T.toTb μ H2 a x ∧ RV T.toTb μ H2 b y ∧ POST T (atS W σ) μ H2 (g F a b st) Q) (ha F n W X gx) (hb F n W X gx) I (tE2 h fun μ st a b x y H2 q1 q2 q3 q4 => ⟨μ, st, a, b, q1, q2, q3, q4⟩) fun v u s2 x y H2 I2 rx ry q => ?_)
  obtain ⟨μ, st, a, b, q1, q2, q3, q4⟩ := q
  exact ho F n W X gx pins s2 σ H2 μ st a b x y v u Q I2 q1 q2 q3 rx ry q4
theorem ok_cmp {a b : Expr} {op : CmpOp} {g : G2} {fa fb : EF} (ho : ∀ F n W X, GX T F n N sc fn W X → OpOk T F W X (compareOp op) g) (ha : EOk T N sc fn a fa) (hb : EOk T N sc fn b fb) (hm : behindInMarks op b = false) : EOk T N sc fn (.Compare a [op] [b] pos) (c2 g fa fb) := by
  intro F n W X gx
  refine ⟨fun pins s σ H Q I h => ?_⟩
  refine wpAny_Compare1 (bin (R := fun x y H2 => ∃ μ st a b, RSt T.toTb μ H2 st ∧ RV T.toTb μ H2 a x ∧ RV T.toTb μ H2 b y ∧ POST T (atS W σ) μ H2 (g F a b st) Q) (ha F n W X gx) (hb F n W X gx) I (tE2 h fun μ st a b x y H2 q1 q2 q3 q4 => ⟨μ, st, a, b, q1, q2, q3, q4⟩) fun v u s2 x y H2 I2 rx ry q => ?_) hm
  obtain ⟨μ, st, a, b, q1, q2, q3, q4⟩ := q
  exact ho F n W X gx pins s2 σ H2 μ st a b x y v u Q I2 q1 q2 q3 rx ry q4
end
end PyI
namespace PyI
open PySem PySem.Spec PyProof.Rows L2

/-- a list in the store, as data -/
def viewD (st : Store) : DV → Option D
  | .d x => some x
  | .loc n => match st[n]? with
    | some (.lst l) => some (.lst l)
    | _ => none
def lstL (st : Store) (d : DV) : Option (List D) := match viewD st d with
  | some (.lst l) => some l
  | _ => none
def seqL (st : Store) (d : DV) : Option (List D) := match viewD st d with
  | some (.lst l) => some l
  | some (.scr l) => some l
  | _ => none
section
variable {T : Tx} {μ : Mu} {H : Hp} {st : Store}
theorem TupAt.sq {T : Tb} {a : Addr} {xs : List V} (h : TupAt T.K μ H a xs) : SqT T.K H a xs := by
  rcases h with h | h
  · exact .inl (.inl h.1)
  · exact .inr h
theorem ScrAt.sq {K : PySem.W.Frag} {a : Addr} {xs : List V} (h : ScrAt K μ H a xs) : SqL K H a xs := by
  rcases h with h | ⟨o, h⟩ | h
  · exact .inl (.inl h.1)
  · exact .inl (.inr ⟨o, h.1⟩)
  · exact .inr h
/-- a list, tracked -/
theorem lstL_at {d : DV} {v : V} {l : List D} (rs : RSt T.toTb μ H st) (r : RV T.toTb μ H d v) (h : lstL st d = some l) : ∃ a xs, v = .ref a ∧ H a = some (.lst xs) ∧ RDs T.toTb μ H l xs := by
  unfold lstL viewD at h
  cases r with
  | @d x v r =>
    cases r <;> simp only [reduceCtorEq] at h
    rename_i ds a xs h2 h1
    cases h
    exact ⟨_, _, rfl, h2.1, h1⟩
  | @loc n v hn r =>
    have hn' : n < st.length := by rw [← rs.len]; exact hn
    obtain ⟨o, e, s⟩ := rs.at_ n st[n] (by simp [hn'])
    have e1 : st[n]? = some st[n] := by simp [hn']
    simp only [e1] at h
    cases hs : st[n] with
    | dead => rw [hs] at h; simp at h
    | obj c f => rw [hs] at h; simp at h
    | lst ds =>
      rw [hs] at h s
      simp only [Option.some.injEq] at h
      subst h
      obtain ⟨a, xs, e2, e3, e4⟩ := s
      rw [e2] at e
      exact ⟨a, xs, r _ e, e3, e4⟩
theorem seqL_sq {d : DV} {v : V} {l : List D} {K : PySem.W.Frag} (hK : K = T.K) (rs : RSt T.toTb μ H st) (r : RV T.toTb μ H d v) (h : seqL st d = some l) : ∃ a xs, v = .ref a ∧ SqL K H a xs ∧ RDs T.toTb μ H l xs := by
  cases e : lstL st d with
  | some l' =>
    have : l' = l := by
      unfold lstL at e
      unfold seqL at h
      split at e
      · rename_i q
        rw [q] at h
        cases h
        cases e
        rfl
      · cases e
    subst this
    obtain ⟨a, xs, e1, e2, e3⟩ := lstL_at rs r e
    exact ⟨a, xs, e1, .inl (.inl e2), e3⟩
  | none =>
    unfold lstL at e
    unfold seqL at h
    split at h
    · rename_i q
      rw [q] at e
      cases e
    · rename_i m q
      cases h
      cases r with
      | @d x v r =>
        cases q
        cases r with
        | scr h1 h2 => exact ⟨_, _, rfl, by rw [hK]; exact h1.sq, h2⟩
      | @loc n v hn r =>
        exfalso
        cases e3 : st[n]? with
        | none => simp [viewD, e3] at q
        | some so => cases so <;> simp [viewD, e3] at q
    · cases h
/-- a new object -/
theorem Ext.new {p : Addr} {o : HO} (h : H p = none) : Ext μ H μ (upd H p o) :=
  ⟨fun a u q => ⟨by rw [upd_ne (ne_of_none q.1 h)]; exact q.1, q.2⟩, Nat.le_refl _, fun _ _ _ e => e⟩
theorem RSl.keepAll {T : Tb} {μ μ' : Mu} {H H' : Hp} (e : Ext μ H μ' H') {ds : List (Option D)} {vs : List (Option V)} (h : RSl T μ H ds vs) : RSl T μ' H' ds vs := RSl.ext e h
theorem RSt.new {p : Addr} {o : HO} (rs : RSt T.toTb μ H st) (h : H p = none) : RSt T.toTb μ (upd H p o) st := by
  refine ⟨rs.len, fun n so hn => ?_, rs.apart⟩
  obtain ⟨ob, e, s⟩ := rs.at_ n so hn
  refine ⟨ob, e, ?_⟩
  cases so with
  | dead => exact s
  | lst ds =>
    obtain ⟨a, xs, e1, e2, e3⟩ := s
    exact ⟨a, xs, e1, by rw [upd_ne (ne_of_none e2 h)]; exact e2, RDs.ext (Ext.new h) e3⟩
  | obj c fs =>
    obtain ⟨a, dx, vs, e1, e2, e3, ⟨u, e4⟩, e5⟩ := s
    have ne : dx ≠ p := ne_of_none e4 h
    refine ⟨a, dx, vs, e1, e2, ?_, ⟨u, by rw [upd_ne ne]; exact e4⟩, RSl.ext (Ext.new h) e5⟩
    rcases e3 with ⟨q1, q2⟩ | ⟨q1, q2⟩
    · exact .inl ⟨by rw [upd_ne (ne_of_none q1 h)]; exact q1, q2⟩
    · exact .inr ⟨by rw [upd_ne (ne_of_none q1 h)]; exact q1, by rw [upd_ne ne]; exact q2⟩
theorem not_has {p : Addr} (rs : RSt T.toTb μ H st) (h : H p = none) : ¬ μ.has p := fun q => by
  obtain ⟨o, e⟩ := rs.there q
  rw [h] at e; cases e
/-- a new tuple, a new frozen list -/
theorem new_tup {p : Addr} {l : List D} {xs : List V} (rs : RSt T.toTb μ H st) (h : H p = none) (r : RDs T.toTb μ H l xs) : RD T.toTb μ (upd H p (.tup xs)) (.tup l) (.ref p) :=
  .tup (.inl ⟨upd_same, not_has rs h⟩) (RDs.ext (Ext.new h) r)
theorem new_lst {p : Addr} {l : List D} {xs : List V} (rs : RSt T.toTb μ H st) (h : H p = none) (r : RDs T.toTb μ H l xs) : RD T.toTb μ (upd H p (.lst xs)) (.lst l) (.ref p) :=
  .lst ⟨upd_same, not_has rs h⟩ (RDs.ext (Ext.new h) r)
/-- an answer that is new -/
theorem POST.newTup {E : XK} {l : List D} {Q : VK} {xs : List V} (h : POST T E μ H (.ok (.d (.tup l)) st) Q) (rs : RSt T.toTb μ H st) (r : RDs T.toTb μ H l xs) : ∀ p, H p = none → Q (.ref p) (upd H p (.tup xs)) :=
  fun p hp => h μ _ _ (Ext.new hp) (rs.new hp) (.d (new_tup rs hp r))
theorem POST.newLst {E : XK} {l : List D} {Q : VK} {xs : List V} (h : POST T E μ H (.ok (.d (.lst l)) st) Q) (rs : RSt T.toTb μ H st) (r : RDs T.toTb μ H l xs) : ∀ p, H p = none → Q (.ref p) (upd H p (.lst xs)) :=
  fun p hp => h μ _ _ (Ext.new hp) (rs.new hp) (.d (new_lst rs hp r))
end

abbrev R.d (x : D) (st : Store) : R DV := .ok (.d x) st
def line : Nat := 16777216
theorem line_eq : line = sizeLine := by rw [sizeLine_eq]; rfl
def addG : G2 := fun _ a b st => match a, b with
  | .d (.int i), .d (.int j) => .d (.int (i + j)) st
  | .d (.str i), .d (.str j) => if i.length + j.length ≤ line then .d (.str (i ++ j)) st else .no
  | .d (.tup l), .d (.tup m) => if l.length + m.length ≤ line then .d (.tup (l ++ m)) st else .no
  | a, b => match lstL st a, lstL st b with
    | some l, some m => if l.length + m.length ≤ line then .d (.lst (l ++ m)) st else .no
    | _, _ => .no
def subG : G2 := fun _ a b st => match a, b with
  | .d (.int i), .d (.int j) => .d (.int (i - j)) st
  | _, _ => .no
def mulI (i j : Int) : Bool := decide (i.natAbs.log2 + j.natAbs.log2 < 1000000)
def rep (k : Nat) (l : List D) : List D := (List.replicate k l).flatten
def mulG : G2 := fun _ a b st => match a, b with
  | .d (.int i), .d (.int j) => if mulI i j then .d (.int (i * j)) st else .no
  | .d (.tup l), .d (.int k) => if k ≤ 1000 then (if -1000 ≤ k then (if l.length ≤ 1000 then .d (.tup (rep k.toNat l)) st else .no) else .no) else .no
  | a, .d (.int k) => match lstL st a with
    | some l => if k < 9223372036854775808 then (if -9223372036854775808 ≤ k then (if l.length * k.toNat ≤ line then .d (.lst (rep k.toNat l)) st else .no) else .no) else .no
    | none => .no
  | _, _ => .no
def fdivG : G2 := fun _ a b st => match a, b with
  | .d (.int i), .d (.int j) => if 0 < j then (if j.natAbs.log2 < 9000 then .d (.int (i / j)) st else .no) else .no
  | _, _ => .no
def modG : G2 := fun _ a b st => match a, b with
  | .d (.int i), .d (.int j) => if 0 < j then .d (.int (i % j)) st else if j = 0 then .no else .d (.int (i.fmod j)) st
  | _, _ => .no
def powG : G2 := fun _ a b st => match a, b with
  | .d (.int i), .d (.int j) => if 0 ≤ j then (if j ≤ 1000000 then (if i.natAbs < 18446744073709551616 then .d (.int (i ^ j.toNat)) st else .no) else .no) else .no
  | _, _ => .no
section
variable {T : Tx} {N : List Str} {sc : Scope} {fn : Str → Bool} {F : FTs} {n : Nat} {W : WX} {X : Cx}
theorem rd_int {μ : Mu} {H : Hp} {i : Int} {v : V} (r : RV T.toTb μ H (.d (.int i)) v) : v = .int i := by
  cases r with | d r => cases r; rfl
theorem rd_bl {μ : Mu} {H : Hp} {i : Bool} {v : V} (r : RV T.toTb μ H (.d (.bl i)) v) : v = .bl i := by
  cases r with | d r => cases r; rfl
theorem rd_str {μ : Mu} {H : Hp} {i : Str} {v : V} (r : RV T.toTb μ H (.d (.str i)) v) : v = .str i := by
  cases r with | d r => cases r; rfl
theorem rd_non {μ : Mu} {H : Hp} {v : V} (r : RV T.toTb μ H (.d .non) v) : v = .non := by
  cases r with | d r => cases r; rfl
theorem rd_tup {μ : Mu} {H : Hp} {l : List D} {v : V} (r : RV T.toTb μ H (.d (.tup l)) v) : ∃ a xs, v = .ref a ∧ TupAt T.K μ H a xs ∧ RDs T.toTb μ H l xs := by
  cases r with | d r => cases r with | tup h r => exact ⟨_, _, rfl, h, r⟩
theorem rds_rep {T : Tb} {μ : Mu} {H : Hp} {l : List D} {xs : List V} (r : RDs T μ H l xs) : ∀ k, RDs T μ H (rep k l) (List.replicate k xs).flatten
  | 0 => .nil
  | k + 1 => by
    unfold rep
    rw [List.replicate_succ, List.replicate_succ, List.flatten_cons, List.flatten_cons]
    exact r.append (rds_rep r k)
theorem opok_add (g : GX T F n N sc fn W X) : OpOk T F W X (binaryOp .Add) addG := by
  intro pins s σ H μ st a b x y v u Q I rs ra rb rx ry h
  unfold addG at h
  split at h
  · cases rd_int ra; cases rd_int rb
    exact op_add pins s σ H _ _ v u Q I rx ry ⟨_, _, rfl, rfl, h.done rs (.d (.int _))⟩
  · split at h
    · rename_i i j c
      cases rd_str ra; cases rd_str rb
      exact op_add_str pins s σ H _ _ v u Q I rx ry ⟨_, _, rfl, rfl, by rw [← line_eq]; exact c, h.done rs (.d (.str _))⟩
    · exact h.elim
  · split at h
    · rename_i l m c
      obtain ⟨p, xs, rfl, hp, rp⟩ := rd_tup ra
      obtain ⟨q, ys, rfl, hq, rq⟩ := rd_tup rb
      have kK := g.hK
      have hp' : SqT X.K H p xs := by rw [kK]; exact hp.sq
      have hq' : SqT X.K H q ys := by rw [kK]; exact hq.sq
      refine op_catA pins s σ H _ _ v u Q I rx ry ⟨p, q, xs, ys, rfl, rfl, hp', hq', by rw [← line_eq, ← rp.length, ← rq.length]; exact c, fun e => ?_, fun _ e => ?_, fun _ _ => ?_⟩
      · subst e
        cases rp
        exact h.done rs (.d (.tup hq rq))
      · subst e
        cases rq
        rw [List.append_nil] at h
        exact h.done rs (.d (.tup hp rp))
      · exact h.newTup rs (rp.append rq)
    · exact h.elim
  · split at h
    · rename_i l m e1 e2
      split at h
      · rename_i c
        obtain ⟨p, xs, rfl, hp, rp⟩ := lstL_at rs ra e1
        obtain ⟨q, ys, rfl, hq, rq⟩ := lstL_at rs rb e2
        exact op_cat pins s σ H _ _ v u Q I rx ry ⟨p, q, xs, ys, rfl, rfl, hp, hq, by rw [← line_eq, ← rp.length, ← rq.length]; exact c, POST.newLst h rs (rp.append rq)⟩
      · exact h.elim
    · exact h.elim
theorem opok_sub (g : GX T F n N sc fn W X) : OpOk T F W X (binaryOp .Sub) subG := by
  intro pins s σ H μ st a b x y v u Q I rs ra rb rx ry h
  unfold subG at h
  split at h
  · cases rd_int ra; cases rd_int rb
    exact op_sub pins s σ H _ _ v u Q I rx ry ⟨_, _, rfl, rfl, h.done rs (.d (.int _))⟩
  · exact h.elim
theorem opok_mul (g : GX T F n N sc fn W X) : OpOk T F W X (binaryOp .Mult) mulG := by
  intro pins s σ H μ st a b x y v u Q I rs ra rb rx ry h
  unfold mulG at h
  split at h
  · split at h
    · rename_i i j c
      cases rd_int ra; cases rd_int rb
      exact op_mulW pins s σ H _ _ v u Q I rx ry ⟨_, _, rfl, rfl, (of_decide_eq_true (p := i.natAbs.log2 + j.natAbs.log2 < 1000000) c), h.done rs (.d (.int _))⟩
    · exact h.elim
  · split at h
    · rename_i l k c1
      split at h
      · rename_i c2
        split at h
        · rename_i c3
          obtain ⟨p, xs, rfl, hp, rp⟩ := rd_tup ra
          cases rd_int rb
          refine op_repA pins s σ H _ _ v u Q I rx ry ⟨p, _, xs, rfl, rfl, by rw [g.hK]; exact hp.sq, c2, c1, by rw [← rp.length]; exact c3, fun e => ?_, fun _ _ => POST.newTup h rs (rds_rep rp _)⟩
          have e2 : rep k.toNat l = l := by
            rcases e with e | e
            · have : l = [] := by
                have q := rp.length
                rw [e] at q
                exact List.eq_nil_of_length_eq_zero q
              rw [this]
              unfold rep
              simp
            · rw [e]
              unfold rep
              simp
          rw [e2] at h
          exact h.done rs (.d (.tup hp rp))
        · exact h.elim
      · exact h.elim
    · exact h.elim
  · split at h
    · rename_i k _ l e1
      split at h
      · rename_i c1
        split at h
        · rename_i c2
          split at h
          · rename_i c3
            obtain ⟨p, xs, rfl, hp, rp⟩ := lstL_at rs ra e1
            cases rd_int rb
            exact op_rep pins s σ H _ _ v u Q I rx ry ⟨p, _, xs, rfl, rfl, hp, c2, c1, by rw [← line_eq, ← rp.length]; exact c3, POST.newLst h rs (rds_rep rp _)⟩
          · exact h.elim
        · exact h.elim
      · exact h.elim
    · exact h.elim
  · exact h.elim
theorem opok_fdiv (g : GX T F n N sc fn W X) : OpOk T F W X (binaryOp .FloorDiv) fdivG := by
  intro pins s σ H μ st a b x y v u Q I rs ra rb rx ry h
  unfold fdivG at h
  split at h
  · split at h
    · split at h
      · rename_i i j c1 c2
        cases rd_int ra; cases rd_int rb
        exact op_fdivW pins s σ H _ _ v u Q I rx ry ⟨_, _, rfl, rfl, ⟨c1, c2⟩, h.done rs (.d (.int _))⟩
      · exact h.elim
    · exact h.elim
  · exact h.elim
theorem opok_mod (g : GX T F n N sc fn W X) : OpOk T F W X (binaryOp .Mod) modG := by
  intro pins s σ H μ st a b x y v u Q I rs ra rb rx ry h
  unfold modG at h
  split at h
  · split at h
    · rename_i i j c1
      cases rd_int ra; cases rd_int rb
      exact op_mod pins s σ H _ _ v u Q I rx ry ⟨_, _, rfl, rfl, c1, h.done rs (.d (.int _))⟩
    · split at h
      · exact h.elim
      · rename_i i j c1 c2
        cases rd_int ra; cases rd_int rb
        exact op_modN pins s σ H _ _ v u Q I rx ry ⟨_, _, rfl, rfl, c2, h.done rs (.d (.int _))⟩
  · exact h.elim
theorem opok_pow (g : GX T F n N sc fn W X) : OpOk T F W X (binaryOp .Pow) powG := by
  intro pins s σ H μ st a b x y v u Q I rs ra rb rx ry h
  unfold powG at h
  split at h
  · split at h
    · split at h
      · split at h
        · rename_i i j c1 c2 c3
          cases rd_int ra; cases rd_int rb
          exact op_pow pins s σ H _ _ v u Q I rx ry ⟨_, _, rfl, rfl, ⟨c1, c2, c3⟩, h.done rs (.d (.int _))⟩
        · exact h.elim
      · exact h.elim
    · exact h.elim
  · exact h.elim

def cmpI (p : Int → Int → Bool) : G2 := fun _ a b st => match a, b with
  | .d (.int i), .d (.int j) => .d (.bl (p i j)) st
  | _, _ => .no
theorem opok_lt (g : GX T F n N sc fn W X) : OpOk T F W X (compareOp .Lt) (cmpI fun i j => decide (i < j)) := by
  intro pins s σ H μ st a b x y v u Q I rs ra rb rx ry h
  unfold cmpI at h
  split at h
  · cases rd_int ra; cases rd_int rb
    exact op_lt pins s σ H _ _ v u Q I rx ry ⟨_, _, rfl, rfl, h.done rs (.d (.bl _))⟩
  · exact h.elim
theorem opok_le (g : GX T F n N sc fn W X) : OpOk T F W X (compareOp .LtE) (cmpI fun i j => decide (i ≤ j)) := by
  intro pins s σ H μ st a b x y v u Q I rs ra rb rx ry h
  unfold cmpI at h
  split at h
  · cases rd_int ra; cases rd_int rb
    exact op_le pins s σ H _ _ v u Q I rx ry ⟨_, _, rfl, rfl, h.done rs (.d (.bl _))⟩
  · exact h.elim
theorem opok_gt (g : GX T F n N sc fn W X) : OpOk T F W X (compareOp .Gt) (cmpI fun i j => decide (j < i)) := by
  intro pins s σ H μ st a b x y v u Q I rs ra rb rx ry h
  unfold cmpI at h
  split at h
  · cases rd_int ra; cases rd_int rb
    exact op_gt pins s σ H _ _ v u Q I rx ry ⟨_, _, rfl, rfl, h.done rs (.d (.bl _))⟩
  · exact h.elim
theorem opok_ge (g : GX T F n N sc fn W X) : OpOk T F W X (compareOp .GtE) (cmpI fun i j => decide (j ≤ i)) := by
  intro pins s σ H μ st a b x y v u Q I rs ra rb rx ry h
  unfold cmpI at h
  split at h
  · cases rd_int ra; cases rd_int rb
    exact op_ge pins s σ H _ _ v u Q I rx ry ⟨_, _, rfl, rfl, h.done rs (.d (.bl _))⟩
  · exact h.elim

mutual
def pyd : Nat → D → Option PyData
  | _, .non => some .none
  | _, .bl b => some (.bool b)
  | _, .int i => some (.int i)
  | _, .str x => if PyData.strOk x then some (.str x) else none
  | n + 1, .tup l => (pyds n l).map .tuple
  | n + 1, .lst l => (pyds n l).map .list
  | _, _ => none
def pyds : Nat → List D → Option (List PyData)
  | _, [] => some []
  | n, x :: xs => match pyd n x, pyds n xs with
    | some a, some b => some (a :: b)
    | _, _ => none
end
end
end PyI
namespace PyI
open PySem PySem.Spec PyProof.Rows L2
section
variable {T : Tx} {μ : Mu} {H : Hp} {st : Store}
theorem LstAt.sq {K : PySem.W.Frag} {a : Addr} {xs : List V} (h : LstAt μ H a xs) : SqL K H a xs := .inl (.inl h.1)
mutual
theorem pyd_dp {T : Tb} : ∀ (n : Nat) (d : D) (v : V) (p : PyData), RD T μ H d v → pyd n d = some p → Dp T.K H v p ∧ p.depth ≤ n ∧ p.canLay0 = true
  | n, .non, v, p, r, h => by
    cases r; simp [pyd] at h; subst h
    exact ⟨.non, Nat.zero_le _, rfl⟩
  | n, .bl b, v, p, r, h => by
    cases r; simp [pyd] at h; subst h
    exact ⟨.bl b, Nat.zero_le _, rfl⟩
  | n, .int i, v, p, r, h => by
    cases r; simp [pyd] at h; subst h
    exact ⟨.int i, Nat.zero_le _, rfl⟩
  | n, .str x, v, p, r, h => by
    cases r
    simp only [pyd] at h
    split at h
    · rename_i c
      cases h
      exact ⟨.str x, Nat.zero_le _, by rw [PyData.canLay0]; exact c⟩
    · cases h
  | 0, .tup l, v, p, r, h => by simp [pyd] at h
  | 0, .lst l, v, p, r, h => by simp [pyd] at h
  | n + 1, .tup l, v, p, r, h => by
    simp only [pyd] at h
    cases e : pyds n l with
    | none => rw [e] at h; cases h
    | some ps =>
      rw [e] at h
      cases h
      cases r with
      | tup q r =>
        obtain ⟨h1, h2, h3⟩ := pyds_dp n l _ ps r e
        exact ⟨.tup q.sq h1, by simp only [PyData.depth]; omega, by rw [PyData.canLay0]; exact h3⟩
  | n + 1, .lst l, v, p, r, h => by
    simp only [pyd] at h
    cases e : pyds n l with
    | none => rw [e] at h; cases h
    | some ps =>
      rw [e] at h
      cases h
      cases r with
      | lst q r =>
        obtain ⟨h1, h2, h3⟩ := pyds_dp n l _ ps r e
        exact ⟨.lst (LstAt.sq q) h1, by simp only [PyData.depth]; omega, by rw [PyData.canLay0]; exact h3⟩
  | n, .ty _, v, p, r, h => by cases n <;> simp [pyd] at h
  | n, .fn _, v, p, r, h => by cases n <;> simp [pyd] at h
  | n, .cls _, v, p, r, h => by cases n <;> simp [pyd] at h
  | n, .ins _ _, v, p, r, h => by cases n <;> simp [pyd] at h
  | n, .scr _, v, p, r, h => by cases n <;> simp [pyd] at h
theorem pyds_dp {T : Tb} : ∀ (n : Nat) (ds : List D) (vs : List V) (ps : List PyData), RDs T μ H ds vs → pyds n ds = some ps → DpAll T.K H vs ps ∧ PyData.depthAll ps ≤ n ∧ PyData.canLayAll0 ps = true
  | n, [], vs, ps, r, h => by
    cases r
    simp [pyds] at h; subst h
    exact ⟨.nil, Nat.zero_le _, rfl⟩
  | n, d :: ds, vs, ps, r, h => by
    cases r with
    | cons r1 r2 =>
      simp only [pyds] at h
      cases e1 : pyd n d with
      | none => rw [e1] at h; cases h
      | some a =>
        cases e2 : pyds n ds with
        | none => rw [e1, e2] at h; cases h
        | some b =>
          rw [e1, e2] at h
          cases h
          obtain ⟨x1, x2, x3⟩ := pyd_dp n d _ a r1 e1
          obtain ⟨y1, y2, y3⟩ := pyds_dp n ds _ b r2 e2
          exact ⟨.cons x1 y1, by simp only [PyData.depthAll]; omega, by simp only [PyData.canLayAll0, x3, y3, Bool.and_self]⟩
end
/-- data, or a list of the store -/
theorem view_dp {d : DV} {v : V} {x : D} {p : PyData} (rs : RSt T.toTb μ H st) (r : RV T.toTb μ H d v) (h : viewD st d = some x) (hp : pyd 64 x = some p) : Dp T.K H v p ∧ SeqAt.shaped p = true := by
  have key : Dp T.K H v p ∧ p.depth ≤ 64 ∧ p.canLay0 = true := by
    cases d with
    | d y =>
      cases h
      cases r with
      | d r => exact pyd_dp 64 _ _ _ r hp
    | loc n =>
      have hl : ∃ l, x = .lst l ∧ seqL st (.loc n) = some l := by
        cases e : st[n]? with
        | none => simp [viewD, e] at h
        | some so =>
          cases so with
          | lst l => simp [viewD, e] at h; subst h; exact ⟨l, rfl, by simp [seqL, viewD, e]⟩
          | dead => simp [viewD, e] at h
          | obj c f => simp [viewD, e] at h
      obtain ⟨l, rfl, hs⟩ := hl
      obtain ⟨a, xs, rfl, q, rr⟩ := seqL_sq (K := T.K) rfl rs r hs
      simp only [pyd] at hp
      cases e : pyds 63 l with
      | none => rw [e] at hp; cases hp
      | some ps =>
        rw [e] at hp
        cases hp
        obtain ⟨h1, h2, h3⟩ := pyds_dp 63 l _ ps rr e
        exact ⟨.lst q h1, by simp only [PyData.depth]; omega, by rw [PyData.canLay0]; exact h3⟩
  refine ⟨key.1, ?_⟩
  unfold SeqAt.shaped
  rw [key.2.2, decide_eq_true key.2.1]
  rfl
end
def pyv (st : Store) (d : DV) : Option PyData := (viewD st d).bind (pyd 64)
theorem pyv_dp {T : Tx} {μ : Mu} {H : Hp} {st : Store} {d : DV} {v : V} {p : PyData} (rs : RSt T.toTb μ H st) (r : RV T.toTb μ H d v) (h : pyv st d = some p) : Dp T.K H v p ∧ SeqAt.shaped p = true := by
  unfold pyv at h
  cases e : viewD st d with
  | none => rw [e] at h; cases h
  | some x =>
    rw [e] at h
    exact view_dp rs r e h
/-- == and != of data; what else there is, eo tells -/
def eqG : G2 := fun _ a b st => match a, b with
  | .d (.int i), .d (.int j) => .d (.bl (decide (i = j))) st
  | .d (.str i), .d (.str j) => .d (.bl (decide (i = j))) st
  | _, _ => match pyv st a, pyv st b with
    | some p, some q => .d (.bl (PyData.eqv p q)) st
    | _, _ => .no
def neG : G2 := fun _ a b st => match a, b with
  | .d (.int i), .d (.int j) => .d (.bl (!decide (i = j))) st
  | .d (.str i), .d (.str j) => .d (.bl (!decide (i = j))) st
  | _, _ => match pyv st a, pyv st b with
    | some p, some q => .d (.bl (!PyData.eqv p q)) st
    | _, _ => .no
section
variable {T : Tx} {N : List Str} {sc : Scope} {fn : Str → Bool} {F : FTs} {n : Nat} {W : WX} {X : Cx}
theorem shaped_int (i : Int) : SeqAt.shaped (.int i) = true := rfl
theorem eqv_int (i j : Int) : PyData.eqv (.int i) (.int j) = decide (i = j) := by
  rw [PyData.eqv]; exact Bool.beq_eq_decide_eq ..
theorem opok_eqD (g : GX T F n N sc fn W X) : OpOk T F W X (compareOp .Eq) eqG := by
  intro pins s σ H μ st a b x y v u Q I rs ra rb rx ry h
  unfold eqG at h
  split at h
  · cases rd_int ra; cases rd_int rb
    refine op_eqD g.room.units pins s σ H _ _ v u Q I rx ry ⟨.int _, .int _, .int _, .int _, shaped_int _, shaped_int _, ?_⟩
    rw [eqv_int]
    exact h.done rs (.d (.bl _))
  · cases rd_str ra; cases rd_str rb
    refine op_eq pins s σ H _ _ v u Q I rx ry ⟨rfl, ?_⟩
    rw [show ∀ i j : Str, decide (V.str i = V.str j) = decide (i = j) from fun i j => by simp]
    exact h.done rs (.d (.bl _))
  · split at h
    · rename_i p q e1 e2
      obtain ⟨h1, h2⟩ := pyv_dp rs ra e1
      obtain ⟨h3, h4⟩ := pyv_dp rs rb e2
      rw [← g.hK] at h1 h3
      exact op_eqD g.room.units pins s σ H _ _ v u Q I rx ry ⟨p, q, h1, h3, h2, h4, h.done rs (.d (.bl _))⟩
    · exact h.elim
theorem opok_neD (g : GX T F n N sc fn W X) : OpOk T F W X (compareOp .NotEq) neG := by
  intro pins s σ H μ st a b x y v u Q I rs ra rb rx ry h
  unfold neG at h
  split at h
  · cases rd_int ra; cases rd_int rb
    refine op_neD g.room.units pins s σ H _ _ v u Q I rx ry ⟨.int _, .int _, .int _, .int _, shaped_int _, shaped_int _, ?_⟩
    rw [eqv_int]
    exact h.done rs (.d (.bl _))
  · cases rd_str ra; cases rd_str rb
    refine op_ne pins s σ H _ _ v u Q I rx ry ⟨rfl, ?_⟩
    rw [show ∀ i j : Str, decide (V.str i = V.str j) = decide (i = j) from fun i j => by simp]
    exact h.done rs (.d (.bl _))
  · split at h
    · rename_i p q e1 e2
      obtain ⟨h1, h2⟩ := pyv_dp rs ra e1
      obtain ⟨h3, h4⟩ := pyv_dp rs rb e2
      rw [← g.hK] at h1 h3
      exact op_neD g.room.units pins s σ H _ _ v u Q I rx ry ⟨p, q, h1, h3, h2, h4, h.done rs (.d (.bl _))⟩
    · exact h.elim

def isNG : G2 := fun _ a b st => match b with
  | .d .non => match a with
    | .d .non => .d (.bl true) st
    | .d _ => .d (.bl false) st
    | .loc _ => .no
  | _ => .no
def notNG : G2 := fun _ a b st => match b with
  | .d .non => match a with
    | .d .non => .d (.bl false) st
    | .d _ => .d (.bl true) st
    | .loc _ => .no
  | _ => .no
theorem rd_notnon {μ : Mu} {H : Hp} {x : D} {v : V} (h : x ≠ .non) (r : RD T.toTb μ H x v) : decide (v = .non) = false := by
  cases r <;> first | exact absurd rfl h | simp
theorem opok_isN (g : GX T F n N sc fn W X) : OpOk T F W X (compareOp .Is) isNG := by
  intro pins s σ H μ st a b x y v u Q I rs ra rb rx ry h
  unfold isNG at h
  split at h
  · cases rd_non rb
    refine op_isN pins s σ H _ _ v u Q I rx ry ⟨rfl, ?_⟩
    split at h
    · cases rd_non ra
      exact h.done rs (.d (.bl _))
    · rename_i z hz
      cases ra with
      | d r =>
        rw [rd_notnon (fun e => hz (by rw [e])) r]
        exact h.done rs (.d (.bl _))
    · exact h.elim
  · exact h.elim
theorem opok_notN (g : GX T F n N sc fn W X) : OpOk T F W X (compareOp .IsNot) notNG := by
  intro pins s σ H μ st a b x y v u Q I rs ra rb rx ry h
  unfold notNG at h
  split at h
  · cases rd_non rb
    refine op_notN pins s σ H _ _ v u Q I rx ry ⟨rfl, ?_⟩
    split at h
    · cases rd_non ra
      exact h.done rs (.d (.bl _))
    · rename_i z hz
      cases ra with
      | d r =>
        rw [rd_notnon (fun e => hz (by rw [e])) r]
        exact h.done rs (.d (.bl _))
    · exact h.elim
  · exact h.elim

def seqT : DV → Option (List D)
  | .d (.tup l) => some l
  | _ => none
def idxG : G2 := fun _ a b st => match b with
  | .d (.int i) => match a with
    | .d (.tup l) => match atI l i with
      | some x => .d x st
      | none => .no
    | .d (.str z) => if z.length ≤ line then (match atI z.cps.toList i with
      | some c => .d (.str ⟨#[c]⟩) st
      | none => .no) else .no
    | _ => match seqL st a with
      | some l => (match atI l i with
        | some x => .d x st
        | none => .no)
      | none => .no
  | _ => .no
theorem rds_atI {μ : Mu} {H : Hp} {l : List D} {xs : List V} {i : Int} {x : D} (r : RDs T.toTb μ H l xs) (h : atI l i = some x) : ∃ v, atI xs i = some v ∧ RD T.toTb μ H x v := by
  unfold atI at h ⊢
  rw [r.length] at h
  cases e : ixN xs.length i with
  | none => rw [e] at h; cases h
  | some j =>
    rw [e] at h
    exact r.get h
theorem ixok (g : GX T F n N sc fn W X) {σ : L2.St} {H : Hp} {μ : Mu} {st : Store} {a b : DV} {x y : V} {Q : VK} (rs : RSt T.toTb μ H st) (ra : RV T.toTb μ H a x) (rb : RV T.toTb μ H b y)
    (h : POST T (atS W σ) μ H (idxG F a b st) Q) : rIx X.K x y H Q := by
  unfold idxG at h
  split at h
  · cases rd_int rb
    split at h
    · obtain ⟨p, xs, rfl, hp, rp⟩ := rd_tup ra
      split at h
      · rename_i z e
        obtain ⟨w, e2, rw'⟩ := rds_atI rp e
        refine .inr (.inl ⟨p, xs, _, w, rfl, rfl, ?_, e2, h.done rs (.d rw')⟩)
        rw [g.hK]; exact hp.sq
      · exact h.elim
    · cases rd_str ra
      split at h
      · rename_i c
        split at h
        · rename_i z e
          exact .inr (.inr ⟨_, _, z, rfl, rfl, by rw [← line_eq]; exact c, e, h.done rs (.d (.str _))⟩)
        · exact h.elim
      · exact h.elim
    · split at h
      · rename_i l e
        obtain ⟨p, xs, rfl, hp, rp⟩ := seqL_sq (K := X.K) g.hK rs ra e
        split at h
        · rename_i z e
          obtain ⟨w, e2, rw'⟩ := rds_atI rp e
          exact .inl ⟨p, xs, _, w, rfl, rfl, hp, e2, h.done rs (.d rw')⟩
        · exact h.elim
      · exact h.elim
  · exact h.elim
theorem ok_ix {a b : Expr} {fa fb : EF} {pos : Pos} (ha : EOk T N sc fn a fa) (hb : EOk T N sc fn b fb) (hs : PlainIx b) : EOk T N sc fn (.Subscript a b pos) (c2 idxG fa fb) := by
  intro F n W X g
  refine PE.imp (pe_ix ix_seq (ha F n W X g) (hb F n W X g) hs) fun σ H Q h => ?_
  exact tE2 h fun μ st a b x y H2 q1 q2 q3 q4 => ixok g q1 q2 q3 q4

/-- a part of a slice -/
def sPart (f : Option EF) (F : FTs) (env : DEnv) (st : Store) (k : Option Int → Store → R DV) : R DV := match f with
  | none => k none st
  | some f => (f F env st).bind fun d st => match d with
    | .d (.int i) => k (some i) st
    | _ => .no
def cutD {α : Type} (xs : List α) (lo hi : Option Int) : List α := (xs.drop (HT.sIx xs.length 0 lo)).take (HT.sIx xs.length xs.length hi - HT.sIx xs.length 0 lo)
end
end PyI
namespace PyI
open PySem PySem.Spec PyProof.Rows L2
section
variable {T : Tx} {N : List Str} {sc : Scope} {fn : Str → Bool} {F : FTs} {n : Nat} {W : WX} {X : Cx} {pos : Pos}
def tO (T : Tx) (F : FTs) (W : WX) (f : Option EF) : TO := match f with
  | none => tNoPart
  | some f => tPart (tE T F W f)
def POk (T : Tx) (N : List Str) (sc : Scope) (fn : Str → Bool) : Option Expr → Option EF → Prop
  | none, none => True
  | some e, some f => EOk T N sc fn e f
  | _, _ => False
theorem po_of {e : Option Expr} {f : Option EF} (h : POk T N sc fn e f) (g : GX T F n N sc fn W X) : PO X e (tO T F W f) := by
  cases e with
  | none => cases f with
    | none => exact po_none
    | some _ => exact h.elim
  | some e => cases f with
    | none => exact h.elim
    | some f => exact po_some (h F n W X g)
theorem part_step {f : Option EF} {env : DEnv} {st : Store} {k : Option Int → Store → R DV} {σ : L2.St} {μ : Mu} {H : Hp} {Q : VK} {R : Option Int → Hp → Prop} (re : REnv T.toTb μ H env σ) (rs : RSt T.toTb μ H st) (h : POST T (atS W σ) μ H (sPart f F env st k) Q)
    (q : ∀ μ1 o st1 H1, Ext μ H μ1 H1 → RSt T.toTb μ1 H1 st1 → POST T (atS W σ) μ1 H1 (k o st1) Q → R o H1) : tO T F W f σ H R := by
  cases f with
  | none => exact q μ none st H .refl rs h
  | some f =>
    refine ⟨μ, env, st, re, rs, POST.mono (POST.bind h) fun v H1 ⟨μ1, d, st1, e1, rs1, rd, h1⟩ => ?_⟩
    dsimp only at h1
    split at h1
    · cases rd_int rd
      exact ⟨_, rfl, q μ1 _ st1 H1 e1 rs1 h1⟩
    · exact h1.elim
/-- what is cut out -/
def sliceG (st : Store) (a : DV) (lo hi : Option Int) : R DV := match a with
  | .d (.tup l) => .d (.tup (cutD l lo hi)) st
  | .d (.str z) => if z.length ≤ line then .d (.str (cutS z lo hi)) st else .no
  | _ => match seqL st a with
    | some l => .d (.lst (cutD l lo hi)) st
    | none => .no
def cSlice (lo hi : Option EF) (a : EF) : EF := fun F env st => (a F env st).bind fun x st => sPart lo F env st fun l st => sPart hi F env st fun u st => sliceG st x l u
theorem rds_cut {T : Tb} {μ : Mu} {H : Hp} {l : List D} {xs : List V} {lo hi : Option Int} (r : RDs T μ H l xs) : RDs T μ H (cutD l lo hi) (cutV xs lo hi) := by
  unfold cutD cutV
  rw [r.length]
  exact (r.drop _).take _
theorem cutD_whole {l : List D} {lo hi : Option Int} (h : HT.sIx l.length 0 lo = 0 ∧ HT.sIx l.length l.length hi = l.length) : cutD l lo hi = l := by
  unfold cutD
  rw [h.1, h.2]
  simp
theorem sl_any : SlR X (fun x lo hi H Q => rSlA X.K x lo hi H Q ∨ rSlS x lo hi H Q ∨ rSlL X.K x lo hi H Q) := SlR.or sl_tupA (SlR.or sl_str sl_list)
theorem ok_slice {a : Expr} {fa : EF} {lo hi : Option Expr} {fl fh : Option EF} {p2 : Pos} (ha : EOk T N sc fn a fa) (hl : POk T N sc fn lo fl) (hh : POk T N sc fn hi fh) : EOk T N sc fn (.Subscript a (.Slice lo hi none p2) pos) (cSlice fl fh fa) := by
  intro F n W X g
  refine PE.imp (pe_slice sl_any (ha F n W X g) (po_of hl g) (po_of hh g)) fun σ H Q ⟨μ, env, st, re, rs, h⟩ => ?_
  refine ⟨μ, env, st, re, rs, POST.mono (POST.bind h) fun x H1 ⟨μ1, a, st1, e1, rs1, ra, h1⟩ => ?_⟩
  refine part_step (re.ext e1) rs1 h1 fun μ2 l st2 H2 e2 rs2 h2 => ?_
  refine part_step ((re.ext e1).ext e2) rs2 h2 fun μ3 u st3 H3 e3 rs3 h3 => ?_
  have ra3 := (ra.ext e2).ext e3
  unfold sliceG at h3
  split at h3
  · obtain ⟨p, xs, rfl, hp, rp⟩ := rd_tup ra3
    refine .inl ⟨p, xs, rfl, by rw [g.hK]; exact hp.sq, fun w => ?_, fun _ => ?_⟩
    · rw [cutD_whole (by rw [rp.length]; exact w)] at h3
      exact h3.done rs3 (.d (.tup hp rp))
    · exact POST.newTup h3 rs3 (rds_cut rp)
  · cases rd_str ra3
    split at h3
    · rename_i c
      exact .inr (.inl ⟨_, rfl, by rw [← line_eq]; exact c, h3.done rs3 (.d (.str _))⟩)
    · exact h3.elim
  · split at h3
    · rename_i l e
      obtain ⟨p, xs, rfl, hp, rp⟩ := seqL_sq (K := X.K) g.hK rs3 ra3 e
      exact .inr (.inr ⟨p, xs, rfl, hp, POST.newLst h3 rs3 (rds_cut rp)⟩)
    · exact h3.elim

abbrev AF := FTs → DEnv → Store → R (List DV)
def tA (T : Tx) (F : FTs) (W : WX) (f : AF) : TA := fun σ H Q => ∃ μ env st, REnv T.toTb μ H env σ ∧ RSt T.toTb μ H st ∧ PST T (RVs T.toTb) (atS W σ) μ H (f F env st) Q
def AOk (T : Tx) (N : List Str) (sc : Scope) (fn : Str → Bool) (es : List Expr) (f : AF) : Prop := ∀ F n W X, GX T F n N sc fn W X → PA X es (tA T F W f)
def aNil : AF := fun _ _ st => .ok [] st
def aCons (f : EF) (r : AF) : AF := fun F env st => (f F env st).bind fun x st => (r F env st).bind fun xs st => .ok (x :: xs) st
/-- a tuple's, a list's items -/
def itemsOf (st : Store) (d : DV) : Option (List D) := match d with
  | .d (.tup l) => some l
  | _ => seqL st d
def aStar (f : EF) (r : AF) : AF := fun F env st => (f F env st).bind fun x st => match itemsOf st x with
  | some l => (r F env st).bind fun xs st => .ok (l.map .d ++ xs) st
  | none => .no
theorem rvs_of {T : Tb} {μ : Mu} {H : Hp} : ∀ {l : List D} {xs : List V}, RDs T μ H l xs → RVs T μ H (l.map .d) xs
  | _, _, .nil => .nil
  | _, _, .cons h t => .cons (.d h) (rvs_of t)
theorem RVs.append {T : Tb} {μ : Mu} {H : Hp} : ∀ {ds es : List DV} {vs ws : List V}, RVs T μ H ds vs → RVs T μ H es ws → RVs T μ H (ds ++ es) (vs ++ ws)
  | _, _, _, _, .nil, s => s
  | _, _, _, _, .cons h t, s => .cons h (RVs.append t s)
def notStar : Expr → Bool
  | .Starred _ _ => false
  | _ => true
theorem starEach_plain {e : Expr} {es : List Expr} {env : Env} (h : notStar e = true) : starEach (e :: es) env = (false, eval e env) :: starEach es env := by
  cases e <;> first | rfl | cases h
theorem ok_nil : AOk T N sc fn [] aNil := fun F n W X g => PA.imp pa_nil fun σ H Q ⟨μ, env, st, re, rs, h⟩ => PST.done h rs .nil
theorem ok_cons {e : Expr} {es : List Expr} {f : EF} {r : AF} (he : EOk T N sc fn e f) (hr : AOk T N sc fn es r) (ns : notStar e = true) : AOk T N sc fn (e :: es) (aCons f r) := by
  intro F n W X g
  refine PA.imp (pa_cons (he F n W X g) (hr F n W X g) (starEach_plain ns)) fun σ H Q ⟨μ, env, st, re, rs, h⟩ => ?_
  refine ⟨μ, env, st, re, rs, PST.mono (PST.bind h) fun x H1 ⟨μ1, a, st1, e1, rs1, ra, h1⟩ => ?_⟩
  refine ⟨μ1, env, st1, re.ext e1, rs1, PST.mono (PST.bind (Rel := RVs T.toTb) h1) fun xs H2 ⟨μ2, as, st2, e2, rs2, rb, h2⟩ => ?_⟩
  exact PST.done h2 rs2 (.cons (ra.ext e2) rb)
theorem itemsOf_at {μ : Mu} {H : Hp} {st : Store} {d : DV} {v : V} {l : List D} {K : PySem.W.Frag} (hK : K = T.K) (rs : RSt T.toTb μ H st) (r : RV T.toTb μ H d v) (h : itemsOf st d = some l) : ∃ a xs, v = .ref a ∧ (SqT K H a xs ∨ SqL K H a xs) ∧ RDs T.toTb μ H l xs := by
  unfold itemsOf at h
  split at h
  · obtain ⟨p, xs, e, hp, rp⟩ := rd_tup r
    cases h
    exact ⟨p, xs, e, .inl (by rw [hK]; exact hp.sq), rp⟩
  · obtain ⟨a, xs, e, q, rr⟩ := seqL_sq (K := K) hK rs r h
    exact ⟨a, xs, e, .inr q, rr⟩
theorem ok_star {e : Expr} {es : List Expr} {f : EF} {r : AF} {p : Pos} (he : EOk T N sc fn e f) (hr : AOk T N sc fn es r) : AOk T N sc fn (.Starred e p :: es) (aStar f r) := by
  intro F n W X g
  refine PA.imp (StX.pa_star (he F n W X g) (hr F n W X g)) fun σ H Q ⟨μ, env, st, re, rs, h⟩ => ?_
  refine ⟨μ, env, st, re, rs, PST.mono (PST.bind h) fun x H1 ⟨μ1, a, st1, e1, rs1, ra, h1⟩ => ?_⟩
  dsimp only at h1
  split at h1
  · rename_i l hl
    obtain ⟨b, xs, eb, hx, rx⟩ := itemsOf_at g.hK rs1 ra hl
    refine ⟨b, xs, eb, hx, ?_⟩
    refine ⟨μ1, env, st1, re.ext e1, rs1, PST.mono (PST.bind (Rel := RVs T.toTb) h1) fun ys H2 ⟨μ2, as, st2, e2, rs2, rb, h2⟩ => ?_⟩
    exact PST.done h2 rs2 ((rvs_of (RDs.ext e2 rx)).append rb)
  · exact h1.elim

/-- plain data, or nothing -/
def plainD : List DV → Option (List D)
  | [] => some []
  | .d x :: r => (plainD r).map (x :: ·)
  | .loc _ :: _ => none
theorem rds_plain {T : Tb} {μ : Mu} {H : Hp} : ∀ {ds : List DV} {xs : List V} {l : List D}, RVs T μ H ds xs → plainD ds = some l → RDs T μ H l xs
  | _, _, _, .nil, h => by cases h; exact .nil
  | .d x :: ds, _, l, .cons h t, e => by
    simp only [plainD] at e
    cases q : plainD ds with
    | none => rw [q] at e; cases e
    | some r =>
      rw [q] at e; cases e
      cases h with
      | d h => exact .cons h (rds_plain t q)
  | .loc _ :: _, _, _, .cons _ _, e => by cases e
def cTup (f : AF) : EF := fun F env st => (f F env st).bind fun xs st => match plainD xs with
  | some l => if l.length ≤ line then .d (.tup l) st else .no
  | none => .no
def cLst (f : AF) : EF := fun F env st => (f F env st).bind fun xs st => match plainD xs with
  | some l => if l.length ≤ line then .d (.lst l) st else .no
  | none => .no
theorem ok_tup {es : List Expr} {f : AF} {k : Nat} (h : AOk T N sc fn es f) : EOk T N sc fn (.Tuple es k pos) (cTup f) := by
  intro F n W X g
  refine PE.imp (pe_tup (h F n W X g)) fun σ H Q ⟨μ, env, st, re, rs, h⟩ => ?_
  refine ⟨μ, env, st, re, rs, PST.mono (PST.bind (Rel := RVs T.toTb) h) fun xs H1 ⟨μ1, a, st1, e1, rs1, ra, h1⟩ => ?_⟩
  dsimp only at h1
  split at h1
  · rename_i l hl
    split at h1
    · rename_i c
      have r := rds_plain ra hl
      exact ⟨by rw [← r.length, ← line_eq]; exact c, POST.newTup h1 rs1 r⟩
    · exact h1.elim
  · exact h1.elim
theorem ok_lst {es : List Expr} {f : AF} (h : AOk T N sc fn es f) : EOk T N sc fn (.List es pos) (cLst f) := by
  intro F n W X g
  refine PE.imp (pe_lst (h F n W X g)) fun σ H Q ⟨μ, env, st, re, rs, h⟩ => ?_
  refine ⟨μ, env, st, re, rs, PST.mono (PST.bind (Rel := RVs T.toTb) h) fun xs H1 ⟨μ1, a, st1, e1, rs1, ra, h1⟩ => ?_⟩
  dsimp only at h1
  split at h1
  · rename_i l hl
    split at h1
    · rename_i c
      have r := rds_plain ra hl
      exact ⟨by rw [← r.length, ← line_eq]; exact c, POST.newLst h1 rs1 r⟩
    · exact h1.elim
  · exact h1.elim

def tT (T : Tx) (F : FTs) (W : WX) (f : EF) : TT := fun σ H Q => ∃ μ env st, REnv T.toTb μ H env σ ∧ RSt T.toTb μ H st ∧ POST T (atS W σ) μ H (f F env st) (fun v H' => ∃ b, v = .bl b ∧ Q b H')
/-- as a test it gives a truth value -/
def TOk (T : Tx) (N : List Str) (sc : Scope) (fn : Str → Bool) (e : Expr) (f : EF) : Prop := ∀ F n W X, GX T F n N sc fn W X → PT X e (tT T F W f)
def WOk (T : Tx) (N : List Str) (sc : Scope) (fn : Str → Bool) (e : Expr) (f : EF) : Prop := ∀ F n W X, GX T F n N sc fn W X → PW X e (tT T F W f)
/-- an expression that gives a truth value -/
def cBl (f : EF) : EF := fun F env st => (f F env st).bind fun x st => match x with
  | .d (.bl b) => .d (.bl b) st
  | _ => .no
def cAnd (a b : EF) : EF := fun F env st => (a F env st).bind fun x st => match x with
  | .d (.bl true) => b F env st
  | .d (.bl false) => .d (.bl false) st
  | _ => .no
def cOr (a b : EF) : EF := fun F env st => (a F env st).bind fun x st => match x with
  | .d (.bl true) => .d (.bl true) st
  | .d (.bl false) => b F env st
  | _ => .no
def cNot (a : EF) : EF := fun F env st => (a F env st).bind fun x st => match x with
  | .d (.bl b) => .d (.bl (!b)) st
  | _ => .no
def cIf (c a b : EF) : EF := fun F env st => (c F env st).bind fun x st => match x with
  | .d (.bl true) => a F env st
  | .d (.bl false) => b F env st
  | _ => .no
def plainTest (e : Expr) : Bool := match e with
  | .BoolOp .. => false
  | .UnaryOp .Not .. => false
  | .Compare .. => false
  | .NamedExpr .. => false
  | _ => true
end
end PyI
namespace PyI
open PySem PySem.Spec PyProof.Rows L2
section
variable {T : Tx} {N : List Str} {sc : Scope} {fn : Str → Bool} {F : FTs} {n : Nat} {W : WX} {X : Cx} {pos : Pos}

theorem it {A B : Prop} (h : A) : (if true = true then A else B) := by rw [if_pos rfl]; exact h
theorem jt {A B : Prop} (h : B) : (if false = true then A else B) := by rw [if_neg Bool.false_ne_true]; exact h
theorem tok_val {e : Expr} {f : EF} (he : EOk T N sc fn e f) (hp : ∀ env whole, isTrue e env whole = (do let v ← whole; standAt e.pos; holding [v] (truthy v))) : TOk T N sc fn e f :=
  fun F n W X g => PT.imp (pt_val (he F n W X g) (hp X.env)) fun σ H Q h => h
theorem tok_cmp {a b : Expr} {op : CmpOp} {g : G2} {fa fb : EF} (ho : ∀ F n W X, GX T F n N sc fn W X → OpOk T F W X (compareOp op) g) (ha : EOk T N sc fn a fa) (hb : EOk T N sc fn b fb) (hm : behindInMarks op b = false) : TOk T N sc fn (.Compare a [op] [b] pos) (c2 g fa fb) := by
  intro F n W X gx
  refine ⟨fun pins s σ H Q I h => ?_⟩
  refine wpAny_isTrue_Compare1 (thn ((ha F n W X gx).run pins s σ H _ I (tE2 (R := fun x y H2 => ∃ μ st a b, RSt T.toTb μ H2 st ∧ RV T.toTb μ H2 a x ∧ RV T.toTb μ H2 b y ∧ POST T (atS W σ) μ H2 (g F a b st) (fun v H' => ∃ k, v = .bl k ∧ Q k H')) h fun μ st a b x y H2 q1 q2 q3 q4 => ⟨μ, st, a, b, q1, q2, q3, q4⟩))
    fun v s1 ⟨x, H1, I1, r1, q1⟩ => thn ((hb F n W X gx).run pins s1 σ H1 _ I1 q1) fun u s2 ⟨y, H2, I2, r2, μ, st, a, b, p1, p2, p3, p4⟩ =>
      thn (ho F n W X gx pins s2 σ H2 μ st a b x y v u _ I2 p1 p2 p3 r1 r2 p4) fun c s3 ⟨z, H3, I3, r3, k, e, q3⟩ => ?_) hm
  subst e
  cases r3
  exact wpAny_truthy_bool ⟨H3, I3, q3⟩
theorem tok_not {a : Expr} {f : EF} (h : TOk T N sc fn a f) : TOk T N sc fn (.UnaryOp .Not a pos) (cNot f) := by
  intro F n W X g
  refine PT.imp (pt_not (h F n W X g)) fun σ H Q ⟨μ, env, st, re, rs, h⟩ => ?_
  refine ⟨μ, env, st, re, rs, POST.mono (POST.bind h) fun v H1 ⟨μ1, d, st1, e1, rs1, rd, h1⟩ => ?_⟩
  dsimp only at h1
  split at h1
  · cases rd_bl rd
    obtain ⟨b, e, q⟩ := h1.done rs1 (.d (.bl _))
    cases e
    exact ⟨_, rfl, q⟩
  · exact h1.elim
theorem WOk.tok {e : Expr} {f : EF} (h : WOk T N sc fn e f) : TOk T N sc fn e f := fun F n W X g => (h F n W X g).pt
theorem wok_and1 {a : Expr} {f : EF} (h : TOk T N sc fn a f) : WOk T N sc fn (.BoolOp .And [a] pos) f := fun F n W X g => pw_and1 (h F n W X g)
theorem wok_or1 {a : Expr} {f : EF} (h : TOk T N sc fn a f) : WOk T N sc fn (.BoolOp .Or [a] pos) f := fun F n W X g => pw_or1 (h F n W X g)
theorem wok_and {a b : Expr} {rest : List Expr} {f g : EF} (ha : TOk T N sc fn a f) (hb : WOk T N sc fn (.BoolOp .And (b :: rest) pos) g) : WOk T N sc fn (.BoolOp .And (a :: b :: rest) pos) (cAnd f g) := by
  intro F n W X gx
  refine PW.imp (pw_and (ha F n W X gx) (hb F n W X gx)) fun σ H Q ⟨μ, env, st, re, rs, h⟩ => ?_
  refine ⟨μ, env, st, re, rs, POST.mono (POST.bind h) fun v H1 ⟨μ1, d, st1, e1, rs1, rd, h1⟩ => ?_⟩
  dsimp only at h1
  split at h1
  · cases rd_bl rd
    exact ⟨true, rfl, it ⟨μ1, env, st1, re.ext e1, rs1, h1⟩⟩
  · cases rd_bl rd
    refine ⟨false, rfl, jt ?_⟩
    obtain ⟨b, e, q⟩ := h1.done rs1 (.d (.bl _))
    cases e
    exact q
  · exact h1.elim
theorem wok_or {a b : Expr} {rest : List Expr} {f g : EF} (ha : TOk T N sc fn a f) (hb : WOk T N sc fn (.BoolOp .Or (b :: rest) pos) g) : WOk T N sc fn (.BoolOp .Or (a :: b :: rest) pos) (cOr f g) := by
  intro F n W X gx
  refine PW.imp (pw_or (ha F n W X gx) (hb F n W X gx)) fun σ H Q ⟨μ, env, st, re, rs, h⟩ => ?_
  refine ⟨μ, env, st, re, rs, POST.mono (POST.bind h) fun v H1 ⟨μ1, d, st1, e1, rs1, rd, h1⟩ => ?_⟩
  dsimp only at h1
  split at h1
  · cases rd_bl rd
    refine ⟨true, rfl, it ?_⟩
    obtain ⟨b, e, q⟩ := h1.done rs1 (.d (.bl _))
    cases e
    exact q
  · cases rd_bl rd
    exact ⟨false, rfl, jt ⟨μ1, env, st1, re.ext e1, rs1, h1⟩⟩
  · exact h1.elim
/-- .. as values -/
theorem ok_one {op : BoolOp} {a : Expr} {f : EF} (h : EOk T N sc fn a f) : EOk T N sc fn (.BoolOp op [a] pos) f := fun F n W X g => pe_one (h F n W X g)
theorem ok_and {a b : Expr} {rest : List Expr} {f g : EF} (ha : EOk T N sc fn a f) (hb : EOk T N sc fn (.BoolOp .And (b :: rest) pos) g) : EOk T N sc fn (.BoolOp .And (a :: b :: rest) pos) (cAnd f g) := by
  intro F n W X gx
  refine PE.imp (pe_and (ha F n W X gx) (hb F n W X gx)) fun σ H Q ⟨μ, env, st, re, rs, h⟩ => ?_
  refine ⟨μ, env, st, re, rs, POST.mono (POST.bind h) fun v H1 ⟨μ1, d, st1, e1, rs1, rd, h1⟩ => ?_⟩
  dsimp only at h1
  split at h1
  · cases rd_bl rd
    exact ⟨true, rfl, it ⟨μ1, env, st1, re.ext e1, rs1, h1⟩⟩
  · cases rd_bl rd
    refine ⟨false, rfl, jt ?_⟩
    exact h1.done rs1 (.d (.bl _))
  · exact h1.elim
theorem ok_or {a b : Expr} {rest : List Expr} {f g : EF} (ha : EOk T N sc fn a f) (hb : EOk T N sc fn (.BoolOp .Or (b :: rest) pos) g) : EOk T N sc fn (.BoolOp .Or (a :: b :: rest) pos) (cOr f g) := by
  intro F n W X gx
  refine PE.imp (pe_or (ha F n W X gx) (hb F n W X gx)) fun σ H Q ⟨μ, env, st, re, rs, h⟩ => ?_
  refine ⟨μ, env, st, re, rs, POST.mono (POST.bind h) fun v H1 ⟨μ1, d, st1, e1, rs1, rd, h1⟩ => ?_⟩
  dsimp only at h1
  split at h1
  · cases rd_bl rd
    refine ⟨true, rfl, it ?_⟩
    exact h1.done rs1 (.d (.bl _))
  · cases rd_bl rd
    exact ⟨false, rfl, jt ⟨μ1, env, st1, re.ext e1, rs1, h1⟩⟩
  · exact h1.elim
theorem ok_not {a : Expr} {f : EF} (h : EOk T N sc fn a f) : EOk T N sc fn (.UnaryOp .Not a pos) (cNot f) := by
  intro F n W X g
  refine PE.imp (pe_not (h F n W X g)) fun σ H Q ⟨μ, env, st, re, rs, h⟩ => ?_
  refine ⟨μ, env, st, re, rs, POST.mono (POST.bind h) fun v H1 ⟨μ1, d, st1, e1, rs1, rd, h1⟩ => ?_⟩
  dsimp only at h1
  split at h1
  · cases rd_bl rd
    exact ⟨_, rfl, h1.done rs1 (.d (.bl _))⟩
  · exact h1.elim
theorem ok_if {c a b : Expr} {fc fa fb : EF} (hc : TOk T N sc fn c fc) (ha : EOk T N sc fn a fa) (hb : EOk T N sc fn b fb) : EOk T N sc fn (.IfExp c a b pos) (cIf fc fa fb) := by
  intro F n W X g
  refine PE.imp (pe_ifExp (hc F n W X g) (ha F n W X g) (hb F n W X g)) fun σ H Q ⟨μ, env, st, re, rs, h⟩ => ?_
  refine ⟨μ, env, st, re, rs, POST.mono (POST.bind h) fun v H1 ⟨μ1, d, st1, e1, rs1, rd, h1⟩ => ?_⟩
  dsimp only at h1
  split at h1
  · cases rd_bl rd
    exact ⟨true, rfl, it ⟨μ1, env, st1, re.ext e1, rs1, h1⟩⟩
  · cases rd_bl rd
    exact ⟨false, rfl, jt ⟨μ1, env, st1, re.ext e1, rs1, h1⟩⟩
  · exact h1.elim

def cNeg (a : EF) : EF := fun F env st => (a F env st).bind fun x st => match x with
  | .d (.int i) => .d (.int (-i)) st
  | _ => .no
theorem ok_neg {a : Expr} {f : EF} (h : EOk T N sc fn a f) : EOk T N sc fn (.UnaryOp .USub a pos) (cNeg f) := by
  intro F n W X g
  refine PE.imp (pe_un un_neg (h F n W X g)) fun σ H Q ⟨μ, env, st, re, rs, h⟩ => ?_
  refine ⟨μ, env, st, re, rs, POST.mono (POST.bind h) fun v H1 ⟨μ1, d, st1, e1, rs1, rd, h1⟩ => ?_⟩
  dsimp only at h1
  split at h1
  · cases rd_int rd
    exact ⟨_, rfl, h1.done rs1 (.d (.int _))⟩
  · exact h1.elim

/-- a comparison of two ints -/
def ICmp (op : CmpOp) (p : Int → Int → Bool) : Prop := ∀ X : Cx, OpR X (compareOp op) (rI0 fun i j => .bl (p i j))
theorem icmp_lt : ICmp .Lt fun i j => decide (i < j) := fun _ => op_lt
theorem icmp_le : ICmp .LtE fun i j => decide (i ≤ j) := fun _ => op_le
theorem icmp_gt : ICmp .Gt fun i j => decide (j < i) := fun _ => op_gt
theorem icmp_ge : ICmp .GtE fun i j => decide (j ≤ i) := fun _ => op_ge
def cChain (p q : Int → Int → Bool) (a b c : EF) : EF := fun F env st => (a F env st).bind fun x st => (b F env st).bind fun y st => match x, y with
  | .d (.int i), .d (.int j) => if p i j then (c F env st).bind fun z st => (match z with
      | .d (.int k) => .d (.bl (q j k)) st
      | _ => .no) else .d (.bl false) st
  | _, _ => .no
theorem chain_read {p q : Int → Int → Bool} {fa fb fc : EF} {σ : L2.St} {H : Hp} {Q : VK} (h : tE T F W (cChain p q fa fb fc) σ H Q) :
    tChain (rI0 fun i j => .bl (p i j)) (rI0 fun i j => .bl (q i j)) (tE T F W fa) (tE T F W fb) (tE T F W fc) σ H Q := by
  obtain ⟨μ, env, st, re, rs, h⟩ := h
  refine ⟨μ, env, st, re, rs, POST.mono (POST.bind h) fun x H1 ⟨μ1, a, st1, e1, rs1, ra, h1⟩ => ?_⟩
  refine ⟨μ1, env, st1, re.ext e1, rs1, POST.mono (POST.bind h1) fun y H2 ⟨μ2, b, st2, e2, rs2, rb, h2⟩ => ?_⟩
  have ra' := ra.ext e2
  dsimp only at h2
  split at h2
  · cases rd_int ra'; cases rd_int rb
    refine ⟨_, _, rfl, rfl, _, rfl, ?_⟩
    split at h2
    · rename_i c
      rw [if_pos c]
      refine ⟨μ2, env, st2, (re.ext e1).ext e2, rs2, POST.mono (POST.bind h2) fun z H3 ⟨μ3, d, st3, e3, rs3, rd, h3⟩ => ?_⟩
      dsimp only at h3
      split at h3
      · cases rd_int rd
        exact ⟨_, _, rfl, rfl, h3.done rs3 (.d (.bl _))⟩
      · exact h3.elim
    · rename_i c
      rw [if_neg c]
      exact h2.done rs2 (.d (.bl _))
  · exact h2.elim
theorem ok_chain {op op' : CmpOp} {p q : Int → Int → Bool} {a b c : Expr} {fa fb fc : EF} (h1 : ICmp op p) (h2 : ICmp op' q) (ha : EOk T N sc fn a fa) (hb : EOk T N sc fn b fb) (hc : EOk T N sc fn c fc) (hm : lastMarks [op, op'] [b, c] = false) :
    EOk T N sc fn (.Compare a [op, op'] [b, c] pos) (cChain p q fa fb fc) := fun F n W X g =>
  PE.imp (pe_chain (h1 X) (h2 X) (ha F n W X g) (hb F n W X g) (hc F n W X g) hm) fun σ H Q h => chain_read h
theorem tok_chain {op op' : CmpOp} {p q : Int → Int → Bool} {a b c : Expr} {fa fb fc : EF} (h1 : ICmp op p) (h2 : ICmp op' q) (ha : EOk T N sc fn a fa) (hb : EOk T N sc fn b fb) (hc : EOk T N sc fn c fc) (hm : lastMarks [op, op'] [b, c] = false) :
    TOk T N sc fn (.Compare a [op, op'] [b, c] pos) (cChain p q fa fb fc) := fun F n W X g =>
  PT.imp (pt_chain (h1 X) (h2 X) (ha F n W X g) (hb F n W X g) (hc F n W X g) hm) fun σ H Q h => chain_read h
end
end PyI
namespace PyI
open PySem PySem.Spec PyProof.Rows L2
/-- an end: a value of ours, or an exception that is taken -/
def CB (X : Cx) (pins : List (Addr × Obj)) (σ : L2.St) (Q : VK) (r : Result) (s' : Shared) : Prop := match r with
  | .ok (.ret v) => EP X pins σ Q v s'
  | .ok _ => False
  | .error e => X.xe e s'
theorem CB.call {X : Cx} {A : Around} {pins : List (Addr × Obj)} {σ : L2.St} {Q : VK} {f : Value} {us : List Value} {s : Shared} (h : codeAny (model X.prog X.w) A (.call f ⟨us, []⟩) (CB X pins σ Q) s) : wpAny (model X.prog X.w) A (call f us) (EP X pins σ Q) X.xe s := by
  refine wpAny_call (codeAny_mono h fun r s' q => ?_)
  cases r with
  | error e => exact q
  | ok fl => cases fl <;> first | exact q | exact False.elim q
section
variable {T : Tx} {N : List Str} {sc : Scope} {fn : Str → Bool} {F : FTs} {n : Nat} {W : WX} {X : Cx} {pos : Pos}
theorem noStars {env : Env} {pos : Pos} : ∀ {es : List Expr}, es.all notStar = true → (backTo pos (starEach es env)).any (·.1) = false
  | [], _ => rfl
  | e :: es, h => by
    rw [List.all_cons, Bool.and_eq_true] at h
    rw [starEach_plain h.1]
    show (false || (backTo pos (starEach es env)).any (·.1)) = false
    rw [noStars h.2]
    rfl
/-- the callee's end, in our frame -/
theorem back {pins : List (Addr × Obj)} {σ : L2.St} {H : Hp} {s s' : Shared} {Q : VK} {r : Result} (g : GX T F n N sc fn W X) (I : Inv X pins σ H s) (hq : CR (L2.CX X.prog X.w) X.stack X.prog X.w H s Q (atS W σ) r s') : CB X pins σ Q r s' := by
  cases r with
  | error e => exact g.takes e s' (XE.of_call I (fun _ _ _ h => h) hq)
  | ok fl =>
    cases fl with
    | ret u => exact I.after hq
    | next => exact False.elim hq
    | brk => exact False.elim hq
    | cont => exact False.elim hq
theorem run_at {A : Around} {m : Nat} {f : Addr} {sp : Sp} {pins : List (Addr × Obj)} {σ : L2.St} {H : Hp} {s : Shared} {Q : VK} {us : List Value} {vs : List V} (g : GX T F n N sc fn W X) (Fn : FnG X.prog X.w X.K X.mg X.base m f sp) (hr : Room (m + 3) A) (hg : A.guards = some [])
    (e0 : Env0 X.prog X.w X.K X.mg X.base A X.stack s H) (I : Inv X pins σ H s) (r : Vals vs us) (h : sp vs H Q (atS W σ)) :
    codeAny (model X.prog X.w) A (.call (.ref f) ⟨us, []⟩) (CB X pins σ Q) s :=
  codeAny_mono (Fn A X.stack s H us vs Q (atS W σ) hr hg e0 r h) fun r s' hq => back g I hq
theorem run_g {f : Addr} {sp : Sp} {pins : List (Addr × Obj)} {σ : L2.St} {H : Hp} {s : Shared} {Q : VK} {us : List Value} {vs : List V} (g : GX T F n N sc fn W X) (Fn : FnG X.prog X.w X.K X.mg X.base n f sp) (I : Inv X pins σ H s) (r : Vals vs us) (h : sp vs H Q (atS W σ)) :
    wpAny (model X.prog X.w) X.A (call (.ref f) us) (EP X pins σ Q) X.xe s := CB.call (run_at g Fn g.room g.grd I.env0 I r h)

def globB (sc : Scope) (x : Str) : Bool := match sc.names.lookup x with
  | some .globalImplicit => true
  | _ => false
theorem gl_of (g : GX T F n N sc fn W X) {x : Str} (h : globB sc x = true) : Gl X x := by
  unfold globB at h
  unfold Gl Env.kindOf
  rw [g.hsc]
  split at h
  · rename_i e; exact e
  · cases h
theorem spOf_of {f : List DV → Store → R DV} {μ : Mu} {H : Hp} {st : Store} {xs : List DV} {vs : List V} {E : XK} {Q : VK} (rs : RSt T.toTb μ H st) (rx : RVs T.toTb μ H xs vs) (h : POST T E μ H (f xs st) Q) : spOf T f vs H Q E := ⟨μ, st, xs, rx, rs, h⟩
/-- f(..), f a function of the module -/
def cCall (k : Nat) (a : AF) : EF := fun F env st => (a F env st).bind fun xs st => F.a k xs st
/-- arguments, then what is done with them -/
theorem args_then {a : AF} {k : List DV → Store → R DV} {σ : L2.St} {H : Hp} {Q : VK} {μ : Mu} {env : DEnv} {st : Store} (re : REnv T.toTb μ H env σ) (rs : RSt T.toTb μ H st) (h : POST T (atS W σ) μ H ((a F env st).bind k) Q) :
    tA T F W a σ H fun vs H1 => ∃ μ1 xs st1, Ext μ H μ1 H1 ∧ RSt T.toTb μ1 H1 st1 ∧ RVs T.toTb μ1 H1 xs vs ∧ POST T (atS W σ) μ1 H1 (k xs st1) Q :=
  ⟨μ, env, st, re, rs, PST.mono (PST.bind (Rel := RVs T.toTb) h) fun vs H1 ⟨μ1, xs, st1, e1, rs1, rx, h1⟩ => ⟨μ1, xs, st1, e1, rs1, rx, h1⟩⟩
theorem ok_call {x : Str} {k : Nat} {p : Pos} {e : Expr} {es : List Expr} {a : AF} (hg : globB sc x = true) (hx : T.G x = some (.fn k)) (hd : (x == ("__debug__" : Str)) = false) (hs : (e :: es).all notStar = true) (ha : AOk T N sc fn (e :: es) a) :
    EOk T N sc fn (.Call (.Name x p) (e :: es) [] pos) (cCall k a) := by
  intro F n W X g
  obtain ⟨hm, hk⟩ := g.tx.fn x k hx
  rw [← g.hK] at hk
  refine ⟨fun pins s σ H Q I h => ?_⟩
  obtain ⟨μ, env, st, re, rs, h⟩ := h
  rw [List.all_cons, Bool.and_eq_true] at hs
  refine wpAny_Call_Name_kw (ld_glob I (gl_of g hg) hm ?_ hd)
  refine PySem.W.callWith_K (h₀ := X.base) I.ok.mod.kin hk (thn ((ha F n W X g).run pos pins s σ H _ I (args_then re rs h)) fun us s1 ⟨vs, H1, I1, r, μ1, xs, st1, e1, rs1, rx, h1⟩ => ⟨I1.kIn, ?_⟩) (starEach_plain hs.1) (noStars hs.2)
  exact run_g g (g.fa k) I1 r (spOf_of rs1 rx h1)
theorem ok_call0 {x : Str} {k : Nat} {p : Pos} (hg : globB sc x = true) (hx : T.G x = some (.fn k)) (hd : (x == ("__debug__" : Str)) = false) : EOk T N sc fn (.Call (.Name x p) [] [] pos) (cCall k aNil) := by
  intro F n W X g
  obtain ⟨hm, hk⟩ := g.tx.fn x k hx
  rw [← g.hK] at hk
  refine ⟨fun pins s σ H Q I h => ?_⟩
  obtain ⟨μ, env, st, re, rs, h⟩ := h
  refine wpAny_Call_Name_kw (ld_glob I (gl_of g hg) hm ?_ hd)
  exact PySem.W.callWith_K0 I.kIn hk (run_g (us := []) g (g.fa k) I .nil (spOf_of rs .nil h))

/-- an instance whose slots are all filled -/
def doneSl : List (Option D) → Option (List D)
  | [] => some []
  | some d :: r => (doneSl r).map (d :: ·)
  | none :: _ => none
theorem rsl_done {T : Tb} {μ : Mu} {H : Hp} : ∀ {ds : List (Option D)} {vs : List (Option V)} {l : List D}, RSl T μ H ds vs → doneSl ds = some l → ∃ ws, vs = ws.map some ∧ RDs T μ H l ws
  | _, _, _, .nil, h => by cases h; exact ⟨[], rfl, .nil⟩
  | _, _, l, .some (d := d) (ds := ds) h t, e => by
    simp only [doneSl] at e
    cases q : doneSl ds with
    | none => rw [q] at e; cases e
    | some r =>
      rw [q] at e; cases e
      obtain ⟨ws, e1, r1⟩ := rsl_done t q
      exact ⟨_ :: ws, by rw [e1]; rfl, .cons h r1⟩
  | _, _, _, .none _, e => by cases e
/-- what is left of a made instance: a place of the store becomes data -/
def settle (n c : Nat) (st : Store) : R DV := match st[n]? with
  | some (.obj c' fs) => if c' = c then (match doneSl fs with
    | some l => if fs.length = 0 then .no else .d (.ins c l) (st.take n)
    | none => .no) else .no
  | _ => .no
/-- C(..): c the class, k its __init__ -/
def cMake (c k : Nat) (a : AF) : EF := fun F env st => (a F env st).bind fun xs st => (F.b k (.loc st.length :: xs) (st ++ [.obj c []])).bind fun r st' => match r with
  | .d .non => if st'.length = st.length + 1 then settle st.length c st' else .no
  | _ => .no
end
end PyI
namespace PyI
open PySem PySem.Spec PyProof.Rows L2
section
variable {T : Tx} {N : List Str} {sc : Scope} {fn : Str → Bool} {F : FTs} {n : Nat} {W : WX} {X : Cx} {pos : Pos}
theorem has_snoc {μ : Mu} {p : Addr × Addr} {a : Addr} (h : Mu.has (μ ++ [some p]) a) : μ.has a ∨ a = p.1 ∨ a = p.2 := by
  obtain ⟨n, q, e, r⟩ := h
  by_cases c : n < μ.length
  · rw [List.getElem?_append_left c] at e
    exact .inl ⟨n, q, e, r⟩
  · rw [List.getElem?_append_right (by omega)] at e
    by_cases c2 : n - μ.length = 0
    · rw [c2] at e
      simp at e
      subst e
      exact .inr r
    · rw [List.getElem?_eq_none (by simp; omega)] at e
      cases e
theorem has_snoc_of {μ : Mu} {p : Addr × Addr} : Mu.has (μ ++ [some p]) p.1 ∧ Mu.has (μ ++ [some p]) p.2 := by
  have e : (μ ++ [some p])[μ.length]? = some (some p) := by simp
  exact ⟨⟨_, p, e, .inl rfl⟩, ⟨_, p, e, .inr rfl⟩⟩
/-- a new place of the store -/
theorem Ext.place {μ : Mu} {H H' : Hp} {p : Addr × Addr} (h1 : H p.1 = none) (h2 : H p.2 = none) (k : ∀ a o, H a = some o → H' a = some o) : Ext μ H (μ ++ [some p]) H' := by
  refine ⟨fun a o h => ⟨k a o h.1, fun q => ?_⟩, by simp, fun n q hn h => ?_⟩
  · rcases has_snoc q with q | q | q
    · exact h.2 q
    · rw [q] at h; rw [h.1] at h1; cases h1
    · rw [q] at h; rw [h.1] at h2; cases h2
  · rw [List.getElem?_append_left hn] at h
    exact h
theorem RSo.keep {T : Tb} {μ μ' : Mu} {H H' : Hp} {so : SO} {o : Option (Addr × Addr)} (e : ∀ a u, At μ H a u → At μ' H' a u) (k : ∀ a u, H a = some u → H' a = some u) (h : RSo T μ H so o) : RSo T μ' H' so o := by
  cases so with
  | dead => exact h
  | lst ds =>
    obtain ⟨a, xs, e1, e2, e3⟩ := h
    exact ⟨a, xs, e1, k _ _ e2, RDs.keep e e3⟩
  | obj c fs =>
    obtain ⟨a, dx, vs, e1, e2, e3, ⟨u, e4⟩, e5⟩ := h
    refine ⟨a, dx, vs, e1, e2, ?_, ⟨u, k _ _ e4⟩, RSl.keep e e5⟩
    rcases e3 with ⟨q1, q2⟩ | ⟨q1, q2⟩
    · exact .inl ⟨k _ _ q1, q2⟩
    · exact .inr ⟨k _ _ q1, k _ _ q2⟩
theorem RSt.place {μ : Mu} {H H' : Hp} {st : Store} {p : Addr × Addr} {so : SO} (rs : RSt T.toTb μ H st) (h1 : H p.1 = none) (h2 : H p.2 = none) (k : ∀ a o, H a = some o → H' a = some o) (new : RSo T.toTb (μ ++ [some p]) H' so (some p)) : RSt T.toTb (μ ++ [some p]) H' (st ++ [so]) := by
  have e := Ext.place (μ := μ) h1 h2 k
  refine ⟨by simp [rs.len], fun n s hs => ?_, fun i j q r hi hj hqr => ?_⟩
  · by_cases c : n < st.length
    · rw [List.getElem?_append_left c] at hs
      obtain ⟨o, e1, e2⟩ := rs.at_ n s hs
      exact ⟨o, by rw [List.getElem?_append_left (by rw [rs.len]; exact c)]; exact e1, e2.keep e.keep k⟩
    · rw [List.getElem?_append_right (by omega)] at hs
      by_cases c2 : n - st.length = 0
      · rw [c2] at hs
        simp at hs
        subst hs
        have : n = μ.length := by rw [rs.len]; omega
        subst this
        exact ⟨some p, by simp, new⟩
      · rw [List.getElem?_eq_none (by simp; omega)] at hs
        cases hs
  · have key : ∀ {n : Nat} {q : Addr × Addr}, (μ ++ [some p])[n]? = some (some q) → (n < μ.length ∧ μ[n]? = some (some q)) ∨ (n = μ.length ∧ q = p) := fun {n q} hn => by
      by_cases c : n < μ.length
      · rw [List.getElem?_append_left c] at hn
        exact .inl ⟨c, hn⟩
      · rw [List.getElem?_append_right (by omega)] at hn
        by_cases c2 : n - μ.length = 0
        · rw [c2] at hn
          simp at hn
          exact .inr ⟨by omega, hn.symm⟩
        · rw [List.getElem?_eq_none (by simp; omega)] at hn
          cases hn
    have old : ∀ {n : Nat} {q : Addr × Addr}, μ[n]? = some (some q) → (q.1 ≠ p.1 ∧ q.1 ≠ p.2) ∧ (q.2 ≠ p.1 ∧ q.2 ≠ p.2) := fun {n q} hn => by
      obtain ⟨o1, w1⟩ := rs.there ⟨n, q, hn, .inl rfl⟩
      obtain ⟨o2, w2⟩ := rs.there ⟨n, q, hn, .inr rfl⟩
      exact ⟨⟨ne_of_none w1 h1, ne_of_none w1 h2⟩, ⟨ne_of_none w2 h1, ne_of_none w2 h2⟩⟩
    rcases key hi with ⟨a1, a2⟩ | ⟨a1, a2⟩ <;> rcases key hj with ⟨b1, b2⟩ | ⟨b1, b2⟩
    · exact rs.apart i j q r a2 b2 hqr
    · subst b2
      obtain ⟨⟨x1, x2⟩, ⟨x3, x4⟩⟩ := old a2
      rcases hqr with z | z | z | z
      · exact absurd z x1
      · exact absurd z x2
      · exact absurd z x3
      · exact absurd z x4
    · subst a2
      obtain ⟨⟨x1, x2⟩, ⟨x3, x4⟩⟩ := old b2
      rcases hqr with z | z | z | z
      · exact absurd z.symm x1
      · exact absurd z.symm x3
      · exact absurd z.symm x2
      · exact absurd z.symm x4
    · omega
theorem under_guards {A : Around} {C : Addr} {us : List Value} (h : A.guards = some []) : (A.under (.builtin "type.__call__" ⟨.ref C :: us, []⟩)).guards = some [] := by
  simp [Around.under, Code.guards, Code.isGuard, guardIds, pushGuards, h]
/-- the instance is settled -/
theorem settle_ok {μ0 μ : Mu} {H0 H : Hp} {st : Store} {nn c : Nat} {Q : VK} {E : XK} {x : Addr} (e0 : Ext μ0 H0 μ H) (h0 : μ0.length ≤ nn) (rs : RSt T.toTb μ H st) (hx : ∀ p : Addr × Addr, μ[nn]? = some (some p) → p.1 = x) (h : POST T E μ0 H0 (settle nn c st) Q) : Q (.ref x) H := by
  unfold settle at h
  cases e : st[nn]? with
  | none => rw [e] at h; exact h.elim
  | some so =>
    obtain ⟨o, e1, s⟩ := rs.at_ nn so e
    rw [e] at h
    cases so with
    | dead => exact h.elim
    | lst _ => exact h.elim
    | obj c' fs =>
      simp only at h
      split at h
      · rename_i hc
        subst hc
        split at h
        · rename_i l hd
          split at h
          · exact h.elim
          · rename_i hne
            obtain ⟨a, dx, vs, e2, ne, sl, _, r⟩ := s
            subst e2
            obtain rfl : a = x := hx _ e1
            obtain ⟨ws, rfl, rw'⟩ := rsl_done r hd
            have nh : ∀ b, (b = a ∨ b = dx) → ¬ Mu.has (μ.take nn) b := fun b hb q => by
              obtain ⟨m, p, em, hm⟩ := q
              rw [List.getElem?_take] at em
              split at em
              · rename_i hlt
                have := rs.apart m nn p (a, dx) em e1 (by rcases hb with rfl | rfl <;> rcases hm with rfl | rfl <;> simp)
                omega
              · cases em
            have slt : H a = some (SlX.SlO a (T.ca c') dx (ws.map some)) ∧ H dx = some (.xd []) := by
              rcases sl with ⟨_, q⟩ | q
              · exfalso
                apply hne
                cases ws with
                | nil =>
                  cases fs with
                  | nil => rfl
                  | cons f fs => cases r
                | cons w ws => simp at q
              · exact q
            exact h (μ.take nn) (.ref a) H (e0.take h0) (rs.take nn) (.d (.ins ⟨slt.1, nh a (.inl rfl)⟩ ⟨slt.2, nh dx (.inr rfl)⟩ (RDs.keep (fun _ _ q => q.take) rw')))
        · exact h.elim
      · exact h.elim
theorem run_mk {c k : Nat} {pins : List (Addr × Obj)} {σ : L2.St} {H : Hp} {s : Shared} {Q : VK} {us : List Value} {vs : List V} {μ : Mu} {st : Store} {xs : List DV} (g : GX T F n N sc fn W X) (hk : T.init c = some k) (hn : ∃ m, n = m + 1) (I : Inv X pins σ H s) (r : Vals vs us) (rs : RSt T.toTb μ H st) (rx : RVs T.toTb μ H xs vs)
    (h : POST T (atS W σ) μ H ((F.b k (.loc st.length :: xs) (st ++ [.obj c []])).bind fun r st' => match r with
      | .d .non => if st'.length = st.length + 1 then settle st.length c st' else .no
      | _ => .no) Q) : wpAny (model X.prog X.w) X.A (call (.ref (T.ca c)) us) (EP X pins σ Q) X.xe s := by
  obtain ⟨m, rfl⟩ := hn
  have M := g.tx.mke c k hk
  rw [← g.hK] at M
  have I2 := Inv.made (C := T.ca c) I
  have f1 : H s.heap.objs.size = none := I.hok.fresh (Nat.le_refl _)
  have f2 : H (s.heap.objs.size + 1) = none := I.hok.fresh (Nat.le_succ _)
  have ne : s.heap.objs.size ≠ s.heap.objs.size + 1 := Nat.ne_of_lt (Nat.lt_succ_self _)
  have kp : ∀ a o, H a = some o → (upd (upd H s.heap.objs.size (.own (s.heap.objs.size + 1))) (s.heap.objs.size + 1) (.ins (T.ca c) s.heap.objs.size [])) a = some o := fun a o q => by
    rw [upd_ne (ne_of_none q f2), upd_ne (ne_of_none q f1)]; exact q
  generalize hH2 : upd (upd H s.heap.objs.size (.own (s.heap.objs.size + 1))) (s.heap.objs.size + 1) (.ins (T.ca c) s.heap.objs.size []) = H2 at I2 kp
  have e2 : Ext μ H (μ ++ [some (s.heap.objs.size + 1, s.heap.objs.size)]) H2 := Ext.place f2 f1 kp
  have rs2 : RSt T.toTb (μ ++ [some (s.heap.objs.size + 1, s.heap.objs.size)]) H2 (st ++ [.obj c []]) := by
    refine rs.place f2 f1 kp ⟨_, _, [], rfl, ne, .inl ⟨?_, rfl⟩, ⟨.own (s.heap.objs.size + 1), ?_⟩, .nil⟩
    · rw [← hH2]; exact upd_same
    · rw [← hH2, upd_ne ne]; exact upd_same
  have rx2 : RVs T.toTb (μ ++ [some (s.heap.objs.size + 1, s.heap.objs.size)]) H2 (.loc st.length :: xs) (V.ref (s.heap.objs.size + 1) :: vs) := by
    refine .cons (.loc (by simp [rs.len]) fun p q => ?_) (RVs.ext e2 rx)
    rw [← rs.len] at q
    simp at q
    rw [← q]
  have hq := PST.bindAt (Rel := RV T.toTb) h e2
  have r2 : Vals (V.ref (s.heap.objs.size + 1) :: vs) (Value.ref (s.heap.objs.size + 1) :: us) := .cons rfl r
  refine wpAny_call (make_map (f := T.fa k) I.kIn M.makes M.init (beq_iff_eq.mp M.fn) (codeAny_mono (run_at (A := X.A.under (.builtin "type.__call__" ⟨.ref (T.ca c) :: us, []⟩)) (Q := fun v H' => v = .non ∧ Q (.ref (s.heap.objs.size + 1)) H') g (g.fb m rfl k) (g.room.make (T.ca c) us []) (under_guards g.grd) (I2.env0.make (T.ca c) us []) I2 r2
    (spOf_of rs2 rx2 (PST.mono hq fun v H' ⟨μ3, d, st3, e3, rs3, rd, h3⟩ => ?_))) fun r s' hq' => ?_))
  · split at h3
    · cases rd_non rd
      split at h3
      · rename_i hl
        refine ⟨rfl, settle_ok (e2.trans e3) (by rw [rs.len]; exact Nat.le_refl _) rs3 (fun p q => ?_) h3⟩
        have z := e3.old _ p (by simp [rs.len]) q
        rw [← rs.len] at z
        simp at z
        rw [← z]
      · exact h3.elim
    · exact h3.elim
  · cases r with
    | error e => exact hq'
    | ok fl =>
      cases fl with
      | ret u =>
        obtain ⟨v, H', I3, rv, ev, q3⟩ := hq'
        subst ev
        exact ⟨rv, ⟨V.ref (s.heap.objs.size + 1), H', I3, rfl, q3⟩⟩
      | next => exact False.elim hq'
      | brk => exact False.elim hq'
      | cont => exact False.elim hq'
end
end PyI
namespace PyI
open PySem PySem.Spec PyProof.Rows L2
section
variable {T : Tx} {N : List Str} {sc : Scope} {fn : Str → Bool} {F : FTs} {n : Nat} {W : WX} {X : Cx} {pos : Pos}
/-- the level below is there -/
def lvl1 (F : FTs) : Prop := True
theorem ok_make {x : Str} {c k : Nat} {p : Pos} {e : Expr} {es : List Expr} {a : AF} (hg : globB sc x = true) (hx : T.G x = some (.cls c)) (hk : T.init c = some k) (hd : (x == ("__debug__" : Str)) = false) (hs : (e :: es).all notStar = true) (ha : AOk T N sc fn (e :: es) a) :
    EOk T N sc fn (.Call (.Name x p) (e :: es) [] pos) (cMake c k a) := by
  intro F n W X g
  obtain ⟨hm, hkp⟩ := g.tx.cls x c hx
  rw [← g.hK] at hkp
  refine ⟨fun pins s σ H Q I h => ?_⟩
  obtain ⟨μ, env, st, re, rs, h⟩ := h
  rw [List.all_cons, Bool.and_eq_true] at hs
  refine wpAny_Call_Name_kw (ld_glob I (gl_of g hg) hm ?_ hd)
  refine PySem.W.callWith_K (h₀ := X.base) I.ok.mod.kin hkp (thn ((ha F n W X g).run pos pins s σ H _ I (args_then re rs h)) fun us s1 ⟨vs, H1, I1, r, μ1, xs, st1, e1, rs1, rx, h1⟩ => ⟨I1.kIn, ?_⟩) (starEach_plain hs.1) (noStars hs.2)
  cases n with
  | zero =>
    rw [g.fb0 rfl] at h1
    exact h1.elim
  | succ m => exact run_mk g hk ⟨m, rfl⟩ I1 r rs1 rx h1
theorem ok_make0 {x : Str} {c k : Nat} {p : Pos} (hg : globB sc x = true) (hx : T.G x = some (.cls c)) (hk : T.init c = some k) (hd : (x == ("__debug__" : Str)) = false) : EOk T N sc fn (.Call (.Name x p) [] [] pos) (cMake c k aNil) := by
  intro F n W X g
  obtain ⟨hm, hkp⟩ := g.tx.cls x c hx
  rw [← g.hK] at hkp
  refine ⟨fun pins s σ H Q I h => ?_⟩
  obtain ⟨μ, env, st, re, rs, h⟩ := h
  refine wpAny_Call_Name_kw (ld_glob I (gl_of g hg) hm ?_ hd)
  refine PySem.W.callWith_K0 I.kIn hkp ?_
  cases n with
  | zero =>
    unfold cMake aNil R.bind at h
    dsimp only at h
    rw [g.fb0 rfl] at h
    exact h.elim
  | succ m => exact run_mk (us := []) g hk ⟨m, rfl⟩ I .nil rs .nil h

/-- an own instance, finished or in the making -/
def instV (st : Store) : DV → Option (Nat × List (Option D))
  | .d (.ins c l) => some (c, l.map some)
  | .loc n => match st[n]? with
    | some (.obj c fs) => some (c, fs)
    | _ => none
  | _ => none
theorem rsl_full {T : Tb} {μ : Mu} {H : Hp} : ∀ {l : List D} {ws : List V}, RDs T μ H l ws → RSl T μ H (l.map some) (ws.map some)
  | _, _, .nil => .nil
  | _, _, .cons h t => .some h (rsl_full t)
theorem inst_at {μ : Mu} {H : Hp} {st : Store} {d : DV} {v : V} {c : Nat} {fs : List (Option D)} (rs : RSt T.toTb μ H st) (r : RV T.toTb μ H d v) (h : instV st d = some (c, fs)) : ∃ a dx vs, v = .ref a ∧ SlX.Slt H a (T.ca c) dx vs ∧ RSl T.toTb μ H fs vs := by
  cases r with
  | @d x v r =>
    cases r <;> simp only [instV, reduceCtorEq] at h
    rename_i c' ds a dx vs h1 h2 r
    cases h
    exact ⟨_, dx, _, rfl, .inr ⟨h1.1, h2.1⟩, rsl_full r⟩
  | @loc n v hn r =>
    have hn' : n < st.length := by rw [← rs.len]; exact hn
    obtain ⟨o, e, s⟩ := rs.at_ n st[n] (by simp [hn'])
    have e1 : st[n]? = some st[n] := by simp [hn']
    simp only [instV, e1] at h
    cases hs : st[n] with
    | dead => rw [hs] at h; simp at h
    | lst _ => rw [hs] at h; simp at h
    | obj c' fs' =>
      rw [hs] at h s
      simp only [Option.some.injEq, Prod.mk.injEq] at h
      obtain ⟨rfl, rfl⟩ := h
      obtain ⟨a, dx, vs, e2, e3, e4, e5, e6⟩ := s
      rw [e2] at e
      exact ⟨a, dx, vs, r _ e, e4, e6⟩
theorem rsl_get {T : Tb} {μ : Mu} {H : Hp} : ∀ {fs : List (Option D)} {vs : List (Option V)} {i : Nat} {d : D}, RSl T μ H fs vs → fs[i]? = some (some d) → ∃ v, vs[i]? = some (some v) ∧ RD T μ H d v
  | _, _, _, _, .nil, e => by simp at e
  | _, _, 0, _, .some h _, e => by simp at e; subst e; exact ⟨_, rfl, h⟩
  | _, _, 0, _, .none _, e => by simp at e
  | _, _, i + 1, d, .some _ t, e => by
    obtain ⟨v, h1, h2⟩ := rsl_get (i := i) (d := d) t (by simpa using e)
    exact ⟨v, by simpa using h1, h2⟩
  | _, _, i + 1, d, .none t, e => by
    obtain ⟨v, h1, h2⟩ := rsl_get (i := i) (d := d) t (by simpa using e)
    exact ⟨v, by simpa using h1, h2⟩
/-- nothing is raised -/
def noEx (r : R DV) : R DV := match r with
  | .ex _ _ _ => .no
  | r => r
theorem noEx_post {E E' : XK} {μ : Mu} {H : Hp} {r : R DV} {Q : VK} (h : POST T E μ H (noEx r) Q) : POST T E' μ H r Q := by
  cases r with
  | ok d st => exact h
  | ex c x st => exact h.elim
  | no => exact h
/-- o.f: a slot, a property -/
def attG (att : Nat → Str → Option At1) (f : Str) (F : FTs) (a : DV) (st : Store) : R DV := match instV st a with
  | some (c, fs) => match att c f with
    | some (.slot i) => (match fs[i]? with
      | some (some d) => .d d st
      | _ => .no)
    | some (.prop k) => noEx (F.b k [a] st)
    | _ => .no
  | none => .no
def cAtt (att : Nat → Str → Option At1) (f : Str) (o : EF) : EF := fun F env st => (o F env st).bind fun a st => attG att f F a st
theorem att_ok {f : Str} {b : Bool} {pins : List (Addr × Obj)} {σ : L2.St} {H : Hp} {s : Shared} {Q : VK} {x : V} {u : Value} {μ : Mu} {st : Store} {a : DV} (g : GX T F n N sc fn W X) (I : Inv X pins σ H s) (rx : RelV x u) (rs : RSt T.toTb μ H st) (ra : RV T.toTb μ H a x)
    (h : POST T (atS W σ) μ H (attG T.att f F a st) Q) : wpAny (model X.prog X.w) X.A (getAttr u f b) (EP X pins σ Q) X.xe s := by
  unfold attG at h
  split at h
  · rename_i c fs e
    obtain ⟨p, dx, vs, rfl, sl, r⟩ := inst_at rs ra e
    obtain rfl : u = Value.ref p := rx
    split at h
    · rename_i i ea
      obtain ⟨hc, q, hq⟩ := g.tx.sl c f i ea
      rw [← g.hK] at hc hq
      split at h
      · rename_i d ed
        obtain ⟨v, h1, h2⟩ := rsl_get r ed
        exact SlX.getslot_ok I sl hc hq h1 fun u' s' I' ru => ⟨v, H, I', ru, h.done rs (.d h2)⟩
      · exact h.elim
    · rename_i k ea
      obtain ⟨hc, q, hat, hget, htk, hrc⟩ := g.tx.pr c f k ea
      rw [← g.hK] at hc hat hget htk hrc
      cases n with
      | zero => rw [g.fb0 rfl] at h; exact h.elim
      | succ m =>
        obtain ⟨sl', od, _, J, _⟩ := SlX.slt_inst I sl
        obtain ⟨rest, hrec⟩ := hrc
        have I1 : Inv X pins σ H { s with toks := s.toks + 1 } := I.tok (s.toks + 1)
        have hp := g.fb m rfl k X.A.in1 X.stack { s with toks := s.toks + 1 } H [.ref p] [.ref p] Q (fun _ _ _ => False) g.room.in1 g.grd I1.env0.in1 (.cons rfl .nil) (spOf_of rs (.cons ra .nil) (noEx_post h))
        refine PySem.W.get_bind I.kIn J (PySem.W.plainGet_of (hc.get f)).1 (PySem.W.findObj_data hc.ic hat hget htk) (PySem.W.plainGet_of (hc.get f)).2 (wpAny_call (PySem.W.prop_get (s := { s with toks := s.toks + 1 }) I.kIn hrec ?_))
        refine codeAny_mono hp fun r s' hq => ?_
        cases r with
        | error e =>
          obtain ⟨_, _, _, _, _, _, _, _, _, _, _, _, z⟩ := hq
          exact z.elim
        | ok fl =>
          cases fl with
          | ret u =>
            obtain ⟨v, H', I2, rv, q⟩ := I1.after hq
            exact wpAny_of_eq (PySem.W.handedOut_of (handed_of rv)) ⟨v, H', I2, rv, q⟩
          | next => exact False.elim hq
          | brk => exact False.elim hq
          | cont => exact False.elim hq
    · exact h.elim
  · exact h.elim
theorem ok_att {o : Expr} {f : Str} {fo : EF} (ho : EOk T N sc fn o fo) (hb : ∀ env, attributeBase o f env (eval o env) = eval o env) : EOk T N sc fn (.Attribute o f pos) (cAtt T.att f fo) := by
  intro F n W X g
  refine ⟨fun pins s σ H Q I h => ?_⟩
  obtain ⟨μ, env, st, re, rs, h⟩ := h
  refine attr_of (hb X.env) (thn ((ho F n W X g).run pins s σ H _ I ⟨μ, env, st, re, rs, POST.bind h⟩) fun u s1 ⟨x, H1, I1, rx, μ1, a, st1, e1, rs1, ra, h1⟩ => ?_)
  exact att_ok g I1 rx rs1 ra h1

def cMeth (att : Nat → Str → Option At1) (m : Str) (o : EF) (a : AF) : EF := fun F env st => (o F env st).bind fun x st => match instV st x with
  | some (c, _) => (match att c m with
    | some (.meth k) => (a F env st).bind fun xs st => F.a k (x :: xs) st
    | _ => .no)
  | none => .no
theorem ok_meth {o : Expr} {m : Str} {apos : Pos} {e : Expr} {es : List Expr} {fo : EF} {a : AF} {pl : Env → Sem Bool} (ho : EOk T N sc fn o fo) (hs : (e :: es).all notStar = true) (ha : AOk T N sc fn (e :: es) a)
    (ht : ∀ env, eval (.Call (.Attribute o m apos) (e :: es) [] pos) env = (do
      let ov ← eval o env
      standAt apos.atName
      let (f, first) ← holding [ov] (getMethod ov m (pl env))
      callWith pos f first (backTo pos (starEach (e :: es) env)) (backToKw pos (keywordEach [] env)))) :
    EOk T N sc fn (.Call (.Attribute o m apos) (e :: es) [] pos) (cMeth T.att m fo a) := by
  intro F n W X g
  refine ⟨fun pins s σ H Q I h => ?_⟩
  obtain ⟨μ, env, st, re, rs, h⟩ := h
  rw [List.all_cons, Bool.and_eq_true] at hs
  refine PySem.W.methodCall_KW (pl := pl X.env) (thn ((ho F n W X g).run pins s σ H _ I ⟨μ, env, st, re, rs, POST.bind h⟩) fun u s1 ⟨x, H1, I1, rx, μ1, d, st1, e1, rs1, rd, h1⟩ => ?_) (ht X.env)
  dsimp only at h1
  split at h1
  · rename_i c fs ei
    split at h1
    · rename_i k ea
      obtain ⟨p, dx, vs, rfl, sl, r⟩ := inst_at rs1 rd ei
      obtain rfl : u = Value.ref p := rx
      obtain ⟨hc, hm⟩ := g.tx.me c m k ea
      rw [← g.hK] at hc hm
      refine SlX.getmethsl_ok I1 sl hc hm ?_
      refine PySem.W.callWith_K (first := [.ref p]) (h₀ := X.base) I.ok.mod.kin hm.kp (thn ((ha F n W X g).run pos pins s1 σ H1 _ I1 (args_then (re.ext e1) rs1 h1)) fun us s2 ⟨vs, H2, I2, r, μ2, xs, st2, e2, rs2, rx2, h2⟩ => ⟨I2.kIn, ?_⟩) (starEach_plain hs.1) (noStars hs.2)
      exact run_g (us := .ref p :: us) (vs := V.ref p :: vs) g (g.fa k) I2 (.cons rfl r) (spOf_of rs2 (.cons (rd.ext e2) rx2) h2)
    · exact h1.elim
  · exact h1.elim
theorem ok_meth0 {o : Expr} {m : Str} {apos : Pos} {fo : EF} {pl : Env → Sem Bool} (ho : EOk T N sc fn o fo)
    (ht : ∀ env, eval (.Call (.Attribute o m apos) [] [] pos) env = (do
      let ov ← eval o env
      standAt apos.atName
      let (f, first) ← holding [ov] (getMethod ov m (pl env))
      callWith pos f first (backTo pos (starEach [] env)) (backToKw pos (keywordEach [] env)))) :
    EOk T N sc fn (.Call (.Attribute o m apos) [] [] pos) (cMeth T.att m fo aNil) := by
  intro F n W X g
  refine ⟨fun pins s σ H Q I h => ?_⟩
  obtain ⟨μ, env, st, re, rs, h⟩ := h
  refine PySem.W.methodCall_KW (pl := pl X.env) (thn ((ho F n W X g).run pins s σ H _ I ⟨μ, env, st, re, rs, POST.bind h⟩) fun u s1 ⟨x, H1, I1, rx, μ1, d, st1, e1, rs1, rd, h1⟩ => ?_) (ht X.env)
  dsimp only at h1
  split at h1
  · rename_i c fs ei
    split at h1
    · rename_i k ea
      obtain ⟨p, dx, vs, rfl, sl, r⟩ := inst_at rs1 rd ei
      obtain rfl : u = Value.ref p := rx
      obtain ⟨hc, hm⟩ := g.tx.me c m k ea
      rw [← g.hK] at hc hm
      refine SlX.getmethsl_ok I1 sl hc hm ?_
      refine PySem.W.callWith_K0 (first := [.ref p]) I1.kIn hm.kp ?_
      exact run_g (us := [.ref p]) (vs := [.ref p]) g (g.fa k) I1 (.cons rfl .nil) (spOf_of rs1 (.cons rd .nil) h1)
    · exact h1.elim
  · exact h1.elim
end
end PyI
namespace PyI
open PySem PySem.Spec PyProof.Rows L2
section
variable {T : Tx} {N : List Str} {sc : Scope} {fn : Str → Bool} {F : FTs} {n : Nat} {W : WX} {X : Cx} {pos : Pos}
theorem titO_ok {P : Program} {w : World} {H : Hp} {h : Heap} {t it : Addr} (e : h.IsTupleIter it t 0) : ObjOk P w H h it (TItO t it) := by
  obtain ⟨o, q, c, d⟩ := id e
  exact ⟨e, ⟨_, q⟩, fun h1 h2 k z => by
    obtain ⟨o1, q1, c1, d1⟩ := k
    exact ⟨o1, z _ q1, c1, d1⟩⟩
theorem own_it {A : Around} {pins : List (Addr × Obj)} {σ : L2.St} {H : Hp} {s : Shared} {Q : Value → Shared → Prop} {E : Value → Shared → Prop} {c i : Nat} {a dx t : Addr} {vs : List (Option V)} {xs : List V} (g : GX T F n N sc fn W X) (I : Inv X pins σ H s) (hr : Room 0 A) (hg : A.guards = some [])
    (e0 : Env0 X.prog X.w X.K X.mg X.base A X.stack s H) (ei : T.itr c = some i) (sl : SlX.Slt H a (T.ca c) dx vs) (hv : vs[i]? = some (some (.ref t))) (ht : SqT X.K H t xs)
    (k : ∀ it s', Inv X pins σ (upd H it (TItO t it)) s' → H it = none → s.heap.objs.size ≤ it → Q (.ref it) s') : wpAny (model X.prog X.w) A (pyIter (.ref a)) Q E s := by
  obtain ⟨f, _, hf1, hf2, Fn, _⟩ := g.itr c i ei
  obtain ⟨sa, od, _, J, _⟩ := SlX.slt_inst I sl
  obtain ⟨m, hF⟩ := I.fr
  refine PySem.W.owit_iter hF I.ok.mod.kin J hf1 hf2 ?_
  refine wpAny_call (codeAny_mono (Fn A X.stack s H a dx t vs xs hr hg e0 sl hv ht) fun r s' hq => ?_)
  cases r with
  | error e =>
    obtain ⟨_, _, _, _, _, _, _, _, _, _, _, _, z⟩ := hq
    exact z.elim
  | ok fl =>
    cases fl with
    | next => exact False.elim hq
    | brk => exact False.elim hq
    | cont => exact False.elim hq
    | ret u =>
      obtain ⟨v, H', I2, rv, it, ev, hn, young, eH⟩ := I.after hq
      subst ev eH
      cases (show u = Value.ref it from rv)
      have st : s'.heap.IsTupleIter it t 0 := (I2.hok it _ upd_same).1
      have hT : s'.TypeIs (.ref it) "tuple_iterator" := by
        obtain ⟨o, q, c, _⟩ := st
        exact ⟨o, q, c⟩
      unfold PySem.W.OwitIt
      exact wpAny_specialOf hT PySem.F.slot_tuple_iterator_next.lookup (k it s' I2 hn young)
theorem own_pie {pins : List (Addr × Obj)} {σ : L2.St} {H : Hp} {s : Shared} {c i : Nat} {a dx t : Addr} {vs : List (Option V)} {xs : List V} {tg : Expr} {R : It → Hp → Prop} (g : GX T F n N sc fn W X) (I : Inv X pins σ H s)
    (ei : T.itr c = some i) (sl : SlX.Slt H a (T.ca c) dx vs) (hv : vs[i]? = some (some (.ref t))) (ht : SqT X.K H t xs) (q : R (Itt X.K t) H) : wpAny (model X.prog X.w) X.A (pyIter (.ref a)) (PIE X pins σ tg R) X.xe s := by
  refine own_it g I (g.room.mono (by omega)) g.grd I.env0 ei sl hv ht fun it s' I' hn young => ?_
  have hd : ItX.dropH (upd H it (TItO t it)) it = H := ItX.dropH_upd hn
  refine ⟨it, [it], _, _, H, rfl, ?_, turn_tuple t it, (I'.hok it _ upd_same).1, fun b hb => ?_, q⟩
  · have := ItX.inv_drop I' (a := it) upd_same
    rw [hd] at this
    exact this
  · have e : b = it := by simpa using hb
    rw [e]
    have := ItX.inv_fp I' (a := it) upd_same (Nat.le_trans I.sz young)
    rw [hd] at this
    exact this
/-- nothing, or something, is said of the length -/
theorem own_hint {A : Around} {pins : List (Addr × Obj)} {σ : L2.St} {H : Hp} {s : Shared} {Q : Bool → Shared → Prop} {E : Value → Shared → Prop} {c i : Nat} {a dx t : Addr} {vs : List (Option V)} {xs : List V} (g : GX T F n N sc fn W X) (I : Inv X pins σ H s) (hr : Room 1 A) (hg : A.guards = some [])
    (e0 : Env0 X.prog X.w X.K X.mg X.base A.in1 X.stack s H) (ei : T.itr c = some i) (sl : SlX.Slt H a (T.ca c) dx vs) (hv : vs[i]? = some (some (.ref t))) (ht : SqT X.K H t xs)
    (k : ∀ b s', Inv X pins σ H s' → Q b s') : wpAny (model X.prog X.w) A (Builtin.List.listLengthHint (.ref a)) Q E s := by
  obtain ⟨_, f, _, _, _, hf1, hf2, Fn⟩ := g.itr c i ei
  obtain ⟨sa, od, _, J, _⟩ := SlX.slt_inst I sl
  obtain ⟨m, hF⟩ := I.fr
  unfold Builtin.List.listLengthHint
  refine wpAny_bind (wpAny_bind (J.type.here ((PySem.W.looks_findIn I.kIn hf1).here ?_)))
  refine PySem.W.KFB.if_not rfl ?_
  refine PySem.W.KFB.if_so rfl ?_
  refine wpAny_bind (wpAny_rule ?_)
  refine wpAny_bind (wpAny_attempt ?_)
  have hz := I.tuple ht
  obtain ⟨its, rv, pt, hz⟩ := hz
  refine PySem.W.len_K hF I.ok.mod.kin J hf1 hf2 ?_
  refine wpAny_call (codeAny_mono (Fn A.in1 X.stack s H a dx t vs xs (Room.in1 hr) hg e0 sl hv ht) fun r s' hq => ?_)
  cases r with
  | error e =>
    obtain ⟨_, _, _, _, _, _, _, _, _, _, _, _, z⟩ := hq
    exact z.elim
  | ok fl =>
    cases fl with
    | next => exact False.elim hq
    | brk => exact False.elim hq
    | cont => exact False.elim hq
    | ret u =>
      obtain ⟨v, H', I2, rv2, ev, eH⟩ := I.after hq
      subst ev eH
      obtain ⟨tk, rfl⟩ := rv2
      have h63 : (xs.length : Int) < 2 ^ 63 := by
        have := line63
        omega
      refine ⟨⟨Int.natCast_nonneg _, h63⟩, ?_⟩
      have hl : Builtin.List.listTooLong ((xs.length : Int)).toNat = false := by
        unfold Builtin.List.listTooLong
        simp
        omega
      dsimp only
      refine wpAny_bind (wpAny_of_eq (a := some (xs.length : Int)) (by first | rfl | kernel_rfl) ?_)
      dsimp only
      rw [hl]
      exact wpAny_pure (k _ _ (I2.tok _))
theorem slt_upd {H : Hp} {a b C dx : Addr} {vs : List (Option V)} {o : HO} (sl : SlX.Slt H a C dx vs) (hb : H b = none) : SlX.Slt (upd H b o) a C dx vs := by
  rcases sl with ⟨h, e⟩ | ⟨h1, h2⟩
  · exact .inl ⟨by rw [upd_ne (ne_of_none h hb)]; exact h, e⟩
  · exact .inr ⟨by rw [upd_ne (ne_of_none h1 hb)]; exact h1, by rw [upd_ne (ne_of_none h2 hb)]; exact h2⟩
theorem sqT_upd {K : PySem.W.Frag} {H : Hp} {t b : Addr} {xs : List V} {o : HO} (h : SqT K H t xs) (hb : H b = none) : SqT K (upd H b o) t xs := by
  rcases h with (h | ⟨z, h⟩) | h
  · exact .inl (.inl (by rw [upd_ne (ne_of_none h hb)]; exact h))
  · exact .inl (.inr ⟨z, by rw [upd_ne (ne_of_none h hb)]; exact h⟩)
  · exact .inr h
/-- the list at l is filled, the iterator it is used up -/
theorem inv_fill {pins : List (Addr × Obj)} {σ : L2.St} {H : Hp} {s s' : Shared} {l it : Addr} {ws ys : List V} {its : Array Value} {c : Nat} (I : Inv X pins σ (upd H l (.lst ws)) s) (fp : FpOk X pins (upd H l (.lst ws)) it)
    (hm : Moved [l, it] (fun a b => b = a) s s') (e : s'.heap.get? l = some { cls := .type "list", dict := none, data := .seq its c, slots := #[] }) (r : Vals ys its.toList) (hz : ys.length ≤ sizeLine) : Inv X pins σ (upd H l (.lst ys)) s' := by
  obtain ⟨f0, f1, f2, f3, f4, f5⟩ := fp
  have gl : upd H l (.lst ws) l = some (.lst ws) := upd_same
  have ge : ∀ b, b ≠ l → upd H l (.lst ws) b = H b := fun b h1 => upd_ne h1
  have gn : ∀ b, b ≠ l → upd H l (.lst ys) b = H b := fun b h1 => upd_ne h1
  have same : ∀ b o, b ≠ l → b ≠ it → s.heap.get? b = some o → s'.heap.get? b = some o := fun b o h1 h2 z => hm.heap b o (by simp [h1, h2]) z
  have nit : ∀ b u, upd H l (.lst ws) b = some u → b ≠ it := fun b u z w => by rw [w, f0] at z; cases z
  have cas : ∀ b u, upd H l (.lst ws) b = some u → (∀ zs, u ≠ .lst zs) → upd H l (.lst ys) b = some u := fun b u z n1 => by
    have b1 : b ≠ l := fun w => by rw [w, gl] at z; exact n1 _ (Option.some.inj z).symm
    rw [gn b b1, ← ge b b1]
    exact z
  have off : ∀ b, upd H l (.lst ws) b = none → b ≠ l := fun b z w => by rw [w, gl] at z; cases z
  have nil : ∀ b, b ∉ [it] → b ≠ it := fun b h => by simpa using h
  have hok : HOk X.prog X.w (upd H l (.lst ys)) s'.heap := fun b u z => by
    by_cases b1 : b = l
    · subst b1
      rw [upd_same] at z
      cases z
      exact ⟨hz, its.toList, c, r, e⟩
    · rw [gn b b1, ← ge b b1] at z
      refine (I.hok b u z).stay (fun d o hd q => ?_) (fun d q => cas d _ q fun _ w => (nomatch w)) fun d zs q => cas d _ q fun _ w => (nomatch w)
      rcases hd with hd | hd
      · subst hd
        exact same d o b1 (nit d _ z) q
      · have d1 : d ≠ l := fun w => by rw [w, gl] at hd; cases hd
        exact same d o d1 (nit d _ hd) q
  rw [hm.eq_with]
  refine I.step (g' := s.gens) (d' := s.drawn) (ch := [it]) (fun b hb => ?_) (fun b o _ _ hc q z => same b o (off b z) (nil b hc) q) (fun b o _ _ hc q z => ⟨o.slots, same b o (off b z) (nil b hc) q⟩) (fun b o _ _ z => by rw [gn b (off b z), ← ge b (off b z)]; exact z)
    (fun b o hc q => ?_) (fun b zs z => cas b _ z fun _ w => (nomatch w)) (fun b o x z => cas b _ z fun _ w => (nomatch w)) (fun b ps z => ⟨#[], by rw [cas b _ z fun _ w => (nomatch w)]; simp⟩) (fun m h => ?_) hok I.bare
  · have q : b = it := by simpa using hb
    subst q
    exact ⟨f3, f1, f4, f5⟩
  · by_cases b1 : b = l
    · subst b1; exact ⟨_, e⟩
    · exact ⟨o, same b o b1 (nil b hc) q⟩
  · obtain ⟨o, es, ep, ho, r⟩ := h
    have hl1 : X.env.locals ≠ l := fun w => by
      have := I.free
      rw [w, gl] at this
      cases this
    exact ⟨o, es, ep, same _ o hl1 (Ne.symm f1) ho, r⟩
/-- list(o) -/
theorem list_own {pins : List (Addr × Obj)} {σ : L2.St} {H : Hp} {s : Shared} {Q : VK} {c i : Nat} {a dx t : Addr} {vs : List (Option V)} {xs : List V} (g : GX T F n N sc fn W X) (I : Inv X pins σ H s) (ei : T.itr c = some i) (sl : SlX.Slt H a (T.ca c) dx vs)
    (hv : vs[i]? = some (some (.ref t))) (ht : SqT X.K H t xs) (q : ∀ l, H l = none → Q (.ref l) (upd H l (.lst xs))) : wpAny (model X.prog X.w) X.A (call (.type "list") [.ref a]) (EP X pins σ Q) X.xe s := by
  refine callType_codes (Q₁ := fun obj s₁ => obj = .ref s.heap.objs.size ∧ s₁ = { s with heap := s.heap.push { cls := .type "list", data := .seq #[] } }) PySem.F.called_list (PySem.F.typeCall_list_1 _) PySem.F.entry_list_init
    (code_list_new _ ⟨rfl, rfl⟩) fun obj s₁ h₁ => ?_
  obtain ⟨rfl, rfl⟩ := h₁
  have hS : (s.heap.push { cls := .type "list", data := .seq #[] }).get? s.heap.objs.size = some { cls := .type "list", data := .seq #[] } := Heap.get?_push_size _ rfl
  refine ⟨⟨_, hS, rfl⟩, PySem.F.args_list_init_2 _ _, ?_⟩
  have fr : H s.heap.objs.size = none := I.hok.fresh (Nat.le_refl _)
  have hq := q _ fr
  generalize hl : s.heap.objs.size = l at *
  have I1 : Inv X pins σ (upd H l (.lst [])) { s with heap := s.heap.push { cls := .type "list", data := .seq #[] } } := by
    rw [← hl]
    exact I.lnew (its := []) (t' := s.toks) .nil (Nat.zero_le _)
  show wpAny _ _ (do let old ← Builtin.List.listItems (.ref l); Builtin.List.listUpdate (.ref l) (fun _ => #[]); letGo old.toList.reverse; Builtin.List.listExtendWith (.ref l) (.ref a) .none) _ _ _
  refine wpAny_bind ?_
  unfold Builtin.List.listItems
  refine wpAny_bind (wpAny_seqItems hS rfl (wpAny_pure ?_))
  show wpAny _ _ (updateSeq l (fun _ => #[]) >>= fun _ => letGo (#[] : Array Value).toList.reverse >>= fun _ => Builtin.List.listExtendWith (.ref l) (.ref a) .none) _ _ _
  refine wpAny_bind (wpAny_updateSeq hS rfl ?_)
  have I2 := I1.lset (f := fun _ => #[]) (its := []) (its' := []) (ys := []) (t' := s.toks) upd_same hS rfl .nil (Nat.zero_le _)
  rw [upd_upd] at I2
  refine wpAny_bind (wpAny_letGo ?_)
  have sl2 : SlX.Slt (upd H l (.lst [])) a (T.ca c) dx vs := slt_upd sl fr
  have ht2 : SqT X.K (upd H l (.lst [])) t xs := sqT_upd ht fr
  have hne : l ≠ a := by
    rcases sl with ⟨h, _⟩ | ⟨h, _⟩ <;> exact Ne.symm (ne_of_none h fr)
  obtain ⟨sa, od, _, J, _⟩ := SlX.slt_inst I2 sl2
  unfold Builtin.List.listExtendWith
  refine wpAny_bind (J.type.here ?_)
  have h1 : Builtin.List.listSameRef (.ref l) (.ref a) = false := by simp [Builtin.List.listSameRef, hne]
  have h2 : (Value.ref (T.ca c) == Value.type "list") = false := rfl
  have h3 : (Value.ref (T.ca c) == Value.type "tuple") = false := rfl
  simp only [h1, h2, h3, Bool.or_false, Bool.false_eq_true, if_false]
  refine wpAny_bind (own_it g I2 ((g.room.mono (j := 2) (by omega)).in1.in1) g.grd I2.env0.in1.in1 ei sl2 hv ht2 fun it s' I3 hn young => ?_)
  have sl3 : SlX.Slt (upd (upd H l (.lst [])) it (TItO t it)) a (T.ca c) dx vs := slt_upd sl2 hn
  have ht3 : SqT X.K (upd (upd H l (.lst [])) it (TItO t it)) t xs := sqT_upd ht2 hn
  refine wpAny_bind (wpAny_holding (own_hint g I3 ((g.room.mono (j := 3) (by omega)).in1.in1) g.grd I3.env0.in1.in1.in1 ei sl3 hv ht3 fun b s' I3 => ?_))
  have hli : l ≠ it := fun w => by rw [← w, upd_same] at hn; cases hn
  have loop : ∀ s', Inv X pins σ (upd (upd H l (.lst [])) it (TItO t it)) s' → codeAny (model X.prog X.w) X.A.in1 (.builtin "list.extend.loop" ⟨[.ref l, .ref it, .none], []⟩) (wants (fun r s₂ => r = .none ∧ EP X pins σ Q (.ref l) s₂) X.xe) s' := fun s' I4 => by
    obtain ⟨its, rv, pt, hz⟩ := I4.tuple ht3
    have hit : s'.heap.IsTupleIter it t 0 := (I4.hok it _ upd_same).1
    have hnt : t ≠ it := fun w => by
      subst w
      obtain ⟨o, e1, c1, _⟩ := hit
      obtain ⟨o2, e2, c2, _⟩ := (show s'.heap.IsTuple t its.toArray from pt)
      rw [e1] at e2
      cases e2
      rw [c1] at c2
      exact absurd (Value.type.inj c2) (by decide)
    have hlt : l ≠ t := fun w => by
      rcases ht with (h | ⟨z, h⟩) | ⟨o, _, _, hk, hc, _⟩
      · exact ne_of_none h fr w.symm
      · exact ne_of_none h fr w.symm
      · have e1 := I4.kIn t o hk
        obtain ⟨_, its', n', _, _, e2⟩ := I4.lstM (l := l) (xs := []) (by rw [upd_ne hli]; exact upd_same)
        rw [w, e1] at e2
        cases e2
        exact absurd (Value.type.inj hc) (by decide)
    obtain ⟨_, its', n', r', _, e2⟩ := I4.lstM (l := l) (xs := []) (by rw [upd_ne hli]; exact upd_same)
    cases r'
    have W := (Walks.tuple (prog := X.prog) (w := X.w) (A := X.A.in1.in1) (I4.ok.hd g.calm) it t hnt its.toArray).toS
    have hlen := rv.length
    refine codeAny_extend_loopS W (by rw [List.size_toArray]; omega) l (by simp [hli, hlt]) .none _ 0 s' #[] _ rfl (Nat.zero_le _) ⟨hit, pt⟩ e2 (ItemsOf.nil _) fun s2 acc c2 hm hS2 hacc => ?_
    have ea : acc = its.toArray := by
      refine Array.ext_getElem? fun j => ?_
      cases q : acc[j]? with
      | some v => exact (hacc.2 j v q).symm
      | none =>
        have z := Array.getElem?_eq_none_iff.mp q
        rw [hacc.1] at z
        exact (Array.getElem?_eq_none_iff.mpr z).symm
    subst ea
    have hd : ItX.dropH (upd (upd H l (.lst [])) it (TItO t it)) it = upd H l (.lst []) := ItX.dropH_upd hn
    have I5 := ItX.inv_drop I4 (a := it) upd_same
    have fp := ItX.inv_fp I4 (a := it) upd_same (Nat.le_trans I2.sz young)
    rw [hd] at I5 fp
    exact ⟨rfl, .ref l, _, inv_fill I5 fp hm hS2 rv hz, rfl, hq⟩
  refine wpAny_ite_split (fun _ => ?_) (fun _ => wpAny_pure ⟨plainId_quiet PySem.F.plain_extend_loop _, loop _ I3⟩)
  have gl : upd (upd H l (.lst [])) it (TItO t it) l = some (.lst []) := by rw [upd_ne hli]; exact upd_same
  obtain ⟨z, its, k, r3, _, e3⟩ := I3.lstM gl
  cases r3
  refine wpAny_bind (wpAny_rule ?_)
  refine wpAny_bind ?_
  show wpAny _ _ (updateSeq l (·.push .none) >>= fun _ => updateSeq l (·.pop)) _ _ _
  refine wpAny_bind (wpAny_updateSeq e3 rfl ?_)
  have I4 := I3.lset (f := (·.push Value.none)) (its' := [Value.none]) (ys := [.non]) (t' := s'.toks) gl e3 (by simp) (.cons rfl .nil) (by rw [List.length_singleton, sizeLine_eq]; decide)
  obtain ⟨z4, its4, k4, r4, hl4, e4⟩ := I4.lstM upd_same
  obtain ⟨u4, rfl, ru4⟩ := r4.one
  refine wpAny_updateSeq e4 rfl ?_ (by show 1 ≤ sizeLine; rw [sizeLine_eq]; decide) (by show 0 ≤ sizeLine + 1; exact Nat.zero_le _)
  refine wpAny_pure ⟨plainId_quiet PySem.F.plain_extend_loop _, loop _ ?_⟩
  have I5 := I4.lset (f := (·.pop)) (its := [u4]) (its' := []) (ys := []) (t' := s'.toks) upd_same e4 (by rfl) .nil (Nat.zero_le _)
  rw [upd_upd] at I5
  have hH : upd (upd (upd H l (.lst [])) it (TItO t it)) l (.lst []) = upd (upd H l (.lst [])) it (TItO t it) := by
    funext b
    by_cases hb : b = l
    · rw [hb, upd_same, gl]
    · rw [upd_ne hb]
  rw [hH] at I5
  exact I5
/-- what an instance iterates over -/
def ownL (itr : Nat → Option Nat) (st : Store) (d : DV) : Option (List D) := match instV st d with
  | some (c, fs) => (match itr c with
    | some i => (match fs[i]? with
      | some (some (.tup l)) => some l
      | _ => none)
    | none => none)
  | none => none
theorem ownL_at {μ : Mu} {H : Hp} {st : Store} {d : DV} {v : V} {l : List D} (rs : RSt T.toTb μ H st) (r : RV T.toTb μ H d v) (h : ownL T.itr st d = some l) :
    ∃ a c i dx t vs xs, v = .ref a ∧ T.itr c = some i ∧ SlX.Slt H a (T.ca c) dx vs ∧ vs[i]? = some (some (.ref t)) ∧ TupAt T.K μ H t xs ∧ RDs T.toTb μ H l xs := by
  unfold ownL at h
  split at h
  · rename_i c fs hi
    split at h
    · rename_i i ei
      split at h
      · rename_i l' hl
        cases h
        obtain ⟨a, dx, vs, rfl, sl, rr⟩ := inst_at rs r hi
        obtain ⟨v, h1, h2⟩ := rsl_get rr hl
        obtain ⟨p, xs, rfl, hp, rp⟩ := rd_tup (RV.d h2)
        exact ⟨a, c, i, dx, p, vs, xs, rfl, ei, sl, h1, hp, rp⟩
      · cases h
    · cases h
  · cases h
end
end PyI
namespace PyI
open PySem PySem.Spec PyProof.Rows L2
abbrev BG := FTs → List DV → Store → R DV
section
variable {T : Tx} {N : List Str} {sc : Scope} {fn : Str → Bool} {F : FTs} {n : Nat} {W : WX} {X : Cx} {pos : Pos}
def CallOk (T : Tx) (F : FTs) (W : WX) (X : Cx) (f : Value) (g : BG) : Prop :=
  ∀ (pins : List (Addr × Obj)) (s : Shared) (σ : L2.St) (H : Hp) (μ : Mu) (st : Store) (ds : List DV) (xs : List V) (us : List Value) (Q : VK), Inv X pins σ H s → RSt T.toTb μ H st → RVs T.toTb μ H ds xs → Vals xs us →
    POST T (atS W σ) μ H (g F ds st) Q → wpAny (model X.prog X.w) X.A (call f us) (EP X pins σ Q) X.xe s
def cB (g : BG) (a : AF) : EF := fun F env st => (a F env st).bind fun xs st => g F xs st
theorem ok_callB {x : Str} {id : String} {g : BG} {p : Pos} {e : Expr} {es : List Expr} {a : AF} (hg : globB sc x = true) (hx : T.G x = some .blt) (hv : bootBuiltins x = some (.builtin id)) (hb : ∀ F n W X, GX T F n N sc fn W X → CallOk T F W X (.builtin id) g) (hn : x ≠ "__name__") (hd : (x == ("__debug__" : Str)) = false)
    (hs : (e :: es).all notStar = true) (ha : AOk T N sc fn (e :: es) a) : EOk T N sc fn (.Call (.Name x p) (e :: es) [] pos) (cB g a) := by
  intro F n W X gx
  refine ⟨fun pins s σ H Q I ⟨μ, env, st, re, rs, h⟩ => ?_⟩
  rw [List.all_cons, Bool.and_eq_true] at hs
  refine wpAny_Call_Name_kw (ld_blt I (gl_of gx hg) (gx.tx.blt x hx) hv ?_ hn hd)
  exact PyProof.Rows.callWith_builtin1 (thn ((ha F n W X gx).run pos pins s σ H _ I (args_then re rs h)) fun us s1 ⟨vs, H1, I1, r, μ1, xs, st1, e1, rs1, rx, h1⟩ => hb F n W X gx pins s1 σ H1 μ1 st1 xs vs us Q I1 rs1 rx r h1) (starEach_plain hs.1) (noStars hs.2)
theorem ok_callTy {x : Str} {id : String} {g : BG} {p : Pos} {e : Expr} {es : List Expr} {a : AF} (hg : globB sc x = true) (hx : T.G x = some .blt) (hv : bootBuiltins x = some (.type id)) (hb : ∀ F n W X, GX T F n N sc fn W X → CallOk T F W X (.type id) g) (hn : x ≠ "__name__") (hd : (x == ("__debug__" : Str)) = false)
    (hs : (e :: es).all notStar = true) (ha : AOk T N sc fn (e :: es) a) : EOk T N sc fn (.Call (.Name x p) (e :: es) [] pos) (cB g a) := by
  intro F n W X gx
  refine ⟨fun pins s σ H Q I ⟨μ, env, st, re, rs, h⟩ => ?_⟩
  rw [List.all_cons, Bool.and_eq_true] at hs
  refine wpAny_Call_Name_kw (ld_blt I (gl_of gx hg) (gx.tx.blt x hx) hv ?_ hn hd)
  exact PyProof.Rows.callWith_type1 (thn ((ha F n W X gx).run pos pins s σ H _ I (args_then re rs h)) fun us s1 ⟨vs, H1, I1, r, μ1, xs, st1, e1, rs1, rx, h1⟩ => hb F n W X gx pins s1 σ H1 μ1 st1 xs vs us Q I1 rs1 rx r h1) (starEach_plain hs.1) (noStars hs.2)

theorem rvs1 {μ : Mu} {H : Hp} {d : DV} {xs : List V} (r : RVs T.toTb μ H [d] xs) : ∃ x, xs = [x] ∧ RV T.toTb μ H d x := by
  cases r with | cons h t => cases t; exact ⟨_, rfl, h⟩
theorem rvs2 {μ : Mu} {H : Hp} {d e : DV} {xs : List V} (r : RVs T.toTb μ H [d, e] xs) : ∃ x y, xs = [x, y] ∧ RV T.toTb μ H d x ∧ RV T.toTb μ H e y := by
  cases r with | cons h t => cases t with | cons h2 t => cases t; exact ⟨_, _, rfl, h, h2⟩

def absG : BG := fun _ a st => match a with
  | [.d (.int i)] => .d (.int (if i < 0 then -i else i)) st
  | _ => .no
theorem cok_abs (g : GX T F n N sc fn W X) : CallOk T F W X (.builtin "abs") absG := by
  intro pins s σ H μ st ds xs us Q I rs rx r h
  unfold absG at h
  split at h
  · obtain ⟨x, rfl, rx1⟩ := rvs1 rx
    cases rd_int rx1
    exact call_abs pins s σ H _ us Q I r ⟨_, rfl, h.done rs (.d (.int _))⟩
  · exact h.elim
def intG : BG := fun _ a st => match a with
  | [.d (.int i)] => .d (.int i) st
  | [.d (.bl b)] => .d (.int (if b then 1 else 0)) st
  | [.d (.str x)] => if x.length ≤ 640 then (match PySem.intText? x with
    | some i => .d (.int i) st
    | none => .no) else .no
  | _ => .no
theorem cok_int (g : GX T F n N sc fn W X) : CallOk T F W X (.type "int") intG := by
  intro pins s σ H μ st ds xs us Q I rs rx r h
  unfold intG at h
  split at h
  · obtain ⟨x, rfl, rx1⟩ := rvs1 rx
    cases rd_int rx1
    exact call_int1 pins s σ H _ us Q I r (.inl ⟨_, rfl, h.done rs (.d (.int _))⟩)
  · obtain ⟨x, rfl, rx1⟩ := rvs1 rx
    cases rd_bl rx1
    exact call_int1 pins s σ H _ us Q I r (.inr ⟨_, rfl, h.done rs (.d (.int _))⟩)
  · obtain ⟨x, rfl, rx1⟩ := rvs1 rx
    cases rd_str rx1
    split at h
    · rename_i c
      split at h
      · rename_i i e
        exact call_int_str pins s σ H _ us Q I r ⟨_, _, rfl, e, c, h.done rs (.d (.int _))⟩
      · exact h.elim
    · exact h.elim
  · exact h.elim
def lenG : BG := fun _ a st => match a with
  | [.d (.tup l)] => .d (.int l.length) st
  | [.d (.str x)] => if x.length ≤ line then .d (.int x.length) st else .no
  | [a] => match seqL st a with
    | some l => .d (.int l.length) st
    | none => .no
  | _ => .no
theorem cok_len (g : GX T F n N sc fn W X) : CallOk T F W X (.builtin "len") lenG := by
  intro pins s σ H μ st ds xs us Q I rs rx r h
  unfold lenG at h
  split at h
  · obtain ⟨x, rfl, rx1⟩ := rvs1 rx
    obtain ⟨p, ys, rfl, hp, rp⟩ := rd_tup rx1
    refine call_len_seq pins s σ H _ us Q I r ⟨p, ys, rfl, .inr (by rw [g.hK]; exact hp.sq), ?_⟩
    rw [← rp.length]
    exact h.done rs (.d (.int _))
  · obtain ⟨x, rfl, rx1⟩ := rvs1 rx
    cases rd_str rx1
    split at h
    · rename_i c
      exact call_len_str pins s σ H _ us Q I r ⟨_, rfl, by rw [← line_eq]; exact c, h.done rs (.d (.int _))⟩
    · exact h.elim
  · obtain ⟨x, rfl, rx1⟩ := rvs1 rx
    split at h
    · rename_i l e
      obtain ⟨p, ys, rfl, hp, rp⟩ := seqL_sq (K := X.K) g.hK rs rx1 e
      refine call_len_seq pins s σ H _ us Q I r ⟨p, ys, rfl, .inl hp, ?_⟩
      rw [← rp.length]
      exact h.done rs (.d (.int _))
    · exact h.elim
  · exact h.elim

def intsOf : List D → Option (List Int)
  | [] => some []
  | .int i :: r => (intsOf r).map (i :: ·)
  | _ => none
def blsOf : List D → Option (List Bool)
  | [] => some []
  | .bl i :: r => (blsOf r).map (i :: ·)
  | _ => none
theorem intsOf_eq : ∀ {l : List D} {ns : List Int}, intsOf l = some ns → l = ns.map .int
  | [], ns, h => by cases h; rfl
  | .int i :: r, ns, h => by
    simp only [intsOf] at h
    cases e : intsOf r with
    | none => rw [e] at h; cases h
    | some ms => rw [e] at h; cases h; rw [intsOf_eq e]; rfl
  | .non :: _, _, h => by cases h
  | .bl _ :: _, _, h => by cases h
  | .str _ :: _, _, h => by cases h
  | .ty _ :: _, _, h => by cases h
  | .fn _ :: _, _, h => by cases h
  | .cls _ :: _, _, h => by cases h
  | .tup _ :: _, _, h => by cases h
  | .lst _ :: _, _, h => by cases h
  | .ins _ _ :: _, _, h => by cases h
  | .scr _ :: _, _, h => by cases h
theorem blsOf_eq : ∀ {l : List D} {ns : List Bool}, blsOf l = some ns → l = ns.map .bl
  | [], ns, h => by cases h; rfl
  | .bl i :: r, ns, h => by
    simp only [blsOf] at h
    cases e : blsOf r with
    | none => rw [e] at h; cases h
    | some ms => rw [e] at h; cases h; rw [blsOf_eq e]; rfl
  | .non :: _, _, h => by cases h
  | .int _ :: _, _, h => by cases h
  | .str _ :: _, _, h => by cases h
  | .ty _ :: _, _, h => by cases h
  | .fn _ :: _, _, h => by cases h
  | .cls _ :: _, _, h => by cases h
  | .tup _ :: _, _, h => by cases h
  | .lst _ :: _, _, h => by cases h
  | .ins _ _ :: _, _, h => by cases h
  | .scr _ :: _, _, h => by cases h
def intsG (st : Store) (k : List Int → R DV) (a : List DV) : R DV := match a with
  | [a] => match seqL st a with
    | some l => (match intsOf l with
      | some ns => k ns
      | none => .no)
    | none => .no
  | _ => .no
theorem intsG_at {μ : Mu} {H : Hp} {st : Store} {k : List Int → R DV} {ds : List DV} {xs : List V} {E : XK} {Q : VK} {K : PySem.W.Frag} (hK : K = T.K) (rs : RSt T.toTb μ H st) (r : RVs T.toTb μ H ds xs) (h : POST T E μ H (intsG st k ds) Q) : ∃ a ns, xs = [V.ref a] ∧ SqL K H a (ns.map V.int) ∧ POST T E μ H (k ns) Q := by
  unfold intsG at h
  split at h
  · obtain ⟨x, rfl, rx1⟩ := rvs1 r
    split at h
    · rename_i l e
      obtain ⟨p, ys, rfl, hp, rp⟩ := seqL_sq (K := K) hK rs rx1 e
      split at h
      · rename_i ns e2
        rw [intsOf_eq e2] at rp
        rw [RDs.ofInts rp] at hp
        exact ⟨p, ns, rfl, hp, h⟩
      · exact h.elim
    · exact h.elim
  · exact h.elim
def sumG : BG := fun _ a st => intsG st (fun ns => .d (.int ns.sum) st) a
theorem cok_sum (g : GX T F n N sc fn W X) : CallOk T F W X (.builtin "sum") sumG := by
  intro pins s σ H μ st ds xs us Q I rs rx r h
  obtain ⟨a, ns, rfl, hp, q⟩ := intsG_at (K := X.K) g.hK rs rx h
  exact cr_sum g.calm pins s σ H _ us Q I r ⟨a, ns, rfl, hp, q.done rs (.d (.int _))⟩
def maxOf : List Int → Int
  | [] => 0
  | [a] => a
  | a :: r => max a (maxOf r)
def minOf : List Int → Int
  | [] => 0
  | [a] => a
  | a :: r => min a (minOf r)
theorem maxOf_spec : ∀ {ns : List Int}, 0 < ns.length → maxOf ns ∈ ns ∧ ∀ y ∈ ns, y ≤ maxOf ns
  | [a], _ => ⟨by simp [maxOf], fun y hy => by simp at hy; subst hy; exact Int.le_refl _⟩
  | a :: b :: r, _ => by
    obtain ⟨h1, h2⟩ := maxOf_spec (ns := b :: r) (by simp)
    show max a (maxOf (b :: r)) ∈ a :: b :: r ∧ _
    refine ⟨?_, fun y hy => ?_⟩
    · by_cases c : a ≤ maxOf (b :: r)
      · rw [Int.max_eq_right c]; exact List.mem_cons_of_mem _ h1
      · rw [Int.max_eq_left (by omega)]; exact List.mem_cons_self
    · rcases List.mem_cons.mp hy with e | e
      · subst e; exact Int.le_max_left ..
      · exact Int.le_trans (h2 y e) (Int.le_max_right ..)
theorem minOf_spec : ∀ {ns : List Int}, 0 < ns.length → minOf ns ∈ ns ∧ ∀ y ∈ ns, minOf ns ≤ y
  | [a], _ => ⟨by simp [minOf], fun y hy => by simp at hy; subst hy; exact Int.le_refl _⟩
  | a :: b :: r, _ => by
    obtain ⟨h1, h2⟩ := minOf_spec (ns := b :: r) (by simp)
    show min a (minOf (b :: r)) ∈ a :: b :: r ∧ _
    refine ⟨?_, fun y hy => ?_⟩
    · by_cases c : a ≤ minOf (b :: r)
      · rw [Int.min_eq_left c]; exact List.mem_cons_self
      · rw [Int.min_eq_right (by omega)]; exact List.mem_cons_of_mem _ h1
    · rcases List.mem_cons.mp hy with e | e
      · subst e; exact Int.min_le_left ..
      · exact Int.le_trans (Int.min_le_right ..) (h2 y e)
def maxG : BG := fun _ a st => match a with
  | [.d (.int i), .d (.int j)] => .d (.int (if j > i then j else i)) st
  | a => intsG st (fun ns => if 0 < ns.length then .d (.int (maxOf ns)) st else .no) a
theorem cok_max (g : GX T F n N sc fn W X) : CallOk T F W X (.builtin "max") maxG := by
  intro pins s σ H μ st ds xs us Q I rs rx r h
  unfold maxG at h
  split at h
  · obtain ⟨x, y, rfl, r1, r2⟩ := rvs2 rx
    cases rd_int r1; cases rd_int r2
    exact call_max2 g.calm pins s σ H _ us Q I r ⟨_, _, rfl, h.done rs (.d (.int _))⟩
  · obtain ⟨a, ns, rfl, hp, q⟩ := intsG_at (K := X.K) g.hK rs rx h
    split at q
    · rename_i c
      refine cr_max g.calm pins s σ H _ us Q I r ⟨a, ns, rfl, hp, c, fun m hm hle => ?_⟩
      obtain ⟨h1, h2⟩ := maxOf_spec c
      have e : m = maxOf ns := Int.le_antisymm (h2 m hm) (hle _ h1)
      rw [e]
      exact q.done rs (.d (.int _))
    · exact q.elim
def minG : BG := fun _ a st => match a with
  | [.d (.int i), .d (.int j)] => .d (.int (if j < i then j else i)) st
  | a => intsG st (fun ns => if 0 < ns.length then .d (.int (minOf ns)) st else .no) a
theorem cok_min (g : GX T F n N sc fn W X) : CallOk T F W X (.builtin "min") minG := by
  intro pins s σ H μ st ds xs us Q I rs rx r h
  unfold minG at h
  split at h
  · obtain ⟨x, y, rfl, r1, r2⟩ := rvs2 rx
    cases rd_int r1; cases rd_int r2
    exact call_min2 g.calm pins s σ H _ us Q I r ⟨_, _, rfl, h.done rs (.d (.int _))⟩
  · obtain ⟨a, ns, rfl, hp, q⟩ := intsG_at (K := X.K) g.hK rs rx h
    split at q
    · rename_i c
      refine cr_min g.calm pins s σ H _ us Q I r ⟨a, ns, rfl, hp, c, fun m hm hle => ?_⟩
      obtain ⟨h1, h2⟩ := minOf_spec c
      have e : m = minOf ns := Int.le_antisymm (hle _ h1) (h2 m hm)
      rw [e]
      exact q.done rs (.d (.int _))
    · exact q.elim
def blsG (st : Store) (k : List Bool → R DV) (a : List DV) : R DV := match a with
  | [a] => match seqL st a with
    | some l => (match blsOf l with
      | some ns => k ns
      | none => .no)
    | none => .no
  | _ => .no
theorem blsG_at {μ : Mu} {H : Hp} {st : Store} {k : List Bool → R DV} {ds : List DV} {xs : List V} {E : XK} {Q : VK} {K : PySem.W.Frag} (hK : K = T.K) (rs : RSt T.toTb μ H st) (r : RVs T.toTb μ H ds xs) (h : POST T E μ H (blsG st k ds) Q) : ∃ a ns, xs = [V.ref a] ∧ SqL K H a (ns.map V.bl) ∧ POST T E μ H (k ns) Q := by
  unfold blsG at h
  split at h
  · obtain ⟨x, rfl, rx1⟩ := rvs1 r
    split at h
    · rename_i l e
      obtain ⟨p, ys, rfl, hp, rp⟩ := seqL_sq (K := K) hK rs rx1 e
      split at h
      · rename_i ns e2
        rw [blsOf_eq e2] at rp
        rw [RDs.ofBls rp] at hp
        exact ⟨p, ns, rfl, hp, h⟩
      · exact h.elim
    · exact h.elim
  · exact h.elim
def allG : BG := fun _ a st => blsG st (fun ns => .d (.bl (ns.all id)) st) a
def anyG : BG := fun _ a st => blsG st (fun ns => .d (.bl (ns.any id)) st) a
theorem cok_all (g : GX T F n N sc fn W X) : CallOk T F W X (.builtin "all") allG := by
  intro pins s σ H μ st ds xs us Q I rs rx r h
  obtain ⟨a, ns, rfl, hp, q⟩ := blsG_at (K := X.K) g.hK rs rx h
  exact cr_all g.calm pins s σ H _ us Q I r ⟨a, ns, rfl, hp, q.done rs (.d (.bl _))⟩
theorem cok_any (g : GX T F n N sc fn W X) : CallOk T F W X (.builtin "any") anyG := by
  intro pins s σ H μ st ds xs us Q I rs rx r h
  obtain ⟨a, ns, rfl, hp, q⟩ := blsG_at (K := X.K) g.hK rs rx h
  exact cr_any g.calm pins s σ H _ us Q I r ⟨a, ns, rfl, hp, q.done rs (.d (.bl _))⟩

def listG (itr : Nat → Option Nat) : BG := fun _ a st => match a with
  | [a] => match itemsOf st a with
    | some l => .d (.lst l) st
    | none => (match ownL itr st a with
      | some l => .d (.lst l) st
      | none => .no)
  | _ => .no
theorem cok_list (g : GX T F n N sc fn W X) : CallOk T F W X (.type "list") (listG T.itr) := by
  intro pins s σ H μ st ds xs us Q I rs rx r h
  unfold listG at h
  split at h
  · obtain ⟨x, rfl, rx1⟩ := rvs1 rx
    split at h
    · rename_i l e
      obtain ⟨p, ys, rfl, hp, rp⟩ := itemsOf_at g.hK rs rx1 e
      exact call_list_of pins s σ H _ us Q I r ⟨p, ys, rfl, hp.symm, POST.newLst h rs rp⟩
    · split at h
      · rename_i l e
        obtain ⟨a, c, i, dx, t, vs, ys, rfl, ei, sl, hv, hp, rp⟩ := ownL_at rs rx1 e
        obtain rfl := Vals.ref1 r
        exact list_own g I ei sl hv (by rw [g.hK]; exact hp.sq) (POST.newLst h rs rp)
      · exact h.elim
  · exact h.elim
def tupleG : BG := fun _ a st => match a with
  | [.d (.tup l)] => .d (.tup l) st
  | [a] => match seqL st a with
    | some l => .d (.tup l) st
    | none => .no
  | _ => .no
theorem cok_tuple (g : GX T F n N sc fn W X) : CallOk T F W X (.type "tuple") tupleG := by
  intro pins s σ H μ st ds xs us Q I rs rx r h
  unfold tupleG at h
  split at h
  · obtain ⟨x, rfl, rx1⟩ := rvs1 rx
    obtain ⟨p, ys, rfl, hp, rp⟩ := rd_tup rx1
    exact call_tuple_of pins s σ H _ us Q I r ⟨p, ys, rfl, .inr ⟨by rw [g.hK]; exact hp.sq, h.done rs (.d (.tup hp rp))⟩⟩
  · obtain ⟨x, rfl, rx1⟩ := rvs1 rx
    split at h
    · rename_i l e
      obtain ⟨p, ys, rfl, hp, rp⟩ := seqL_sq (K := X.K) g.hK rs rx1 e
      exact call_tuple_of pins s σ H _ us Q I r ⟨p, ys, rfl, .inl ⟨hp, POST.newTup h rs rp⟩⟩
    · exact h.elim
  · exact h.elim
end
end PyI
namespace PyI
open PySem PySem.Spec PyProof.Rows L2
section
variable {T : Tx} {N : List Str} {sc : Scope} {fn : Str → Bool} {F : FTs} {n : Nat} {W : WX} {X : Cx} {pos : Pos}

abbrev LF := FTs → DEnv → Store → R (List D)
def tL (T : Tx) (F : FTs) (W : WX) (f : LF) : TE := fun σ H Q => ∃ μ env st, REnv T.toTb μ H env σ ∧ RSt T.toTb μ H st ∧ PST T (RDs T.toTb) (atS W σ) μ H (f F env st) (fun xs H1 => ∀ p, H1 p = none → Q (.ref p) (upd H1 p (.lst xs)))
def LOk (T : Tx) (N : List Str) (sc : Scope) (fn : Str → Bool) (e : Expr) (f : LF) : Prop := ∀ F n W X, GX T F n N sc fn W X → PE X e (tL T F W f)
def cFrz (f : LF) : EF := fun F env st => (f F env st).bind fun l st => .d (.lst l) st
def cThw (f : LF) : EF := fun F env st => (f F env st).bind fun l st => .ok (.loc st.length) (st ++ [.lst l])
theorem LOk.frz {e : Expr} {f : LF} (h : LOk T N sc fn e f) : EOk T N sc fn e (cFrz f) := by
  intro F n W X g
  refine PE.imp (h F n W X g) fun σ H Q ⟨μ, env, st, re, rs, h⟩ => ?_
  refine ⟨μ, env, st, re, rs, PST.mono (PST.bind (Rel := RDs T.toTb) h) fun xs H1 ⟨μ1, l, st1, e1, rs1, rl, h1⟩ => ?_⟩
  exact POST.newLst h1 rs1 rl
theorem LOk.thw {e : Expr} {f : LF} (h : LOk T N sc fn e f) : EOk T N sc fn e (cThw f) := by
  intro F n W X g
  refine PE.imp (h F n W X g) fun σ H Q ⟨μ, env, st, re, rs, h⟩ => ?_
  refine ⟨μ, env, st, re, rs, PST.mono (PST.bind (Rel := RDs T.toTb) h) fun xs H1 ⟨μ1, l, st1, e1, rs1, rl, h1⟩ => ?_⟩
  intro p hp
  have kp : ∀ a o, H1 a = some o → upd H1 p (.lst xs) a = some o := fun a o q => by rw [upd_ne (ne_of_none q hp)]; exact q
  have e2 : Ext μ1 H1 (μ1 ++ [some (p, p)]) (upd H1 p (.lst xs)) := Ext.place hp hp kp
  refine h1 _ _ _ e2 (rs1.place hp hp kp ⟨p, xs, rfl, upd_same, RDs.ext e2 rl⟩) (.loc (by simp [rs1.len]) fun q hq => ?_)
  rw [← rs1.len] at hq
  simp at hq
  rw [← hq]
/-- [..] -/
def lDisp (a : AF) : LF := fun F env st => (a F env st).bind fun xs st => match plainD xs with
  | some l => if l.length ≤ line then .ok l st else .no
  | none => .no
theorem lok_disp {es : List Expr} {f : AF} (h : AOk T N sc fn es f) : LOk T N sc fn (.List es pos) (lDisp f) := by
  intro F n W X g
  refine PE.imp (pe_lst (h F n W X g)) fun σ H Q ⟨μ, env, st, re, rs, h⟩ => ?_
  refine ⟨μ, env, st, re, rs, PST.mono (PST.bind (Rel := RVs T.toTb) h) fun xs H1 ⟨μ1, a, st1, e1, rs1, ra, h1⟩ => ?_⟩
  dsimp only at h1
  split at h1
  · rename_i l hl
    split at h1
    · rename_i c
      have r := rds_plain ra hl
      exact ⟨by rw [← r.length, ← line_eq]; exact c, PST.done h1 rs1 r⟩
    · exact h1.elim
  · exact h1.elim
/-- list(x), x a sequence -/
def lList (itr : Nat → Option Nat) (f : EF) : LF := fun F env st => (f F env st).bind fun a st => match itemsOf st a with
  | some l => .ok l st
  | none => (match ownL itr st a with
    | some l => .ok l st
    | none => .no)
def rListO (T : Tx) (K : PySem.W.Frag) : List V → Hp → VK → Prop := fun xs H Q => ∃ a c i dx t vs ys, xs = [.ref a] ∧ T.itr c = some i ∧ SlX.Slt H a (T.ca c) dx vs ∧ vs[i]? = some (some (.ref t)) ∧ SqT K H t ys ∧ ∀ l, H l = none → Q (.ref l) (upd H l (.lst ys))
theorem call_list_o (g : GX T F n N sc fn W X) : CallR X (.type "list") (rListO T X.K) := by
  intro pins s σ H xs us Q I r ⟨a, c, i, dx, t, vs, ys, e, ei, sl, hv, ht, q⟩
  subst e
  obtain rfl := Vals.ref1 r
  exact list_own g I ei sl hv ht q
theorem lok_list {x : Str} {p : Pos} {e : Expr} {f : EF} (hx : x = "list") (hg : globB sc x = true) (hG : T.G x = some .blt) (hs : notStar e = true) (h : EOk T N sc fn e f) : LOk T N sc fn (.Call (.Name x p) [e] [] pos) (lList T.itr f) := by
  subst hx
  intro F n W X g
  refine PE.imp (pe_callTy (x := "list") (CallR.or call_list_of (call_list_o g)) (gl_of g hg) (g.tx.blt _ hG) (by decide +kernel) (pa_cons (h F n W X g) pa_nil (starEach_plain hs)) (by decide) (by decide) (starEach_plain hs) rfl) fun σ H Q ⟨μ, env, st, re, rs, h⟩ => ?_
  refine ⟨μ, env, st, re, rs, POST.mono (PST.bind (Rel := RV T.toTb) h) fun v H1 ⟨μ1, a, st1, e1, rs1, ra, h1⟩ => ?_⟩
  dsimp only at h1
  split at h1
  · rename_i l hl
    obtain ⟨q, ys, rfl, hp, rp⟩ := itemsOf_at g.hK rs1 ra hl
    exact .inl ⟨q, ys, rfl, hp.symm, PST.done h1 rs1 rp⟩
  · split at h1
    · rename_i l hl
      obtain ⟨a, c, i, dx, t, vs, ys, rfl, ei, sl, hv, hp, rp⟩ := ownL_at rs1 ra hl
      exact .inr ⟨a, c, i, dx, t, vs, ys, rfl, ei, sl, hv, by rw [g.hK]; exact hp.sq, PST.done h1 rs1 rp⟩
    · exact h1.elim
/-- xs + ys, xs * k -/
def lCat (f g : EF) : LF := fun F env st => (f F env st).bind fun a st => (g F env st).bind fun b st => match lstL st a, lstL st b with
  | some l, some m => if l.length + m.length ≤ line then .ok (l ++ m) st else .no
  | _, _ => .no
theorem lok_cat {a b : Expr} {f h : EF} (ha : EOk T N sc fn a f) (hb : EOk T N sc fn b h) : LOk T N sc fn (.BinOp a .Add b pos) (lCat f h) := by
  intro F n W X g
  refine PE.imp (pe_op op_cat (ha F n W X g) (hb F n W X g)) fun σ H Q ⟨μ, env, st, re, rs, h⟩ => ?_
  refine ⟨μ, env, st, re, rs, POST.mono (PST.bind (Rel := RV T.toTb) h) fun v H1 ⟨μ1, a, st1, e1, rs1, ra, h1⟩ => ?_⟩
  refine ⟨μ1, env, st1, re.ext e1, rs1, POST.mono (PST.bind (Rel := RV T.toTb) h1) fun w H2 ⟨μ2, b, st2, e2, rs2, rb, h2⟩ => ?_⟩
  dsimp only at h2
  split at h2
  · rename_i l m q1 q2
    split at h2
    · rename_i c
      obtain ⟨p, xs, rfl, hp, rp⟩ := lstL_at rs2 (ra.ext e2) q1
      obtain ⟨q, ys, rfl, hq, rq⟩ := lstL_at rs2 rb q2
      exact ⟨p, q, xs, ys, rfl, rfl, hp, hq, by rw [← line_eq, ← rp.length, ← rq.length]; exact c, PST.done h2 rs2 (rp.append rq)⟩
    · exact h2.elim
  · exact h2.elim
def lRep (f g : EF) : LF := fun F env st => (f F env st).bind fun a st => (g F env st).bind fun b st => match b with
  | .d (.int k) => (match lstL st a with
    | some l => if k < 9223372036854775808 then (if -9223372036854775808 ≤ k then (if l.length * k.toNat ≤ line then .ok (rep k.toNat l) st else .no) else .no) else .no
    | none => .no)
  | _ => .no
theorem lok_rep {a b : Expr} {f h : EF} (ha : EOk T N sc fn a f) (hb : EOk T N sc fn b h) : LOk T N sc fn (.BinOp a .Mult b pos) (lRep f h) := by
  intro F n W X g
  refine PE.imp (pe_op op_rep (ha F n W X g) (hb F n W X g)) fun σ H Q ⟨μ, env, st, re, rs, h⟩ => ?_
  refine ⟨μ, env, st, re, rs, POST.mono (PST.bind (Rel := RV T.toTb) h) fun v H1 ⟨μ1, a, st1, e1, rs1, ra, h1⟩ => ?_⟩
  refine ⟨μ1, env, st1, re.ext e1, rs1, POST.mono (PST.bind (Rel := RV T.toTb) h1) fun w H2 ⟨μ2, b, st2, e2, rs2, rb, h2⟩ => ?_⟩
  dsimp only at h2
  split at h2
  · cases rd_int rb
    split at h2
    · rename_i l q1
      split at h2
      · rename_i c1
        split at h2
        · rename_i c2
          split at h2
          · rename_i c3
            obtain ⟨p, xs, rfl, hp, rp⟩ := lstL_at rs2 (ra.ext e2) q1
            exact ⟨p, _, xs, rfl, rfl, hp, c2, c1, by rw [← line_eq, ← rp.length]; exact c3, PST.done h2 rs2 (rds_rep rp _)⟩
          · exact h2.elim
        · exact h2.elim
      · exact h2.elim
    · exact h2.elim
  · exact h2.elim
end
inductive Fl where
  | nx | rt (d : DV) | bk | ct
inductive RS where
  | ok (f : Fl) (env : DEnv) (st : Store)
  | ex (c : Nat) (x : Option D) (env : DEnv) (st : Store)
  | no
abbrev SF := FTs → DEnv → Store → RS
def POSTS (T : Tx) (W : WX) (D : Ends) (μ : Mu) (H : Hp) : RS → Prop
  | .ok .nx env st => ∀ μ' σ' H', Ext μ H μ' H' → RSt T.toTb μ' H' st → REnv T.toTb μ' H' env σ' → D.nx σ' H'
  | .ok .bk env st => ∀ μ' σ' H', Ext μ H μ' H' → RSt T.toTb μ' H' st → REnv T.toTb μ' H' env σ' → D.bk σ' H'
  | .ok .ct env st => ∀ μ' σ' H', Ext μ H μ' H' → RSt T.toTb μ' H' st → REnv T.toTb μ' H' env σ' → D.ct σ' H'
  | .ok (.rt d) _ st => ∀ μ' v H', Ext μ H μ' H' → RSt T.toTb μ' H' st → RV T.toTb μ' H' d v → D.rt v H'
  | .ex c x env st => ∀ μ' σ' H' cls dd, Ext μ H μ' H' → RSt T.toTb μ' H' st → REnv T.toTb μ' H' env σ' → RX T.toTb T.xf μ' H' c x cls dd → W cls dd σ' H'
  | .no => False
section
variable {T : Tx} {N : List Str} {sc : Scope} {fn : Str → Bool} {F : FTs} {n : Nat} {W : WX} {X : Cx} {pos : Pos} {μ μ1 : Mu} {H H1 : Hp} {D : Ends} {r : RS}
theorem POSTS.ext (h : POSTS T W D μ H r) (e : Ext μ H μ1 H1) : POSTS T W D μ1 H1 r := by
  cases r with
  | ok f env st => cases f <;> exact fun μ' s H' e' => h μ' s H' (e.trans e')
  | ex c x env st => exact fun μ' σ' H' cls dd e' => h μ' σ' H' cls dd (e.trans e')
  | no => exact h
/-- an expression, then statements -/
def liftE {α : Type} (r : R α) (env : DEnv) (k : α → Store → RS) : RS := match r with
  | .ok d st => k d st
  | .ex c x st => .ex c x env st
  | .no => .no
theorem POSTS.lift {α β : Type} {Rel : Mu → Hp → α → β → Prop} {m : R α} {env : DEnv} {k : α → Store → RS} {σ : L2.St} (re : REnv T.toTb μ H env σ) (h : POSTS T W D μ H (liftE m env k)) :
    PST T Rel (atS W σ) μ H m (fun v H1 => ∃ μ1 d st1, Ext μ H μ1 H1 ∧ RSt T.toTb μ1 H1 st1 ∧ Rel μ1 H1 d v ∧ POSTS T W D μ1 H1 (k d st1)) := by
  cases m with
  | ok d st => exact fun μ' v H' e rs rv => ⟨μ', d, st, e, rs, rv, POSTS.ext (r := k d st) h e⟩
  | ex c x st => exact fun μ' H' cls dd e rs rx => h μ' σ H' cls dd e rs (re.ext e) rx
  | no => exact h
def tS (T : Tx) (F : FTs) (W : WX) (f : SF) : TS := fun D σ H => ∃ μ env st, REnv T.toTb μ H env σ ∧ RSt T.toTb μ H st ∧ POSTS T W D μ H (f F env st)
def SOk (T : Tx) (N : List Str) (sc : Scope) (fn : Str → Bool) (s : Stmt) (f : SF) : Prop := ∀ F n W X, GX T F n N sc fn W X → PS X s (tS T F W f)
def SsOk (T : Tx) (N : List Str) (sc : Scope) (fn : Str → Bool) (s : List Stmt) (f : SF) : Prop := ∀ F n W X, GX T F n N sc fn W X → PSs X s (tS T F W f)
def sSkip : SF := fun _ env st => .ok .nx env st
def RS.seq (r : RS) (k : DEnv → Store → RS) : RS := match r with
  | .ok .nx env st => k env st
  | r => r
def sSeq (a b : SF) : SF := fun F env st => (a F env st).seq fun env st => b F env st
theorem POSTS.seq {k : DEnv → Store → RS} (h : POSTS T W D μ H (r.seq k)) : POSTS T W { D with nx := fun σ' H' => ∃ μ1 env st, Ext μ H μ1 H' ∧ RSt T.toTb μ1 H' st ∧ REnv T.toTb μ1 H' env σ' ∧ POSTS T W D μ1 H' (k env st) } μ H r := by
  cases r with
  | ok f env st =>
    cases f with
    | nx => exact fun μ' σ' H' e rs re => ⟨μ', env, st, e, rs, re, POSTS.ext (r := k env st) h e⟩
    | bk => exact h
    | ct => exact h
    | rt d => exact h
  | ex c x env st => exact h
  | no => exact h
theorem sok_skip : SsOk T N sc fn [] sSkip := fun F n W X g => PSs.imp pss_nil fun D σ H ⟨μ, env, st, re, rs, h⟩ => h μ σ H .refl rs re
theorem sok_pass : SOk T N sc fn (.Pass pos) sSkip := fun F n W X g => PS.imp ps_pass fun D σ H ⟨μ, env, st, re, rs, h⟩ => h μ σ H .refl rs re
theorem sok_cons {s : Stmt} {r : List Stmt} {a b : SF} (h1 : SOk T N sc fn s a) (h2 : SsOk T N sc fn r b) : SsOk T N sc fn (s :: r) (sSeq a b) := by
  intro F n W X g
  refine PSs.imp (pss_cons (h1 F n W X g) (h2 F n W X g)) fun D σ H ⟨μ, env, st, re, rs, h⟩ => ?_
  refine ⟨μ, env, st, re, rs, ?_⟩
  have q := POSTS.seq h
  revert q
  cases a F env st with
  | ok f env' st' =>
    cases f with
    | nx =>
      intro q μ' σ' H' e rs' re'
      obtain ⟨μ1, env1, st1, e1, rs1, re1, h1⟩ := q μ' σ' H' e rs' re'
      exact ⟨μ1, env1, st1, re1, rs1, h1⟩
    | bk => exact fun q => q
    | ct => exact fun q => q
    | rt d => exact fun q => q
  | ex c x env' st' => exact fun q => q
  | no => exact fun q => q
theorem sok_one {s : Stmt} {a : SF} (h1 : SOk T N sc fn s a) : SsOk T N sc fn [s] a := fun F n W X g => pss_one (h1 F n W X g)
def sBreak : SF := fun _ env st => .ok .bk env st
def sCont : SF := fun _ env st => .ok .ct env st
theorem sok_break : SOk T N sc fn (.Break pos) sBreak := fun F n W X g => PS.imp ps_break fun D σ H ⟨μ, env, st, re, rs, h⟩ => h μ σ H .refl rs re
theorem sok_cont : SOk T N sc fn (.Continue pos) sCont := fun F n W X g => PS.imp ps_continue fun D σ H ⟨μ, env, st, re, rs, h⟩ => h μ σ H .refl rs re
def notLc : Expr → Bool
  | .ListComp .. => false
  | .SetComp .. => false
  | .DictComp .. => false
  | _ => true
theorem swaps_no {e : Expr} {t : Option Expr} {l : Nat} {env : Env} (h : notLc e = true) : swapsWith e t l env = pure false := by
  cases e <;> first | rfl | cases h
def sExpr (f : EF) : SF := fun F env st => liftE (f F env st) env fun _ st => .ok .nx env st
theorem sok_expr {e : Expr} {f : EF} (h : EOk T N sc fn e f) (hn : notLc e = true) : SOk T N sc fn (.Expr e pos) (sExpr f) := by
  intro F n W X g
  refine PS.imp (ps_expr (h F n W X g) (swaps_no hn)) fun D σ H ⟨μ, env, st, re, rs, h⟩ => ?_
  refine ⟨μ, env, st, re, rs, PST.mono (POSTS.lift (Rel := RV T.toTb) re h) fun v H1 ⟨μ1, d, st1, e1, rs1, rd, h1⟩ => ?_⟩
  exact h1 μ1 σ H1 .refl rs1 (re.ext e1)
/-- raise C(..) -/
def sRaise (c : Nat) (b : Bool) (a : AF) : SF := fun F env st => liftE (a F env st) env fun xs st => if b = true then (match xs with
    | [.d d] => .ex c (some d) env st
    | _ => .no)
  else if xs.length ≤ 1000 then .ex c none env st else .no
theorem rvs_len {T : Tb} {l : List DV} {xs : List V} (r : RVs T μ H l xs) : l.length = xs.length := r.length
theorem sok_raise {x : Str} {c : Nat} {b : Bool} {p cp : Pos} {e : Expr} {es : List Expr} {a : AF} (hg : globB sc x = true) (hG : T.G x = some (.cls c)) (he : T.exn c = some b) (hd : (x == ("__debug__" : Str)) = false) (hs : (e :: es).all notStar = true) (ha : AOk T N sc fn (e :: es) a) :
    SOk T N sc fn (.Raise (some (.Call (.Name x p) (e :: es) [] cp)) none pos) (sRaise c b a) := by
  intro F n W X g
  obtain ⟨hm, _⟩ := g.tx.cls x c hG
  obtain ⟨mk, kp⟩ := g.exn c b he
  rw [List.all_cons, Bool.and_eq_true] at hs
  have pm : PMk X (.Call (.Name x p) (e :: es) [] cp) (fun σ H Q => tA T F W a σ H fun vs H1 => rMk (T.ca c) b (T.xf c) vs H1 Q) := by
    intro pins s σ H Q I h
    refine wpAny_Call_Name_kw (ld_glob I (gl_of g hg) hm ?_ hd)
    refine PySem.W.callWith_K (h₀ := X.base) I.ok.mod.kin kp (thn ((ha F n W X g).run cp pins s σ H _ I h) fun us s1 ⟨vs, H1, I1, r, q⟩ => ⟨I1.kIn, ?_⟩) (starEach_plain hs.1) (noStars hs.2)
    exact mk X pins s1 σ H1 vs us Q rfl rfl rfl rfl rfl g.calm (g.room.mono (by omega)) g.grd I1 r q
  refine PS.imp (ps_raise g.calm g.takes pm) fun D σ H ⟨μ, env, st, re, rs, h⟩ => ?_
  refine ⟨μ, env, st, re, rs, PST.mono (POSTS.lift (Rel := RVs T.toTb) re h) fun vs H1 ⟨μ1, xs, st1, e1, rs1, rx, h1⟩ => ?_⟩
  have re1 := re.ext e1
  cases b with
  | false =>
    rw [if_neg (by decide)] at h1
    split at h1
    · rename_i hl
      exact ⟨by rw [← rvs_len rx]; exact hl, h1 μ1 σ H1 _ _ .refl rs1 re1 ⟨rfl, fun d z => (nomatch z)⟩⟩
    · exact h1.elim
  | true =>
    rw [if_pos rfl] at h1
    split at h1
    · rename_i d
      obtain ⟨v, rfl, rv⟩ := rvs1 rx
      cases rv with
      | d rv =>
        refine ⟨v, rfl, fun dd hn => h1 μ1 σ _ _ _ (Ext.new hn) (rs1.new hn) (re1.ext (Ext.new hn)) ⟨rfl, fun d' z => ?_⟩⟩
        cases z
        exact ⟨dd, v, rfl, ⟨upd_same, not_has rs1 hn⟩, RD.ext (Ext.new hn) rv⟩
    · exact h1.elim
def sRet (f : EF) : SF := fun F env st => liftE (f F env st) env fun d st => .ok (.rt d) env st
theorem sok_ret {e : Expr} {f : EF} (h : EOk T N sc fn e f) : SOk T N sc fn (.Return (some e) pos) (sRet f) := by
  intro F n W X g
  refine PS.imp (ps_ret (h F n W X g)) fun D σ H ⟨μ, env, st, re, rs, h⟩ => ?_
  refine ⟨μ, env, st, re, rs, PST.mono (POSTS.lift (Rel := RV T.toTb) re h) fun v H1 ⟨μ1, d, st1, e1, rs1, rd, h1⟩ => ?_⟩
  exact h1 μ1 v H1 .refl rs1 rd
def sRetN : SF := fun _ env st => .ok (.rt (.d .non)) env st
theorem sok_retN : SOk T N sc fn (.Return none pos) sRetN := fun F n W X g => PS.imp ps_retN fun D σ H ⟨μ, env, st, re, rs, h⟩ => h μ .non H .refl rs (.d .non)
def sIf (c : EF) (a b : SF) : SF := fun F env st => liftE (c F env st) env fun x st => match x with
  | .d (.bl true) => a F env st
  | .d (.bl false) => b F env st
  | _ => .no
theorem sok_if {c : Expr} {p q : List Stmt} {fc : EF} {a b : SF} (hc : TOk T N sc fn c fc) (ha : SsOk T N sc fn p a) (hb : SsOk T N sc fn q b) : SOk T N sc fn (.If c p q pos) (sIf fc a b) := by
  intro F n W X g
  refine PS.imp (ps_if (hc F n W X g) (ha F n W X g) (hb F n W X g)) fun D σ H ⟨μ, env, st, re, rs, h⟩ => ?_
  refine ⟨μ, env, st, re, rs, PST.mono (POSTS.lift (Rel := RV T.toTb) re h) fun v H1 ⟨μ1, d, st1, e1, rs1, rd, h1⟩ => ?_⟩
  split at h1
  · cases rd_bl rd
    exact ⟨true, rfl, it ⟨μ1, env, st1, re.ext e1, rs1, h1⟩⟩
  · cases rd_bl rd
    exact ⟨false, rfl, jt ⟨μ1, env, st1, re.ext e1, rs1, h1⟩⟩
  · exact h1.elim
def locB (sc : Scope) (x : Str) : Bool := match sc.names.lookup x with
  | some .local => true
  | some .cell => true
  | _ => false
theorem loc_of {sc : Scope} {x : Str} (h : locB sc x = true) : L2.Loc sc x := by
  unfold locB at h
  unfold L2.Loc
  split at h
  · rename_i e; exact .inl e
  · rename_i e; exact .inr e
  · cases h
/-- its cell, if it has one, was made at the entry -/
def ownB (sc : Scope) (fn : Str → Bool) (x : Str) : Bool := fn x || match sc.names.lookup x with
  | some .local => true
  | _ => false
theorem own_of (g : GX T F n N sc fn W X) {x : Str} (h : ownB sc fn x = true) : X.fn x = true ∨ X.env.scope.names.lookup x = some .local := by
  unfold ownB at h
  rw [Bool.or_eq_true] at h
  rcases h with h | h
  · exact .inl (g.hfn x h)
  · rw [g.hsc]
    split at h
    · rename_i e; exact .inr e
    · cases h
def sSet (i : Nat) (f : EF) : SF := fun F env st => liftE (f F env st) env fun d st => .ok .nx (env.set i (some d)) st
theorem sok_set {i : Nat} {x : Str} {e : Expr} {f : EF} {pos' : Pos} (hi : N[i]? = some x) (hl : locB sc x = true) (ho : ownB sc fn x = true) (hn : notLc e = true) (h : EOk T N sc fn e f) : SOk T N sc fn (.Assign [.Name x pos'] e pos) (sSet i f) := by
  intro F n W X g
  refine PS.imp (ps_set (i := i) (by rw [g.hN]; exact g.nd) (by rw [g.hN]; exact hi) (by rw [g.hsc]; exact loc_of hl) (h F n W X g) (swaps_no hn) (own_of g ho)) fun D σ H ⟨μ, env, st, re, rs, h⟩ => ?_
  refine ⟨μ, env, st, re, rs, PST.mono (POSTS.lift (Rel := RV T.toTb) re h) fun v H1 ⟨μ1, d, st1, e1, rs1, rd, h1⟩ => ?_⟩
  exact h1 μ1 _ H1 .refl rs1 ((re.ext e1).set rd i)
end
end PyI
namespace PyI
open PySem PySem.Spec PyProof.Rows L2
theorem RSt.change {T : Tx} {μ : Mu} {H H' : Hp} {st : Store} {n : Nat} {p : Addr × Addr} {so' : SO} (rs : RSt T.toTb μ H st) (hn : μ[n]? = some (some p)) (hd : ∀ b, b ≠ p.1 → b ≠ p.2 → H' b = H b)
    (new : Ext μ H μ H' → RSo T.toTb μ H' so' (some p)) : Ext μ H μ H' ∧ RSt T.toTb μ H' (st.set n so') := by
  have hk : ∀ a o, At μ H a o → At μ H' a o := fun a o h => by
    refine ⟨?_, h.2⟩
    rw [hd a (fun e => h.2 ⟨n, p, hn, .inl e⟩) (fun e => h.2 ⟨n, p, hn, .inr e⟩)]
    exact h.1
  have e : Ext μ H μ H' := ⟨hk, Nat.le_refl _, fun _ _ _ h => h⟩
  refine ⟨e, by rw [List.length_set]; exact rs.len, fun m so h => ?_, rs.apart⟩
  by_cases c : n = m
  · subst c
    rw [List.getElem?_set] at h
    simp only [if_true] at h
    split at h
    · cases h
      exact ⟨_, hn, new e⟩
    · cases h
  · rw [List.getElem?_set_ne c] at h
    obtain ⟨o, q, s⟩ := rs.at_ m so h
    refine ⟨o, q, ?_⟩
    cases so with
    | dead => exact s
    | lst ds =>
      obtain ⟨a, xs, e1, e2, e3⟩ := s
      subst e1
      have n1 : a ≠ p.1 := fun z => c (rs.apart n m p (a, a) hn q (.inl z.symm))
      have n2 : a ≠ p.2 := fun z => c (rs.apart n m p (a, a) hn q (.inr (.inr (.inl z.symm))))
      exact ⟨a, xs, rfl, by rw [hd a n1 n2]; exact e2, RDs.keep hk e3⟩
    | obj cc fs =>
      obtain ⟨a, dx, vs, e1, e2, e3, e4, e5⟩ := s
      subst e1
      have n1 : a ≠ p.1 := fun z => c (rs.apart n m p (a, dx) hn q (.inl z.symm))
      have n2 : a ≠ p.2 := fun z => c (rs.apart n m p (a, dx) hn q (.inr (.inr (.inl z.symm))))
      have n3 : dx ≠ p.1 := fun z => c (rs.apart n m p (a, dx) hn q (.inr (.inl z.symm)))
      have n4 : dx ≠ p.2 := fun z => c (rs.apart n m p (a, dx) hn q (.inr (.inr (.inr z.symm))))
      refine ⟨a, dx, vs, rfl, e2, ?_, by rw [hd dx n3 n4]; exact e4, RSl.keep hk e5⟩
      unfold SlX.Slt at e3 ⊢
      rw [hd a n1 n2, hd dx n3 n4]
      exact e3
theorem place_at {T : Tx} {μ : Mu} {H : Hp} {st : Store} {n : Nat} {l : List D} {v : V} (rs : RSt T.toTb μ H st) (r : RV T.toTb μ H (.loc n) v) (h : st[n]? = some (.lst l)) : ∃ a xs, v = .ref a ∧ μ[n]? = some (some (a, a)) ∧ H a = some (.lst xs) ∧ RDs T.toTb μ H l xs := by
  obtain ⟨o, e, s⟩ := rs.at_ n _ h
  obtain ⟨a, xs, e1, e2, e3⟩ := s
  subst e1
  cases r with
  | loc hn hv => exact ⟨a, xs, hv _ e, e, e2, e3⟩
/-- a list's place, with other items -/
theorem RSt.list {T : Tx} {μ : Mu} {H : Hp} {st : Store} {n : Nat} {a : Addr} {l : List D} {xs : List V} (rs : RSt T.toTb μ H st) (hn : μ[n]? = some (some (a, a))) (r : RDs T.toTb μ H l xs) :
    Ext μ H μ (upd H a (.lst xs)) ∧ RSt T.toTb μ (upd H a (.lst xs)) (st.set n (.lst l)) :=
  rs.change hn (fun b h1 _ => upd_ne h1) fun e => ⟨a, xs, rfl, upd_same, RDs.ext e r⟩
section
variable {T : Tx} {N : List Str} {sc : Scope} {fn : Str → Bool} {F : FTs} {n : Nat} {W : WX} {X : Cx} {pos : Pos} {μ μ1 : Mu} {H H1 : Hp} {En : Ends} {r : RS}
abbrev GF := FTs → DV → DEnv → Store → RS
def onlyEnds (Q : L2.St → Hp → Prop) : Ends := { nx := Q, rt := fun _ _ => False }
def tG (T : Tx) (F : FTs) (W : WX) (f : GF) : TG := fun v σ H Q => ∃ μ d env st, REnv T.toTb μ H env σ ∧ RSt T.toTb μ H st ∧ RV T.toTb μ H d v ∧ POSTS T W (onlyEnds Q) μ H (f F d env st)
def GOk (T : Tx) (N : List Str) (sc : Scope) (fn : Str → Bool) (t : Expr) (f : GF) : Prop := ∀ F n W X, GX T F n N sc fn W X → PG X t (tG T F W f)
abbrev GsF := FTs → List D → DEnv → Store → RS
def tGs (T : Tx) (F : FTs) (W : WX) (f : GsF) : TGs := fun vs σ H Q => ∃ μ ds env st, REnv T.toTb μ H env σ ∧ RSt T.toTb μ H st ∧ RDs T.toTb μ H ds vs ∧ POSTS T W (onlyEnds Q) μ H (f F ds env st)
def GsOk (T : Tx) (N : List Str) (sc : Scope) (fn : Str → Bool) (t : List Expr) (f : GsF) : Prop := ∀ F n W X, GX T F n N sc fn W X → PGs X t (tGs T F W f)
theorem PG.imp {e : Expr} {t t' : TG} (h : PG X e t) (k : ∀ v σ H Q, t' v σ H Q → t v σ H Q) : PG X e t' := ⟨fun pins s σ H v u Q I r q => h.run pins s σ H v u Q I r (k _ _ _ _ q)⟩
theorem PGs.imp {e : List Expr} {t t' : TGs} (h : PGs X e t) (k : ∀ v σ H Q, t' v σ H Q → t v σ H Q) : PGs X e t' := ⟨fun pins s σ H v u Q I r q => h.run pins s σ H v u Q I r (k _ _ _ _ q)⟩
def onlyNx (r : RS) : RS := match r with
  | .ok .nx env st => .ok .nx env st
  | .ex c x env st => .ex c x env st
  | _ => .no
theorem POSTS.only (h : POSTS T W En μ H (onlyNx r)) : POSTS T W (onlyEnds En.nx) μ H r := by
  cases r with
  | ok f env st => cases f <;> first | exact h | exact h.elim
  | ex c x env st => exact h
  | no => exact h
def gName (i : Nat) : GF := fun _ d env st => .ok .nx (env.set i (some d)) st
theorem gok_name {i : Nat} {x : Str} (hi : N[i]? = some x) (hl : locB sc x = true) (ho : ownB sc fn x = true) : GOk T N sc fn (.Name x pos) (gName i) := by
  intro F n W X g
  refine PG.imp (pg_name (i := i) (by rw [g.hN]; exact g.nd) (by rw [g.hN]; exact hi) (by rw [g.hsc]; exact loc_of hl) (own_of g ho)) fun v σ H Q ⟨μ, d, env, st, re, rs, rd, h⟩ => ?_
  exact h μ _ H .refl rs (re.set rd i)
def gsNil : GsF := fun _ ds env st => match ds with
  | [] => .ok .nx env st
  | _ => .no
def gsCons (f : GF) (r : GsF) : GsF := fun F ds env st => match ds with
  | [] => .no
  | d :: ds => (f F (.d d) env st).seq fun env st => r F ds env st
theorem gsok_nil : GsOk T N sc fn [] gsNil := fun F n W X g => PGs.imp pgs_nil fun vs σ H Q ⟨μ, ds, env, st, re, rs, rd, h⟩ => by
  cases rd with
  | nil => exact ⟨rfl, h μ σ H .refl rs re⟩
  | cons => exact h.elim
theorem assignEach_plain {e : Expr} {es : List Expr} {env : Env} (h : notStar e = true) : assignEach (e :: es) env = (false, assign e env) :: assignEach es env := by
  cases e <;> first | rfl | cases h
theorem assignEach_all {env : Env} : ∀ {es : List Expr}, es.all notStar = true → (assignEach es env).length = es.length ∧ (assignEach es env).findIdx? (·.1) = none
  | [], _ => ⟨rfl, rfl⟩
  | e :: es, h => by
    rw [List.all_cons, Bool.and_eq_true] at h
    obtain ⟨a, b⟩ := assignEach_all (env := env) h.2
    rw [assignEach_plain h.1]
    refine ⟨congrArg (· + 1) a, ?_⟩
    rw [List.findIdx?_cons]
    simp [b]
theorem gsok_cons {e : Expr} {es : List Expr} {f : GF} {r : GsF} (hn : notStar e = true) (h1 : GOk T N sc fn e f) (h2 : GsOk T N sc fn es r) : GsOk T N sc fn (e :: es) (gsCons f r) := by
  intro F n W X g
  refine PGs.imp (pgs_cons (h1 F n W X g) (h2 F n W X g) (by rw [assignEach_plain hn]; rfl)) fun vs σ H Q ⟨μ, ds, env, st, re, rs, rd, h⟩ => ?_
  cases rd with
  | nil => exact h.elim
  | @cons d v ds vs rd rr =>
    refine ⟨_, _, rfl, μ, .d d, env, st, re, rs, .d rd, ?_⟩
    have q := POSTS.seq (k := fun env st => r F ds env st) h
    revert q
    cases f F (.d d) env st with
    | ok fl env' st' =>
      cases fl with
      | nx =>
        intro q μ' σ' H' e rs' re'
        obtain ⟨μ1, env1, st1, e1, rs1, re1, h1⟩ := q μ' σ' H' e rs' re'
        exact ⟨μ1, ds, env1, st1, re1, rs1, RDs.ext e1 rr, h1⟩
      | bk => exact fun q => q
      | ct => exact fun q => q
      | rt d => exact fun q => q
    | ex c x env' st' => exact fun q => q
    | no => exact fun q => q
def gTup (m : Nat) (f : GsF) : GF := fun F d env st => match d with
  | .d (.tup l) => if l.length = m then f F l env st else .no
  | _ => .no
theorem gok_tup {es : List Expr} {k : Nat} {f : GsF} (hs : es.all notStar = true) (h : GsOk T N sc fn es f) : GOk T N sc fn (.Tuple es k pos) (gTup es.length f) := by
  intro F n W X g
  refine PG.imp (pg_tup g.calm (h F n W X g) (assignEach_all hs).1 (assignEach_all hs).2) fun v σ H Q ⟨μ, d, env, st, re, rs, rd, h⟩ => ?_
  unfold gTup at h
  split at h
  · rename_i l
    split at h
    · rename_i c
      obtain ⟨a, xs, rfl, ha, rx⟩ := rd_tup rd
      exact ⟨a, xs, rfl, by rw [g.hK]; exact ha.sq, by rw [← rx.length]; exact c, μ, l, env, st, re, rs, rx, h⟩
    · exact h.elim
  · exact h.elim
/-- o[i] = .. -/
def gItem (o i : EF) : GF := fun F d env st => liftE (o F env st) env fun x st => liftE (i F env st) env fun y st => match x, y, d with
  | .loc m, .d (.int k), .d v => (match st[m]? with
    | some (.lst l) => (match ixN l.length k with
      | some j => .ok .nx env (st.set m (.lst (l.set j v)))
      | none => .no)
    | _ => .no)
  | _, _, _ => .no
def plainSub : Expr → Bool
  | .Slice .. => false
  | .Tuple .. => false
  | .Starred .. => false
  | _ => true
theorem assign_sub {o i : Expr} (h : plainSub i = true) (env : Env) : ∀ v, assign (.Subscript o i pos) env v = (do
      let ov ← holding [v] (eval o env)
      let iv ← holding [v, ov] (eval i env)
      standAt pos
      holding [v, ov, iv] (setItem ov iv v)
      release [v, ov, iv] []) := by
  intro v
  cases i <;> first | rfl | cases h
theorem gok_item {o i : Expr} {fo fi : EF} (hs : plainSub i = true) (ho : EOk T N sc fn o fo) (hi : EOk T N sc fn i fi) : GOk T N sc fn (.Subscript o i pos) (gItem fo fi) := by
  intro F n W X g
  refine PG.imp (pg_sub (ho F n W X g) (hi F n W X g) set_list (assign_sub hs _)) fun v σ H Q ⟨μ, d, env, st, re, rs, rd, h⟩ => ?_
  refine ⟨μ, env, st, re, rs, PST.mono (POSTS.lift (Rel := RV T.toTb) re h) fun x H1 ⟨μ1, a, st1, e1, rs1, ra, h1⟩ => ?_⟩
  refine ⟨μ1, env, st1, re.ext e1, rs1, PST.mono (POSTS.lift (Rel := RV T.toTb) (re.ext e1) h1) fun y H2 ⟨μ2, b, st2, e2, rs2, rb, h2⟩ => ?_⟩
  split at h2
  · cases rd_int rb
    split at h2
    · rename_i l hl
      split at h2
      · rename_i j hj
        obtain ⟨p, xs, rfl, hp, hx, rx⟩ := place_at rs2 (ra.ext e2) hl
        have rv := rd.ext (e1.trans e2)
        cases rv with
        | d rv =>
          obtain ⟨e3, rs3⟩ := rs2.list hp (RDs.set rv j rx)
          exact ⟨p, xs, _, j, rfl, rfl, hx, by rw [← rx.length]; exact hj, h2 μ2 σ _ e3 rs3 (re.ext (e1.trans (e2.trans e3)))⟩
      · exact h2.elim
    · exact h2.elim
  · exact h2.elim
def sAsg (f : EF) (g : GF) : SF := fun F env st => liftE (f F env st) env fun d st => onlyNx (g F d env st)
/-- the stores are not swapped, whatever the frame -/
def nmOf (sc : Scope) (line : Nat) : Expr → Option Str
  | .Name id pos => if sc.names.lookup id == some .local && pos.line == line then some id else none
  | _ => none
def asIs (sc : Scope) (t e : Expr) : Bool := match t, e with
  | .Tuple ts _ _, .Tuple vs _ _ => !(ts.length == 2 || ts.length == 3) || vs.length != ts.length ||
      ((ts.filterMap (nmOf sc ((ts.head?.map (·.pos.line)).getD 0))).length != ts.length || (ts.filterMap (nmOf sc ((ts.head?.map (·.pos.line)).getD 0))).eraseDups.length != (ts.filterMap (nmOf sc ((ts.head?.map (·.pos.line)).getD 0))).length) || vs.all (foldedForSure 8)
  | .List ts _, .Tuple vs _ _ => false
  | _, _ => true
theorem fm_congr {ts : List Expr} {f g : Expr → Option Str} (h : ∀ e, f e = g e) : List.filterMap f ts = List.filterMap g ts := by rw [funext h]
theorem asIs_of {t e : Expr} {env : Env} (h : asIs env.scope t e = true) : swappedStores [t] e env = pure none := by
  have sw : ∀ ts vs k p k2 p2, asIs env.scope (.Tuple ts k p) (.Tuple vs k2 p2) = true → swappedStores [.Tuple ts k p] (.Tuple vs k2 p2) env = pure none := by
    intro ts vs k p k2 p2 h
    unfold asIs at h
    unfold swappedStores
    simp only [Bool.or_eq_true] at h
    show (if _ then _ else _) = _
    by_cases c1 : (!(ts.length == 2 || ts.length == 3) || vs.length != ts.length || env.blockKind != .function) = true
    · rw [if_pos c1]
    · rw [if_neg c1]
      show (if _ then _ else _) = _
      split
      · rfl
      · simp only [Bool.or_eq_true, not_or] at c1
        rcases h with ((h | h) | h) | h
        · exact absurd h c1.1.1
        · exact absurd h c1.1.2
        · show (if _ then _ else _) = _
          rw [@fm_congr ts _ (nmOf env.scope ((ts.head?.map (·.pos.line)).getD 0)) (fun e => by cases e <;> rfl)]
          rw [if_pos]
          rw [Bool.or_eq_true]
          exact h
        · simp only [h, if_true, ite_self]
  cases t <;> first
    | rfl
    | (cases e <;> first | rfl | (exact sw _ _ _ _ _ _ h) | cases h)
theorem swaps_sole {t e : Expr} {l : Nat} {env : Env} (h : notLc e = true) : swapsWithSole [t] e l env = pure false := swaps_no h
theorem sok_asg {t e : Expr} {f : EF} {gt : GF} (he : EOk T N sc fn e f) (ht : GOk T N sc fn t gt) (hn : notLc e = true) (hs : notStar t = true) (hw : asIs sc t e = true) : SOk T N sc fn (.Assign [t] e pos) (sAsg f gt) := by
  intro F n W X g
  refine PS.imp (ps_asg (he F n W X g) (ht F n W X g) (swaps_sole hn) (asIs_of (by rw [g.hsc]; exact hw)) (by rw [assignEach_plain hs]; rfl)) fun D σ H ⟨μ, env, st, re, rs, h⟩ => ?_
  refine ⟨μ, env, st, re, rs, PST.mono (POSTS.lift (Rel := RV T.toTb) re h) fun v H1 ⟨μ1, d, st1, e1, rs1, rd, h1⟩ => ?_⟩
  exact ⟨μ1, d, env, st1, re.ext e1, rs1, rd, h1.only⟩
/-- a, b = x, y by plain names -/
def sPar (i j : Nat) (a : AF) : SF := fun F env st => liftE (a F env st) env fun ds st => match ds with
  | [x, y] => .ok .nx ((env.set i (some x)).set j (some y)) st
  | _ => .no
def isLocal (sc : Scope) (x : Str) : Bool := match sc.names.lookup x with
  | some .local => true
  | _ => false
theorem isLocal_of {x : Str} (h : isLocal sc x = true) : sc.names.lookup x = some .local := by
  unfold isLocal at h
  split at h
  · rename_i e; exact e
  · cases h
def parB (x y : Str) (lx ly : Nat) (a b : Expr) : Bool := notStar a && notStar b && (x != y) && (lx == ly) && !([a, b].all (foldedForSure 8)) && !([a, b].all (constantsAlone 8))
theorem par_of {sc : Scope} {env : Env} {x y : Str} {px py pt : Pos} {a b : Expr} {kt k2 : Nat} {pt2 : Pos} (hs : env.scope = sc) (hk : env.scope.kind = .function) (hx : isLocal sc x = true) (hy : isLocal sc y = true) (h : parB x y px.line py.line a b = true) :
    swappedStores [.Tuple [.Name x px, .Name y py] kt pt] (.Tuple [a, b] k2 pt2) env = pure (some [x, y]) := by
  subst hs
  unfold parB at h
  simp only [Bool.and_eq_true, Bool.not_eq_true', bne_iff_ne, beq_iff_eq] at h
  obtain ⟨⟨⟨⟨⟨h1, h2⟩, h3⟩, h4⟩, h5⟩, h6⟩ := h
  have ex : env.kindOf x = some .local := isLocal_of hx
  have ey : env.kindOf y = some .local := isLocal_of hy
  unfold swappedStores
  show (if _ then _ else _) = _
  rw [if_neg (by simp [Env.blockKind, hk])]
  show (if _ then _ else _) = _
  rw [if_neg (by cases a <;> first | exact Bool.noConfusion h1 | (cases b <;> first | exact Bool.noConfusion h2 | (intro h; cases h)))]
  have hn : ([Expr.Name x px, Expr.Name y py].filterMap (nmOf env.scope px.line)) = [x, y] := by
    have ex' : env.scope.names.lookup x = some .local := ex
    have ey' : env.scope.names.lookup y = some .local := ey
    simp [nmOf, ex', ey', ← h4]
  show (if _ then _ else _) = _
  rw [@fm_congr [Expr.Name x px, Expr.Name y py] _ (nmOf env.scope px.line) (fun e => by cases e <;> rfl), hn]
  rw [if_neg (by
    have : ([x, y] : List Str).eraseDups = [x, y] := by
      simp [List.eraseDups_cons, Ne.symm h3]
    rw [this]
    simp)]
  show (if _ then _ else _) = _
  rw [if_neg (by rw [h5]; decide)]
  show (if _ then _ else _) = _
  rw [if_neg (by rw [h6]; decide)]
theorem sok_par {i j : Nat} {x y : Str} {px py pt : Pos} {a b : Expr} {kt k2 : Nat} {pt2 : Pos} {f : AF} (hi : N[i]? = some x) (hj : N[j]? = some y) (hij : i ≠ j) (hx : isLocal sc x = true) (hy : isLocal sc y = true) (h : parB x y px.line py.line a b = true) (ha : AOk T N sc fn [a, b] f) :
    SOk T N sc fn (.Assign [.Tuple [.Name x px, .Name y py] kt pt] (.Tuple [a, b] k2 pt2) pos) (sPar i j f) := by
  intro F n W X g
  have base : X.env.scope.kind = .function → PS X (.Assign [.Tuple [.Name x px, .Name y py] kt pt] (.Tuple [a, b] k2 pt2) pos) (tPar i j (tA T F W f)) := fun hk =>
    ps_par (i := i) (j := j) g.calm (by rw [g.hN]; exact g.nd) (by rw [g.hN]; exact hi) (by rw [g.hN]; exact hj) hij (by rw [g.hsc]; exact isLocal_of hx) (by rw [g.hsc]; exact isLocal_of hy) (ha F n W X g)
      (par_of g.hsc hk hx hy h) (swaps_sole rfl)
  refine ⟨fun pins s σ H D I q => (base I.ok.kind).run pins s σ H D I ?_⟩
  obtain ⟨μ, env, st, re, rs, h⟩ := q
  refine ⟨μ, env, st, re, rs, PST.mono (POSTS.lift (Rel := RVs T.toTb) re h) fun vs H1 ⟨μ1, ds, st1, e1, rs1, rd, h1⟩ => ?_⟩
  split at h1
  · obtain ⟨v, w, rfl, rv, rw'⟩ := rvs2 rd
    exact ⟨v, w, rfl, h1 μ1 _ H1 .refl rs1 (((re.ext e1).set rv i).set rw' j)⟩
  · exact h1.elim
def sAug (i : Nat) (p : Int → Int → Int) (f : EF) : SF := fun F env st => match env[i]? with
  | some (some (.d (.int x))) => liftE (f F env st) env fun y st => (match y with
    | .d (.int y) => .ok .nx (env.set i (some (.d (.int (p x y))))) st
    | _ => .no)
  | _ => .no
theorem sok_aug {i : Nat} {x : Str} {e : Expr} {f : EF} {op : Operator} {p : Int → Int → Int} {pos' : Pos} (hp : ∀ X : Cx, PIp X op (ipI p)) (hi : N[i]? = some x) (hl : locB sc x = true) (ho : ownB sc fn x = true) (he : EOk T N sc fn e f) :
    SOk T N sc fn (.AugAssign (.Name x pos') op e pos) (sAug i p f) := by
  intro F n W X g
  refine PS.imp (ps_aug (i := i) (by rw [g.hN]; exact g.nd) (by rw [g.hN]; exact hi) (by rw [g.hsc]; exact loc_of hl) (he F n W X g) (hp X) (own_of g ho)) fun D σ H ⟨μ, env, st, re, rs, h⟩ => ?_
  unfold sAug at h
  split at h
  · rename_i z hz
    obtain ⟨v, hv, rv⟩ := re.get hz
    cases rd_int rv
    refine ⟨_, hv, μ, env, st, re, rs, PST.mono (POSTS.lift (Rel := RV T.toTb) re h) fun y H1 ⟨μ1, d, st1, e1, rs1, rd, h1⟩ => ?_⟩
    split at h1
    · cases rd_int rd
      exact ⟨_, _, rfl, rfl, h1 μ1 _ H1 .refl rs1 ((re.ext e1).set (.d (.int _)) i)⟩
    · exact h1.elim
  · exact h.elim
def RS.loop (r : RS) (k : DEnv → Store → RS) : RS := match r with
  | .ok .nx env st => k env st
  | .ok .ct env st => k env st
  | .ok .bk env st => .ok .nx env st
  | r => r
def sWhile (c : EF) (b : SF) : Nat → SF
  | 0 => fun _ _ _ => .no
  | m + 1 => fun F env st => liftE (c F env st) env fun x st => match x with
    | .d (.bl true) => (b F env st).loop fun env st => sWhile c b m F env st
    | .d (.bl false) => .ok .nx env st
    | _ => .no
/-- behind a turn -/
def MidS (T : Tx) (W : WX) (En : Ends) (k : DEnv → Store → RS) : L2.St → Hp → Prop := fun σ' H' => ∃ μ1 env st, RSt T.toTb μ1 H' st ∧ REnv T.toTb μ1 H' env σ' ∧ POSTS T W En μ1 H' (k env st)
theorem POSTS.loop {k : DEnv → Store → RS} (h : POSTS T W En μ H (r.loop k)) : POSTS T W { En with nx := MidS T W En k, ct := MidS T W En k, bk := En.nx } μ H r := by
  cases r with
  | ok f env st =>
    cases f with
    | nx => exact fun μ' σ' H' e rs re => ⟨μ', env, st, rs, re, POSTS.ext (r := k env st) h e⟩
    | ct => exact fun μ' σ' H' e rs re => ⟨μ', env, st, rs, re, POSTS.ext (r := k env st) h e⟩
    | bk => exact h
    | rt d => exact h
  | ex c x env st => exact h
  | no => exact h
theorem sok_while {c : Expr} {body : List Stmt} {fc : EF} {fb : SF} {m : Nat} (hc : TOk T N sc fn c fc) (hb : SsOk T N sc fn body fb) : SOk T N sc fn (.While c body [] pos) (sWhile fc fb m) := by
  intro F n W X g
  refine PS.imp (ps_while g.pass (hc F n W X g) (hb F n W X g)) fun D σ H ⟨μ, env, st, re, rs, h⟩ => ?_
  refine ⟨fun m σ H => MidS T W D (fun env st => sWhile fc fb m F env st) σ H, ⟨m, μ, env, st, rs, re, h⟩, ?_⟩
  rintro m σ H ⟨μ, env, st, rs, re, h⟩
  cases m with
  | zero => exact h.elim
  | succ m =>
    refine ⟨μ, env, st, re, rs, PST.mono (POSTS.lift (Rel := RV T.toTb) re h) fun v H1 ⟨μ1, d, st1, e1, rs1, rd, h1⟩ => ?_⟩
    split at h1
    · cases rd_bl rd
      refine ⟨true, rfl, it ⟨_, fun σ' H' q => ⟨m, Nat.lt_succ_self _, q⟩, μ1, env, st1, re.ext e1, rs1, POSTS.loop h1⟩⟩
    · cases rd_bl rd
      exact ⟨false, rfl, jt (h1 μ1 σ H1 .refl rs1 (re.ext e1))⟩
    · exact h1.elim
end
end PyI
namespace PyI
open PySem PySem.Spec PyProof.Rows L2
/-- what is walked: data, or a list's place -/
inductive Src where
  | l (l : List D) | p (n : Nat)
def RSrc (T : Tx) (μ : Mu) (H : Hp) : Src → It → Prop
  | .l l, J => ∀ μ' H', Ext μ H μ' H' → ∀ i, (l.length ≤ i → J.stop i H') ∧ ∀ d, l[i]? = some d → J.go i H' ∧ ∀ x H'' st, RSt T.toTb μ' H' st → J.yld i H' x H'' → ∃ μ'', Ext μ' H' μ'' H'' ∧ RSt T.toTb μ'' H'' st ∧ RD T.toTb μ'' H'' d x
  | .p n, J => ∀ μ' H' st l, Ext μ H μ' H' → RSt T.toTb μ' H' st → st[n]? = some (.lst l) → ∀ i, (l.length ≤ i → J.stop i H') ∧ ∀ d, l[i]? = some d → J.go i H' ∧ ∀ x H'', J.yld i H' x H'' → ∃ μ'', Ext μ' H' μ'' H'' ∧ RSt T.toTb μ'' H'' st ∧ RD T.toTb μ'' H'' d x
abbrev IF := FTs → DEnv → Store → R Src
def tI (T : Tx) (F : FTs) (W : WX) (f : IF) : TI := fun σ H Q => ∃ μ env st, REnv T.toTb μ H env σ ∧ RSt T.toTb μ H st ∧ PST T (RSrc T) (atS W σ) μ H (f F env st) Q
def IOk (T : Tx) (N : List Str) (sc : Scope) (fn : Str → Bool) (tg it : Expr) (f : IF) : Prop := ∀ F n W X, GX T F n N sc fn W X → PI X tg it (tI T F W f)
theorem PI.imp {X : Cx} {tg e : Expr} {t t' : TI} (h : PI X tg e t) (k : ∀ σ H Q, t' σ H Q → t σ H Q) : PI X tg e t' := ⟨fun pins s σ H Q I q => h.run pins s σ H Q I (k _ _ _ q)⟩
section
variable {T : Tx} {N : List Str} {sc : Scope} {fn : Str → Bool} {F : FTs} {n : Nat} {W : WX} {X : Cx} {pos : Pos} {μ μ1 : Mu} {H H1 : Hp} {En : Ends} {r : RS}
def Walk1 (T : Tx) (K : PySem.W.Frag) (x : V) (H : Hp) (R : It → Hp → Prop) : Prop := ((∃ a, x = .ref a ∧ (((∃ xs, SqL K H a xs) ∧ R (Itl K a) H) ∨ ((∃ xs, SqT K H a xs) ∧ R (Itt K a) H))) ∨ ∃ z, x = .str z ∧ R (Its z) H) ∨
  ∃ a c i dx t vs xs, x = .ref a ∧ T.itr c = some i ∧ SlX.Slt H a (T.ca c) dx vs ∧ vs[i]? = some (some (.ref t)) ∧ SqT K H t xs ∧ R (Itt K t) H
def iAny (T : Tx) (K : PySem.W.Frag) (tl : TE) : TI := fun σ H R => tl σ H fun x H1 => Walk1 T K x H1 R
theorem pi_any {tg l : Expr} {tl : TE} (g : GX T F n N sc fn W X) (hl : PE X l tl) : PI X tg l (iAny T X.K tl) := by
  refine ⟨fun pins s σ H R I h => ?_⟩
  refine thn (hl.run pins s σ H _ I h) fun v s1 ⟨x, H1, I1, r1, q1⟩ => ?_
  rcases q1 with (⟨a, e, ⟨⟨xs, hq⟩, q⟩ | ⟨⟨xs, hq⟩, q⟩⟩ | ⟨x, ex, q⟩) | ⟨a, c, i, dx, t, vs, xs, e, ei, sl, hv, ht, q⟩
  rotate_left 3
  · subst e
    cases r1
    exact own_pie g I1 ei sl hv ht q
  · subst e
    cases r1
    obtain ⟨its, rv, p, hz⟩ := I1.list hq
    exact wpAny_pyIter_list p.isList (pi_one (tk := s1.toks) I1 _ (turn_list a _) ⟨_, Heap.get?_push_size _ rfl, rfl, rfl⟩ q)
  · subst e
    cases r1
    obtain ⟨its, rv, p, hz⟩ := I1.tuple hq
    exact wpAny_pyIter_tuple (show s1.heap.IsTuple a its.toArray from p) (pi_one (tk := s1.toks) I1 _ (turn_tuple a _) ⟨_, Heap.get?_push_size _ rfl, rfl, rfl⟩ q)
  · subst ex
    obtain ⟨t, rfl⟩ := r1
    cases ha : x.cps.all (· < 128)
    · exact wpAny_pyIter_wide ha (pi_one (tk := s1.toks) I1 _ (turn_str _ x t "str_iterator" (.inr rfl)) ⟨_, Heap.get?_push_size _ rfl, rfl, rfl⟩ q)
    · exact wpAny_pyIter_ascii ha (pi_one (tk := s1.toks) I1 _ (turn_str _ x t "str_ascii_iterator" (.inl rfl)) ⟨_, Heap.get?_push_size _ rfl, rfl, rfl⟩ q)
def signs (z : Str) : List D := z.cps.toList.map fun c => .str ⟨#[c]⟩
def srcOf (st : Store) (d : DV) : Option Src := match d with
  | .d (.tup l) => some (.l l)
  | .d (.lst l) => some (.l l)
  | .d (.scr l) => some (.l l)
  | .d (.str z) => some (.l (signs z))
  | .loc n => (match st[n]? with
    | some (.lst _) => some (.p n)
    | _ => none)
  | _ => none
def srcX (itr : Nat → Option Nat) (st : Store) (d : DV) : Option Src := match srcOf st d with
  | some s => some s
  | none => (match ownL itr st d with
    | some l => some (.l l)
    | none => none)
def iSrc (itr : Nat → Option Nat) (f : EF) : IF := fun F env st => (f F env st).bind fun d st => match srcX itr st d with
  | some s => .ok s st
  | none => .no
theorem rsrc_lst {K : PySem.W.Frag} {a : Addr} {l : List D} {xs : List V} (hs : ∀ μ' H', Ext μ H μ' H' → SqL K H' a xs) (rx : RDs T.toTb μ H l xs) : RSrc T μ H (.l l) (Itl K a) := by
  intro μ' H' e i
  have rx' := RDs.ext e rx
  refine ⟨fun c => ⟨xs, hs _ _ e, by rw [← rx'.length]; exact c⟩, fun d hd => ?_⟩
  obtain ⟨v, hv, rv⟩ := rx'.get hd
  refine ⟨⟨xs, v, hs _ _ e, hv⟩, fun x H'' st rs y => ?_⟩
  obtain ⟨rfl, y⟩ := y
  have y2 := y xs (hs _ _ e)
  rw [hv] at y2
  cases y2
  exact ⟨μ', .refl, rs, rv⟩
theorem rsrc_tup {K : PySem.W.Frag} {a : Addr} {l : List D} {xs : List V} (hs : ∀ μ' H', Ext μ H μ' H' → SqT K H' a xs) (rx : RDs T.toTb μ H l xs) : RSrc T μ H (.l l) (Itt K a) := by
  intro μ' H' e i
  have rx' := RDs.ext e rx
  refine ⟨fun c => ⟨xs, hs _ _ e, by rw [← rx'.length]; exact c⟩, fun d hd => ?_⟩
  obtain ⟨v, hv, rv⟩ := rx'.get hd
  refine ⟨⟨xs, v, hs _ _ e, hv⟩, fun x H'' st rs y => ?_⟩
  obtain ⟨rfl, y⟩ := y
  have y2 := y xs (hs _ _ e)
  rw [hv] at y2
  cases y2
  exact ⟨μ', .refl, rs, rv⟩
theorem rsrc_str {z : Str} : RSrc T μ H (.l (signs z)) (Its z) := by
  intro μ' H' e i
  refine ⟨fun c => (show z.cps.size ≤ i by simpa [signs] using c), fun d hd => ?_⟩
  unfold signs at hd
  rw [List.getElem?_map] at hd
  have hi : i < z.cps.size := by
    cases q : z.cps.toList[i]? with
    | none => rw [q] at hd; cases hd
    | some c => simpa using (List.getElem?_eq_some_iff.mp q).1
  refine ⟨hi, fun x H'' st rs y => ?_⟩
  obtain ⟨rfl, c, hc, rfl⟩ := y
  rw [← Array.getElem?_toList] at hc
  rw [hc] at hd
  cases hd
  exact ⟨μ', .refl, rs, .str _⟩
theorem rsrc_plc {K : PySem.W.Frag} {nn : Nat} {a : Addr} (hl : nn < μ.length) (ha : ∀ p : Addr × Addr, μ[nn]? = some (some p) → p.1 = a) : RSrc T μ H (.p nn) (Itl K a) := by
  intro μ' H' st l e rs hl i
  obtain ⟨o, e1, b, xs, e2, hx, rx⟩ := rs.at_ nn _ hl
  subst e2
  have : b = a := ha _ (e.old nn _ (by assumption) e1)
  subst this
  have hs : SqL K H' b xs := .inl (.inl hx)
  refine ⟨fun c => ⟨xs, hs, by rw [← rx.length]; exact c⟩, fun d hd => ?_⟩
  obtain ⟨v, hv, rv⟩ := rx.get hd
  refine ⟨⟨xs, v, hs, hv⟩, fun x H'' y => ?_⟩
  obtain ⟨rfl, y⟩ := y
  have y2 := y xs hs
  rw [hv] at y2
  cases y2
  exact ⟨μ', .refl, rs, rv⟩
theorem src_at {st : Store} {d : DV} {v : V} {s : Src} {K : PySem.W.Frag} {R : It → Hp → Prop} (hK : K = T.K) (rs : RSt T.toTb μ H st) (r : RV T.toTb μ H d v) (hs : srcOf st d = some s) (h : ∀ J, RSrc T μ H s J → R J H) :
    (∃ a, v = .ref a ∧ (((∃ xs, SqL K H a xs) ∧ R (Itl K a) H) ∨ ((∃ xs, SqT K H a xs) ∧ R (Itt K a) H))) ∨ ∃ z, v = .str z ∧ R (Its z) H := by
  unfold srcOf at hs
  split at hs
  · cases hs
    obtain ⟨p, xs, rfl, hp, rp⟩ := rd_tup r
    exact .inl ⟨p, rfl, .inr ⟨⟨xs, by rw [hK]; exact hp.sq⟩, h _ (rsrc_tup (fun μ' H' e => by rw [hK]; exact (hp.ext e).sq) rp)⟩⟩
  · cases hs
    cases r with
    | d r => cases r with
      | lst hp rp => exact .inl ⟨_, rfl, .inl ⟨⟨_, LstAt.sq hp⟩, h _ (rsrc_lst (fun μ' H' e => LstAt.sq (hp.ext e)) rp)⟩⟩
  · cases hs
    cases r with
    | d r => cases r with
      | scr hp rp => exact .inl ⟨_, rfl, .inl ⟨⟨_, by rw [hK]; exact hp.sq⟩, h _ (rsrc_lst (fun μ' H' e => by rw [hK]; exact (ScrAt.keep e.keep hp).sq) rp)⟩⟩
  · cases hs
    cases rd_str r
    exact .inr ⟨_, rfl, h _ rsrc_str⟩
  · split at hs
    · rename_i l hl
      cases hs
      obtain ⟨a, xs, rfl, hm, hx, rx⟩ := place_at rs r hl
      have hlt := (List.getElem?_eq_some_iff.mp hm).1
      exact .inl ⟨a, rfl, .inl ⟨⟨xs, .inl (.inl hx)⟩, h _ (rsrc_plc hlt fun p hp => by rw [hm] at hp; cases hp; rfl)⟩⟩
    · cases hs
  · cases hs
theorem srcX_at {st : Store} {d : DV} {v : V} {s : Src} {K : PySem.W.Frag} {R : It → Hp → Prop} (hK : K = T.K) (rs : RSt T.toTb μ H st) (r : RV T.toTb μ H d v) (hs : srcX T.itr st d = some s) (h : ∀ J, RSrc T μ H s J → R J H) : Walk1 T K v H R := by
  unfold srcX at hs
  split at hs
  · rename_i s' hs'
    cases hs
    exact .inl (src_at hK rs r hs' h)
  · split at hs
    · rename_i l hl
      cases hs
      obtain ⟨a, c, i, dx, p, vs, xs, rfl, ei, sl, h1, hp, rp⟩ := ownL_at rs r hl
      exact .inr ⟨a, c, i, dx, p, vs, xs, rfl, ei, sl, h1, by rw [hK]; exact hp.sq, h _ (rsrc_tup (fun μ' H' e => by rw [hK]; exact (hp.ext e).sq) rp)⟩
    · cases hs
theorem iok_any {tg e : Expr} {f : EF} (he : EOk T N sc fn e f) : IOk T N sc fn tg e (iSrc T.itr f) := by
  intro F n W X g
  refine PI.imp (pi_any g (he F n W X g)) fun σ H R ⟨μ, env, st, re, rs, h⟩ => ?_
  refine ⟨μ, env, st, re, rs, PST.mono (PST.bind (Rel := RV T.toTb) h) fun v H1 ⟨μ1, d, st1, e1, rs1, rd, h1⟩ => ?_⟩
  dsimp only at h1
  split at h1
  · rename_i s hs
    exact srcX_at g.hK rs1 rd hs fun J hJ => PST.done h1 rs1 hJ
  · exact h1.elim
def upTo (lo c : Int) : Nat → List D
  | 0 => []
  | n + 1 => .int lo :: upTo (lo + c) c n
theorem upTo_get {c : Int} : ∀ {n i : Nat} {lo : Int}, (upTo lo c n)[i]? = if i < n then some (D.int (lo + (i : Nat) * c)) else none
  | 0, i, lo => by simp [upTo]
  | n + 1, 0, lo => by simp [upTo]
  | n + 1, i + 1, lo => by
    have : lo + c + (i : Int) * c = lo + ((i + 1 : Nat) : Int) * c := by
      rw [show (((i + 1 : Nat) : Int)) = (i : Int) + 1 by omega, Int.add_mul]; omega
    simp only [upTo, List.getElem?_cons_succ, upTo_get, this, Nat.add_lt_add_iff_right]
theorem upTo_len {c : Int} : ∀ {n : Nat} {lo : Int}, (upTo lo c n).length = n
  | 0, _ => rfl
  | n + 1, _ => congrArg (· + 1) upTo_len
theorem rsrc_rng {lo c : Int} {m : Nat} {J : It} (h1 : ∀ i H, m ≤ i → J.stop i H) (h2 : ∀ i H, i < m → J.go i H) (h3 : ∀ i H x H', J.yld i H x H' → H' = H ∧ x = .int (lo + (i : Nat) * c)) : RSrc T μ H (.l (upTo lo c m)) J := by
  intro μ' H' e i
  refine ⟨fun q => h1 i H' (by rw [upTo_len] at q; exact q), fun d hd => ?_⟩
  rw [upTo_get] at hd
  split at hd
  · rename_i q
    cases hd
    refine ⟨h2 i H' q, fun x H'' st rs y => ?_⟩
    obtain ⟨rfl, rfl⟩ := h3 _ _ _ _ y
    exact ⟨μ', .refl, rs, .int _⟩
  · cases hd
def smallI (i : Int) : Bool := decide (-(2 ^ 62) ≤ i) && decide (i < 2 ^ 62)
theorem smallI_of {i : Int} (h : smallI i = true) : -(2 ^ 62) ≤ i ∧ i < 2 ^ 62 := by
  unfold smallI at h
  rw [Bool.and_eq_true, decide_eq_true_iff, decide_eq_true_iff] at h
  exact h
def rng1 (xs : List DV) (st : Store) : R Src := match xs with
  | [.d (.int j)] => if smallI j = true then .ok (.l (upTo 0 1 j.toNat)) st else .no
  | _ => .no
def rng2 (xs : List DV) (st : Store) : R Src := match xs with
  | [.d (.int i), .d (.int j)] => if (smallI i && smallI j) = true then .ok (.l (upTo i 1 (j - i).toNat)) st else .no
  | _ => .no
/-- how many, going by c -/
def rngN (i j c : Int) : Nat := (Builtin.Range.rangeSize i j c).toNat
def rng3 (xs : List DV) (st : Store) : R Src := match xs with
  | [.d (.int i), .d (.int j), .d (.int c)] => if (decide (c ≠ 0) && decide (c.natAbs < 1073741824) && Builtin.Range.small i j c && decide (0 ≤ Builtin.Range.rangeSize i j c)) = true then .ok (.l (upTo i c (rngN i j c))) st else .no
  | _ => .no
def iRng (k : List DV → Store → R Src) (a : AF) : IF := fun F env st => (a F env st).bind fun xs st => k xs st
theorem rvs3 {d e f : DV} {xs : List V} (r : RVs T.toTb μ H [d, e, f] xs) : ∃ x y z, xs = [x, y, z] ∧ RV T.toTb μ H d x ∧ RV T.toTb μ H e y ∧ RV T.toTb μ H f z := by
  cases r with
  | cons a r => cases r with
    | cons b r => cases r with
      | cons c r => cases r; exact ⟨_, _, _, rfl, a, b, c⟩
theorem iok_rng1 {tg e : Expr} {x : Str} {p : Pos} {a : AF} (hx : x = "range") (hg : globB sc x = true) (hG : T.G x = some .blt) (hs : notStar e = true) (ha : AOk T N sc fn [e] a) : IOk T N sc fn tg (.Call (.Name x p) [e] [] pos) (iRng rng1 a) := by
  subst hx
  intro F n W X g
  refine PI.imp (pi_range1 (gl_of g hg) (g.tx.blt _ hG) (ha F n W X g) (starEach_plain hs)) fun σ H R ⟨μ, env, st, re, rs, h⟩ => ?_
  refine ⟨μ, env, st, re, rs, PST.mono (PST.bind (Rel := RVs T.toTb) h) fun vs H1 ⟨μ1, ds, st1, e1, rs1, rd, h1⟩ => ?_⟩
  dsimp only at h1
  unfold rng1 at h1
  split at h1
  · obtain ⟨v, rfl, rv⟩ := rvs1 rd
    cases rd_int rv
    split at h1
    · rename_i c
      obtain ⟨c1, c2⟩ := smallI_of c
      exact ⟨_, rfl, c1, c2, PST.done h1 rs1 (rsrc_rng (fun i H q => q) (fun i H q => q) fun i H x H' q => ⟨q.1, by rw [q.2, Int.mul_one]⟩)⟩
    · exact h1.elim
  · exact h1.elim
theorem iok_rng2 {tg e e2 : Expr} {x : Str} {p : Pos} {a : AF} (hx : x = "range") (hg : globB sc x = true) (hG : T.G x = some .blt) (hs : notStar e = true) (hs2 : notStar e2 = true) (ha : AOk T N sc fn [e, e2] a) : IOk T N sc fn tg (.Call (.Name x p) [e, e2] [] pos) (iRng rng2 a) := by
  subst hx
  intro F n W X g
  refine PI.imp (pi_range2 (gl_of g hg) (g.tx.blt _ hG) (ha F n W X g) (by rw [starEach_plain hs, starEach_plain hs2]; rfl) (by rw [starEach_plain hs2]; rfl)) fun σ H R ⟨μ, env, st, re, rs, h⟩ => ?_
  refine ⟨μ, env, st, re, rs, PST.mono (PST.bind (Rel := RVs T.toTb) h) fun vs H1 ⟨μ1, ds, st1, e1, rs1, rd, h1⟩ => ?_⟩
  dsimp only at h1
  unfold rng2 at h1
  split at h1
  · obtain ⟨v, w, rfl, rv, rw'⟩ := rvs2 rd
    cases rd_int rv
    cases rd_int rw'
    split at h1
    · rename_i c
      rw [Bool.and_eq_true] at c
      obtain ⟨c1, c2⟩ := smallI_of c.1
      obtain ⟨c3, c4⟩ := smallI_of c.2
      exact ⟨_, _, rfl, ⟨c1, c2, c3, c4⟩, PST.done h1 rs1 (rsrc_rng (fun i H q => q) (fun i H q => q) fun i H x H' q => ⟨q.1, by rw [q.2, Int.mul_one]⟩)⟩
    · exact h1.elim
  · exact h1.elim
theorem iok_rng3 {tg e e2 e3 : Expr} {x : Str} {p : Pos} {a : AF} (hx : x = "range") (hg : globB sc x = true) (hG : T.G x = some .blt) (hs : notStar e = true) (hs2 : [e2, e3].all notStar = true) (ha : AOk T N sc fn [e, e2, e3] a) : IOk T N sc fn tg (.Call (.Name x p) [e, e2, e3] [] pos) (iRng rng3 a) := by
  subst hx
  intro F n W X g
  refine PI.imp (pi_range3 (gl_of g hg) (g.tx.blt _ hG) (ha F n W X g) (starEach_plain hs) (noStars hs2)) fun σ H R ⟨μ, env, st, re, rs, h⟩ => ?_
  refine ⟨μ, env, st, re, rs, PST.mono (PST.bind (Rel := RVs T.toTb) h) fun vs H1 ⟨μ1, ds, st1, e1, rs1, rd, h1⟩ => ?_⟩
  dsimp only at h1
  unfold rng3 at h1
  split at h1
  · obtain ⟨v, w, z, rfl, rv, rw', rz⟩ := rvs3 rd
    cases rd_int rv
    cases rd_int rw'
    cases rd_int rz
    split at h1
    · rename_i c
      simp only [Bool.and_eq_true, decide_eq_true_iff] at c
      obtain ⟨⟨⟨c1, c2⟩, c3⟩, c4⟩ := c
      exact ⟨_, _, _, rngN _ _ _, rfl, ⟨c1, c2, c3, by unfold rngN; omega⟩, PST.done h1 rs1 (rsrc_rng (fun i H q => q) (fun i H q => q) fun i H x H' q => q)⟩
    · exact h1.elim
  · exact h1.elim
def zipP : List D → List D → List D
  | x :: xs, y :: ys => .tup [x, y] :: zipP xs ys
  | _, _ => []
theorem zipP_get : ∀ {l m : List D} {i : Nat}, (zipP l m)[i]? = (match l[i]?, m[i]? with | some x, some y => some (D.tup [x, y]) | _, _ => none)
  | [], _, i => by simp [zipP]
  | _ :: _, [], i => by
    cases i <;> simp [zipP]
  | x :: xs, y :: ys, 0 => by simp [zipP]
  | x :: xs, y :: ys, i + 1 => by simpa [zipP] using zipP_get (l := xs) (m := ys) (i := i)
theorem zipP_len : ∀ {l m : List D}, (zipP l m).length = min l.length m.length
  | [], _ => by simp [zipP]
  | _ :: _, [] => by simp [zipP]
  | x :: xs, y :: ys => by
    simp only [zipP, List.length_cons, zipP_len]
    omega
def datL : DV → Option (List D)
  | .d (.lst l) => some l
  | .d (.scr l) => some l
  | _ => none
def datT : DV → Option (List D)
  | .d (.tup l) => some l
  | _ => none
def zipS (xs : List DV) (st : Store) : R Src := match xs with
  | [a, b] => (match datL a, datL b with
    | some l, some m => .ok (.l (zipP l m)) st
    | _, _ => (match datT a, datT b with
      | some l, some m => .ok (.l (zipP l m)) st
      | _, _ => .no))
  | _ => .no
theorem datL_at {K : PySem.W.Frag} {d : DV} {v : V} {l : List D} (hK : K = T.K) (r : RV T.toTb μ H d v) (h : datL d = some l) : ∃ a xs, v = .ref a ∧ (∀ μ' H', Ext μ H μ' H' → SqL K H' a xs) ∧ RDs T.toTb μ H l xs := by
  unfold datL at h
  split at h
  · cases h
    cases r with
    | d r => cases r with
      | lst hp rp => exact ⟨_, _, rfl, fun μ' H' e => LstAt.sq (hp.ext e), rp⟩
  · cases h
    cases r with
    | d r => cases r with
      | scr hp rp => exact ⟨_, _, rfl, fun μ' H' e => by rw [hK]; exact (ScrAt.keep e.keep hp).sq, rp⟩
  · cases h
theorem datT_at {K : PySem.W.Frag} {d : DV} {v : V} {l : List D} (hK : K = T.K) (r : RV T.toTb μ H d v) (h : datT d = some l) : ∃ a xs, v = .ref a ∧ (∀ μ' H', Ext μ H μ' H' → SqT K H' a xs) ∧ RDs T.toTb μ H l xs := by
  unfold datT at h
  split at h
  · cases h
    obtain ⟨p, xs, rfl, hp, rp⟩ := rd_tup r
    exact ⟨_, _, rfl, fun μ' H' e => by rw [hK]; exact (hp.ext e).sq, rp⟩
  · cases h
theorem rsrc_zip {J : It} {l m : List D} {xs ys : List V} (rx : RDs T.toTb μ H l xs) (ry : RDs T.toTb μ H m ys)
    (h1 : ∀ μ' H', Ext μ H μ' H' → ∀ i, (xs.length ≤ i ∨ ys.length ≤ i) → J.stop i H') (h2 : ∀ μ' H', Ext μ H μ' H' → ∀ i x y, xs[i]? = some x → ys[i]? = some y → J.go i H')
    (h3 : ∀ μ' H', Ext μ H μ' H' → ∀ i v H'', J.yld i H' v H'' → ∃ p x y, v = .ref p ∧ H' p = none ∧ H'' = upd H' p (.tup [x, y]) ∧ xs[i]? = some x ∧ ys[i]? = some y) : RSrc T μ H (.l (zipP l m)) J := by
  intro μ' H' e i
  have rx' := RDs.ext e rx
  have ry' := RDs.ext e ry
  refine ⟨fun q => h1 _ _ e i (by rw [zipP_len] at q; rw [← rx'.length, ← ry'.length]; omega), fun d hd => ?_⟩
  rw [zipP_get] at hd
  split at hd
  · rename_i a b ha hb
    cases hd
    obtain ⟨x, hx, rx2⟩ := rx'.get ha
    obtain ⟨y, hy, ry2⟩ := ry'.get hb
    refine ⟨h2 _ _ e i x y hx hy, fun v H'' st rs q => ?_⟩
    obtain ⟨p, x', y', rfl, hp, rfl, hx', hy'⟩ := h3 _ _ e i v H'' q
    rw [hx] at hx'; cases hx'
    rw [hy] at hy'; cases hy'
    exact ⟨μ', Ext.new hp, rs.new hp, new_tup rs hp (.cons rx2 (.cons ry2 .nil))⟩
  · cases hd
theorem iok_zip {e e2 : Expr} {x : Str} {p : Pos} {a : AF} {elts : List Expr} {kk : Nat} {tpos : Pos} (hx : x = "zip") (hg : globB sc x = true) (hG : T.G x = some .blt) (hs : notStar e = true) (hs2 : [e2].all notStar = true) (ha : AOk T N sc fn [e, e2] a) :
    IOk T N sc fn (.Tuple elts kk tpos) (.Call (.Name x p) [e, e2] [] pos) (iRng zipS a) := by
  subst hx
  intro F n W X g
  refine PI.imp (RZ.pi_zipA (gl_of g hg) (g.tx.blt _ hG) (ha F n W X g) (starEach_plain hs) (noStars hs2)) fun σ H R ⟨μ, env, st, re, rs, h⟩ => ?_
  refine ⟨μ, env, st, re, rs, PST.mono (PST.bind (Rel := RVs T.toTb) h) fun vs H1 ⟨μ1, ds, st1, e1, rs1, rd, h1⟩ => ?_⟩
  dsimp only at h1
  unfold zipS at h1
  split at h1
  · obtain ⟨v, w, rfl, rv, rw'⟩ := rvs2 rd
    split at h1
    · rename_i l m q1 q2
      obtain ⟨a, xs, rfl, hx, rx⟩ := datL_at (K := X.K) g.hK rv q1
      obtain ⟨b, ys, rfl, hy, ry⟩ := datL_at (K := X.K) g.hK rw' q2
      refine ⟨a, b, xs, ys, rfl, .inl ⟨hx _ _ .refl, hy _ _ .refl, PST.done h1 rs1 (rsrc_zip rx ry (fun μ' H' e i q => ⟨xs, ys, hx _ _ e, hy _ _ e, q⟩) (fun μ' H' e i x y q1 q2 => ⟨xs, ys, x, y, hx _ _ e, hy _ _ e, q1, q2⟩) fun μ' H' e i v H'' q => ?_)⟩⟩
      obtain ⟨p, x, y, rfl, hp, rfl, c1, c2⟩ := q
      exact ⟨p, x, y, rfl, hp, rfl, c1 _ (hx _ _ e), c2 _ (hy _ _ e)⟩
    · split at h1
      · rename_i l m q1 q2
        obtain ⟨a, xs, rfl, hx, rx⟩ := datT_at (K := X.K) g.hK rv q1
        obtain ⟨b, ys, rfl, hy, ry⟩ := datT_at (K := X.K) g.hK rw' q2
        refine ⟨a, b, xs, ys, rfl, .inr ⟨hx _ _ .refl, hy _ _ .refl, PST.done h1 rs1 (rsrc_zip rx ry (fun μ' H' e i q => ⟨xs, ys, hx _ _ e, hy _ _ e, q⟩) (fun μ' H' e i x y q1 q2 => ⟨xs, ys, x, y, hx _ _ e, hy _ _ e, q1, q2⟩) fun μ' H' e i v H'' q => ?_)⟩⟩
        obtain ⟨p, x, y, rfl, hp, rfl, c1, c2⟩ := q
        exact ⟨p, x, y, rfl, hp, rfl, c1 _ (hx _ _ e), c2 _ (hy _ _ e)⟩
      · exact h1.elim
  · exact h1.elim
def forL (g : GF) (b : SF) : List D → SF
  | [] => fun _ env st => .ok .nx env st
  | d :: ds => fun F env st => ((onlyNx (g F (.d d) env st)).seq fun env st => b F env st).loop fun env st => forL g b ds F env st
def forP (n : Nat) (g : GF) (b : SF) : Nat → Nat → SF
  | 0, _ => fun _ _ _ => .no
  | m + 1, i => fun F env st => match st[n]? with
    | some (.lst l) => (match l[i]? with
      | some d => ((onlyNx (g F (.d d) env st)).seq fun env st => b F env st).loop fun env st => forP n g b m (i + 1) F env st
      | none => .ok .nx env st)
    | _ => .no
def turns : Nat := 1000000
def sFor (f : IF) (g : GF) (b : SF) : SF := fun F env st => liftE (f F env st) env fun s st => match s with
  | .l l => forL g b l F env st
  | .p n => forP n g b turns 0 F env st
/-- behind a turn, with what came between -/
def MidE (T : Tx) (W : WX) (En : Ends) (μ0 : Mu) (H0 : Hp) (k : DEnv → Store → RS) : L2.St → Hp → Prop := fun σ' H' => ∃ μ1 env st, Ext μ0 H0 μ1 H' ∧ RSt T.toTb μ1 H' st ∧ REnv T.toTb μ1 H' env σ' ∧ POSTS T W En μ1 H' (k env st)
theorem POSTS.loopE {k : DEnv → Store → RS} {μ0 : Mu} {H0 : Hp} (e0 : Ext μ0 H0 μ H) (h : POSTS T W En μ H (r.loop k)) : POSTS T W { En with nx := MidE T W En μ0 H0 k, ct := MidE T W En μ0 H0 k, bk := En.nx } μ H r := by
  cases r with
  | ok f env st =>
    cases f with
    | nx => exact fun μ' σ' H' e rs re => ⟨μ', env, st, e0.trans e, rs, re, POSTS.ext (r := k env st) h e⟩
    | ct => exact fun μ' σ' H' e rs re => ⟨μ', env, st, e0.trans e, rs, re, POSTS.ext (r := k env st) h e⟩
    | bk => exact h
    | rt d => exact h
  | ex c x env st => exact h
  | no => exact h
/-- a turn of a loop -/
theorem for_turn {g : GF} {b : SF} {k : DEnv → Store → RS} {d : D} {x : V} {σ : L2.St} {env : DEnv} {st : Store} {Nx : L2.St → Hp → Prop} {μ0 : Mu} {H0 : Hp} (e0 : Ext μ0 H0 μ H) (hN : ∀ σ' H', MidE T W En μ0 H0 k σ' H' → Nx σ' H') (re : REnv T.toTb μ H env σ) (rs : RSt T.toTb μ H st) (rx : RD T.toTb μ H d x)
    (h : POSTS T W En μ H (((onlyNx (g F (.d d) env st)).seq fun env st => b F env st).loop k)) :
    tG T F W g x σ H fun σ2 H2 => tS T F W b { En with nx := Nx, ct := Nx, bk := En.nx } σ2 H2 := by
  refine ⟨μ, .d d, env, st, re, rs, .d rx, ?_⟩
  have q := POSTS.seq (POSTS.loopE e0 h)
  revert q
  cases g F (.d d) env st with
  | ok fl env' st' =>
    cases fl with
    | nx =>
      intro q μ' σ' H' e rs' re'
      obtain ⟨μ1, env1, st1, e1, rs1, re1, h1⟩ := q μ' σ' H' e rs' re'
      refine ⟨μ1, env1, st1, re1, rs1, ?_⟩
      revert h1
      cases b F env1 st1 with
      | ok fl env2 st2 =>
        cases fl with
        | nx => exact fun h1 μ2 σ2 H2 e2 rs2 re2 => hN _ _ (h1 μ2 σ2 H2 e2 rs2 re2)
        | ct => exact fun h1 μ2 σ2 H2 e2 rs2 re2 => hN _ _ (h1 μ2 σ2 H2 e2 rs2 re2)
        | bk => exact fun h1 => h1
        | rt d => exact fun h1 => h1
      | ex c x env2 st2 => exact fun h1 => h1
      | no => exact fun h1 => h1
    | bk => exact fun q => q.elim
    | ct => exact fun q => q.elim
    | rt d => exact fun q => q.elim
  | ex c x env' st' => exact fun q => q
  | no => exact fun q => q
theorem sok_for {tg it : Expr} {body : List Stmt} {f : IF} {g : GF} {b : SF} (hi : IOk T N sc fn tg it f) (hg : GOk T N sc fn tg g) (hb : SsOk T N sc fn body b) (hs : ∀ env x, foldedSetIterable it env x = pure x) : SOk T N sc fn (.For tg it body [] pos) (sFor f g b) := by
  intro F n W X gx
  refine PS.imp (ps_for gx.pass gx.calm (hi F n W X gx) (hg F n W X gx) (hb F n W X gx) (hs _)) fun En σ H ⟨μ, env, st, re, rs, h⟩ => ?_
  refine ⟨μ, env, st, re, rs, PST.mono (POSTS.lift (Rel := RSrc T) re h) fun J H1 ⟨μ1, s, st1, e1, rs1, rJ, h1⟩ => ?_⟩
  cases s with
  | l l =>
    dsimp only at h1
    refine ⟨fun i m σ' H' => m = (l.drop i).length ∧ MidE T W En μ1 H1 (fun env st => forL g b (l.drop i) F env st) σ' H', ⟨_, rfl, μ1, env, st1, .refl, rs1, re.ext e1, h1⟩, ?_⟩
    rintro i m σ' H' ⟨rfl, μ2, env2, st2, e2, rs2, re2, h2⟩
    cases hd : l.drop i with
    | nil =>
      rw [hd] at h2
      have c : l.length ≤ i := List.drop_eq_nil_iff.mp hd
      exact .inl ⟨(rJ _ _ e2 i).1 c, h2 μ2 σ' H' .refl rs2 re2⟩
    | cons d ds =>
      rw [hd] at h2
      have hdi : l[i]? = some d := by
        have := congrArg (·[0]?) hd
        simpa using this
      have hds : l.drop (i + 1) = ds := by
        have := congrArg (List.drop 1) hd
        simpa [Nat.add_comm] using this
      obtain ⟨go, yl⟩ := (rJ _ _ e2 i).2 d hdi
      refine .inr ⟨go, MidE T W En μ1 H1 (fun env st => forL g b ds F env st), fun σ3 H3 q => ⟨ds.length, Nat.lt_succ_self _, by rw [hds], by rw [hds]; exact q⟩, fun x H3 y => ?_⟩
      obtain ⟨μ3, e3, rs3, rx⟩ := yl x H3 st2 rs2 y
      exact for_turn (e2.trans e3) (fun _ _ q => q) (re2.ext e3) rs3 rx (POSTS.ext (r := ((onlyNx (g F (.d d) env2 st2)).seq fun env st => b F env st).loop fun env st => forL g b ds F env st) h2 e3)
  | p nn =>
    dsimp only at h1
    refine ⟨fun i m σ' H' => MidE T W En μ1 H1 (fun env st => forP nn g b m i F env st) σ' H', ⟨turns, μ1, env, st1, .refl, rs1, re.ext e1, h1⟩, ?_⟩
    rintro i m σ' H' ⟨μ2, env2, st2, e2, rs2, re2, h2⟩
    cases m with
    | zero => exact h2.elim
    | succ m =>
      unfold forP at h2
      dsimp only at h2
      split at h2
      · rename_i l hl
        split at h2
        · rename_i d hdi
          obtain ⟨go, yl⟩ := (rJ _ _ st2 l e2 rs2 hl i).2 d hdi
          refine .inr ⟨go, MidE T W En μ1 H1 (fun env st => forP nn g b m (i + 1) F env st), fun σ3 H3 q => ⟨m, Nat.lt_succ_self _, q⟩, fun x H3 y => ?_⟩
          obtain ⟨μ3, e3, rs3, rx⟩ := yl x H3 y
          exact for_turn (e2.trans e3) (fun _ _ q => q) (re2.ext e3) rs3 rx (POSTS.ext (r := ((onlyNx (g F (.d d) env2 st2)).seq fun env st => b F env st).loop fun env st => forP nn g b m (i + 1) F env st) h2 e3)
        · rename_i hn
          exact .inl ⟨(rJ _ _ st2 l e2 rs2 hl i).1 (List.getElem?_eq_none_iff.mp hn), h2 μ2 σ' H' .refl rs2 re2⟩
      · exact h2.elim
end
end PyI
namespace PyI
open PySem PySem.Spec PyProof.Rows L2
theorem wipe_get {σ : L2.St} {j : Nat} : ∀ {vs : List Nat}, (wipe σ vs)[j]? = if j ∈ vs then (if j < σ.length then some none else none) else σ[j]?
  | [] => by simp [wipe]
  | v :: vs => by
    unfold wipe
    rw [List.getElem?_set, wipe_length]
    by_cases c : v = j
    · subst c
      simp
    · rw [if_neg c, wipe_get (vs := vs)]
      simp [Ne.symm c]
theorem wipe_set {σ : L2.St} {i : Nat} {x : Option V} {vs : List Nat} (h : i ∈ vs) : wipe (σ.set i x) vs = wipe σ vs := by
  refine List.ext_getElem? fun j => ?_
  rw [wipe_get, wipe_get, List.length_set]
  by_cases c : j ∈ vs
  · rw [if_pos c, if_pos c]
  · rw [if_neg c, if_neg c, List.getElem?_set_ne (fun e : i = j => c (by rw [← e]; exact h))]
theorem wipe_wipe {σ : L2.St} {vs : List Nat} : wipe (wipe σ vs) vs = wipe σ vs := by
  refine List.ext_getElem? fun j => ?_
  rw [wipe_get, wipe_length, wipe_get]
  by_cases c : j ∈ vs
  · rw [if_pos c, if_pos c]
  · rw [if_neg c]
def wipeD (env : DEnv) : List Nat → DEnv
  | [] => env
  | v :: vs => (wipeD env vs).set v none
theorem REnv.wipe {T : Tb} {μ : Mu} {H : Hp} {env : DEnv} {σ : L2.St} (h : REnv T μ H env σ) : ∀ vs, REnv T μ H (wipeD env vs) (wipe σ vs)
  | [] => h
  | v :: vs => REnv.clear v (h.wipe vs)
abbrev WF := D → DEnv → Option DEnv
def tGw (T : Tx) (vs : List Nat) (f : WF) : TG := fun v σ H Q => ∃ μ d env, REnv T.toTb μ H env σ ∧ RD T.toTb μ H d v ∧ match f d env with
  | some env' => ∀ σ', L2.wipe σ' vs = L2.wipe σ vs → REnv T.toTb μ H env' σ' → Q σ' H
  | none => False
def tGsw (T : Tx) (vs : List Nat) (f : List D → DEnv → Option DEnv) : TGs := fun v σ H Q => ∃ μ d env, REnv T.toTb μ H env σ ∧ RDs T.toTb μ H d v ∧ match f d env with
  | some env' => ∀ σ', L2.wipe σ' vs = L2.wipe σ vs → REnv T.toTb μ H env' σ' → Q σ' H
  | none => False
section
variable {T : Tx} {N : List Str} {sc : Scope} {fn : Str → Bool} {F : FTs} {n : Nat} {W : WX} {X : Cx} {pos : Pos} {μ μ1 : Mu} {H H1 : Hp} {vs : List Nat}
def GwOk (T : Tx) (N : List Str) (sc : Scope) (fn : Str → Bool) (vs : List Nat) (t : Expr) (f : WF) : Prop := ∀ F n W X, GX T F n N sc fn W X → PG X t (tGw T vs f)
def GswOk (T : Tx) (N : List Str) (sc : Scope) (fn : Str → Bool) (vs : List Nat) (t : List Expr) (f : List D → DEnv → Option DEnv) : Prop := ∀ F n W X, GX T F n N sc fn W X → PGs X t (tGsw T vs f)
def wName (i : Nat) : WF := fun d env => some (env.set i (some (.d d)))
theorem gwok_name {i : Nat} {x : Str} (hv : i ∈ vs) (hi : N[i]? = some x) (hl : locB sc x = true) (ho : ownB sc fn x = true) : GwOk T N sc fn vs (.Name x pos) (wName i) := by
  intro F n W X g
  refine PG.imp (pg_name (i := i) (by rw [g.hN]; exact g.nd) (by rw [g.hN]; exact hi) (by rw [g.hsc]; exact loc_of hl) (own_of g ho)) fun v σ H Q ⟨μ, d, env, re, rd, h⟩ => ?_
  exact h _ (wipe_set hv) (re.set (.d rd) i)
def wsNil : List D → DEnv → Option DEnv := fun ds env => match ds with
  | [] => some env
  | _ => none
def wsCons (f : WF) (r : List D → DEnv → Option DEnv) : List D → DEnv → Option DEnv := fun ds env => match ds with
  | [] => none
  | d :: ds => (f d env).bind fun env => r ds env
theorem gswok_nil : GswOk T N sc fn vs [] wsNil := fun F n W X g => PGs.imp pgs_nil fun v σ H Q ⟨μ, ds, env, re, rd, h⟩ => by
  cases rd with
  | nil => exact ⟨rfl, h _ rfl re⟩
  | cons => exact h.elim
theorem gswok_cons {e : Expr} {es : List Expr} {f : WF} {r : List D → DEnv → Option DEnv} (hn : notStar e = true) (h1 : GwOk T N sc fn vs e f) (h2 : GswOk T N sc fn vs es r) : GswOk T N sc fn vs (e :: es) (wsCons f r) := by
  intro F n W X g
  refine PGs.imp (pgs_cons (h1 F n W X g) (h2 F n W X g) (by rw [assignEach_plain hn]; rfl)) fun v σ H Q ⟨μ, ds, env, re, rd, h⟩ => ?_
  cases rd with
  | nil => exact h.elim
  | @cons d v ds vs' rd rr =>
    refine ⟨_, _, rfl, μ, d, env, re, rd, ?_⟩
    unfold wsCons at h
    dsimp only at h
    cases e1 : f d env with
    | none => rw [e1] at h; exact h.elim
    | some env1 =>
      rw [e1] at h
      intro σ1 w1 re1
      refine ⟨μ, ds, env1, re1, rr, ?_⟩
      change (match r ds env1 with | some env' => ∀ σ', L2.wipe σ' vs = L2.wipe σ vs → REnv T.toTb μ H env' σ' → Q σ' H | none => False) at h
      revert h
      cases r ds env1 with
      | none => exact fun h => h
      | some env2 => exact fun h σ2 w2 re2 => h σ2 (w2.trans w1) re2
def wTup (m : Nat) (f : List D → DEnv → Option DEnv) : WF := fun d env => match d with
  | .tup l => if l.length = m then f l env else none
  | _ => none
theorem gwok_tup {es : List Expr} {k : Nat} {f : List D → DEnv → Option DEnv} (hs : es.all notStar = true) (h : GswOk T N sc fn vs es f) : GwOk T N sc fn vs (.Tuple es k pos) (wTup es.length f) := by
  intro F n W X g
  refine PG.imp (pg_tup g.calm (h F n W X g) (assignEach_all hs).1 (assignEach_all hs).2) fun v σ H Q ⟨μ, d, env, re, rd, h⟩ => ?_
  cases d with
  | tup l =>
    unfold wTup at h
    dsimp only at h
    by_cases c : l.length = es.length
    · rw [if_pos c] at h
      obtain ⟨a, xs, rfl, ha, rx⟩ := rd_tup (.d rd)
      exact ⟨a, xs, rfl, by rw [g.hK]; exact ha.sq, by rw [← rx.length]; exact c, μ, l, env, re, rx, h⟩
    · rw [if_neg c] at h; exact h.elim
  | _ => exact h.elim
def TsOk (T : Tx) (N : List Str) (sc : Scope) (fn : Str → Bool) (es : List Expr) (f : EF) : Prop := ∀ F n W X, GX T F n N sc fn W X → PTs X es (tT T F W f)
theorem PTs.imp {X : Cx} {e : List Expr} {t t' : TT} (h : PTs X e t) (k : ∀ σ H Q, t' σ H Q → t σ H Q) : PTs X e t' := ⟨fun pins s σ H Q I q => h.run pins s σ H Q I (k _ _ _ q)⟩
theorem tsok_nil : TsOk T N sc fn [] (cCon (.bl true)) := fun F n W X g => PTs.imp pts_nil fun σ H Q ⟨μ, env, st, re, rs, h⟩ => by
  obtain ⟨b, e, q⟩ := h.done rs (.d (.bl true))
  cases e
  exact q
theorem tsok_one {c : Expr} {f : EF} (h : TOk T N sc fn c f) : TsOk T N sc fn [c] f := fun F n W X g => pts_one (h F n W X g)
/-- behind a turn's target -/
def lcPut (n : Nat) (y : DV) (st : Store) : R PUnit := match y with
  | .d y => (match st[n]? with
    | some (.lst acc) => if acc.length < line then .ok ⟨⟩ (st.set n (.lst (acc ++ [y]))) else .no
    | _ => .no)
  | _ => .no
def lcTurn (ft fe : EF) (n : Nat) (F : FTs) (env : DEnv) (st : Store) : R PUnit := (noEx (ft F env st)).bind fun b st => match b with
  | .d (.bl true) => (noEx (fe F env st)).bind fun y st => lcPut n y st
  | .d (.bl false) => .ok ⟨⟩ st
  | _ => .no
theorem R.bind_assoc {α β γ : Type} {m : R α} {k : α → Store → R β} {l : β → Store → R γ} : (m.bind k).bind l = m.bind fun a st => (k a st).bind l := by
  cases m <;> rfl
def lcL (g : WF) (ft fe : EF) (n : Nat) (F : FTs) (env : DEnv) : List D → Store → R PUnit
  | [], st => .ok ⟨⟩ st
  | d :: ds, st => match g d env with
    | some env1 => (lcTurn ft fe n F env1 st).bind fun _ st => lcL g ft fe n F env ds st
    | none => .no
def lcP (g : WF) (ft fe : EF) (n : Nat) (F : FTs) (env : DEnv) (a : Nat) : Nat → Nat → Store → R PUnit
  | 0, _, _ => .no
  | m + 1, i, st => match st[a]? with
    | some (.lst l) => (match l[i]? with
      | some d => (match g d env with
        | some env1 => (lcTurn ft fe n F env1 st).bind fun _ st => lcP g ft fe n F env a m (i + 1) st
        | none => .no)
      | none => .ok ⟨⟩ st)
    | _ => .no
/-- the new list: data, or a place -/
def lcFin (thw : Bool) (n : Nat) (st : Store) : R DV := if thw = true then .ok (.loc n) (st.take (n + 1)) else match st[n]? with
  | some (.lst l) => .d (.lst l) (st.take n)
  | _ => .no
def cLc (thw : Bool) (vs : List Nat) (src : IF) (g : WF) (ft fe : EF) : EF := fun F env st => (src F env st).bind fun s st => (match s with
  | .l l => lcL g ft fe st.length F (wipeD env vs) l (st ++ [SO.lst []])
  | .p a => lcP g ft fe st.length F (wipeD env vs) a turns 0 (st ++ [SO.lst []])).bind fun _ st' => lcFin thw st.length st'
/-- the context of a block -/
theorem fresh_name : ∀ names : List (Str × NameKind), ∃ m, ∀ x : Str, m ≤ x.cps.size → names.lookup x = none
  | [] => ⟨0, fun _ _ => rfl⟩
  | (y, k) :: r => by
    obtain ⟨m, h⟩ := fresh_name r
    refine ⟨m + y.cps.size + 1, fun x hx => ?_⟩
    rw [List.lookup_cons, show (x == y) = false from ?_]
    · exact h x (by omega)
    · rw [beq_eq_false_iff_ne]
      intro e
      subst e
      omega
theorem GX.blk (g : GX T F n N sc fn W X) (s : Shared) (H : Hp) (C : Addr) (cl : List (Str × Addr)) (fp : List Addr) (scope : Scope) : GX T F n N (relS scope sc) (fun x => scope.names.lookup x == some .cell) (fun _ _ _ _ => False) (X.blk s H scope (compEnvC scope cl C X.env) fp) :=
  { tx := g.tx, hK := g.hK, calm := g.calm, hN := g.hN, nd := g.nd
    hsc := by
      show (compEnvC scope cl C X.env).scope = _
      rw [← g.hsc]
      rfl
    hfn := fun x h => h
    room := g.room, grd := g.grd
    takes := fun u s' q => by
      obtain ⟨a, B, sI, pins, σ, H, cls, d, e, I, nb, up, sky, na, os, ag, w⟩ := q
      exact w.elim
    pass := PassesOwn.never
    itr := g.itr, exn := g.exn
    top := fun h => by
      obtain ⟨m, q⟩ := fresh_name scope.names
      have z := h ⟨Array.replicate m 0⟩
      rw [q _ (by simp)] at z
      cases z
    fa := g.fa, fb := g.fb, fb0 := g.fb0, fc0 := g.fc0, fc := g.fc }
/-- the new list done -/
theorem lc_fin {thw : Bool} {st1 st' : Store} {μ' : Mu} {H' : Hp} {p : Addr} {E : XK} {Q : VK} (hl : μ1.length = st1.length) (e : Ext (μ1 ++ [some (p, p)]) (upd H1 p (.lst [])) μ' H') (e1 : Ext μ1 H1 (μ1 ++ [some (p, p)]) (upd H1 p (.lst []))) (rs : RSt T.toTb μ' H' st')
    (h : POST T E μ1 H1 (lcFin thw st1.length st') Q) : Q (.ref p) H' := by
  have len : st1.length + 1 ≤ μ'.length := by
    have := e.len
    rw [List.length_append, hl] at this
    simpa using this
  have hp : ∀ q : Addr × Addr, μ'[st1.length]? = some (some q) → q = (p, p) := fun q hq => by
    have := e.old st1.length q (by rw [List.length_append, hl]; simp) hq
    rw [← hl, List.getElem?_concat_length] at this
    cases this
    rfl
  have ee := e1.trans e
  unfold lcFin at h
  split at h
  · refine h (μ'.take (st1.length + 1)) _ H' (ee.take (by omega)) (rs.take _) (.loc ?_ fun q hq => ?_)
    · rw [List.length_take]; omega
    · rw [List.getElem?_take, if_pos (Nat.lt_succ_self _)] at hq
      rw [hp q hq]
  · split at h
    · rename_i l hl2
      obtain ⟨o, eo, a, xs, e2, hx, rx⟩ := rs.at_ _ _ hl2
      subst e2
      have := hp _ eo
      cases this
      refine h (μ'.take st1.length) _ H' (ee.take (by omega)) (rs.take _) (.d (.lst ⟨hx, ?_⟩ (RDs.keep (fun _ _ q => q.take) rx)))
      rintro ⟨k, q, hk, hq⟩
      rw [List.getElem?_take] at hk
      split at hk
      · rename_i c
        have : st1.length = k := rs.apart _ _ _ _ eo hk (by rcases hq with hq | hq <;> simp [hq])
        omega
      · cases hk
    · exact h.elim
theorem lc_turn {g0 : WF} {ft fe : EF} {k : PUnit → Store → R DV} {E : XK} {Q : VK} {μb μ' : Mu} {Hb H' : Hp} {st' : Store} {d : D} {x : V} {σ : L2.St} {env0 : DEnv} {p : Addr} {st1 : Store} {Nx : Hp → Prop} (hl : μb.length = st1.length)
    (e1 : Ext μb Hb (μb ++ [some (p, p)]) (upd Hb p (.lst []))) (e : Ext (μb ++ [some (p, p)]) (upd Hb p (.lst [])) μ' H') (rs : RSt T.toTb μ' H' st') (re : REnv T.toTb μ' H' env0 (L2.wipe σ vs)) (rx : RD T.toTb μ' H' d x)
    (h : POST T E μb Hb (match g0 d env0 with | some env1 => (lcTurn ft fe st1.length F env1 st').bind k | none => .no) Q)
    (hN : ∀ μ2 H2 st2, Ext (μb ++ [some (p, p)]) (upd Hb p (.lst [])) μ2 H2 → RSt T.toTb μ2 H2 st2 → POST T E μb Hb (k ⟨⟩ st2) Q → Nx H2) :
    tGw T vs g0 x (L2.wipe σ vs) H' fun σ2 H2 => L2.wipe σ2 vs = L2.wipe σ vs ∧ tT T F (fun _ _ _ _ => False) ft σ2 H2 fun b H3 =>
      if b = true then tE T F (fun _ _ _ _ => False) fe σ2 H3 fun y H4 => ∃ acc, H4 p = some (.lst acc) ∧ acc.length < sizeLine ∧ Nx (upd H4 p (.lst (acc ++ [y]))) else Nx H3 := by
  have hp : ∀ {μ2 : Mu} {H2 : Hp} {q : Addr × Addr}, Ext (μb ++ [some (p, p)]) (upd Hb p (.lst [])) μ2 H2 → μ2[st1.length]? = some (some q) → q = (p, p) := fun {μ2 H2 q} e hq => by
    have := e.old st1.length q (by rw [List.length_append, hl]; simp) hq
    rw [← hl, List.getElem?_concat_length] at this
    cases this
    rfl
  refine ⟨μ', d, env0, re, rx, ?_⟩
  revert h
  cases g0 d env0 with
  | none => exact fun h => h
  | some env1 =>
    intro h σ2 w re2
    refine ⟨by rw [w, wipe_wipe], μ', env1, st', re2, rs, ?_⟩
    unfold lcTurn at h
    change POST T E μb Hb (R.bind (R.bind _ _) k) Q at h
    rw [R.bind_assoc] at h
    refine noEx_post (E := E) (PST.mono (PST.bindAt (Rel := RV T.toTb) h (e1.trans e)) fun v H2 ⟨μ2, b, st2, e2, rs2, rb, h2⟩ => ?_)
    split at h2
    · cases rd_bl rb
      refine ⟨true, rfl, it ⟨μ2, env1, st2, re2.ext e2, rs2, ?_⟩⟩
      rw [R.bind_assoc] at h2
      refine noEx_post (E := E) (PST.mono (PST.bindAt (Rel := RV T.toTb) h2 (e1.trans (e.trans e2))) fun y H3 ⟨μ3, yd, st3, e3, rs3, ry, h3⟩ => ?_)
      unfold lcPut at h3
      split at h3
      · split at h3
        · rename_i acc hacc
          split at h3
          · rename_i c
            obtain ⟨o, eo, a, xs, e4, hx, rxs⟩ := rs3.at_ _ _ hacc
            subst e4
            cases hp (e.trans (e2.trans e3)) eo
            cases ry with
            | d ry =>
              obtain ⟨e5, rs5⟩ := rs3.list eo (rxs.append (.cons ry .nil))
              exact ⟨xs, hx, by rw [← line_eq, ← rxs.length]; exact c, hN _ _ _ (e.trans (e2.trans (e3.trans e5))) rs5 h3⟩
          · exact h3.elim
        · exact h3.elim
      · exact h3.elim
    · cases rd_bl rb
      exact ⟨false, rfl, jt (hN _ _ _ (e.trans e2) rs2 h2)⟩
    · exact h2.elim
/-- what a comprehension reads, by the interpreter -/
theorem lc_read {own : List (Str × Nat)} {thw : Bool} {src : IF} {g0 : WF} {ft fe : EF} {σ : L2.St} {H : Hp} {Q : VK} (h : tE T F W (cLc thw (own.map (·.2)) src g0 ft fe) σ H Q) :
    tLc (tI T F W src) (tGw T (own.map (·.2)) g0) (tT T F (fun _ _ _ _ => False) ft) (tE T F (fun _ _ _ _ => False) fe) (own.map (·.2)) σ H Q := by
  obtain ⟨μ, env, st, re, rs, h⟩ := h
  refine ⟨μ, env, st, re, rs, PST.mono (PST.bind (Rel := RSrc T) h) fun J H1 ⟨μ1, s, st1, e1, rs1, rJ, h1⟩ => ?_⟩
  intro p hp
  have kp : ∀ a o, H1 a = some o → upd H1 p (.lst []) a = some o := fun a o q => by rw [upd_ne (ne_of_none q hp)]; exact q
  have e2 : Ext μ1 H1 (μ1 ++ [some (p, p)]) (upd H1 p (.lst [])) := Ext.place hp hp kp
  have rs2 : RSt T.toTb (μ1 ++ [some (p, p)]) (upd H1 p (.lst [])) (st1 ++ [.lst []]) := rs1.place hp hp kp ⟨p, [], rfl, upd_same, .nil⟩
  cases s with
  | l l =>
    refine ⟨fun i m H' => m = (l.drop i).length ∧ ∃ μ' st', Ext (μ1 ++ [some (p, p)]) (upd H1 p (.lst [])) μ' H' ∧ RSt T.toTb μ' H' st' ∧ POST T (atS W σ) μ1 H1 ((lcL g0 ft fe st1.length F (wipeD env (own.map (·.2))) (l.drop i) st').bind fun _ st' => lcFin thw st1.length st') Q, ⟨_, rfl, _, _, .refl, rs2, h1⟩, ?_⟩
    rintro i m H' ⟨rfl, μ', st', e3, rs3, h3⟩
    cases hd : l.drop i with
    | nil =>
      rw [hd] at h3
      have c : l.length ≤ i := List.drop_eq_nil_iff.mp hd
      exact .inl ⟨(rJ _ _ (e2.trans e3) i).1 c, lc_fin rs1.len e3 e2 rs3 h3⟩
    | cons d ds =>
      rw [hd] at h3
      have hdi : l[i]? = some d := by
        have := congrArg (·[0]?) hd
        simpa using this
      have hds : l.drop (i + 1) = ds := by
        have := congrArg (List.drop 1) hd
        simpa [Nat.add_comm] using this
      obtain ⟨go, yl⟩ := (rJ _ _ (e2.trans e3) i).2 d hdi
      refine .inr ⟨go, fun H' => ∃ μ' st', Ext (μ1 ++ [some (p, p)]) (upd H1 p (.lst [])) μ' H' ∧ RSt T.toTb μ' H' st' ∧ POST T (atS W σ) μ1 H1 ((lcL g0 ft fe st1.length F (wipeD env (own.map (·.2))) ds st').bind fun _ st' => lcFin thw st1.length st') Q, fun H' q => ⟨ds.length, Nat.lt_succ_self _, by rw [hds], by rw [hds]; exact q⟩, fun x H'' y => ?_⟩
      obtain ⟨μ3, e4, rs4, rx⟩ := yl x H'' st' rs3 y
      refine lc_turn (k := fun _ st => (lcL g0 ft fe st1.length F (wipeD env (own.map (·.2))) ds st).bind fun _ st' => lcFin thw st1.length st') rs1.len e2 (e3.trans e4) rs4 ((re.ext (e1.trans (e2.trans (e3.trans e4)))).wipe _) rx ?_ fun μ2 H2 st2 q1 q2 q3 => ⟨μ2, st2, q1, q2, q3⟩
      unfold lcL at h3
      revert h3
      cases g0 d (wipeD env (own.map (·.2))) with
      | none => exact fun h => h
      | some env1 =>
        dsimp only
        cases lcTurn ft fe st1.length F env1 st' <;> exact fun h => h
  | p nn =>
    refine ⟨fun i m H' => ∃ μ' st', Ext (μ1 ++ [some (p, p)]) (upd H1 p (.lst [])) μ' H' ∧ RSt T.toTb μ' H' st' ∧ POST T (atS W σ) μ1 H1 ((lcP g0 ft fe st1.length F (wipeD env (own.map (·.2))) nn m i st').bind fun _ st' => lcFin thw st1.length st') Q, ⟨turns, _, _, .refl, rs2, h1⟩, ?_⟩
    rintro i m H' ⟨μ', st', e3, rs3, h3⟩
    cases m with
    | zero => exact h3.elim
    | succ m =>
      unfold lcP at h3
      cases hl : st'[nn]? with
      | none => rw [hl] at h3; exact h3.elim
      | some so =>
        rw [hl] at h3
        cases so with
        | lst l =>
          dsimp only at h3
          cases hdi : l[i]? with
          | none =>
            rw [hdi] at h3
            exact .inl ⟨(rJ _ _ st' l (e2.trans e3) rs3 hl i).1 (List.getElem?_eq_none_iff.mp hdi), lc_fin rs1.len e3 e2 rs3 h3⟩
          | some d =>
            rw [hdi] at h3
            obtain ⟨go, yl⟩ := (rJ _ _ st' l (e2.trans e3) rs3 hl i).2 d hdi
            refine .inr ⟨go, fun H' => ∃ μ' st', Ext (μ1 ++ [some (p, p)]) (upd H1 p (.lst [])) μ' H' ∧ RSt T.toTb μ' H' st' ∧ POST T (atS W σ) μ1 H1 ((lcP g0 ft fe st1.length F (wipeD env (own.map (·.2))) nn m (i + 1) st').bind fun _ st' => lcFin thw st1.length st') Q, fun H' q => ⟨m, Nat.lt_succ_self _, q⟩, fun x H'' y => ?_⟩
            obtain ⟨μ3, e4, rs4, rx⟩ := yl x H'' y
            refine lc_turn (k := fun _ st => (lcP g0 ft fe st1.length F (wipeD env (own.map (·.2))) nn m (i + 1) st).bind fun _ st' => lcFin thw st1.length st') rs1.len e2 (e3.trans e4) rs4 ((re.ext (e1.trans (e2.trans (e3.trans e4)))).wipe _) rx ?_ fun μ2 H2 st2 q1 q2 q3 => ⟨μ2, st2, q1, q2, q3⟩
            revert h3
            dsimp only
            cases g0 d (wipeD env (own.map (·.2))) with
            | none => exact fun h => h
            | some env1 =>
              dsimp only
              cases lcTurn ft fe st1.length F env1 st' <;> exact fun h => h
        | dead => exact h3.elim
        | obj c f => exact h3.elim
theorem ok_lc {elt tg iter : Expr} {ifs : List Expr} {scope : Scope} {own : List (Str × Nat)} {thw : Bool} {src : IF} {g0 : WF} {ft fe : EF} (ok : blkC N sc scope own = true) (hi : IOk T N sc fn tg iter src)
    (hg : GwOk T N (relS scope sc) (fun x => scope.names.lookup x == some .cell) (own.map (·.2)) tg g0) (ht : TsOk T N (relS scope sc) (fun x => scope.names.lookup x == some .cell) ifs ft) (he : EOk T N (relS scope sc) (fun x => scope.names.lookup x == some .cell) elt fe)
    (hs : ∀ env x, foldedSetIterable iter env x = pure x) : EOk T N sc fn (.ListComp elt [⟨tg, iter, ifs, 0⟩] scope pos) (cLc thw (own.map (·.2)) src g0 ft fe) := by
  intro F n W X g
  refine PE.imp (pe_lc (g := tGw T (own.map (·.2)) g0) (tt := tT T F (fun _ _ _ _ => False) ft) (te := tE T F (fun _ _ _ _ => False) fe) g.calm (by rw [g.hN]; exact g.nd) (hi F n W X g) (blkOk_by (by rw [g.hN, g.hsc]; exact ok)) (fun s H C cl fp => hg F n _ _ (g.blk s H C cl fp scope)) (fun s H C cl fp => ht F n _ _ (g.blk s H C cl fp scope)) (fun s H C cl fp => he F n _ _ (g.blk s H C cl fp scope)) (hs _)) fun σ H Q h => lc_read h
/-- the comprehension's store comes ahead -/
def swB (sc : Scope) (y : Str) (py : Pos) (scope : Scope) (pos : Pos) : Bool := isLocal sc y && (py.line == pos.line) && !(scope.names.any fun (n, k) => n == y && (k == .local || k == .cell))
theorem sok_setLc {i : Nat} {y : Str} {py spos : Pos} {elt tg iter : Expr} {ifs : List Expr} {scope : Scope} {own : List (Str × Nat)} {thw : Bool} {src : IF} {g0 : WF} {ft fe : EF} (hy : N[i]? = some y) (hsw : swB sc y py scope pos = true) (ok : blkC N sc scope own = true) (hi : IOk T N sc fn tg iter src)
    (hg : GwOk T N (relS scope sc) (fun x => scope.names.lookup x == some .cell) (own.map (·.2)) tg g0) (ht : TsOk T N (relS scope sc) (fun x => scope.names.lookup x == some .cell) ifs ft) (he : EOk T N (relS scope sc) (fun x => scope.names.lookup x == some .cell) elt fe)
    (hs : ∀ env x, foldedSetIterable iter env x = pure x) : SOk T N sc fn (.Assign [.Name y py] (.ListComp elt [⟨tg, iter, ifs, 0⟩] scope pos) spos) (sSet i (cLc thw (own.map (·.2)) src g0 ft fe)) := by
  intro F n W X g
  unfold swB at hsw
  rw [Bool.and_eq_true, Bool.and_eq_true, Bool.not_eq_true'] at hsw
  obtain ⟨⟨c1, c2⟩, c3⟩ := hsw
  have base : X.env.scope.kind = .function → PS X (.Assign [.Name y py] (.ListComp elt [⟨tg, iter, ifs, 0⟩] scope pos) spos) (tAsg (tLc (tI T F W src) (tGw T (own.map (·.2)) g0) (tT T F (fun _ _ _ _ => False) ft) (tE T F (fun _ _ _ _ => False) fe) (own.map (·.2))) (L2.gName i)) := fun hk =>
    ps_setLc (g := tGw T (own.map (·.2)) g0) (tt := tT T F (fun _ _ _ _ => False) ft) (te := tE T F (fun _ _ _ _ => False) fe) g.calm (by rw [g.hN]; exact g.nd) (by rw [g.hN]; exact hy) (by rw [g.hsc]; exact isLocal_of c1) (sw_true hk (by rw [g.hsc]; exact isLocal_of c1) c2 c3) (hi F n W X g) (blkOk_by (by rw [g.hN, g.hsc]; exact ok)) (fun s H C cl fp => hg F n _ _ (g.blk s H C cl fp scope)) (fun s H C cl fp => ht F n _ _ (g.blk s H C cl fp scope)) (fun s H C cl fp => he F n _ _ (g.blk s H C cl fp scope)) (hs _)
  refine ⟨fun pins s σ H D I q => (base I.ok.kind).run pins s σ H D I ?_⟩
  obtain ⟨μ, env, st, re, rs, h⟩ := q
  refine lc_read ⟨μ, env, st, re, rs, PST.mono (POSTS.lift (Rel := RV T.toTb) re h) fun v H1 ⟨μ1, d, st1, e1, rs1, rd, h1⟩ => ?_⟩
  exact h1 μ1 _ H1 .refl rs1 ((re.ext e1).set rd i)
/-- .. and where it does not -/
theorem sok_setLc0 {i : Nat} {y : Str} {py spos : Pos} {elt : Expr} {gs : List Comprehension} {scope : Scope} {f : EF} (hy : N[i]? = some y) (hsw : swB sc y py scope pos = false) (hl : locB sc y = true) (ho : ownB sc fn y = true) (h : EOk T N sc fn (.ListComp elt gs scope pos) f) :
    SOk T N sc fn (.Assign [.Name y py] (.ListComp elt gs scope pos) spos) (sSet i f) := by
  intro F n W X g
  have sw : swapsWith (.ListComp elt gs scope pos) (some (.Name y py)) spos.line X.env = pure false := by
    unfold swapsWith
    simp only [Expr.pos]
    show pure _ = pure false
    congr 1
    have hk : (X.env.kindOf y == some .local) = isLocal sc y := by
      unfold Env.kindOf isLocal
      rw [g.hsc]
      cases e : sc.names.lookup y with
      | none => rfl
      | some k => cases k <;> rfl
    rw [hk]
    unfold swB at hsw
    revert hsw
    cases isLocal sc y
    · intro _; simp
    · cases (py.line == pos.line)
      · intro _; simp
      · intro q
        simp only [Bool.true_and] at q
        rw [q]
        simp
  refine PS.imp (ps_set (i := i) (by rw [g.hN]; exact g.nd) (by rw [g.hN]; exact hy) (by rw [g.hsc]; exact loc_of hl) (h F n W X g) sw (own_of g ho)) fun D σ H ⟨μ, env, st, re, rs, h⟩ => ?_
  refine ⟨μ, env, st, re, rs, PST.mono (POSTS.lift (Rel := RV T.toTb) re h) fun v H1 ⟨μ1, d, st1, e1, rs1, rd, h1⟩ => ?_⟩
  exact h1 μ1 _ H1 .refl rs1 ((re.ext e1).set rd i)
end
end PyI
namespace PyI
open PySem PySem.Spec PyProof.Rows L2
abbrev MG := FTs → DV → List DV → Store → R DV
/-- a method of a built-in type; it raises nothing -/
def MthOk (T : Tx) (F : FTs) (X : Cx) (id : String) (g : MG) : Prop := MtR X id fun x xs H Q => ∃ μ st d ds, RSt T.toTb μ H st ∧ RV T.toTb μ H d x ∧ RVs T.toTb μ H ds xs ∧ POST T (fun _ _ _ => False) μ H (g F d ds st) Q
def tyB (ty : String) (st : Store) (d : DV) : Bool := if ty = "list" then (seqL st d).isSome else if ty = "str" then (match d with
  | .d (.str _) => true
  | _ => false) else false
section
variable {T : Tx} {N : List Str} {sc : Scope} {fn : Str → Bool} {F : FTs} {n : Nat} {W : WX} {X : Cx} {pos : Pos} {μ μ1 : Mu} {H H1 : Hp}
theorem tyB_of {ty : String} {st : Store} {d : DV} {v : V} {K : PySem.W.Frag} (hK : K = T.K) (rs : RSt T.toTb μ H st) (r : RV T.toTb μ H d v) (h : tyB ty st d = true) : tyV K ty v H := by
  unfold tyB at h
  split at h
  · rename_i e
    subst e
    obtain ⟨l, hl⟩ := Option.isSome_iff_exists.mp h
    obtain ⟨a, xs, rfl, q, _⟩ := seqL_sq (K := K) hK rs r hl
    exact .inl ⟨rfl, xs, q⟩
  · split at h
    · rename_i e
      subst e
      split at h
      · cases rd_str r
        exact rfl
      · cases h
    · cases h
def cBM (ty : String) (g : MG) (o : EF) (a : AF) : EF := fun F env st => (o F env st).bind fun x st => if tyB ty st x = true then (a F env st).bind fun ds st => noEx (g F x ds st) else .no
theorem few_of {env : Env} {cpos : Pos} {es : List Expr} (h : es.all notStar = true) (hl : es.length < 30) : ((backTo cpos (starEach es env)).all (fun x => !x.1) && (backToKw cpos (keywordEach [] env)).all (fun x => x.1.isSome)
      && decide (es.length + ([] : List Keyword).length + (if ([] : List Keyword).isEmpty then 0 else 1) < 30)) = true := by
  have a : (backTo cpos (starEach es env)).all (fun x => !x.1) = true := by
    have q := noStars (env := env) (pos := cpos) h
    rw [List.any_eq_false] at q
    rw [List.all_eq_true]
    intro x hx
    have := q x hx
    simpa using this
  rw [a]
  simp
  exact ⟨by simp [keywordEach, backToKw], hl⟩
theorem ok_bm {o : Expr} {name : Str} {apos cpos : Pos} {e : Expr} {es : List Expr} {ty id : String} {g : MG} {fo : EF} {a : AF} (pa : PlainAttrs ty) (slot : Slot ty name id) (hty : typeOf (.builtin id) = pure (.type "method_descriptor")) (hm : ∀ F n W X, GX T F n N sc fn W X → MthOk T F X id g)
    (ho : EOk T N sc fn o fo) (ha : AOk T N sc fn (e :: es) a) (hs : (e :: es).all notStar = true) (hl : (e :: es).length < 30) (hb : ∀ env, attributeBase o name env (eval o env) = eval o env) (hline : (apos.endLine == cpos.line) = true) :
    EOk T N sc fn (.Call (.Attribute o name apos) (e :: es) [] cpos) (cBM ty g fo a) := by
  intro F n W X gx
  have s1 := hs
  rw [List.all_cons, Bool.and_eq_true] at s1
  refine PE.imp (pe_bm pa slot hty (hm F n W X gx) (ho F n W X gx) (ha F n W X gx) (hb _) (few_of hs hl) hline (starEach_plain s1.1) (noStars s1.2)) fun σ H Q ⟨μ, env, st, re, rs, h⟩ => ?_
  refine ⟨μ, env, st, re, rs, POST.mono (POST.bind h) fun x H1 ⟨μ1, d, st1, e1, rs1, rd, h1⟩ => ?_⟩
  dsimp only at h1
  split at h1
  · rename_i c
    refine ⟨tyB_of gx.hK rs1 rd c, ?_⟩
    refine ⟨μ1, env, st1, re.ext e1, rs1, PST.mono (PST.bind (Rel := RVs T.toTb) h1) fun xs H2 ⟨μ2, ds, st2, e2, rs2, rx, h2⟩ => ?_⟩
    exact ⟨μ2, st2, d, ds, rs2, rd.ext e2, rx, noEx_post h2⟩
  · exact h1.elim
theorem ok_bm0 {o : Expr} {name : Str} {apos cpos : Pos} {ty id : String} {g : MG} {fo : EF} (pa : PlainAttrs ty) (slot : Slot ty name id) (hty : typeOf (.builtin id) = pure (.type "method_descriptor")) (hm : ∀ F n W X, GX T F n N sc fn W X → MthOk T F X id g)
    (ho : EOk T N sc fn o fo) (hb : ∀ env, attributeBase o name env (eval o env) = eval o env) (hline : (apos.endLine == cpos.line) = true) :
    EOk T N sc fn (.Call (.Attribute o name apos) [] [] cpos) (cBM ty g fo aNil) := by
  intro F n W X gx
  refine PE.imp (pe_bm0 pa slot hty (hm F n W X gx) (ho F n W X gx) (hb _) hline) fun σ H Q ⟨μ, env, st, re, rs, h⟩ => ?_
  refine ⟨μ, env, st, re, rs, POST.mono (POST.bind h) fun x H1 ⟨μ1, d, st1, e1, rs1, rd, h1⟩ => ?_⟩
  dsimp only at h1
  split at h1
  · rename_i c
    exact ⟨tyB_of gx.hK rs1 rd c, μ1, st1, d, [], rs1, rd, .nil, noEx_post h1⟩
  · exact h1.elim
theorem MtR.imp {id : String} {r r' : V → List V → Hp → VK → Prop} (h : MtR X id r) (k : ∀ x xs H Q, r' x xs H Q → r x xs H Q) : MtR X id r' := fun pins s σ H x xs v us Q I a b q => h pins s σ H x xs v us Q I a b (k _ _ _ _ q)
def appendG : MG := fun _ d ds st => match d, ds with
  | .loc m, [.d y] => (match st[m]? with
    | some (.lst l) => if l.length < line then .ok (.d .non) (st.set m (.lst (l ++ [y]))) else .no
    | _ => .no)
  | _, _ => .no
theorem mok_append : MthOk T F X "list.append" appendG := by
  refine MtR.imp (mt_append : MtR X "list.append" rAppend) fun x xs H Q ⟨μ, st, d, ds, rs, rd, rx, h⟩ => ?_
  unfold appendG at h
  split at h
  · split at h
    · rename_i l hl
      split at h
      · rename_i c
        obtain ⟨a, ys, rfl, hm, hx, ry⟩ := place_at rs rd hl
        obtain ⟨w, rfl, rw'⟩ := rvs1 rx
        cases rw' with
        | d rw' =>
          obtain ⟨e, rs2⟩ := rs.list hm (ry.append (.cons rw' .nil))
          exact ⟨a, ys, w, rfl, rfl, hx, by rw [← line_eq, ← ry.length]; exact c, h μ _ _ e rs2 (.d .non)⟩
      · exact h.elim
    · exact h.elim
  · exact h.elim
def extendG : MG := fun _ d ds st => match d, ds with
  | .loc m, [b] => (match st[m]? with
    | some (.lst l) => (match lstL st b with
      | some k => if l.length + k.length ≤ line then .ok (.d .non) (st.set m (.lst (l ++ k))) else .no
      | none => .no)
    | _ => .no)
  | _, _ => .no
theorem mok_extend : MthOk T F X "list.extend" extendG := by
  refine MtR.imp (mt_extend : MtR X "list.extend" rExtend) fun x xs H Q ⟨μ, st, d, ds, rs, rd, rx, h⟩ => ?_
  unfold extendG at h
  split at h
  · split at h
    · rename_i l hl
      split at h
      · rename_i k hk
        split at h
        · rename_i c
          obtain ⟨a, ys, rfl, hm, hx, ry⟩ := place_at rs rd hl
          obtain ⟨w, rfl, rw'⟩ := rvs1 rx
          obtain ⟨b, zs, rfl, hz, rz⟩ := lstL_at rs rw' hk
          obtain ⟨e, rs2⟩ := rs.list hm (ry.append rz)
          exact ⟨a, b, ys, zs, rfl, rfl, hx, hz, by rw [← line_eq, ← ry.length, ← rz.length]; exact c, h μ _ _ e rs2 (.d .non)⟩
        · exact h.elim
      · exact h.elim
    · exact h.elim
  · exact h.elim
def popG : MG := fun _ d ds st => match d, ds with
  | .loc m, [] => (match st[m]? with
    | some (.lst l) => (match l[l.length - 1]? with
      | some y => .ok (.d y) (st.set m (.lst l.dropLast))
      | none => .no)
    | _ => .no)
  | .loc m, [.d (.int i)] => (match st[m]? with
    | some (.lst l) => if (decide (-(2 ^ 63) ≤ i) && decide (i < 2 ^ 63)) = true then (match seqIndex? i l.length with
      | some k => (match l[k]? with
        | some y => .ok (.d y) (st.set m (.lst (l.eraseIdx k)))
        | none => .no)
      | none => .no) else .no
    | _ => .no)
  | _, _ => .no
theorem RDs.dropLast {T : Tb} {μ : Mu} {H : Hp} : ∀ {ds : List D} {vs : List V}, RDs T μ H ds vs → RDs T μ H ds.dropLast vs.dropLast
  | _, _, .nil => .nil
  | _, _, .cons h .nil => .nil
  | _, _, .cons h (.cons h2 t) => .cons h (RDs.dropLast (.cons h2 t))
theorem RDs.eraseIdx {T : Tb} {μ : Mu} {H : Hp} : ∀ {ds : List D} {vs : List V} (k : Nat), RDs T μ H ds vs → RDs T μ H (ds.eraseIdx k) (vs.eraseIdx k)
  | _, _, _, .nil => .nil
  | _, _, 0, .cons _ t => t
  | _, _, k + 1, .cons h t => .cons h (RDs.eraseIdx k t)
theorem mok_pop : MthOk T F X "list.pop" popG := by
  refine MtR.imp (MtR.or (mt_pop : MtR X "list.pop" rPop) (mt_popAt : MtR X "list.pop" rPopAt)) fun x xs H Q ⟨μ, st, d, ds, rs, rd, rx, h⟩ => ?_
  unfold popG at h
  split at h
  · cases rx
    split at h
    · rename_i l hl
      split at h
      · rename_i y hy
        obtain ⟨a, ys, rfl, hm, hx, ry⟩ := place_at rs rd hl
        obtain ⟨w, hw, rw'⟩ := ry.get hy
        obtain ⟨e, rs2⟩ := rs.list hm ry.dropLast
        exact .inl ⟨a, ys, w, rfl, rfl, hx, by rw [← ry.length]; exact hw, h μ _ _ e rs2 (.d (rw'.ext e))⟩
      · exact h.elim
    · exact h.elim
  · split at h
    · rename_i l hl
      split at h
      · rename_i c
        split at h
        · rename_i k hk
          split at h
          · rename_i y hy
            obtain ⟨a, ys, rfl, hm, hx, ry⟩ := place_at rs rd hl
            obtain ⟨z, rfl, rz⟩ := rvs1 rx
            cases rd_int rz
            obtain ⟨w, hw, rw'⟩ := ry.get hy
            obtain ⟨e, rs2⟩ := rs.list hm (ry.eraseIdx k)
            rw [Bool.and_eq_true, decide_eq_true_iff, decide_eq_true_iff] at c
            exact .inr ⟨a, ys, _, k, w, rfl, rfl, hx, c.1, c.2, by rw [← ry.length]; exact hk, hw, h μ _ _ e rs2 (.d (rw'.ext e))⟩
          · exact h.elim
        · exact h.elim
      · exact h.elim
    · exact h.elim
  · exact h.elim
def reverseG : MG := fun _ d ds st => match d, ds with
  | .loc m, [] => (match st[m]? with
    | some (.lst l) => .ok (.d .non) (st.set m (.lst l.reverse))
    | _ => .no)
  | _, _ => .no
theorem mok_reverse : MthOk T F X "list.reverse" reverseG := by
  refine MtR.imp (mt_reverse : MtR X "list.reverse" rReverse) fun x xs H Q ⟨μ, st, d, ds, rs, rd, rx, h⟩ => ?_
  unfold reverseG at h
  split at h
  · cases rx
    split at h
    · rename_i l hl
      obtain ⟨a, ys, rfl, hm, hx, ry⟩ := place_at rs rd hl
      obtain ⟨e, rs2⟩ := rs.list hm ry.reverse
      exact ⟨a, ys, rfl, rfl, hx, h μ _ _ e rs2 (.d .non)⟩
    · exact h.elim
  · exact h.elim
def strsOf : List D → Option (List Str)
  | [] => some []
  | .str x :: r => (strsOf r).map (x :: ·)
  | _ => none
theorem strsOf_eq : ∀ {l : List D} {ns : List Str}, strsOf l = some ns → l = ns.map .str
  | [], ns, h => by cases h; rfl
  | d :: r, ns, h => by
    cases d with
    | str i =>
      simp only [strsOf] at h
      cases e : strsOf r with
      | none => rw [e] at h; cases h
      | some l =>
        rw [e] at h; cases h
        rw [strsOf_eq e]
        rfl
    | _ => cases h
def joinG : MG := fun _ d ds st => match d, ds with
  | .d (.str a), [x] => (match itemsOf st x with
    | some l => (match strsOf l with
      | some ys => if (ys.map (·.length)).sum + ys.length * a.length ≤ 16777216 then .ok (.d (.str (Txt.join a ys))) st else .no
      | none => .no)
    | none => .no)
  | _, _ => .no
theorem mok_join (hK : X.K = T.K) : MthOk T F X "str.join" joinG := by
  refine MtR.imp mt_join fun x xs H Q ⟨μ, st, d, ds, rs, rd, rx, h⟩ => ?_
  unfold joinG at h
  split at h
  · split at h
    · rename_i l hl
      split at h
      · rename_i ys hy
        split at h
        · rename_i c
          cases rd_str rd
          obtain ⟨w, rfl, rw'⟩ := rvs1 rx
          obtain ⟨p, zs, rfl, hp, rz⟩ := itemsOf_at (K := X.K) hK rs rw' hl
          rw [strsOf_eq hy] at rz
          have := RDs.ofStrs rz
          subst this
          exact ⟨_, p, ys, rfl, rfl, hp.symm, c, h.done rs (.d (.str _))⟩
        · exact h.elim
      · exact h.elim
    · exact h.elim
  · exact h.elim
theorem RDs.strs {T : Tb} {μ : Mu} {H : Hp} {ns : List Str} : RDs T μ H (ns.map .str) (ns.map .str) := by
  induction ns with
  | nil => exact .nil
  | cons n ns ih => exact .cons (.str n) ih
def splitG : MG := fun _ d ds st => match d, ds with
  | .d (.str a), [.d (.str b)] => if (!(b.length == 0) && decide (a.length + 2 ≤ line)) = true then .ok (.d (.lst ((Txt.split a b).map .str))) st else .no
  | _, _ => .no
theorem mok_split : MthOk T F X "str.split" splitG := by
  refine MtR.imp mt_split fun x xs H Q ⟨μ, st, d, ds, rs, rd, rx, h⟩ => ?_
  unfold splitG at h
  split at h
  · split at h
    · rename_i c
      cases rd_str rd
      obtain ⟨w, rfl, rw'⟩ := rvs1 rx
      cases rd_str rw'
      rw [Bool.and_eq_true, decide_eq_true_iff, Bool.not_eq_true', line_eq] at c
      exact ⟨_, _, rfl, rfl, c.1, c.2, fun p hp => POST.newLst h rs RDs.strs p hp⟩
    · exact h.elim
  · exact h.elim
def partitionG : MG := fun _ d ds st => match d, ds with
  | .d (.str a), [.d (.str b)] => if (!(b.length == 0) && decide (a.length ≤ line)) = true then .ok (.d (.tup [.str (Txt.partition a b).1, .str (Txt.partition a b).2.1, .str (Txt.partition a b).2.2])) st else .no
  | _, _ => .no
theorem mok_partition : MthOk T F X "str.partition" partitionG := by
  refine MtR.imp mt_partition fun x xs H Q ⟨μ, st, d, ds, rs, rd, rx, h⟩ => ?_
  unfold partitionG at h
  split at h
  · split at h
    · rename_i c
      cases rd_str rd
      obtain ⟨w, rfl, rw'⟩ := rvs1 rx
      cases rd_str rw'
      rw [Bool.and_eq_true, decide_eq_true_iff, Bool.not_eq_true', line_eq] at c
      exact ⟨_, _, rfl, rfl, c.1, c.2, fun p hp => POST.newTup h rs (.cons (.str _) (.cons (.str _) (.cons (.str _) .nil))) p hp⟩
    · exact h.elim
  · exact h.elim
theorem RSl.put {T : Tb} {μ : Mu} {H : Hp} {d : D} {v : V} (h : RD T μ H d v) : ∀ {fs : List (Option D)} {vs : List (Option V)} (i : Nat), RSl T μ H fs vs → RSl T μ H ((fs ++ List.replicate (i + 1 - fs.length) Option.none).set i (Option.some d)) (SlX.putS i v vs) := by
  have app : ∀ {fs : List (Option D)} {vs : List (Option V)} (m : Nat), RSl T μ H fs vs → RSl T μ H (fs ++ List.replicate m Option.none) (vs ++ List.replicate m Option.none) := by
    intro fs vs m r
    induction r with
    | nil =>
      induction m with
      | zero => exact .nil
      | succ m ih => exact .none ih
    | some h t ih => exact .some h ih
    | none t ih => exact .none ih
  have st : ∀ {fs : List (Option D)} {vs : List (Option V)} (i : Nat), RSl T μ H fs vs → RSl T μ H (fs.set i (Option.some d)) (vs.set i (Option.some v)) := by
    intro fs vs i r
    induction r generalizing i with
    | nil => exact .nil
    | some h' t ih =>
      cases i with
      | zero => exact .some h t
      | succ i => exact .some h' (ih i)
    | none t ih =>
      cases i with
      | zero => exact .some h t
      | succ i => exact .none (ih i)
  have len : ∀ {fs : List (Option D)} {vs : List (Option V)}, RSl T μ H fs vs → fs.length = vs.length := by
    intro fs vs r
    induction r with
    | nil => rfl
    | some h t ih => simp [ih]
    | none t ih => simp [ih]
  intro fs vs i r
  unfold SlX.putS
  rw [len r]
  exact st i (app _ r)
def putD (i : Nat) (d : D) (fs : List (Option D)) : List (Option D) := (fs ++ List.replicate (i + 1 - fs.length) none).set i (some d)
def sSlot (att : Nat → Str → Option At1) (f : Str) (o v : EF) : SF := fun F env st => liftE (v F env st) env fun y st => liftE (o F env st) env fun x st => match x, y with
  | .loc m, .d y => (match st[m]? with
    | some (.obj c fs) => (match att c f with
      | some (.slot i) => .ok .nx env (st.set m (.obj c (putD i y fs)))
      | _ => .no)
    | _ => .no)
  | _, _ => .no
theorem swaps_att {e o : Expr} {f : Str} {p : Pos} {l : Nat} {env : Env} : swapsWith e (some (.Attribute o f p)) l env = pure false := by
  cases e <;> rfl
theorem sok_slot {o v : Expr} {f : Str} {p : Pos} {fo fv : EF} (ho : EOk T N sc fn o fo) (hv : EOk T N sc fn v fv) : SOk T N sc fn (.Assign [.Attribute o f p] v pos) (sSlot T.att f fo fv) := by
  intro F n W X g
  refine PS.imp (SlX.ps_sl (ho F n W X g) (hv F n W X g) swaps_att) fun D σ H ⟨μ, env, st, re, rs, h⟩ => ?_
  refine ⟨μ, env, st, re, rs, PST.mono (POSTS.lift (Rel := RV T.toTb) re h) fun y H1 ⟨μ1, yd, st1, e1, rs1, ry, h1⟩ => ?_⟩
  refine ⟨μ1, env, st1, re.ext e1, rs1, PST.mono (POSTS.lift (Rel := RV T.toTb) (re.ext e1) h1) fun x H2 ⟨μ2, xd, st2, e2, rs2, rx, h2⟩ => ?_⟩
  split at h2
  · split at h2
    · rename_i c fs hc
      split at h2
      · rename_i i hi
        obtain ⟨q, eo, a, dx, vs, eq, hne, hsl, hdx, rf⟩ := rs2.at_ _ _ hc
        subst eq
        have ev : x = .ref a := by
          cases rx with
          | loc hn hv => exact hv _ eo
        have ry2 := ry.ext e2
        cases ry2 with
        | d ry2 =>
          obtain ⟨s1, p1, s2⟩ := g.tx.sl c f i hi
          obtain ⟨e3, rs3⟩ := rs2.change (H' := SlX.slH H2 a (T.ca c) dx (SlX.putS i y vs)) (so' := .obj c (putD i _ fs)) eo (fun b h1 h2 => SlX.slH_ne h1 h2) fun e =>
            ⟨a, dx, SlX.putS i y vs, rfl, hne, SlX.slH_slt hne, by
              unfold SlX.slH
              exact ⟨_, by rw [upd_ne hne, upd_same]⟩, RSl.put (ry2.ext e) i (RSl.ext e rf)⟩
          exact ⟨a, T.ca c, dx, p1, vs, i, ev, hsl, by rw [g.hK]; exact s1, by rw [g.hK]; exact s2, h2 μ2 σ _ e3 rs3 (re.ext (e1.trans (e2.trans e3)))⟩
      · exact h2.elim
    · exact h2.elim
  · exact h2.elim
end
end PyI
namespace PyI
open PySem PySem.Spec PyProof.Rows L2
def tkD (isI : Nat → Bool) (st : Store) (d : DV) : Option TK := match d with
  | .d .non => some (.ty "NoneType")
  | .d (.bl _) => some (.ty "bool")
  | .d (.int _) => some (.ty "int")
  | .d (.str _) => some (.ty "str")
  | .d (.tup _) => some (.ty "tuple")
  | .d (.lst _) => some (.ty "list")
  | .d (.scr _) => some (.ty "list")
  | .d (.ins c _) => if isI c = true then some (.own c) else none
  | .loc n => (match st[n]? with
    | some (.lst _) => some (.ty "list")
    | some (.obj c _) => if isI c = true then some (.own c) else none
    | _ => none)
  | _ => none
section
variable {T : Tx} {N : List Str} {sc : Scope} {fn : Str → Bool} {F : FTs} {n : Nat} {W : WX} {X : Cx} {pos : Pos} {μ μ1 : Mu} {H H1 : Hp}
theorem kit_own {pins : List (Addr × Obj)} {σ : L2.St} {s : Shared} {a : Addr} {c : Nat} {dx : Addr} {vs : List (Option V)} (g : GX T F n N sc fn W X) (I : Inv X pins σ H s) (hc : T.isI c = true) (h : SlX.Slt H a (T.ca c) dx vs) :
    ∃ P : Heap → Prop, PySem.W.KitX X.K (.ref a) (tkv T.toTb (.own c)) P ∧ P s.heap ∧ (Value.ref a) ≠ .builtin "__main__.__loader__#opaque" := by
  obtain ⟨s1, s2⟩ := g.tx.si c hc
  rw [← g.hK] at s1 s2
  obtain ⟨sl, od, _, J, _⟩ := SlX.slt_inst I h
  exact ⟨_, OwX.kitx_slt s1.ic (s1.get _) s2.ca s2.cn s2.ct s2.cm, J, fun z => nomatch z⟩
theorem kit_tk {pins : List (Addr × Obj)} {σ : L2.St} {s : Shared} {st : Store} {d : DV} {v : V} {u : Value} {t : TK} (g : GX T F n N sc fn W X) (I : Inv X pins σ H s) (rs : RSt T.toTb μ H st) (rd : RV T.toTb μ H d v) (rx : RelV v u) (h : tkD T.isI st d = some t) :
    ∃ P : Heap → Prop, PySem.W.KitX X.K u (tkv T.toTb t) P ∧ P s.heap ∧ u ≠ .builtin "__main__.__loader__#opaque" := by
  cases rd with
  | @d x v rd =>
    cases rd with
    | non => cases h; exact kit_of I rx (.base .non)
    | bl b => cases h; exact kit_of I rx (.base (.bl b))
    | int i => cases h; exact kit_of I rx (.base (.int i))
    | str x => cases h; exact kit_of I rx (.base (.str x))
    | tup hp r =>
      cases h
      rcases hp with hp | ⟨o, its, m, e1, e2, _⟩
      · exact kit_of I rx (.base (.tup hp.1))
      · exact kit_of I rx (.kTuple (by rw [g.hK]; exact e1) e2)
    | lst hp r => cases h; exact kit_of I rx (.base (.lst hp.1))
    | scr hp r =>
      cases h
      rcases hp with hp | ⟨ob, hp⟩ | ⟨o, its, m, e1, e2, _⟩
      · exact kit_of I rx (.base (.lst hp.1))
      · exact kit_of I rx (.base (.frz hp.1))
      · exact kit_of I rx (.kList (by rw [g.hK]; exact e1) e2)
    | @ins c ds a dx vs h1 h2 r =>
      simp only [tkD] at h
      split at h
      · rename_i hc
        cases h
        obtain rfl : u = Value.ref a := rx
        exact kit_own g I hc (.inr ⟨h1.1, h2.1⟩)
      · cases h
    | ty _ => cases h
    | fn _ => cases h
    | cls _ => cases h
  | @loc m v hm hv =>
    simp only [tkD] at h
    split at h
    · rename_i l hl
      cases h
      obtain ⟨a, xs, rfl, _, hx, _⟩ := place_at rs (.loc hm hv) hl
      exact kit_of I rx (.base (.lst hx))
    · rename_i c fs hl
      split at h
      · rename_i hc
        cases h
        obtain ⟨a, dx, vs, rfl, sl, _⟩ := inst_at (c := c) (fs := fs) rs (.loc hm hv) (by simp only [instV, hl])
        obtain rfl : u = Value.ref a := rx
        exact kit_own g I hc sl
      · cases h
    · cases h
def clD : DV → Option TK
  | .d (.ty n) => some (.ty n)
  | .d (.cls c) => some (.own c)
  | _ => none
def isiG (isI : Nat → Bool) (isa : TK → TK → Option Bool) : BG := fun _ a st => match a with
  | [x, c] => (match tkD isI st x, clD c with
    | some t, some u => (match isa t u with
      | some b => .d (.bl b) st
      | none => .no)
    | _, _ => .no)
  | _ => .no
theorem cld_at {d : DV} {v : V} {u : Value} {t : TK} (rd : RV T.toTb μ H d v) (rx : RelV v u) (h : clD d = some t) : u = tkv T.toTb t := by
  unfold clD at h
  split at h
  · cases h
    cases rd with
    | d rd => cases rd; exact rx
  · cases h
    cases rd with
    | d rd => cases rd; exact rx
  · cases h
theorem cok_isi (g : GX T F n N sc fn W X) : CallOk T F W X (.builtin "isinstance") (isiG T.isI T.isa) := by
  intro pins s σ H μ st ds xs us Q I rs rx r h
  unfold isiG at h
  split at h
  · obtain ⟨x, y, rfl, r1, r2⟩ := rvs2 rx
    obtain ⟨u1, u2, rfl, q1, q2⟩ := vals2 r
    split at h
    · rename_i t u ht hu
      split at h
      · rename_i b hb
        obtain ⟨P, Z, p, hx⟩ := kit_tk g I rs r1 q1 ht
        have e := cld_at r2 q2 hu
        subst e
        have k := g.tx.isa t u b hb
        rw [← g.hK] at k
        exact PySem.W.kia_one Z I.kIn p k hx fun tk => ⟨.bl b, H, I.tok tk, rfl, h.done rs (.d (.bl b))⟩
      · exact h.elim
    · exact h.elim
  · exact h.elim
theorem ok_gval {x : Str} {d : D} (hg : globB sc x = true) (hx : T.G x = some (.val d)) (hd : (x == ("__debug__" : Str)) = false) : EOk T N sc fn (.Name x pos) (cCon d) := by
  intro F n W X g
  refine ⟨fun pins s σ H Q I ⟨μ, env, st, re, rs, h⟩ => ?_⟩
  obtain ⟨u, v, hm, rv, rd⟩ := g.tx.val x d hx
  exact ld_glob I (gl_of g hg) hm ⟨v, H, I, rv, h.done rs (.d (rd μ H))⟩ hd
theorem ok_gcls {x : Str} {c : Nat} (hg : globB sc x = true) (hx : T.G x = some (.cls c)) (hd : (x == ("__debug__" : Str)) = false) : EOk T N sc fn (.Name x pos) (cCon (.cls c)) := by
  intro F n W X g
  refine ⟨fun pins s σ H Q I ⟨μ, env, st, re, rs, h⟩ => ?_⟩
  exact ld_glob I (gl_of g hg) (g.tx.cls x c hx).1 ⟨.ref (T.ca c), H, I, rfl, h.done rs (.d (.cls c))⟩ hd
theorem ok_gfn {x : Str} {k : Nat} (hg : globB sc x = true) (hx : T.G x = some (.fn k)) (hd : (x == ("__debug__" : Str)) = false) : EOk T N sc fn (.Name x pos) (cCon (.fn k)) := by
  intro F n W X g
  refine ⟨fun pins s σ H Q I ⟨μ, env, st, re, rs, h⟩ => ?_⟩
  exact ld_glob I (gl_of g hg) (g.tx.fn x k hx).1 ⟨.ref (T.fa k), H, I, rfl, h.done rs (.d (.fn k))⟩ hd
theorem ok_gty {x : Str} {id : String} (hg : globB sc x = true) (hx : T.G x = some .blt) (hv : bootBuiltins x = some (.type id)) (hn : x ≠ "__name__") (hd : (x == ("__debug__" : Str)) = false) : EOk T N sc fn (.Name x pos) (cCon (.ty id)) := by
  intro F n W X g
  refine ⟨fun pins s σ H Q I ⟨μ, env, st, re, rs, h⟩ => ?_⟩
  exact ld_blt I (gl_of g hg) (g.tx.blt x hx) hv ⟨.ty id, H, I, rfl, h.done rs (.d (.ty id))⟩ hn hd
def instC (st : Store) (d : DV) : Option Nat := (instV st d).map (·.1)
theorem instC_at {st : Store} {d : DV} {v : V} {c : Nat} (rs : RSt T.toTb μ H st) (r : RV T.toTb μ H d v) (h : instC st d = some c) : ∃ a dx vs, v = .ref a ∧ SlX.Slt H a (T.ca c) dx vs := by
  unfold instC at h
  cases e : instV st d with
  | none => rw [e] at h; cases h
  | some p =>
    obtain ⟨c', fs⟩ := p
    rw [e] at h
    cases h
    obtain ⟨a, dx, vs, e1, sl, _⟩ := inst_at rs r e
    exact ⟨a, dx, vs, e1, sl⟩
/-- what a class's special method gives; o: at another level -/
structure Sps where
  spm : Nat → Str → Option Nat
  isI : Nat → Bool
  fst : Nat → TK → Bool
  sfst : Nat → Bool
  neO : Nat → Bool
  nsq : Nat → Bool
  bop : Nat → Operator → String → Bool
def Tx.sps (T : Tx) : Sps := ⟨T.spm, T.isI, T.fst, T.sfst, T.neO, T.nsq, T.bop⟩
def cmpOwn (S : Sps) (m : Str) (alt : G2) : G2 := fun F a b st => match instC st a with
  | some c => (match S.spm c m, tkD S.isI st b with
    | some k, some t => if S.fst c t = true then F.a k [a, b] st else .no
    | _, _ => .no)
  | none => (match instC st b with
    | some _ => .no
    | none => alt F a b st)
theorem opok_own {op : CmpOp} {alt : G2} (g : GX T F n N sc fn W X) (hop : ∀ a b, compareOp op a b = richCompare op a b) (ha : OpOk T F W X (compareOp op) alt) : OpOk T F W X (compareOp op) (cmpOwn T.sps (cmpInfo op).2.1 alt) := by
  intro pins s σ H μ st a b x y v u Q I rs ra rb rx ry h
  unfold cmpOwn at h
  split at h
  · rename_i c hc
    split at h
    · rename_i k t hk ht
      split at h
      · rename_i hf
        obtain ⟨p, dx, vs, rfl, sl⟩ := instC_at rs ra hc
        obtain rfl : v = Value.ref p := rx
        obtain ⟨s1, s2, s3, _⟩ := g.tx.sp c _ k hk
        rw [← g.hK] at s1 s2 s3
        obtain ⟨sl', od, _, J, _⟩ := SlX.slt_inst I sl
        obtain ⟨m, hF⟩ := I.fr
        obtain ⟨P, Z, hP, _⟩ := kit_tk g I rs rb ry ht
        have hn := g.tx.fst c t hf
        rw [← g.hK] at hn
        rw [hop]
        refine PySem.W.cmp_K (op := op) (tb := tkv T.toTb t) g.room.units0 hF I.ok.mod.kin J (Z.ty _ _ I.kIn hP) hn s2 s3 ?_
        refine wpAny_mono (run_g (us := [.ref p, u]) (vs := [.ref p, y]) g (g.fa k) I (.cons rfl (.cons ry .nil)) (spOf_of rs (.cons ra (.cons rb .nil)) h)) (fun w s' z => ?_) fun _ _ x => x
        obtain ⟨z', H', I', rz, qz⟩ := z
        exact SlX.cmpback rz ⟨z', H', I', rz, qz⟩
      · exact h.elim
    · exact h.elim
  · split at h
    · exact h.elim
    · exact ha pins s σ H μ st a b x y v u Q I rs ra rb rx ry h
theorem opok_eq (g : GX T F n N sc fn W X) : OpOk T F W X (compareOp .Eq) (cmpOwn T.sps "__eq__" eqG) := opok_own g (fun _ _ => rfl) (opok_eqD g)
theorem opok_ltO (g : GX T F n N sc fn W X) : OpOk T F W X (compareOp .Lt) (cmpOwn T.sps "__lt__" (cmpI fun i j => decide (i < j))) := opok_own g (fun _ _ => rfl) (opok_lt g)
theorem opok_leO (g : GX T F n N sc fn W X) : OpOk T F W X (compareOp .LtE) (cmpOwn T.sps "__le__" (cmpI fun i j => decide (i ≤ j))) := opok_own g (fun _ _ => rfl) (opok_le g)
theorem opok_gtO (g : GX T F n N sc fn W X) : OpOk T F W X (compareOp .Gt) (cmpOwn T.sps "__gt__" (cmpI fun i j => decide (j < i))) := opok_own g (fun _ _ => rfl) (opok_gt g)
theorem opok_geO (g : GX T F n N sc fn W X) : OpOk T F W X (compareOp .GtE) (cmpOwn T.sps "__ge__" (cmpI fun i j => decide (j ≤ i))) := opok_own g (fun _ _ => rfl) (opok_ge g)
def binOwn (S : Sps) (op : Operator) (alt : G2) : G2 := fun F a b st => match instC st a with
  | some c => (match S.spm c (PySem.dunder op.info.2), tkD S.isI st b with
    | some k, some (.own c') => if (c' == c && S.sfst c) = true then F.a k [a, b] st else .no
    | some k, some (.ty ty) => (match b with
      | .d (.int _) => if (ty == "int" && S.sfst c && S.bop c op "int") = true then F.a k [a, b] st else .no
      | _ => .no)
    | _, _ => .no)
  | none => (match instC st b with
    | some _ => .no
    | none => alt F a b st)
theorem opok_binOwn {op : Operator} {alt : G2} (g : GX T F n N sc fn W X) (ha : OpOk T F W X (binaryOp op) alt) : OpOk T F W X (binaryOp op) (binOwn T.sps op alt) := by
  intro pins s σ H μ st a b x y v u Q I rs ra rb rx ry h
  unfold binOwn at h
  split at h
  · rename_i c hc
    obtain ⟨p, dx, vs, rfl, sl⟩ := instC_at rs ra hc
    obtain rfl : v = Value.ref p := rx
    obtain ⟨sl', od, _, J, _⟩ := SlX.slt_inst I sl
    obtain ⟨m, hF⟩ := I.fr
    split at h
    · rename_i k c' hk ht
      split at h
      · rename_i hcc
        rw [Bool.and_eq_true, beq_iff_eq] at hcc
        obtain ⟨e, hsf⟩ := hcc
        subst e
        obtain ⟨s1, s2, s3, _⟩ := g.tx.sp _ _ k hk
        rw [← g.hK] at s1 s2 s3
        have hs := g.tx.sfst _ hsf
        rw [← g.hK] at hs
        obtain ⟨P, Z, hP, _⟩ := kit_tk g I rs rb ry ht
        refine PySem.W.binop_K hF I.ok.mod.kin J (Z.ty _ _ I.kIn hP) hs s2 s3 ?_
        refine wpAny_mono (run_g (us := [.ref p, u]) (vs := [.ref p, y]) g (g.fa k) I (.cons rfl (.cons ry .nil)) (spOf_of rs (.cons ra (.cons rb .nil)) h)) (fun w s' z => ?_) fun _ _ x => x
        obtain ⟨z', H', I', rz, qz⟩ := z
        exact SlX.cmpback rz ⟨z', H', I', rz, qz⟩
      · exact h.elim
    · rename_i k ty hk ht
      split at h
      · split at h
        · rename_i i hcc
          rw [Bool.and_eq_true, Bool.and_eq_true, beq_iff_eq] at hcc
          obtain ⟨⟨e, hsf⟩, hbo⟩ := hcc
          obtain ⟨s1, s2, s3, _⟩ := g.tx.sp _ _ k hk
          rw [← g.hK] at s1 s2 s3
          have hs := g.tx.sfst _ hsf
          rw [← g.hK] at hs
          obtain ⟨fo, ro, rc, b1, b2, b3, b4, b5⟩ := g.tx.bop _ _ _ hbo
          rw [← g.hK] at b1 b3 b4 b5
          cases rd_int rb
          obtain ⟨tk, eu⟩ := (show ∃ t, u = Value.int _ t from ry)
          refine PySem.W.ksp_binT hF I.ok.mod.kin J (by rw [eu]; rfl) hs s2 s3 b1 b2 b3 b4 b5 ?_
          refine wpAny_mono (run_g (us := [.ref p, u]) (vs := [.ref p, .int _]) g (g.fa k) I (.cons rfl (.cons ry .nil)) (spOf_of rs (.cons ra (.cons rb .nil)) h)) (fun w s' z => ?_) fun _ _ x => x
          obtain ⟨z', H', I', rz, qz⟩ := z
          exact SlX.cmpback rz ⟨z', H', I', rz, qz⟩
        · exact h.elim
      · exact h.elim
    · exact h.elim
  · split at h
    · exact h.elim
    · exact ha pins s σ H μ st a b x y v u Q I rs ra rb rx ry h
def idxOwn (S : Sps) : G2 := fun F a b st => match instC st a with
  | some c => (match S.spm c "__getitem__" with
    | some k => F.b k [a, b] st
    | none => .no)
  | none => idxG F a b st
theorem run_b {A : Around} {f : Nat} {pins : List (Addr × Obj)} {σ : L2.St} {s : Shared} {Q : VK} {us : List Value} {vs : List V} {xs : List DV} {st : Store} (g : GX T F n N sc fn W X) (hA : A = X.A.in1) (I : Inv X pins σ H s) (r : Vals vs us) (rs : RSt T.toTb μ H st) (rx : RVs T.toTb μ H xs vs) (h : POST T (atS W σ) μ H (F.b f xs st) Q) :
    wpAny (model X.prog X.w) A (call (.ref (T.fa f)) us) (EP X pins σ Q) X.xe s := by
  subst hA
  cases n with
  | zero => rw [g.fb0 rfl] at h; exact h.elim
  | succ m => exact CB.call (run_at g (g.fb m rfl f) g.room.in1 g.grd I.env0.in1 I r (spOf_of rs rx h))
theorem ok_ixO {a b : Expr} {fa fb : EF} {pos : Pos} (ha : EOk T N sc fn a fa) (hb : EOk T N sc fn b fb) (hs : PlainIx b) (hs2 : ∀ x i : Value, subscripted b true x i = runValue (.builtin "lifetime.subscript" ⟨[x, i], []⟩)) : EOk T N sc fn (.Subscript a b pos) (c2 (idxOwn T.sps) fa fb) := by
  intro F n W X g
  refine ⟨fun pins s σ H Q I h => ?_⟩
  refine Subscript_ (binT (ha F n W X g) (hb F n W X g) I (tE2 (R := fun x y H2 => ∃ μ st a b, RSt T.toTb μ H2 st ∧ RV T.toTb μ H2 a x ∧ RV T.toTb μ H2 b y ∧ POST T (atS W σ) μ H2 (idxOwn T.sps F a b st) Q) h fun μ st a b x y H2 q1 q2 q3 q4 => ⟨μ, st, a, b, q1, q2, q3, q4⟩) fun v u s2 x y H2 I2 rx ry q => ?_)
  obtain ⟨μ, st, a, b, rs, ra, rb, h⟩ := q
  unfold idxOwn at h
  split at h
  · rename_i c hc
    split at h
    · rename_i k hk
      obtain ⟨p, dx, vs, rfl, sl⟩ := instC_at rs ra hc
      obtain rfl : v = Value.ref p := rx
      obtain ⟨sl', od, _, J, _⟩ := SlX.slt_inst I2 sl
      obtain ⟨m, hF⟩ := I2.fr
      obtain ⟨s1, s2, s3, s4⟩ := g.tx.sp _ _ k hk
      rw [← g.hK] at s1 s2 s3 s4
      exact PySem.W.sub_K hF I2.ok.mod.kin J s2 s4 s3 (run_b (us := [.ref p, u]) (vs := [.ref p, y]) g rfl I2 (.cons rfl (.cons ry .nil)) rs (.cons ra (.cons rb .nil)) h) (hs2 _ _)
    · exact h.elim
  · exact (ix_seq (X := X)) _ _ pins s2 σ H2 x y v u Q I2 rx ry (ixok g rs ra rb h) (hs _ _)
end
end PyI
namespace PyI
open PySem PySem.Spec PyProof.Rows L2
section
variable {T : Tx} {N : List Str} {sc : Scope} {fn : Str → Bool} {F : FTs} {n : Nat} {W : WX} {X : Cx} {pos : Pos} {μ μ1 : Mu} {H H1 : Hp}
def isSeqP : PyData → Bool
  | .list _ => true
  | .tuple _ => true
  | _ => false
def shownOk (p : PyData) : Bool := isSeqP p && p.showable && decide (p.shown.length ≤ line)
def reprG : BG := fun _ a st => match a with
  | [x] => (match x with
    | .d (.str z) => if (reprText z).length ≤ line then .d (.str (reprText z)) st else .no
    | .d (.int i) => if i.natAbs.log2 < 1920 then .d (.str (toString i)) st else .no
    | .d (.bl b) => .d (.str (if b then "True" else "False")) st
    | .d .non => .d (.str "None") st
    | x => (match pyv st x with
      | some p => if shownOk p = true then .d (.str p.shown) st else .no
      | none => .no))
  | _ => .no
theorem cok_repr (g : GX T F n N sc fn W X) : CallOk T F W X (.builtin "repr") reprG := by
  intro pins s σ H μ st ds xs us Q I rs rx r h
  unfold reprG at h
  split at h
  · obtain ⟨y, rfl, ry⟩ := rvs1 rx
    obtain ⟨u, rfl, ru⟩ := vals1 r
    split at h
    · split at h
      · rename_i c
        cases rd_str ry
        obtain ⟨t, rfl⟩ := ru
        exact PySem.P.repr_of_str ⟨.str _, H, I.tok _, ⟨_, rfl⟩, h.done rs (.d (.str _))⟩ (by rw [← line_eq]; exact c)
      · exact h.elim
    · split at h
      · rename_i c
        cases rd_int ry
        obtain ⟨t, rfl⟩ := ru
        exact PySem.P.repr_of_int c ⟨.str _, H, I.tok _, ⟨_, rfl⟩, h.done rs (.d (.str _))⟩
      · exact h.elim
    · cases rd_bl ry
      cases ru
      exact PySem.P.repr_of_bool ⟨.str _, H, I.tok _, ⟨_, rfl⟩, h.done rs (.d (.str _))⟩
    · cases rd_non ry
      cases ru
      exact PySem.P.repr_of_none ⟨.str _, H, I.tok _, ⟨_, rfl⟩, h.done rs (.d (.str _))⟩
    · rename_i n1 n2 n3 n4
      split at h
      · rename_i p hp
        split at h
        · rename_i c
          unfold shownOk at c
          rw [Bool.and_eq_true, Bool.and_eq_true, decide_eq_true_iff] at c
          obtain ⟨⟨c0, c1⟩, c2⟩ := c
          obtain ⟨h1, h2⟩ := pyv_dp rs ry hp
          unfold SeqAt.shaped at h2
          rw [Bool.and_eq_true, decide_eq_true_iff] at h2
          rw [← g.hK] at h1
          obtain ⟨as, hr⟩ := h1.reads I _ _ _ ru
          have isref : ∃ a, u = Value.ref a := by
            cases h1 <;> first | exact ⟨_, ru⟩ | cases c0
          obtain ⟨a, rfl⟩ := isref
          have hu := g.room.un
          refine PySem.repr_of_reads' hr c1 (PyData.noDict_hsm (PyData.hasDict_of_canLay _ (by first | exact h2.1 | exact h2.2))) g.grd (by have := h2; omega) (fun _ _ e => e) (fun h' u tk hk => ?_) (by rw [← line_eq]; exact c2)
          exact ⟨.str _, H, I.kept (t' := tk) hk, ⟨u, rfl⟩, h.done rs (.d (.str _))⟩
        · exact h.elim
      · exact h.elim
  · exact h.elim
end
section
open PySem.W Builtin
variable {prog : Program} {w : World} {A : Around} {E : Value → Shared → Prop} {s : Shared} {K : Frag} {x C L f : Addr} {h₀ : Heap} {m : Str → Option Value} {ox : Obj} {od : Option Obj} {b tb : Value}
theorem ifBound_B {M : Model} {B id : String} {name : Str} {args : List Value} {Q : Option Value → Shared → Prop} (X : K.In s.heap) (I : InstAt s.heap x ox C od) (hs : findIn K (.ref C) name = some (some (.builtin id))) (S : Slot B name id)
    (h : wpAny M A (call (.builtin id) (.ref x :: args)) (fun v => Q (some v)) E s) : wpAny M A (callSpecialIfBound? (.ref x) name args) Q E s := by
  simp only [callSpecialIfBound?, bindSpecialIfBound?]
  refine wpAny_holding (wpAny_bind (wpAny_bind (wpAny_bind (I.type.here ((looks_findIn X hs).here ?_)))))
  simp only [S.bind]
  refine wpAny_bind (wpAny_askSetting (wpAny_ite ?_))
  have fin : wpAny M A (call (.builtin id) ([.ref x] ++ args) >>= fun v => pure (some v)) Q E s := wpAny_bind (wpAny_mono h (fun v s' h' => wpAny_pure h') fun _ _ h' => h')
  split
  · exact wpAny_bind (wpAny_pure (wpAny_pure fin))
  · exact wpAny_tryCatch (wpAny_bind (wpAny_pure (wpAny_pure fin)))
theorem objNe_K {Q : PySem.Fin → Shared → Prop} (X : K.In s.heap) (I : InstAt s.heap x ox C od) (hu : A.units < cLine) (h2 : findIn K (.ref C) "__eq__" = some (some (.ref f))) (hf : isFn K (.ref f) = true)
    (hcall : wpAny (model prog w) A (call (.ref f) [.ref x, b]) (fun v s' => ∃ k, v = .bool k ∧ Q (.done (.ret (.bool (!k)))) s') E s) :
    wpAny (model prog w) A (Builtin.«object.__ne__» ⟨[.ref x, b], []⟩) Q E s := by
  unfold Builtin.«object.__ne__»
  repeat (first
    | with_reducible refine wpAny_cRoomFor hu ?_
    | (refine wpAny_bind (m := callSpecialIfBound? (.ref x) (Str.ofString "__eq__") [b])
        (ifBound_K X I h2 hf (wpAny_mono hcall (fun r s' hr => by
          obtain ⟨k, rfl, hq⟩ := hr
          repeat (first | exact hq | exact wpAny_pure hq | exact wpAny_truthy_bool hq | (refine wpAny_bind (m := truthy (.bool _)) (wpAny_truthy_bool ?_)) | wp_step)) fun _ _ e => e)))
    | wp_step)
theorem ne_K {Q : Value → Shared → Prop} (hu : A.units + 1 < cLine) (F : Fr h₀ L s.heap m) (X₀ : K.In h₀) (I : InstAt s.heap x ox C od) (hb : Looks (model prog w) s.heap (typeOf b) tb) (hn : notFirst K C tb = true)
    (h1 : findIn K (.ref C) "__ne__" = some (some (.builtin "object.__ne__"))) (hm : mroIn K C (.type "object") = some true) (h2 : findIn K (.ref C) "__eq__" = some (some (.ref f))) (hf : isFn K (.ref f) = true)
    (hcall : wpAny (model prog w) A.in1 (call (.ref f) [.ref x, b]) (fun v s' => ∃ k, v = .bool k ∧ Q (.bool (!k)) s') E s) : wpAny (model prog w) A (richCompare .NotEq (.ref x) b) Q E s := by
  have X := X₀.keeps F.keep
  have sub : Looks (model prog w) s.heap (isInstance (.ref x) (.type "object")) true := I.type.andThen (looks_mroIn X hm)
  have one : wpAny (model prog w) A (tryCompare (.ref x) "__ne__" b) (fun r s' => ∃ v, r = some v ∧ Q v s') E s := by
    unfold tryCompare
    refine wpAny_bind (ifBound_B X I h1 PySem.F.cmp_object.ne (wpAny_call (codeAny_call_builtin PySem.F.cmp_object.ne.plain PySem.F.cmpEntry_ne
      (check_slot PySem.F.cmpKind_ne PySem.F.cmpSplit_ne sub (PySem.F.cmpArgs_ne _ _) (objNe_K (A := A.in1) X I hu h2 hf (wpAny_mono hcall (fun v s' hv => ?_) fun _ _ e => e))))))
    obtain ⟨k, rfl, hq⟩ := hv
    first
      | exact ⟨k, rfl, wpAny_pure ⟨_, rfl, hq⟩⟩
      | exact ⟨k, rfl, wpAny_pure (wpAny_pure ⟨_, rfl, hq⟩)⟩
      | exact ⟨k, rfl, _, rfl, hq⟩
  unfold richCompare
  simp only [oneThing_ref]
  refine wpAny_holding (wpAny_bind (wpAny_cRoomFor (Nat.lt_of_succ_lt hu) ?_))
  rw [cmpInfo_NotEq]
  refine wpAny_bind (I.type.here (wpAny_bind (hb.here ?_)))
  split
  · rename_i q
    have e : subIn K tb (.ref C) = some false := by
      rcases Bool.or_eq_true_iff.mp hn with e | e
      · rw [beq_iff_eq.mp e] at q; simp at q
      · exact beq_iff_eq.mp e
    refine wpAny_bind ((looks_subIn X e).here ?_)
    simp only [Bool.false_eq_true, if_false]
    refine wpAny_bind (wpAny_mono one (fun r s' z => ?_) fun _ _ e => e)
    obtain ⟨v, rfl, hq⟩ := z
    exact wpAny_pure hq
  · refine wpAny_bind (wpAny_pure ?_)
    simp only [Bool.false_eq_true, if_false]
    refine wpAny_bind (wpAny_mono one (fun r s' z => ?_) fun _ _ e => e)
    obtain ⟨v, rfl, hq⟩ := z
    exact wpAny_pure hq
end
section
variable {T : Tx} {N : List Str} {sc : Scope} {fn : Str → Bool} {F : FTs} {n : Nat} {W : WX} {X : Cx} {pos : Pos} {μ μ1 : Mu} {H H1 : Hp}
def neOwn (S : Sps) (alt : G2) : G2 := fun F a b st => match instC st a with
  | some c => (match S.spm c "__eq__", tkD S.isI st b with
    | some k, some t => if (S.fst c t && S.neO c && S.isI c) = true then (F.b k [a, b] st).bind fun r st => (match r with
      | .d (.bl k) => .d (.bl (!k)) st
      | _ => .no) else .no
    | _, _ => .no)
  | none => (match instC st b with
    | some _ => .no
    | none => alt F a b st)
theorem opok_ne (g : GX T F n N sc fn W X) : OpOk T F W X (compareOp .NotEq) (neOwn T.sps neG) := by
  intro pins s σ H μ st a b x y v u Q I rs ra rb rx ry h
  unfold neOwn at h
  split at h
  · rename_i c hc
    split at h
    · rename_i k t hk ht
      split at h
      · rename_i hf
        rw [Bool.and_eq_true, Bool.and_eq_true] at hf
        obtain ⟨⟨hf, hne⟩, hI⟩ := hf
        obtain ⟨p, dx, vs, rfl, sl⟩ := instC_at rs ra hc
        obtain rfl : v = Value.ref p := rx
        obtain ⟨s1, s2, s3, _⟩ := g.tx.sp c _ k hk
        have s5 := g.tx.neO c hne
        have s6 := (g.tx.si c hI).2.cm
        rw [← g.hK] at s1 s2 s3 s5 s6
        obtain ⟨sl', od, _, J, _⟩ := SlX.slt_inst I sl
        obtain ⟨m, hF⟩ := I.fr
        obtain ⟨P, Z, hP, _⟩ := kit_tk g I rs rb ry ht
        have hn := g.tx.fst c t hf
        rw [← g.hK] at hn
        show wpAny _ _ (richCompare .NotEq _ _) _ _ _
        refine ne_K (by have := g.room.un; omega) hF I.ok.mod.kin J (Z.ty _ _ I.kIn hP) hn s5 s6 s2 s3 ?_
        refine wpAny_mono (run_b (us := [.ref p, u]) (vs := [.ref p, y]) (Q := fun z H' => ∃ k, z = .bl k ∧ Q (.bl (!k)) H') g rfl I (.cons rfl (.cons ry .nil)) rs (.cons ra (.cons rb .nil)) (POST.mono (POST.bind h) fun z H' ⟨μ1, d, st1, e1, rs1, rd, h1⟩ => ?_)) (fun w s' z => ?_) fun _ _ x => x
        · dsimp only at h1
          split at h1
          · cases rd_bl rd
            exact ⟨_, rfl, h1.done rs1 (.d (.bl _))⟩
          · exact h1.elim
        · obtain ⟨z', H', I', rz, k, ek, qz⟩ := z
          subst ek
          exact ⟨k, rz, .bl (!k), H', I', rfl, qz⟩
      · exact h.elim
    · exact h.elim
  · split at h
    · exact h.elim
    · exact opok_neD g pins s σ H μ st a b x y v u Q I rs ra rb rx ry h
def lenOwn (S : Sps) : BG := fun F a st => match a with
  | [x] => (match instC st x with
    | some c => (match S.spm c "__len__" with
      | some k => (F.b k [x] st).bind fun r st => (match r with
        | .d (.int i) => if (decide (0 ≤ i) && decide (i < 2 ^ 63)) = true then .d (.int i) st else .no
        | _ => .no)
      | none => .no)
    | none => lenG F a st)
  | _ => .no
theorem cok_lenO (g : GX T F n N sc fn W X) : CallOk T F W X (.builtin "len") (lenOwn T.sps) := by
  intro pins s σ H μ st ds xs us Q I rs rx r h
  unfold lenOwn at h
  split at h
  · rename_i xd
    split at h
    · rename_i c hc
      split at h
      · rename_i k hk
        obtain ⟨x, rfl, ra⟩ := rvs1 rx
        obtain ⟨v, rfl, rv⟩ := vals1 r
        obtain ⟨p, dx, vs, rfl, sl⟩ := instC_at rs ra hc
        obtain rfl : v = Value.ref p := rv
        obtain ⟨s1, s2, s3, _⟩ := g.tx.sp c _ k hk
        rw [← g.hK] at s1 s2 s3
        obtain ⟨sl', od, _, J, _⟩ := SlX.slt_inst I sl
        obtain ⟨m, hF⟩ := I.fr
        refine PySem.W.len_K hF I.ok.mod.kin J s2 s3 ?_
        refine wpAny_mono (run_b (us := [.ref p]) (vs := [.ref p]) (Q := fun z H' => ∃ i, z = .int i ∧ (0 ≤ i ∧ i < 2 ^ 63) ∧ Q (.int i) H') g rfl I (.cons rfl .nil) rs (.cons ra .nil) (POST.mono (POST.bind h) fun z H' ⟨μ1, d, st1, e1, rs1, rd, h1⟩ => ?_)) (fun w s' z => ?_) fun _ _ x => x
        · dsimp only at h1
          split at h1
          · cases rd_int rd
            split at h1
            · rename_i cc
              rw [Bool.and_eq_true, decide_eq_true_iff, decide_eq_true_iff] at cc
              exact ⟨_, rfl, cc, h1.done rs1 (.d (.int _))⟩
            · exact h1.elim
          · exact h1.elim
        · obtain ⟨z', H', I', rz, i, ei, hi, qz⟩ := z
          subst ei
          obtain ⟨t, rfl⟩ := rz
          exact ⟨hi, .int i, H', I'.tok _, ⟨_, rfl⟩, qz⟩
      · exact h.elim
    · exact cok_len g pins s σ H μ st _ xs us Q I rs rx r h
  · exact h.elim
end
end PyI
namespace PyI
open PySem PySem.Spec PyProof.Rows L2 PySem.W
theorem eval_methS {o : Expr} {name : Str} {apos pos : Pos} {es : List Expr} (hs : es.all notStar = true) (hl : es.length < 30) (hline : (apos.endLine == pos.line) = true) (env : Env) :
    eval (.Call (.Attribute o name apos) es [] pos) env = (do
      let ov ← attributeBase o name env (eval o env)
      standAt apos.atName
      let (f, first) ← holding [ov] (getMethod ov name (do return (← importBound o env).getD true))
      callWith pos f first (backTo pos (starEach es env)) []) := by
  show (do
    let ov ← attributeBase o name env (eval o env)
    standAt apos.atName
    methodCall o name apos pos env ov (es.length + ([] : List Keyword).length) (backTo pos (starEach es env)) (backToKw pos (keywordEach [] env))) = _
  have few : methodCallForm (es.length + ([] : List Keyword).length) (backTo pos (starEach es env)) (backToKw pos (keywordEach [] env)) = true := by
    have q := few_of (env := env) (cpos := pos) hs hl
    exact q
  unfold methodCall calleeOf methodCallPos
  rw [few, hline]
  rfl
section
variable {prog : Program} {w : World} {A : Around} {h : Heap} {g : Array GenState} {d : Drawn} {t : Nat} {os : OsState} {K : PySem.W.Frag}
theorem init_run {hb : Heap} {fI e C cc oc t0 : Addr} {fd : FuncData} {oI ocode : Obj} {v f m : Str} {u : Value} {j : Nat} {p0 p1 p2 p3 p4 p5 p6 p7 p8 p9 : Pos} {a1 : Arg} {vs : Array Value} {file : Str} {tf : Tok} {R : Result → Shared → Prop} {mg mb : Str → Option Value} {cdD : ClassData}
    {B newId i : String} {bmB : List Value}
    (hline : (p2.endLine == p4.line) = true) (hroom : A.depth < recursionLimit) (hfI : h.get? fI = some oI) (hdata : oI.data = .func fd) (hlim : h.NoLimit) (hcd : h.CodeRec fd.code fd.qualname)
    (hbody : fd.body = .stmts [.Expr (.Call (.Attribute (.Call (.Name "super" p0) [] [] p1) "__init__" p2) [.Constant (.str m) j p3] [] p4) p5, .Assign [.Attribute (.Name "self" p6) f p7] (.Name v p8) p9])
    (hbind : BindsTo ⟨h, g, d, t, os⟩ fd ⟨[.ref e, u], []⟩ [("self", .ref e), (v, u)]) (hcell : ∀ x ∈ fd.scope.names, x.2 ≠ .cell) (hself : fd.scope.names.lookup ("self" : Str) = some .local) (hv : fd.scope.names.lookup v = some .local) (hvs1 : (("self" : Str) == v) = false)
    (hks : fd.scope.names.lookup ("super" : Str) = some .globalImplicit) (hkc : fd.scope.names.lookup ("__class__" : Str) = some .free) (hp : (fd.params.posonlyargs ++ fd.params.args).head? = some a1) (ha1 : a1.arg = "self")
    (hco : fd.code = .ref oc) (hoc : h.get? oc = some ocode) (hod : ocode.data = .fields vs) (hvs : vs[2]? = some (.str file tf)) (hfile : ((prog.main.file : Str) == file) = true) (htop : (prog.main.scope.names.lookup ("super" : Str)).isSome = false)
    (hG : h.Ns fd.globals mg) (hmS : mg "super" = none) (hB : h.Ns fd.builtins mb) (hbS : mb "super" = some (.type "super")) (hcl : fd.closure.lookup ("__class__" : Str) = some cc) (hcc : h.IsCell cc (some (.ref C)))
    (X₀ : K.In hb) (kb : ∀ b o, hb.get? b = some o → h.get? b = some o) (eb : hb.get? e = none) (eb2 : hb.objs.size ≤ e) (hdb : (v == ("__debug__" : Str)) = false) (SF : StoreFacts B bmB "object.__setattr__" "object") (hsa : findIn K (.ref C) "__setattr__" = some (some (.builtin "object.__setattr__"))) (hov : excOver K C bmB = true) (htk : takerIn K C f = some none) (hhd : hasDictIn K C = true) (sb : hb.objs.size ≤ h.objs.size)
    (hD : clsIn K C = some cdD) (hsub : mroIn K C (.ref C) = some true) (KF : KxsFacts B i) (FB : ExcBaseFacts B newId i bmB) (hei : excInitIn K C bmB newId = true) (hst : nsIn K cStatics "thirdparty.any" = some none) (hsm : ks_superIn K C C "__init__" = some (some (.builtin i))) (hsB : subIn K (.ref C) (.type B) = some true)
    (he : h.get? e = some (excObj C t0 none .none))
    (hq : ∀ h' t' dx t1, (∀ b o, hb.get? b = some o → h'.get? b = some o) → h'.get? e = some (excObj C t1 (some dx) .none) → hb.objs.size ≤ dx → dx ≠ e →
      h'.Ns1 dx (fun y => if y = f then some u else none) → R (.ok (.ret .none)) ⟨h', g, d, t', os⟩)
    (hco1 : fd.scope.isCoroutine = false) (hgen : fd.scope.isGenerator = false) (hk : fd.scope.kind = .function) : codeAny (model prog w) A (.call (.ref fI) ⟨[.ref e, u], []⟩) R ⟨h, g, d, t, os⟩ := by
  refine ks_codeAny_call_defAt hroom hfI hdata hlim hcd hbody hbind hcell ?_ (fun h₀ hns k0 => ?_) hco1 hgen hk
  · intro x hx
    simp only [List.mem_cons, List.not_mem_nil, or_false] at hx
    rcases hx with rfl | rfl
    · exact hself
    · exact hv
  have hni : interactive (callEnv fd h.objs.size fI) = false := by
    unfold interactive
    rw [show (callEnv fd h.objs.size fI).scope.kind = .function from hk]
    rfl
  have F0 : Fr hb h.objs.size h₀ _ := ⟨hns, fun b o z => k0 b o (kb b o z), sb⟩
  have N0 : News hb h.objs.size h₀ [(e, excObj C t0 none .none)] := fun p hp => by
    simp at hp
    subst hp
    exact ⟨k0 _ _ he, Nat.ne_of_lt (Heap.lt_size he), eb⟩
  have X1 : K.In h₀ := X₀.keeps F0.keep
  obtain ⟨oD, hD1, hD2⟩ : ∃ oD, h₀.get? C = some oD ∧ oD.data = .cls cdD := by
    unfold clsIn at hD
    split at hD
    · rename_i c d cd' sl ho
      cases hD
      exact ⟨_, X1 _ _ ho, rfl⟩
    · cases hD
  refine ks_wpAt_execs_cons (ks_wpAt_Expr_any (ks_wpAt_MethodCall (pl := do return (← importBound (.Call (.Name "super" p0) [] [] p1) (callEnv fd h.objs.size fI)).getD true)
    (ks_wpAt_super_base (f := fI) hks hkc (by decide) rfl (k0 _ _ hfI) hdata hp hco (k0 _ _ hoc) hod hvs hfile htop ?_) (eval_methS rfl (by simp) hline _)) hni rfl)
  refine ks_loadName_global hk hks (Calls.loadGlobal_builtin (env := callEnv fd h.objs.size fI) (hG.keeps k0) hmS (hB.keeps k0) hbS ⟨rfl, ?_⟩)
  refine wpAny_loadName_free hk hkc hcl (hcc.keeps k0) ?_
  rw [ha1]
  refine wpAny_loadName_local (v := .ref e) hk hself hns ?_ ?_
  · show List.lookup _ [(v, u), (_, Value.ref e)] = _
    rw [List.lookup_cons, hvs1]
    rfl
  refine ks_wpAny_isType_cls hD1 hD2 ⟨rfl, ?_⟩
  refine ks_wpAny_call_super hD1 hD2 (N0 _ List.mem_cons_self).1 rfl (fun c z => nomatch z) (looks_mroIn X1 hsub) (fun h1 hso k1 => ?_)
  obtain ⟨F1, N1, l1⟩ := ks_newsPush (s := ⟨h₀, g, d, t + 2, os⟩) (o := ks_superObj C e C) F0 N0 rfl hso k1
  refine kxs_method (s := ⟨h1, g, d, _, os⟩) KF F1 X₀ N1 List.mem_cons_self (InstAt.of_exc0 N1 (List.mem_cons_of_mem _ List.mem_cons_self)) hst hsm hsB (by decide) (fun q h2 F2 N2 l2 => ?_)
  show wpAny _ _ (callWith p4 (.ref q) [] (backTo p4 (starEach [.Constant (.str m) j p3] (callEnv fd h.objs.size fI))) []) _ _ _
  refine kxs_callWith1 (s := ⟨h2, g, d, t + 2 + 1, os⟩) N2 List.mem_cons_self (Calls.spliced_cons (Calls.Constant_str (pos := p3) (k := j) (Calls.spliced_nil ⟨kxs_at N2 List.mem_cons_self, ?_⟩)))
  have hne : ∀ r ∈ ([] : List (Addr × Obj)), r.1 ≠ e := fun r hr => (nomatch hr)
  have n1 : e ≠ h₀.objs.size := Nat.ne_of_lt (Heap.lt_size (N0 _ List.mem_cons_self).1)
  have n2 : e ≠ q := Nat.ne_of_lt (l2 (e, _) (List.mem_cons_of_mem _ List.mem_cons_self))
  refine kxs_call (s := ⟨h2, g, d, t + 2 + 1 + 1, os⟩) F2 X₀ N2 FB hei List.mem_cons_self (.tail (Ne.symm n2) (.tail (Ne.symm n1) (.head hne))) (by show 1 ≤ sizeLine; rw [sizeLine_eq]; decide) (fun t1 h3 F3 N3 l3 => ?_)
  have m3 : e ≠ t1 := Nat.ne_of_lt (l3 (e, excObj C t0 none .none) (by simp))
  show PySem.wpAt _ _ _ (execs [.Assign [.Attribute (.Name "self" p6) f p7] (.Name v p8) p9] (callEnv fd h.objs.size fI)) _ _ _
  refine ks_wpAt_execs_cons (wpAt_of_wpAny (plainObj_wpAny_Assign_Attribute (wpAny_Name (wpAny_loadName_local (v := u) hk hv F3.ns ?_ (wpAny_Name (wpAny_loadName_local (v := .ref e) hk hself F3.ns ?_ ?_) (by decide))) hdb) rfl))
  · show List.lookup _ [(v, u), (_, Value.ref e)] = _
    rw [List.lookup_cons, beq_self_eq_true]
  · show List.lookup _ [(v, u), (_, Value.ref e)] = _
    rw [List.lookup_cons, hvs1]
    rfl
  refine set_exc0 (s := ⟨h3, g, d, _, os⟩) SF F3 X₀ N3 (by simp) hsa hov htk hhd rfl (.tail (Ne.symm m3) (.tail (Ne.symm n2) (.tail (Ne.symm n1) (.head hne)))) (by show 1 ≤ 1000; decide) (fun dx h4 F4 N4 l4 => ?_)
  refine wpAt_of_wpAny (wpAny_execs_nil ?_)
  have ld : e < dx := l4 (e, excObj C t1 none .none) (by simp)
  refine hq h4 _ dx t1 F4.keep (N4 (e, excObj C t1 (some dx) .none) (by simp)).1 (Nat.le_of_lt (Nat.lt_of_le_of_lt eb2 ld)) (Nat.ne_of_gt ld) ?_
  refine ⟨_, _, _, (N4 _ List.mem_cons_self).1, rfl, ?_, ?_, ?_⟩
  · intro x hx
    simp [putL] at hx
    subst hx
    exact ⟨_, _, rfl⟩
  · show List.Pairwise _ [_]
    exact List.pairwise_singleton _ _
  · intro y
    by_cases hy : y = f
    · subst hy
      simp [nsFind, findBy, putL, Value.isStr]
    · simp [nsFind, findBy, putL, Value.isStr, hy, Ne.symm hy]
end
end PyI
namespace PyI
open PySem PySem.Spec PyProof.Rows L2
section
variable {X : Cx} {pins : List (Addr × Obj)} {σ : L2.St} {H : Hp} {s : Shared} {Q : XK}
theorem mk_from {C a d : Addr} {f : Str} {v : V} {h2 : Heap} {g2 : Array GenState} {d2 : Drawn} {t2 : Nat} {os2 : OsState} (I : Inv X pins σ H s) (ha : s.heap.objs.size ≤ a) (hd : s.heap.objs.size ≤ d) (hne : d ≠ a) (k : ∀ b o, s.heap.get? b = some o → h2.get? b = some o)
    (e1 : ∃ t1 : Addr, h2.get? a = some ({ cls := .ref C, dict := some d, data := .fields #[.ref t1, .none, .none, .none, .bool false, .none] } : Obj)) (e2 : ∃ mA, h2.Ns1 d mA ∧ ∀ g, RelO ([(f, v)].lookup g) (mA g)) (r : Raises X (.ref C))
    (ho : os2 = s.os) (hg : AllBare g2) (q : Q (.ref C) (some d) (upd H d (.xd [(f, v)]))) : MkP X pins σ Q (.ref a) ⟨h2, g2, d2, t2, os2⟩ := by
  have na : H a = none := I.hok.fresh ha
  have nd : H d = none := I.hok.fresh hd
  obtain ⟨hp, gp, dp, tp, op⟩ := s
  have ga : ∀ b o, hp.get? b = some o → b ≠ a ∧ b ≠ d := fun b o z => ⟨fun w => absurd (Heap.lt_size z) (by rw [w]; exact Nat.not_lt.mpr ha), fun w => absurd (Heap.lt_size z) (by rw [w]; exact Nat.not_lt.mpr hd)⟩
  have kp : ∀ b u, H b = some u → upd (upd H d (exd d [(f, v)])) a (exo a C (some d)) b = some u := fun b u z => by
    rw [upd_ne (ne_of_none z na), upd_ne (ne_of_none z nd)]
    exact z
  have kn : ∀ b, b ≠ a → b ≠ d → upd (upd H d (exd d [(f, v)])) a (exo a C (some d)) b = H b := fun b h1 h2 => by rw [upd_ne h1, upd_ne h2]
  have k0 : ∀ b u, upd H a (exo a C none) b = some u → b ≠ a → H b = some u := fun b u z w => by rw [upd_ne w] at z; exact z
  have un : Un (frs X.stack) [] (upd H a (exo a C none)) (upd (upd H d (exd d [(f, v)])) a (exo a C (some d))) hp h2 := by
    refine ⟨fun b o z _ _ _ => k b o z, fun b o z _ _ _ => ⟨o.slots, k b o z⟩, fun b o z n _ => ?_, fun b o z _ => ⟨o, k b o z⟩, fun b xs z => ?_, fun b o x z => ?_, fun b ps z => ⟨#[], ?_⟩⟩
    · obtain ⟨w1, w2⟩ := ga b o z
      rw [kn b w1 w2]
      rw [upd_ne w1] at n
      exact n
    · exact kp _ _ (k0 _ _ z fun w => by rw [w, upd_same] at z; exact exo_tup (Option.some.inj z))
    · exact kp _ _ (k0 _ _ z fun w => by rw [w, upd_same] at z; exact exo_frz (Option.some.inj z))
    · rw [kp _ _ (k0 _ _ z fun w => by rw [w, upd_same] at z; exact exo_tbl (Option.some.inj z))]
      simp
  have hok : HOk X.prog X.w (upd (upd H d (exd d [(f, v)])) a (exo a C (some d))) h2 := fun b u z => by
    by_cases b1 : b = a
    · subst b1
      rw [upd_same] at z
      cases z
      obtain ⟨t1, e1⟩ := e1
      exact exo_ok e1
    · rw [upd_ne b1] at z
      by_cases b2 : b = d
      · subst b2
        rw [upd_same] at z
        cases z
        obtain ⟨mA, n1, n2⟩ := e2
        exact exd_ok n1 n2
      · rw [upd_ne b2] at z
        exact (I.hok b u z).stay (fun c w _ q => k c w q) (fun c q => kp c _ q) fun c xs q => kp c _ q
  have e3 : upd (upd H d (exd d [(f, v)])) a (exo a C (some d)) d = some (exd d [(f, v)]) := by rw [upd_ne hne, upd_same]
  refine mk_end (C := C) (fs := [(f, v)]) (hp2 := hp) r I ha (fun _ _ z => z) un hok ho hg upd_same e3 nd ?_
  have eH : upd (del (upd (upd H d (exd d [(f, v)])) a (exo a C (some d))) a) d (.xd [(f, v)]) = upd H d (.xd [(f, v)]) := by
    funext b
    by_cases b1 : b = d
    · rw [b1, upd_same, upd_same]
    · rw [upd_ne b1, upd_ne b1]
      by_cases b2 : b = a
      · rw [b2, del_same, na]
      · rw [del_ne b2, upd_ne b2, upd_ne b1]
  rw [eH]
  exact q
end
end PyI
namespace PyI
open PySem PySem.Spec PyProof.Rows L2 PySem.W
/-- what the class at C is -/
def ExIni (P : Program) (K : PySem.W.Frag) (mg : Str → Option Value) (C : Addr) (f : Str) : Prop :=
  ∃ (fI cc oc : Addr) (fd : FuncData) (c1 c2 c3 : Value) (od1 od2 od3 : Option Addr) (sl1 sl2 sl3 : Array (Option Value)) (v m : Str) (j : Nat) (p0 p1 p2 p3 p4 p5 p6 p7 p8 p9 : Pos) (a1 : Arg) (vs : Array Value) (file : Str) (tf : Tok) (cdD : ClassData) (B newId i : String) (bmB : List Value),
    (p2.endLine == p4.line) = true ∧ K.lookup fI = some ⟨c1, od1, .func fd, sl1⟩ ∧ codeIn K fd.code fd.qualname = true ∧
    fd.body = .stmts [.Expr (.Call (.Attribute (.Call (.Name "super" p0) [] [] p1) "__init__" p2) [.Constant (.str m) j p3] [] p4) p5, .Assign [.Attribute (.Name "self" p6) f p7] (.Name v p8) p9] ∧
    (∀ e u s, BindsTo s fd ⟨[.ref e, u], []⟩ [("self", .ref e), (v, u)]) ∧ (∀ x ∈ fd.scope.names, x.2 ≠ .cell) ∧ fd.scope.names.lookup ("self" : Str) = some .local ∧ fd.scope.names.lookup v = some .local ∧ (("self" : Str) == v) = false ∧
    fd.scope.names.lookup ("super" : Str) = some .globalImplicit ∧ fd.scope.names.lookup ("__class__" : Str) = some .free ∧ (fd.params.posonlyargs ++ fd.params.args).head? = some a1 ∧ a1.arg = "self" ∧
    fd.code = .ref oc ∧ K.lookup oc = some ⟨c2, od2, .fields vs, sl2⟩ ∧ vs[2]? = some (.str file tf) ∧ ((P.main.file : Str) == file) = true ∧ (P.main.scope.names.lookup ("super" : Str)).isSome = false ∧
    fd.globals = mainGlobals ∧ mg "super" = none ∧ fd.builtins = builtinsNs ∧ fd.closure.lookup ("__class__" : Str) = some cc ∧ K.lookup cc = some ⟨c3, od3, .cell (some (.ref C)), sl3⟩ ∧ (v == ("__debug__" : Str)) = false ∧
    StoreFacts B bmB "object.__setattr__" "object" ∧ findIn K (.ref C) "__setattr__" = some (some (.builtin "object.__setattr__")) ∧ excOver K C bmB = true ∧ takerIn K C f = some none ∧ hasDictIn K C = true ∧
    clsIn K C = some cdD ∧ mroIn K C (.ref C) = some true ∧ KxsFacts B i ∧ ExcBaseFacts B newId i bmB ∧ excInitIn K C bmB newId = true ∧ nsIn K cStatics "thirdparty.any" = some none ∧ ks_superIn K C C "__init__" = some (some (.builtin i)) ∧ subIn K (.ref C) (.type B) = some true ∧
    findIn K (.ref C) "__init__" = some (some (.ref fI)) ∧ typeIn K (.ref fI) = some (.type "function") ∧ fd.scope.isCoroutine = false ∧ fd.scope.isGenerator = false ∧ fd.scope.kind = .function ∧ subIn K (.ref C) (.type "BaseException") = some true ∧ typeIn K (.ref C) = some (.type "type")
theorem ex_make {X : Cx} {pins : List (Addr × Obj)} {σ : L2.St} {H : Hp} {s : Shared} {Q : XK} {C : Addr} {f : Str} {xs : List V} {us : List Value} (E : ExIni X.prog X.K X.mg C f) (I : Inv X pins σ H s) (hr : Room 3 X.A) (r : Vals xs us) (q : rMk C true f xs H Q) : wpAny (model X.prog X.w) X.A (call (.ref C) us) (MkP X pins σ Q) X.xe s := by
  obtain ⟨fI, cc, oc, fd, c1, c2, c3, od1, od2, od3, sl1, sl2, sl3, v, m, j, p0, p1, p2, p3, p4, p5, p6, p7, p8, p9, a1, vs, file, tf, cdD, B, newId, i, bmB, hline, hf, hcd, hbody, hbind, hcell, hself, hv, hvs1, hks, hkc, hp, ha1, hco, hoc, hvs, hfile, htop, hG, hmS, hB, hcl, hcc, hdb, SF, hsa, hov, htk, hhd, hD, hsub, KF, FB, hei, hst, hsm, hsB, hi, tI, hco1, hgen, hk, hbe, hty⟩ := E
  obtain ⟨y, rfl, hq⟩ := (show ∃ y, xs = [y] ∧ ∀ d, H d = none → Q (.ref C) (some d) (upd H d (.xd [(f, y)])) from q)
  obtain ⟨u, rfl, ru⟩ := r.one
  obtain ⟨nm, N', qn, bs, bm, hdct, sn, sub, ab, col, dd, k0, k1, k2, k3, k5, hC, hT⟩ := excInit_of I.kIn hei
  obtain ⟨mb, mb1, mb2⟩ := I.mod.blt
  have KI := I.kIn
  have hlim : s.heap.NoLimit := I.mod.nolimit.keeps I.bk
  have gl : s.heap.Ns mainGlobals X.mg := I.mod.glob.keeps I.bk
  have bl : s.heap.Ns builtinsNs mb := mb1.keeps I.bk
  obtain ⟨hh, g, d, tk, os⟩ := s
  have kk : ∀ b o, hh.get? b = some o → ((hh.push (PySem.W.kdv_tup [u])).push (PySem.HandSPX.excO C hh.objs.size)).get? b = some o := fun b o e => Heap.get?_push_of_some _ (Heap.get?_push_of_some _ e)
  have hget : ((hh.push (PySem.W.kdv_tup [u])).push (PySem.HandSPX.excO C hh.objs.size)).get? (hh.objs.size + 1) = some (PySem.HandSPX.excO C hh.objs.size) := by heap_get
  have out : hh.get? (hh.objs.size + 1) = none := by
    cases z : hh.get? (hh.objs.size + 1) with
    | none => rfl
    | some o => exact absurd (Heap.lt_size z) (by show ¬ (hh.objs.size + 1 < hh.objs.size); omega)
  refine wpAny_call (PySem.HandSPX.call_own FB hT hC (looks_findIn KI hi) (fun self => bind_fn KI self tI) (by show 1 ≤ sizeLine; rw [sizeLine_eq]; decide) ?_)
  refine init_run (K := X.K) (hb := hh) (cc := cc) hline (hr.make C [u] []).depth (kk _ _ (KI _ _ hf)) rfl (hlim.keeps kk) (codeRec_of (fun b o e => kk b o (KI b o e)) hcd) hbody (hbind _ _ _) hcell hself hv hvs1 hks hkc hp ha1 hco (kk _ _ (KI _ _ hoc)) rfl hvs hfile htop
    (by rw [hG]; exact gl.keeps kk) hmS (by rw [hB]; exact bl.keeps kk) ((mb2 _ (by decide)).trans (by first | rfl | decide +kernel)) hcl ⟨_, kk _ _ (KI _ _ hcc), rfl⟩ KI kk out (Nat.le_succ _) hdb SF hsa hov htk hhd (by rw [Heap.size_push, Heap.size_push]; omega) hD hsub KF FB hei hst hsm hsB hget
    (fun h' t' dx t1 k e1 z1 z2 n => ⟨rfl, ?_⟩) hco1 hgen hk
  refine mk_from I (Nat.le_succ _) z1 z2 k ⟨t1, e1⟩ ⟨_, n, fun y' => ?_⟩ (raises_own hbe hty) rfl I.bare (hq dx (I.hok.fresh z1))
  rw [lookup_put]
  split
  · exact ru
  · exact trivial
end PyI
namespace PyI
open PySem PySem.Spec PyProof.Rows L2
/-- a function: parameters, slots, defaults of the last ones, does it hand out a list's place, its body -/
structure FD where
  np : Nat
  ns : Nat
  dfl : List D
  keep : Bool
  body : SF
def endFD (keep : Bool) (m : Nat) (r : RS) : R DV := match r with
  | .ok .nx _ st' => .ok (.d .non) (st'.take m)
  | .ok (.rt (.d x)) _ st' => .ok (.d x) (st'.take m)
  | .ok (.rt (.loc n)) _ st' => if n < m then .ok (.loc n) (st'.take m) else (match st'[n]? with
    | some (.lst l) => if keep = true then .ok (.loc m) (st'.take m ++ [.lst l]) else .ok (.d (.lst l)) (st'.take m)
    | _ => .no)
  | .ex c x _ st' => .ex c x (st'.take m)
  | _ => .no
def callFD (fd : FD) (F : FTs) (xs : List DV) (st : Store) : R DV := if (decide (xs.length ≤ fd.np) && decide (fd.np - xs.length ≤ fd.dfl.length)) = true then
    endFD fd.keep st.length (fd.body F ((xs ++ (fd.dfl.drop (fd.dfl.length - (fd.np - xs.length))).map DV.d).map some ++ List.replicate (fd.ns - fd.np) none) st) else .no
def noT : FT := fun _ _ _ => .no
def levs (fds : Nat → Option FD) : Nat → FTs
  | 0 => ⟨noT, noT, noT⟩
  | n + 1 => ⟨fun k xs st => (match fds k with
    | some fd => callFD fd (levs fds n) xs st
    | none => .no), (levs fds n).a, (levs fds n).b⟩
/-- a def of the text at f, written out -/
def FnRaw (T : Tx) (f : Addr) (name qual : Str) (params : Arguments) (body : List Stmt) (scope : Scope) (N ps : List Str) (dfl : List D) : Prop :=
  ∃ (dV kV doc pm cdv ct oc : Value) (an od : Option Addr) (osl : Array (Option Value)),
    T.K.lookup f = some ⟨oc, od, .func (PySem.W.fnOf name qual params body scope dV kV doc pm an cdv ct), osl⟩ ∧ PySem.W.codeIn T.K cdv qual = true ∧ FnScope N ps scope ∧
    (∀ j, j ≤ dfl.length → ∃ (ds : List Value) (vs : List V), Binds T.K (PySem.W.fnOf name qual params body scope dV kV doc pm an cdv ct) ps ds ∧ Vals vs ds ∧ ∀ μ H, RDs T.toTb μ H (dfl.drop (dfl.length - j)) vs)
/-- the function k of the text is fd -/
def FnFact (T : Tx) (k : Nat) (fd : FD) : Prop :=
  ∃ (name qual : Str) (params : Arguments) (body : List Stmt) (scope : Scope) (N ps : List Str), FnRaw T (T.fa k) name qual params body scope N ps fd.dfl ∧ ps.length = fd.np ∧ N.length = fd.ns ∧ SsOk T N scope (fun _ => true) body fd.body
/-- the method m of class c hands slot i to the built-in bn -/
def B1Fact (T : Tx) (c i : Nat) (m bn : Str) : Prop :=
  ∃ (k : Nat) (F : Str) (p : Addr) (p1 p2 p3 p4 p5 : Pos) (name qual : Str) (params : Arguments) (scope : Scope), PySem.W.findIn T.K (.ref (T.ca c)) m = some (some (.ref (T.fa k))) ∧ PySem.W.isFn T.K (.ref (T.fa k)) = true ∧
    SlX.SCls T.K (T.ca c) ∧ SlX.Slot1 T.K (T.ca c) F p i ∧ T.G bn = some .blt ∧ globB scope bn = true ∧ visB scope "self" = true ∧
    FnRaw T (T.fa k) name qual params [.Return (some (.Call (.Name bn p1) [.Attribute (.Name "self" p2) F p3] [] p4)) p5] scope [("self" : Str)] [("self" : Str)] []
/-- class c iterates over its slot i, and is as long -/
def ItFact (T : Tx) (c i : Nat) : Prop := B1Fact T c i "__iter__" "iter" ∧ B1Fact T c i "__len__" "len"
/-- class c is an exception without an __init__ of its own -/
def ExFact (P : Program) (mg : Str → Option Value) (T : Tx) (c : Nat) (b : Bool) : Prop := PySem.W.keepIn T.K (.ref (T.ca c)) = true ∧ PySem.W.subIn T.K (.ref (T.ca c)) (.type "BaseException") = some true ∧ PySem.W.typeIn T.K (.ref (T.ca c)) = some (.type "type") ∧
  if b = true then ExIni P T.K mg (T.ca c) (T.xf c) else ∃ (B newId initId : String) (bmB : List Value), ExcBaseFacts B newId initId bmB ∧ PySem.W.excIn T.K (T.ca c) bmB newId = true
section
variable {T : Tx} {P : Program} {w : World} {mg : Str → Option Value} {base : Heap} {fds : Nat → Option FD} {μ μ1 : Mu} {H H1 : Hp}
theorem RVs.take {ds : List DV} {vs : List V} (r : RVs T.toTb μ H ds vs) : ds.length = vs.length := r.length
theorem renv_start {N : List Str} : ∀ {ds : List DV} {vs : List V}, RVs T.toTb μ H ds vs → ∀ m, REnv T.toTb μ H (ds.map some ++ List.replicate m none) (vs.map some ++ List.replicate m none)
  | _, _, .nil, m => by
    induction m with
    | zero => exact .nil
    | succ m ih => exact .none ih
  | _, _, .cons h t, m => .some h (renv_start (N := N) t m)
/-- what is left behind a call -/
theorem end_ok {keep : Bool} {st : Store} {r : RS} {E : XK} {Q : VK} (hl : μ.length = st.length) (h : POST T E μ H (endFD keep st.length r) Q) : POSTS T (fun c d _ H => E c d H) { nx := fun _ H' => Q .non H', rt := Q } μ H r := by
  unfold endFD at h
  cases r with
  | no => exact h.elim
  | ex c x env st' =>
    intro μ' σ' H' cls dd e rs re rx
    refine h (μ'.take st.length) H' cls dd (e.take (by omega)) (rs.take _) ⟨rx.1, fun d hd => ?_⟩
    obtain ⟨a, v, h1, h2, h3⟩ := rx.2 d hd
    exact ⟨a, v, h1, h2.take, h3.keep fun _ _ q => q.take⟩
  | ok f env st' =>
    cases f with
    | nx => exact fun μ' σ' H' e rs re => h (μ'.take st.length) .non H' (e.take (by omega)) (rs.take _) (.d .non)
    | bk => exact h.elim
    | ct => exact h.elim
    | rt d =>
      cases d with
      | d x =>
        intro μ' v H' e rs rv
        refine h (μ'.take st.length) v H' (e.take (by omega)) (rs.take _) ?_
        cases rv with
        | d rv => exact .d (rv.keep fun _ _ q => q.take)
      | loc n =>
        intro μ' v H' e rs rv
        dsimp only at h
        have el := e.len
        split at h
        · rename_i c
          refine h (μ'.take st.length) v H' (e.take (by omega)) (rs.take _) ?_
          cases rv with
          | loc hn hv =>
            refine .loc (by rw [List.length_take]; omega) fun p hp => ?_
            rw [List.getElem?_take, if_pos c] at hp
            exact hv p hp
        · rename_i c
          split at h
          · rename_i l hl2
            obtain ⟨a, xs, rfl, hm, hx, rx⟩ := place_at rs rv hl2
            have apart : ¬ Mu.has (μ'.take st.length) a := by
              rintro ⟨k, q, hk, hq⟩
              rw [List.getElem?_take] at hk
              split at hk
              · rename_i ck
                have := rs.apart n k (a, a) q hm hk (by rcases hq with hq | hq <;> simp [hq])
                omega
              · cases hk
            split at h
            · have lt : (μ'.take st.length).length = st.length := by rw [List.length_take]; omega
              have hasS : ∀ {b : Addr}, Mu.has (μ'.take st.length ++ [some (a, a)]) b → μ'.has b := fun {b} q => by
                rcases has_snoc q with q | q | q
                · exact has_take q
                · exact ⟨n, _, hm, .inl q⟩
                · exact ⟨n, _, hm, .inr q⟩
              have kp : ∀ b o, At μ' H' b o → At (μ'.take st.length ++ [some (a, a)]) H' b o := fun b o q => ⟨q.1, fun z => q.2 (hasS z)⟩
              refine h (μ'.take st.length ++ [some (a, a)]) _ H' ⟨fun b o q => kp _ _ (e.keep b o q), by rw [List.length_append, lt]; omega, fun k p hk hp => ?_⟩ ⟨by rw [List.length_append, List.length_append, lt, List.length_take, ← rs.len]; simp; omega, fun k so hk => ?_, fun i j p q hi hj hpq => ?_⟩ (.loc (by rw [List.length_append, lt]; simp) fun p hp => ?_)
              · rw [List.getElem?_append_left (by rw [lt]; omega), List.getElem?_take, if_pos (by omega)] at hp
                exact e.old k p hk hp
              · by_cases ck : k < st.length
                · rw [List.getElem?_append_left (by rw [List.length_take, ← rs.len]; omega), List.getElem?_take, if_pos ck] at hk
                  obtain ⟨o, eo, so'⟩ := rs.at_ k so hk
                  refine ⟨o, by rw [List.getElem?_append_left (by rw [lt]; exact ck), List.getElem?_take, if_pos ck]; exact eo, ?_⟩
                  cases so with
                  | dead => exact so'
                  | lst ds =>
                    obtain ⟨b, ys, z1, z2, z3⟩ := so'
                    exact ⟨b, ys, z1, z2, RDs.keep kp z3⟩
                  | obj c fs =>
                    obtain ⟨b, dx, ws, z1, z2, z3, z4, z5⟩ := so'
                    exact ⟨b, dx, ws, z1, z2, z3, z4, RSl.keep kp z5⟩
                · have hlen : (st'.take st.length).length = st.length := by rw [List.length_take, ← rs.len]; omega
                  rw [List.getElem?_append_right (by rw [hlen]; omega), hlen] at hk
                  have ek : k = st.length := by
                    by_cases z : k - st.length = 0
                    · omega
                    · rw [List.getElem?_eq_none (by simp; omega)] at hk; cases hk
                  subst ek
                  simp at hk
                  subst hk
                  exact ⟨some (a, a), by rw [List.getElem?_append_right (by rw [lt]; omega), lt]; simp, a, xs, rfl, hx, RDs.keep kp rx⟩
              · have get : ∀ {i : Nat} {p : Addr × Addr}, (μ'.take st.length ++ [some (a, a)])[i]? = some (some p) → (i < st.length ∧ μ'[i]? = some (some p)) ∨ (i = st.length ∧ p = (a, a)) := fun {i p} hi => by
                  by_cases ci : i < st.length
                  · rw [List.getElem?_append_left (by rw [lt]; exact ci), List.getElem?_take, if_pos ci] at hi
                    exact .inl ⟨ci, hi⟩
                  · rw [List.getElem?_append_right (by rw [lt]; omega), lt] at hi
                    by_cases z : i - st.length = 0
                    · rw [z] at hi
                      simp at hi
                      exact .inr ⟨by omega, hi.symm⟩
                    · rw [List.getElem?_eq_none (by simp; omega)] at hi; cases hi
                rcases get hi with ⟨ci, hi'⟩ | ⟨ci, rfl⟩
                · rcases get hj with ⟨cj, hj'⟩ | ⟨cj, rfl⟩
                  · exact rs.apart i j p q hi' hj' hpq
                  · have := rs.apart i n p (a, a) hi' hm hpq
                    omega
                · rcases get hj with ⟨cj, hj'⟩ | ⟨cj, rfl⟩
                  · have := rs.apart n j (a, a) q hm hj' hpq
                    omega
                  · omega
              · rw [List.getElem?_append_right (by rw [lt]; omega), lt] at hp
                simp at hp
                rw [← hp]
            · exact h (μ'.take st.length) _ H' (e.take (by omega)) (rs.take _) (.d (.lst ⟨hx, apart⟩ (RDs.keep (fun _ _ q => q.take) rx)))
          · exact h.elim
theorem deeper_guards {A : Around} {env : Env} (h : A.guards = some []) : (A.deeper env).guards = some [] := h
def rIterT (K : PySem.W.Frag) (n : Nat) : List V → Hp → VK → Prop := fun xs H Q => ∃ (l : Addr) (zs : List V), xs = [.ref l] ∧ SqT K H l zs ∧ ∀ it, H it = none → n ≤ it → Q (.ref it) (upd H it (TItO l it))
theorem call_iterT {X : Cx} : CallR X (.builtin "iter") (rIterT X.K X.s_0.heap.objs.size) := by
  intro pins s σ H xs us Q I r h
  obtain ⟨l, zs, rfl, hq, q⟩ := h
  obtain rfl := Vals.ref1 r
  obtain ⟨its, rv, p, hz⟩ := I.tuple hq
  refine Calls.call_function_entry (by decide +kernel) (by decide +kernel) PySem.W.kdk_entry_iter (PySem.W.kdk_args_iter _) ?_
  unfold Builtin.«iter»
  refine wpAny_bind (m := someArgs "iter" 1 2 _) (wpAny_of_eq (a := [Value.ref l]) (by first | rfl | kernel_rfl!) ?_)
  show wpAny _ _ (pyIter (.ref l) >>= _) _ _ _
  refine wpAny_bind (wpAny_pyIter_tuple (show s.heap.IsTuple l its.toArray from p) (wpAny_pure ⟨_, rfl, ?_⟩))
  exact ⟨.ref s.heap.objs.size, _, I.laid (t' := s.toks) (fun b u e => Heap.get?_push_of_some _ e) (Nat.le_refl _) (titO_ok ⟨_, Heap.get?_push_size _ rfl, rfl, rfl⟩), rfl, q _ (I.hok.fresh (Nat.le_refl _)) I.sz⟩
theorem b1_fn {c i : Nat} {m bn : Str} {id : String} {r : PySem.W.Frag → Shared → List V → Hp → VK → Prop} {R : Addr → List V → Shared → Hp → VK} (tx : TxOk T mg) (h : B1Fact T c i m bn) (hbn : bootBuiltins bn = some (.builtin id)) (hn1 : bn ≠ "__name__") (hn2 : (bn == ("__debug__" : Str)) = false)
    (hcr : ∀ X : Cx, CallR X (.builtin id) (r X.K X.s_0)) (hR : ∀ K s H t xs, SqT K H t xs → r K s [.ref t] H (R t xs s H)) : ∃ f, PySem.W.findIn T.K (.ref (T.ca c)) m = some (some (.ref f)) ∧ PySem.W.isFn T.K (.ref f) = true ∧ FnB P w T.K mg base f (T.ca c) i R := by
  obtain ⟨k, F, p, p1, p2, p3, p4, p5, name, qual, params, scope, h1, h2, hc, hsl, hblt, hgl, hvis, dV, kV, doc, pm, cdv, ct, oc, an, od, osl, lk, hcd, S, hdf⟩ := h
  refine ⟨_, h1, h2, fun A outer s H a dx t sl xs hr hg e0 hs hv ht => ?_⟩
  obtain ⟨ds, ws, hb, hvs, hr2⟩ := hdf 0 (Nat.zero_le _)
  have hd0 : ds = [] := by
    have q := (hr2 [] (fun _ => none)).length
    have q2 := hvs.length
    cases ds with
    | nil => rfl
    | cons _ _ => simp at q q2; omega
  subst hd0
  have KX : T.K.In s.heap := e0.mod.kin.keeps fun b o e => (e0.bs b o e).1
  have lim : s.heap.NoLimit := e0.mod.nolimit.keeps fun b o e => (e0.bs b o e).1
  have r2 : Vals [V.ref a] [Value.ref a] := .cons rfl .nil
  have hkind : ∀ y ∈ [("self" : Str)].zip [Value.ref a], scope.names.lookup y.1 = some .local ∨ (scope.names.lookup y.1 = some .cell ∧ ((cellsFrom (s.heap.objs.size + 1) scope.names []).lookup y.1).isSome = true) := fun ⟨n, v⟩ hy => by
    rcases S.par n (List.of_mem_zip hy).1 with q | q
    · exact .inl q
    · exact .inr ⟨q, PySem.W.cellsFrom_some _ _ _ (.inl q)⟩
  refine codeAny_call_function hr.depth (KX _ _ lk) rfl S.co S.gen rfl (PySem.W.codeRec_of KX hcd) ((hb s [.ref a] KX rfl) _ _ _ _ ?_)
  refine wpAny_newFunctionEnv_cells S.kind hkind fun env he s1 x => ?_
  subst he
  refine ⟨lim.keeps x.toInCall.keep, codeAny_func ?_⟩
  have I : Inv (cxOf (L2.CX P w) P w T.K mg base [("self" : Str)] qual scope (T.fa k) cdv A outer s H fun _ _ _ => False) [] (L2.start [("self" : Str)] [.ref a]) H s1 := inv_start S hr.hd e0 rfl r2 x
  have gl : Gl (cxOf (L2.CX P w) P w T.K mg base [("self" : Str)] qual scope (T.fa k) cdv A outer s H fun _ _ _ => False) bn := by
    unfold Gl Env.kindOf
    unfold globB at hgl
    show _ = _
    split at hgl
    · rename_i e; exact e
    · cases hgl
  have pself : PE (cxOf (L2.CX P w) P w T.K mg base [("self" : Str)] qual scope (T.fa k) cdv A outer s H fun _ _ _ => False) (.Name "self" p2) (tVar 0) := pe_var (i := 0) rfl (vis_of hvis)
  have patt := SlX.pe_sl (f := F) (pos := p3) pself
  have pst := pss_one (ps_ret (pos := p5) (pe_callB (p := p1) (pos := p4) (hcr _) gl (tx.blt _ hblt) hbn (pa_cons patt pa_nil) hn1 hn2))
  refine wpAny_mono (pst.run [] s1 (L2.start [("self" : Str)] [.ref a]) H { nx := fun _ _ => False, rt := R t xs s H } I ?_) (fun fl s' hs => ?_) fun e s' hs => hs
  · exact ⟨.ref a, rfl, a, T.ca c, dx, p, sl, i, .ref t, rfl, hs, hc, hsl, hv, hR _ _ _ _ _ ht⟩
  cases fl with
  | ret u =>
    obtain ⟨v, σ', H', J, rv, q⟩ := hs
    exact ⟨v, H', J.os, J.bare, J.base, J.hok, rv, q⟩
  | next =>
    obtain ⟨_, _, _, q⟩ := hs
    exact False.elim q
  | brk =>
    obtain ⟨_, _, _, q⟩ := hs
    exact False.elim q
  | cont =>
    obtain ⟨_, _, _, q⟩ := hs
    exact False.elim q
theorem it_fn {c i : Nat} (tx : TxOk T mg) (h : ItFact T c i) : Itb P w T.K mg base (T.ca c) i := by
  obtain ⟨f, f1, f2, f3⟩ := b1_fn (P := P) (w := w) (base := base) (R := RIt) (r := fun K s => rIterT K s.heap.objs.size) (id := "iter") tx h.1 (by first | rfl | decide +kernel) (by decide) (by decide) (fun X => call_iterT) fun K s H t xs ht => ⟨t, xs, rfl, ht, fun it hn hz => ⟨it, rfl, hn, hz, rfl⟩⟩
  obtain ⟨g, g1, g2, g3⟩ := b1_fn (P := P) (w := w) (base := base) (R := RLn) (r := fun K _ xs H Q => ∃ p ys, xs = [.ref p] ∧ (SqL K H p ys ∨ SqT K H p ys) ∧ Q (.int ys.length) H) (id := "len") tx h.2 (by first | rfl | decide +kernel) (by decide) (by decide) (fun X => call_len_seq) fun K s H t xs ht => ⟨t, xs, rfl, .inr ht, rfl, rfl⟩
  exact ⟨f, g, f1, f2, f3, g1, g2, g3⟩
theorem ex_fn {c : Nat} {b : Bool} (h : ExFact P mg T c b) : MkOk P w T.K mg base (T.ca c) b (T.xf c) ∧ PySem.W.keepIn T.K (.ref (T.ca c)) = true := by
  obtain ⟨kC, h1, h2, h3⟩ := h
  refine ⟨fun X pins s σ H xs us Q eP ew eK em eb hc hr hg I r q => ?_, kC⟩
  cases b with
  | true =>
    refine ex_make ?_ I hr r q
    rw [eP, eK, em]
    exact h3
  | false =>
    obtain ⟨B, newId, initId, bmB, F, z⟩ := h3
    rw [← eK] at z h1 h2
    obtain ⟨q1, q2⟩ := (show xs.length ≤ 1000 ∧ Q (.ref (T.ca c)) none H from q)
    obtain ⟨bm, N, nm, qn, bs, hdct, sn, sub, ab, col, dd, k0, k1, k2, k3, k5, mN, hC, hN, hni, T'⟩ := exc_obj I.kIn z
    have hl : us.length ≤ sizeLine := by rw [← r.length, sizeLine_eq]; omega
    refine wpAny_call_exc_subT F T' hC hN hni (fun h' e hm => ?_) hl
    exact mk_of I hm (raises_own h1 h2) q2 (I.hok.gone hm.new)
theorem lev_ok (tx : TxOk T mg) (ff : ∀ k fd, fds k = some fd → FnFact T k fd) (fi : ∀ c i, T.itr c = some i → ItFact T c i) (fe : ∀ c b, T.exn c = some b → ExFact P mg T c b) : ∀ n k, FnG P w T.K mg base n (T.fa k) (spOf T ((levs fds n).a k))
  | 0, k => fun A outer s H us vs Q E hr hg e0 r ⟨μ, st, args, ra, rs, h⟩ => h.elim
  | n + 1, k => by
    intro A outer s H us vs Q E hr hg e0 r ⟨μ, st, args, ra, rs, h⟩
    unfold levs at h
    dsimp only at h
    cases hfd : fds k with
    | none => rw [hfd] at h; exact h.elim
    | some fd =>
      rw [hfd] at h
      obtain ⟨name, qual, params, body, scope, N, ps, ⟨dV, kV, doc, pm, cdv, ct, oc, an, od, osl, lk, hcd, S, hdf⟩, hnp, hns, hbody⟩ := ff k fd hfd
      dsimp only at h
      unfold callFD at h
      split at h
      · rename_i c
        rw [Bool.and_eq_true, decide_eq_true_iff, decide_eq_true_iff] at c
        obtain ⟨c1, c2⟩ := c
        obtain ⟨ds, ws, hb, hv, hr2⟩ := hdf (fd.np - args.length) c2
        have hdl : ds.length = fd.np - args.length := by
          rw [← hv.length, ← (hr2 μ H).length, List.length_drop]
          omega
        have hvl := ra.length
        have hul := r.length
        have r2 : Vals (vs ++ ws) (us ++ ds) := r.append hv
        have ra2 : RVs T.toTb μ H (args ++ (fd.dfl.drop (fd.dfl.length - (fd.np - args.length))).map .d) (vs ++ ws) := ra.append (rvs_of (hr2 μ H))
        have hl : (vs ++ ws).length = ps.length := by
          rw [r2.length, List.length_append, hdl, hnp]; omega
        have KX : T.K.In s.heap := e0.mod.kin.keeps fun b o e => (e0.bs b o e).1
        have lim : s.heap.NoLimit := e0.mod.nolimit.keeps fun b o e => (e0.bs b o e).1
        have hkind : ∀ y ∈ ps.zip (us ++ ds), scope.names.lookup y.1 = some .local ∨ (scope.names.lookup y.1 = some .cell ∧ ((cellsFrom (s.heap.objs.size + 1) scope.names []).lookup y.1).isSome = true) := fun ⟨n, v⟩ hy => by
          rcases S.par n (List.of_mem_zip hy).1 with q | q
          · exact .inl q
          · exact .inr ⟨q, PySem.W.cellsFrom_some _ _ _ (.inl q)⟩
        refine codeAny_call_function hr.depth (KX _ _ lk) rfl S.co S.gen rfl (PySem.W.codeRec_of KX hcd) ((hb s us KX (by rw [← r2.length, hl])) _ _ _ _ ?_)
        refine wpAny_newFunctionEnv_cells S.kind hkind fun env he s1 x => ?_
        subst he
        refine ⟨lim.keeps x.toInCall.keep, codeAny_func ?_⟩
        have I : Inv (cxOf (L2.CX P w) P w T.K mg base N qual scope (T.fa k) cdv A outer s H E) [] (L2.start N (vs ++ ws)) H s1 := inv_start S hr.hd e0 hl r2 x
        have gx : GX T (levs fds n) n N scope (fun _ => true) (fun c d _ H => E c d H) (cxOf (L2.CX P w) P w T.K mg base N qual scope (T.fa k) cdv A outer s H E) :=
          { tx := tx, hK := rfl, calm := rfl, hN := rfl, nd := S.nd, hsc := rfl, hfn := fun _ _ => rfl, room := hr.deeper _, grd := deeper_guards hg
            takes := takes_of rfl rfl rfl rfl
            pass := passes_of rfl
            itr := fun c i e => it_fn tx (fi c i e)
            exn := fun c b e => ex_fn (fe c b e)
            top := fun _ => ⟨rfl, rfl⟩
            fa := lev_ok tx ff fi fe n
            fb := fun m e k => by subst e; exact lev_ok tx ff fi fe m k
            fb0 := fun e k xs st => by subst e; rfl
            fc0 := fun e k xs st => by
              match n, e with
              | 0, _ => rfl
              | 1, _ => rfl
            fc := fun m e k => by subst e; exact lev_ok tx ff fi fe m k }
        have hq := end_ok rs.len h
        refine wpAny_mono ((hbody (levs fds n) n _ _ gx).run [] s1 (L2.start N (vs ++ ws)) H { nx := fun _ H' => Q .non H', rt := Q } I ⟨μ, _, st, ?_, rs, hq⟩) (fun fl s' hs => ?_) fun e s' hs => hs
        · unfold L2.start
          rw [hns, hl, hnp]
          exact renv_start (N := N) ra2 _
        have fin : ∀ {σ' : L2.St} {H' : Hp} {v : V} {u : Value}, Inv (cxOf (L2.CX P w) P w T.K mg base N qual scope (T.fa k) cdv A outer s H E) [] σ' H' s' → RelV v u → Q v H' → CE outer P w H s Q u s' :=
          fun {σ' H' v u} J rv q => ⟨v, H', J.os, J.bare, J.base, J.hok, rv, q⟩
        cases fl with
        | ret u =>
          obtain ⟨v, σ', H', J, rv, q⟩ := hs
          exact fin J rv q
        | next =>
          obtain ⟨σ', H', J, q⟩ := hs
          exact fin (v := V.non) (u := Value.none) J rfl q
        | brk =>
          obtain ⟨_, _, _, q⟩ := hs
          exact False.elim q
        | cont =>
          obtain ⟨_, _, _, q⟩ := hs
          exact False.elim q
      · exact h.elim
end
end PyI
namespace PyI
open PySem PySem.Spec PyProof.Rows L2
def truB (st : Store) (d : DV) : Option Bool := match d with
  | .d .non => some false
  | .d (.bl b) => some b
  | .d (.int i) => some (i != 0)
  | .d (.str z) => if z.length ≤ line then some ((z.length : Int) != 0) else none
  | .d (.tup l) => some (!l.isEmpty)
  | d => (seqL st d).map fun l => !l.isEmpty
section
variable {T : Tx} {N : List Str} {sc : Scope} {fn : Str → Bool} {F : FTs} {n : Nat} {W : WX} {X : Cx} {pos : Pos} {μ : Mu} {H : Hp} {st : Store} {pins : List (Addr × Obj)} {σ : L2.St} {s : Shared}
theorem rds_empty {T : Tb} {l : List D} {xs : List V} (r : RDs T μ H l xs) : (!xs.isEmpty) = !l.isEmpty := by cases r <;> rfl
theorem truB_at {d : DV} {x : V} {k : Bool} (hK : X.K = T.K) (rs : RSt T.toTb μ H st) (r : RV T.toTb μ H d x) (h : truB st d = some k) : TruV X.K x H k := by
  unfold truB at h
  split at h
  · cases h; cases r with | d r => cases r; exact rfl
  · cases h; cases r with | d r => cases r; exact rfl
  · cases h; cases r with | d r => cases r; exact rfl
  · split at h
    · rename_i hz
      cases h
      cases r with | d r => cases r; exact ⟨by rw [← line_eq]; exact hz, rfl⟩
    · cases h
  · cases h
    obtain ⟨p, xs, rfl, hp, rp⟩ := rd_tup r
    exact .inr (.inl ⟨xs, by rw [hK]; exact hp.sq, (rds_empty rp).symm⟩)
  · cases q : seqL st d with
    | none => rw [q] at h; cases h
    | some l =>
      rw [q] at h
      cases h
      obtain ⟨p, ys, rfl, hp, rp⟩ := seqL_sq (K := X.K) hK rs r q
      exact .inl ⟨ys, hp, (rds_empty rp).symm⟩
/-- a value's truth, asked anywhere -/
theorem truth_at {A : Around} {E : Value → Shared → Prop} {x : V} {v : Value} {k : Bool} {Q : Bool → Hp → Prop} (I : Inv X pins σ H s) (rx : RelV x v) (e : TruV X.K x H k) (q : Q k H) : wpAny (model X.prog X.w) A (truthy v) (TP X pins σ Q) E s := by
  have small := line63
  have fit : ∀ m : Nat, m ≤ sizeLine → (m : Int) < 2 ^ 63 := fun m hm => by omega
  cases x with
  | non => cases rx; cases (show k = false from e); exact truthy_none ⟨H, I, q⟩
  | bl b => cases rx; cases (show k = b from e); exact wpAny_truthy_bool ⟨H, I, q⟩
  | int i => obtain ⟨t, rfl⟩ := rx; cases (show k = (i != 0) from e); exact PySem.P.truthy_int ⟨H, I, q⟩
  | str y =>
    obtain ⟨t, rfl⟩ := rx
    obtain ⟨hy, rfl⟩ := (show y.length ≤ sizeLine ∧ k = ((y.length : Int) != 0) from e)
    exact PySem.P.truthy_str (by omega) ⟨H, I.tok _, q⟩
  | byt y =>
    obtain ⟨t, rfl⟩ := rx
    obtain ⟨hy, rfl⟩ := (show y.size ≤ sizeLine ∧ k = ((y.size : Int) != 0) from e)
    exact PySem.W.truthy_bytes (by have := sizeLine_eq; omega) ⟨H, I.tok _, q⟩
  | ref p =>
    cases rx
    rcases (show (∃ xs, SqL X.K H p xs ∧ k = !xs.isEmpty) ∨ (∃ xs, SqT X.K H p xs ∧ k = !xs.isEmpty) ∨ ∃ kvs, H p = some (.dK kvs) ∧ k = !kvs.isEmpty from e) with ⟨xs, hx, rfl⟩ | ⟨xs, hx, rfl⟩ | ⟨kvs, hx, rfl⟩
    · obtain ⟨its, r, there, hz⟩ := I.list hx
      have ln := r.length
      exact wpAny_truthy_list there.isList (fit _ (by rw [List.size_toArray]; omega)) ⟨H, I.tok _, by rw [isEmpty_of r]; exact q⟩
    · obtain ⟨its, r, there, hz⟩ := I.tuple hx
      have ln := r.length
      exact truthy_tuple there (fit _ (by rw [List.size_toArray]; omega)) ⟨H, I.tok _, by rw [isEmpty_of r]; exact q⟩
    · obtain ⟨hz, hS, vs, r, m⟩ := (show kvs.length ≤ sizeLine ∧ (p == sysModules) = false ∧ ∃ vs, KV kvs vs ∧ s.heap.DictOf (mixKind X.prog X.w) p vs from I.hok p _ hx)
      have ln : kvs.length = vs.length := Paired.length r
      exact wpAny_truthy_dict hS m (fit _ (by omega)) ⟨H, I.tok _, by rw [isEmpty_kv r]; exact q⟩
  | _ => exact (show False from e).elim
theorem type_bool : isType (.type "bool") = pure true := by first | rfl | kernel_rfl | (unfold isType; rw [isSubtype_type]; kernel_rfl)
theorem sub_bool : isSubtype (.type "bool") (.type "bool") = pure true := by rw [isSubtype_type]; kernel_rfl
theorem bool_meets {prog : Program} {w : World} (x : Value) : MeetsIn prog w (Builtin.«bool.__new__» ⟨[.type "bool", x], []⟩) (fun A R s => wpAny (model prog w) A.in1 (truthy x) (fun b s1 => R (.ok (.ret (.bool b))) s1) (fun e s1 => R (.error e) s1) s) :=
  .of_wp fun A R s h => by
    unfold Builtin.«bool.__new__»
    refine wpAny_bind (wpAny_of_eq (a := true) type_bool ?_)
    refine PySem.W.KFB.if_not rfl ?_
    refine wpAny_bind (wpAny_of_eq (a := true) sub_bool ?_)
    refine PySem.W.KFB.if_not rfl ?_
    refine wpAny_bind (wpAny_of_eq (a := [x]) (by first | rfl | kernel_rfl) ?_)
    dsimp only
    exact wpAny_bind (wpAny_mono h (fun b s1 hb => wpAny_pure ⟨_, rfl, hb⟩) fun _ _ z => z)
/-- bool(x), by x's truth -/
theorem call_bool_by {A : Around} {E : Value → Shared → Prop} {prog : Program} {w : World} {x : Value} {Q : Value → Shared → Prop} (h : wpAny (model prog w) A.in1.in1 (truthy x) (fun b s1 => Q (.bool b) s1) E s) : wpAny (model prog w) A (call (.type "bool") [x]) Q E s := by
  refine callType_newIn PySem.F.called_bool PySem.F.newNe_bool (PySem.F.typeCall_bool_1 x) (PySem.F.newCall_bool_1 x) (fun obj => PySem.F.args_object_init_2 obj x) PySem.F.entry_bool_new (bool_meets x) ?_
  refine wpAny_mono h (fun b s1 hq => ?_) fun _ _ z => z
  exact ⟨PySem.typeIs_bool _ _, hq⟩
theorem run_c {A : Around} {f : Nat} {Q : VK} {us : List Value} {vs : List V} {xs : List DV} (g : GX T F n N sc fn W X) (hA : A = X.A.in1.in1) (I : Inv X pins σ H s) (r : Vals vs us) (rs : RSt T.toTb μ H st) (rx : RVs T.toTb μ H xs vs) (h : POST T (atS W σ) μ H (F.c f xs st) Q) :
    wpAny (model X.prog X.w) A (call (.ref (T.fa f)) us) (EP X pins σ Q) X.xe s := by
  subst hA
  match n, g with
  | 0, g => rw [g.fc0 (by omega)] at h; exact h.elim
  | 1, g => rw [g.fc0 (by omega)] at h; exact h.elim
  | m + 2, g => exact CB.call (run_at g (g.fc m rfl f) g.room.in1.in1 g.grd I.env0.in1.in1 I r (spOf_of rs rx h))
def boolG (S : Sps) : BG := fun F a st => match a with
  | [x] => (match instC st x with
    | some c => (match S.spm c "__bool__" with
      | some k => (F.c k [x] st).bind fun r st => (match r with
        | .d (.bl b) => .d (.bl b) st
        | _ => .no)
      | none => .no)
    | none => (match truB st x with
      | some b => .d (.bl b) st
      | none => .no))
  | _ => .no
theorem cok_bool (g : GX T F n N sc fn W X) : CallOk T F W X (.type "bool") (boolG T.sps) := by
  intro pins s σ H μ st ds xs us Q I rs rx r h
  unfold boolG at h
  split at h
  · rename_i xd
    obtain ⟨x, rfl, ra⟩ := rvs1 rx
    obtain ⟨v, rfl, rv⟩ := vals1 r
    refine call_bool_by ?_
    split at h
    · rename_i c hc
      split at h
      · rename_i k hk
        obtain ⟨p, dx, vs, rfl, sl⟩ := instC_at rs ra hc
        obtain rfl : v = Value.ref p := rv
        obtain ⟨s1, s2, s3, _⟩ := g.tx.sp c _ k hk
        rw [← g.hK] at s1 s2 s3
        obtain ⟨sl', od, _, J, _⟩ := SlX.slt_inst I sl
        obtain ⟨m, hF⟩ := I.fr
        refine PySem.W.truthy_K hF I.ok.mod.kin J s2 s3 ?_
        refine wpAny_mono (run_c (us := [.ref p]) (vs := [.ref p]) (Q := fun z H' => ∃ b, z = .bl b ∧ Q (.bl b) H') g rfl I (.cons rfl .nil) rs (.cons ra .nil) (POST.mono (POST.bind h) fun z H' ⟨μ1, d, st1, e1, rs1, rd, h1⟩ => ?_)) (fun w s' z => ?_) fun _ _ x => x
        · dsimp only at h1
          split at h1
          · cases rd_bl rd
            exact ⟨_, rfl, h1.done rs1 (.d (.bl _))⟩
          · exact h1.elim
        · obtain ⟨z', H', I', rz, b, ei, qz⟩ := z
          subst ei
          cases rz
          exact ⟨.bl b, H', I', rfl, qz⟩
      · exact h.elim
    · split at h
      · rename_i b hb
        refine wpAny_mono (truth_at (E := X.xe) (Q := fun b' H' => Q (.bl b') H') I rv (truB_at g.hK rs ra hb) (h.done rs (.d (.bl b)))) (fun b' s' z => ?_) fun _ _ x => x
        obtain ⟨H', I', q⟩ := z
        exact ⟨.bl b', H', I', rfl, q⟩
      · exact h.elim
  · exact h.elim
/-- a value as a test -/
def truG (S : Sps) (F : FTs) (d : DV) (st : Store) : R DV := match instC st d with
  | some c => (match S.spm c "__bool__" with
    | some k => (F.a k [d] st).bind fun r st => (match r with
      | .d (.bl b) => .d (.bl b) st
      | _ => .no)
    | none => .no)
  | none => (match truB st d with
    | some b => .d (.bl b) st
    | none => .no)
def cTru (S : Sps) (f : EF) : EF := fun F env st => (f F env st).bind fun d st => truG S F d st
theorem truG_ok {d : DV} {x : V} {v : Value} {Q : Bool → Hp → Prop} (g : GX T F n N sc fn W X) (I : Inv X pins σ H s) (rx : RelV x v) (rs : RSt T.toTb μ H st) (ra : RV T.toTb μ H d x) (h : POST T (atS W σ) μ H (truG T.sps F d st) fun z H' => ∃ b, z = .bl b ∧ Q b H') :
    wpAny (model X.prog X.w) X.A (truthy v) (TP X pins σ Q) X.xe s := by
  unfold truG at h
  split at h
  · rename_i c hc
    split at h
    · rename_i k hk
      obtain ⟨p, dx, vs, rfl, sl⟩ := instC_at rs ra hc
      obtain rfl : v = Value.ref p := rx
      obtain ⟨s1, s2, s3, _⟩ := g.tx.sp c _ k hk
      rw [← g.hK] at s1 s2 s3
      obtain ⟨sl', od, _, J, _⟩ := SlX.slt_inst I sl
      obtain ⟨m, hF⟩ := I.fr
      refine PySem.W.truthy_K hF I.ok.mod.kin J s2 s3 ?_
      refine wpAny_mono (run_g (us := [.ref p]) (vs := [.ref p]) (Q := fun z H' => ∃ b, z = .bl b ∧ Q b H') g (g.fa k) I (.cons rfl .nil) (spOf_of rs (.cons ra .nil) (POST.mono (POST.bind h) fun z H' ⟨μ1, d, st1, e1, rs1, rd, h1⟩ => ?_))) (fun w s' z => ?_) fun _ _ x => x
      · dsimp only at h1
        split at h1
        · cases rd_bl rd
          obtain ⟨b, e, q⟩ := h1.done rs1 (.d (.bl _))
          cases e
          exact ⟨_, rfl, q⟩
        · exact h1.elim
      · obtain ⟨z', H', I', rz, b, ei, qz⟩ := z
        subst ei
        cases rz
        exact ⟨H', I', qz⟩
    · exact h.elim
  · split at h
    · rename_i b hb
      obtain ⟨b', e, q⟩ := h.done rs (.d (.bl b))
      cases e
      exact truth_at I rx (truB_at g.hK rs ra hb) q
    · exact h.elim
theorem tok_tru {e : Expr} {f : EF} (he : EOk T N sc fn e f) (hp : ∀ env whole, isTrue e env whole = (do let v ← whole; standAt e.pos; holding [v] (truthy v))) : TOk T N sc fn e (cTru T.sps f) := by
  intro F n W X g
  refine ⟨fun pins s σ H Q I ⟨μ, env, st, re, rs, h⟩ => ?_⟩
  refine isTrue_plain (thn ((he F n W X g).run pins s σ H _ I ⟨μ, env, st, re, rs, POST.bind h⟩) fun v s1 ⟨x, H1, I1, r1, μ1, d, st1, e1, rs1, rd, q⟩ => ?_) (hp _ _)
  exact truG_ok g I1 r1 rs1 rd q
end
end PyI
namespace PyI
open PySem PySem.Spec PyProof.Rows L2
/-- what an expression of the clause is, by the exception's class and what it keeps -/
abbrev XF := Nat → Option D → Option D
section
variable {T : Tx} {N : List Str} {sc : Scope} {fn : Str → Bool} {F : FTs} {n : Nat} {W : WX} {X : Cx} {pos : Pos} {μ μ1 : Mu} {H H1 : Hp} {i : Nat}
def tXG (T : Tx) {α β : Type} (Rel : Mu → Hp → α → β → Prop) (i : Nat) (a : Addr) (cls : Value) (dd : Option Addr) (f : Nat → Option D → Option α) (σ : L2.St) (H : Hp) (Q : β → Hp → Prop) : Prop :=
  σ[i]? = some (some (.ref a)) ∧ ∃ μ c x st, RX T.toTb T.xf μ H c x cls dd ∧ RSt T.toTb μ H st ∧ ∃ r, f c x = some r ∧ PST T Rel (fun _ _ _ => False) μ H (.ok r st) Q
abbrev tX (T : Tx) (i : Nat) (a : Addr) (cls : Value) (dd : Option Addr) (f : XF) : TE := tXG T (RD T.toTb) i a cls dd f
abbrev tXs (T : Tx) (i : Nat) (a : Addr) (cls : Value) (dd : Option Addr) (f : Nat → Option D → Option (List D)) : TA := tXG T (RDs T.toTb) i a cls dd f
def XOk (T : Tx) (N : List Str) (sc : Scope) (i : Nat) (e : Expr) (f : XF) : Prop := ∀ F n fn W X, GX T F n N sc fn W X → ∀ (a : Addr) (oe : Obj) (cls : Value) (dd : Option Addr) (pn : List (Addr × Obj)), Zc cls dd oe → (∃ vs, oe.data = .fields vs) → PE (X.suite a ((a, oe) :: pn)) e (tX T i a cls dd f)
def XsOk (T : Tx) (N : List Str) (sc : Scope) (i : Nat) (es : List Expr) (f : Nat → Option D → Option (List D)) : Prop := ∀ F n fn W X, GX T F n N sc fn W X → ∀ (a : Addr) (oe : Obj) (cls : Value) (dd : Option Addr) (pn : List (Addr × Obj)), Zc cls dd oe → (∃ vs, oe.data = .fields vs) → PA (X.suite a ((a, oe) :: pn)) es (tXs T i a cls dd f)
theorem RX.ext {Tb' : Tb} {xf : Nat → Str} {μ' : Mu} {H' : Hp} {c : Nat} {x : Option D} {cls : Value} {dd : Option Addr} (e : Ext μ H μ' H') (h : RX Tb' xf μ H c x cls dd) : RX Tb' xf μ' H' c x cls dd :=
  ⟨h.1, fun d hd => by
    obtain ⟨a, v, h1, h2, h3⟩ := h.2 d hd
    exact ⟨a, v, h1, e.keep _ _ h2, RD.ext e h3⟩⟩
theorem xok_str {m : Str} {j} : XOk T N sc i (.Constant (.str m) j pos) (fun _ _ => some (.str m)) := fun F n fn W X g a oe cls dd pn hz hf => PE.imp pe_str fun σ H Q ⟨hs, μ, c, x, st, rx, rs, r, e, q⟩ => by cases e; exact q.done rs (.str m)
theorem xok_int {m : Int} {j} : XOk T N sc i (.Constant (.int m) j pos) (fun _ _ => some (.int m)) := fun F n fn W X g a oe cls dd pn hz hf => PE.imp pe_int fun σ H Q ⟨hs, μ, c, x, st, rx, rs, r, e, q⟩ => by cases e; exact q.done rs (.int m)
theorem xok_bl {m : Bool} {j} : XOk T N sc i (.Constant (.bool m) j pos) (fun _ _ => some (.bl m)) := fun F n fn W X g a oe cls dd pn hz hf => PE.imp pe_bl fun σ H Q ⟨hs, μ, c, x, st, rx, rs, r, e, q⟩ => by cases e; exact q.done rs (.bl m)
theorem xok_non {j} : XOk T N sc i (.Constant .none j pos) (fun _ _ => some .non) := fun F n fn W X g a oe cls dd pn hz hf => PE.imp pe_non fun σ H Q ⟨hs, μ, c, x, st, rx, rs, r, e, q⟩ => by cases e; exact q.done rs .non
def xFld (T : Tx) (f : Str) : XF := fun c x => if T.exn c = some true ∧ T.xf c = f then x else none
theorem xok_fld {nm f : Str} {p : Pos} (hN : N[i]? = some nm) (hv : visB sc nm = true) (hd : (nm == ("__debug__" : Str)) = false) (hcd : (nm == ("__classdict__" : Str)) = false) (hb : ∀ (env : Env) (w : Sem Value), attributeBase (.Name nm p) f env w = w) :
    XOk T N sc i (.Attribute (.Name nm p) f pos) (xFld T f) := by
  intro F n fn W X g a oe cls dd pn hz hf
  refine ⟨fun pins s σ H Q I ⟨hs, μ, c, x, st, rx, rs, r, e, q⟩ => ?_⟩
  unfold xFld at e
  split at e
  · rename_i hc
    obtain ⟨hc, rfl⟩ := hc
    obtain ⟨z1, z2⟩ := g.tx.xfc c hc
    rw [← g.hK] at z1 z2
    obtain ⟨d, v, ed, ha, rd⟩ := rx.2 r e
    refine (pe_xf (X := X) (C := T.ca c) (pn := pn) z1 z2 hz hf (pe_var (X := X.suite a ((a, oe) :: pn)) (i := i) (show X.N[i]? = some nm by rw [g.hN]; exact hN) (show Vis X.env.scope nm by rw [g.hsc]; exact vis_of hv) hd hcd) (hb _ _)).run pins s σ H Q I ?_
    exact ⟨.ref a, hs, rfl, rx.1, d, [(T.xf c, v)], v, ed, ha.1, by simp, q.done rs rd⟩
  · cases e
theorem xsok_nil : XsOk T N sc i [] (fun _ _ => some []) := fun F n fn W X g a oe cls dd pn hz hf => PA.imp pa_nil fun σ H Q ⟨hs, μ, c, x, st, rx, rs, r, e, q⟩ => by cases e; exact q.done rs .nil
def xCons (f : XF) (g : Nat → Option D → Option (List D)) : Nat → Option D → Option (List D) := fun c x => match f c x, g c x with
  | some d, some l => some (d :: l)
  | _, _ => none
theorem xsok_cons {e : Expr} {es : List Expr} {f : XF} {h : Nat → Option D → Option (List D)} (hn : notStar e = true) (he : XOk T N sc i e f) (hs : XsOk T N sc i es h) : XsOk T N sc i (e :: es) (xCons f h) := by
  intro F n fn W X g a oe cls dd pn hz hf
  refine PA.imp (pa_cons (he F n fn W X g a oe cls dd pn hz hf) (hs F n fn W X g a oe cls dd pn hz hf) (starEach_plain hn)) fun σ H Q ⟨hs, μ, c, x, st, rx, rs, r, e, q⟩ => ?_
  unfold xCons at e
  split at e
  · rename_i d l e1 e2
    cases e
    exact ⟨hs, μ, c, x, st, rx, rs, d, e1, fun μ' v H' k rs' rv => ⟨hs, μ', c, x, st, rx.ext k, rs', l, e2, fun μ'' vs H'' k' rs'' rvs => q μ'' _ H'' (k.trans k') rs'' (.cons (RD.ext k' rv) rvs)⟩⟩
  · cases e
def xTup (f : Nat → Option D → Option (List D)) : XF := fun c x => (f c x).bind fun l => if l.length ≤ line then some (.tup l) else none
theorem xok_tup {es : List Expr} {f : Nat → Option D → Option (List D)} {k} (hs : XsOk T N sc i es f) : XOk T N sc i (.Tuple es k pos) (xTup f) := by
  intro F n fn W X g a oe cls dd pn hz hf
  refine PE.imp (pe_tup (hs F n fn W X g a oe cls dd pn hz hf)) fun σ H Q ⟨hs, μ, c, x, st, rx, rs, r, e, q⟩ => ?_
  unfold xTup at e
  cases z : f c x with
  | none => rw [z] at e; cases e
  | some l =>
    rw [z] at e
    dsimp only [Option.bind_some] at e
    split at e
    · rename_i hl
      cases e
      refine ⟨hs, μ, c, x, st, rx, rs, l, z, fun μ' vs H' k' rs' rv => ⟨by rw [← rv.length, ← line_eq]; exact hl, fun p hp => ?_⟩⟩
      exact q μ' _ _ (k'.trans (Ext.new hp)) (rs'.new hp) (new_tup rs' hp rv)
    · cases e
def sTry (i : Nat) (m : Nat → Option Bool) (b : SF) (f : XF) : SF := fun F env st => match b F env st with
  | .ex c x env' st' => (match m c with
    | some true => (match f c x with
      | some r => if i < env'.length then .ok (.rt (.d r)) env' st' else .no
      | none => .no)
    | some false => .ex c x env' st'
    | none => .no)
  | r => r
/-- the name x is the class t -/
def ClsIs (T : Tx) (x : Str) (t : TK) : Prop := (∃ k, t = .own k ∧ T.G x = some (.cls k)) ∨ (∃ ty, t = .ty ty ∧ T.G x = some .blt ∧ bootBuiltins x = some (.type ty) ∧ x ≠ "__name__")
theorem GX.tr (g : GX T F n N sc fn W X) {W' : WX} {pn : List (Addr × Obj)} {xe : Value → Shared → Prop} (tk : Takes (X.tr pn xe) W') (ps : PassesOwn (model X.prog X.w) X.A X.env xe) : GX T F n N sc fn W' (X.tr pn xe) :=
  { tx := g.tx, hK := g.hK, calm := g.calm, hN := g.hN, nd := g.nd, hsc := g.hsc, hfn := g.hfn, room := g.room, grd := g.grd, takes := tk, pass := ps, fa := g.fa, fb := g.fb, fb0 := g.fb0, fc0 := g.fc0, fc := g.fc, itr := g.itr, exn := g.exn, top := g.top }
theorem sok_try {x nm : Str} {t : TK} {body : List Stmt} {b : SF} {e : Expr} {f : XF} {np hp rp : Pos} (hfn : ∀ x, fn x = true) (hi : N[i]? = some nm) (hln : sc.names.lookup nm = some .local) (hg : globB sc x = true) (hd : (x == ("__debug__" : Str)) = false) (ht : ClsIs T x t)
    (hb : SsOk T N sc fn body b) (he : XOk T N sc i e f) : SOk T N sc fn (.Try body [.ExceptHandler (some (.Name x np)) (some nm) [.Return (some e) rp] hp] [] [] pos) (sTry i (fun c => T.exm c t) b f) := by
  intro F n W X g
  obtain ⟨hst, hfr⟩ := g.top hfn
  have names : Names X x (tkv T.toTb t) := by
    refine ⟨gl_of g hg, hd, ?_⟩
    rcases ht with ⟨k, rfl, hG⟩ | ⟨ty, rfl, hG, hbt, hn⟩
    · exact .inl (g.tx.cls x k hG).1
    · exact .inr ⟨g.tx.blt x hG, hbt, hn⟩
  have q := ps_try_as (pos := pos) (pos' := hp) (np := np) (X := X) (i := i) (n := nm) (c := tkv T.toTb t) (Wout := W) (tb := fun W' => tS T F W' b) (ts := fun a cls d => tRet (tX T i a cls d f)) hst hfr (by rw [g.hN]; exact g.nd) (by rw [g.hN]; exact hi)
    (show X.env.kindOf nm = some .local by unfold Env.kindOf; rw [g.hsc]; exact hln) names g.takes (fun W' pn xe tk ps => hb F n W' (X.tr pn xe) (g.tr tk ps)) (fun a oe cls d pn hz hf => pss_one (ps_ret (pos := rp) (he F n fn W X g a oe cls d pn hz hf)))
  refine PS.imp q fun D σ H ⟨μ, env, st, re, rs, h⟩ => ⟨μ, env, st, re, rs, ?_⟩
  unfold sTry at h
  revert h
  cases b F env st with
  | no => exact fun h => h
  | ok fl env' st' => cases fl <;> exact fun h => h
  | ex c x env' st' =>
    intro h μ' σ' H' cls dd k rs' re' rx
    dsimp only at h
    split at h
    · rename_i hm
      split at h
      · rename_i r hr
        split at h
        rotate_left
        · exact h.elim
        rename_i hl
        refine ⟨true, by rw [rx.1, g.hK]; exact g.tx.exm c t true hm, fun _ a ha => ?_, fun z => (nomatch z)⟩
        have hlen : i < σ'.length := by
          rw [← re'.length]
          exact hl
        exact ⟨by rw [List.getElem?_set_self hlen], μ', c, x, st', rx, rs', r, hr, fun μ'' v H'' k' rs'' rv => h μ'' v H'' (k.trans k') rs'' (.d rv)⟩
      · exact h.elim
    · rename_i hm
      exact ⟨false, by rw [rx.1, g.hK]; exact g.tx.exm c t false hm, fun z => (nomatch z), fun _ => h μ' σ' H' cls dd k rs' re' rx⟩
    · exact h.elim
end
end PyI
namespace PyI
open PySem PySem.Spec PyProof.Rows L2
section
variable {T : Tx} {N : List Str} {sc : Scope} {fn : Str → Bool} {F : FTs} {n : Nat} {W : WX} {X : Cx} {pos : Pos} {μ : Mu} {H : Hp} {st : Store}
def strG : BG := fun _ a st => match a with
  | [.d (.int i)] => if i.natAbs.log2 < 1920 then .d (.str (toString i)) st else .no
  | [.d (.str x)] => .d (.str x) st
  | _ => .no
theorem cok_str (g : GX T F n N sc fn W X) : CallOk T F W X (.type "str") strG := by
  intro pins s σ H μ st ds xs us Q I rs rx r h
  unfold strG at h
  split at h
  · obtain ⟨x, rfl, rx1⟩ := rvs1 rx
    cases rd_int rx1
    split at h
    · rename_i c
      exact call_str_int pins s σ H _ us Q I r ⟨_, rfl, c, h.done rs (.d (.str _))⟩
    · exact h.elim
  · obtain ⟨x, rfl, rx1⟩ := rvs1 rx
    cases rd_str rx1
    exact SkE.call_str_str pins s σ H _ us Q I r ⟨_, rfl, h.done rs (.d (.str _))⟩
  · exact h.elim
def insI (x : Int) : List Int → List Int
  | [] => [x]
  | y :: r => if x ≤ y then x :: y :: r else y :: insI x r
def sortI : List Int → List Int
  | [] => []
  | x :: r => insI x (sortI r)
theorem insI_perm {x : Int} : ∀ l : List Int, (insI x l).Perm (x :: l)
  | [] => List.Perm.refl _
  | y :: r => by
    unfold insI
    split
    · exact List.Perm.refl _
    · exact ((insI_perm r).cons y).trans (List.Perm.swap x y r)
theorem sortI_perm : ∀ l : List Int, (sortI l).Perm l
  | [] => List.Perm.refl _
  | x :: r => (insI_perm _).trans ((sortI_perm r).cons x)
theorem insI_asc {x : Int} : ∀ {l : List Int}, l.Pairwise (· ≤ ·) → (insI x l).Pairwise (· ≤ ·)
  | [], _ => by simp [insI]
  | y :: r, h => by
    unfold insI
    rw [List.pairwise_cons] at h
    split
    · rename_i c
      rw [List.pairwise_cons, List.pairwise_cons]
      exact ⟨fun z hz => by
        rcases List.mem_cons.mp hz with rfl | hz
        · exact c
        · exact Int.le_trans c (h.1 z hz), h⟩
    · rename_i c
      rw [List.pairwise_cons]
      refine ⟨fun z hz => ?_, insI_asc h.2⟩
      rcases List.mem_cons.mp ((insI_perm r).mem_iff.mp hz) with rfl | hz
      · omega
      · exact h.1 z hz
theorem sortI_asc : ∀ l : List Int, (sortI l).Pairwise (· ≤ ·)
  | [] => List.Pairwise.nil
  | _ :: r => insI_asc (sortI_asc r)
theorem asc_unique : ∀ {l m : List Int}, l.Perm m → l.Pairwise (· ≤ ·) → m.Pairwise (· ≤ ·) → l = m
  | [], m, p, _, _ => by rw [List.Perm.nil_eq p]
  | x :: l, [], p, _, _ => absurd p.length_eq (by simp)
  | x :: l, y :: m, p, h1, h2 => by
    rw [List.pairwise_cons] at h1 h2
    have e : x = y := by
      have hx : x ∈ y :: m := p.mem_iff.mp List.mem_cons_self
      have hy : y ∈ x :: l := p.mem_iff.mpr List.mem_cons_self
      rcases List.mem_cons.mp hx with e | hx
      · exact e
      · rcases List.mem_cons.mp hy with e | hy
        · exact e.symm
        · have := h1.1 y hy
          have := h2.1 x hx
          omega
    subst e
    rw [asc_unique (List.Perm.cons_inv p) h1.2 h2.2]
def sortedG : BG := fun _ a st => intsG st (fun ns => .d (.lst ((sortI ns).map .int)) st) a
theorem cok_sorted (g : GX T F n N sc fn W X) : CallOk T F W X (.builtin "sorted") sortedG := by
  intro pins s σ H μ st ds xs us Q I rs rx r h
  obtain ⟨a, ns, rfl, hp, q⟩ := intsG_at (K := X.K) g.hK rs rx h
  refine cr_sortedI pins s σ H _ us Q I r ⟨a, ns, rfl, hp, fun ns' p h1 h2 hn => ?_⟩
  obtain rfl := asc_unique (h1.trans (sortI_perm ns).symm) h2 (sortI_asc ns)
  exact POST.newLst q rs RDs.ints p hn
def cRev (f : EF) : EF := fun F env st => (f F env st).bind fun x st => match seqL st x with
  | some l => .d (.lst l.reverse) st
  | none => .no
theorem ok_rev {a : Expr} {fa : EF} {k : Nat} {p1 p2 p3 : Pos} (ha : EOk T N sc fn a fa) : EOk T N sc fn (.Subscript a (.Slice none none (some (.UnaryOp .USub (.Constant (.int 1) k p1) p2)) p3) pos) (cRev fa) := by
  intro F n W X g
  refine PE.imp (pe_revL (ha F n W X g)) fun σ H Q ⟨μ, env, st, re, rs, h⟩ => ?_
  refine ⟨μ, env, st, re, rs, POST.mono (POST.bind h) fun x H1 ⟨μ1, a, st1, e1, rs1, ra, h1⟩ => ?_⟩
  dsimp only at h1
  split at h1
  · rename_i l e
    obtain ⟨p, xs, rfl, hp, rp⟩ := seqL_sq (K := X.K) g.hK rs1 ra e
    exact ⟨p, xs, rfl, hp, POST.newLst h1 rs1 rp.reverse⟩
  · exact h1.elim
def maxDG (mx : Bool) (st : Store) (x y : DV) : R DV := match itemsOf st x with
  | some l => (match intsOf l with
    | some [] => .ok y st
    | some (i :: r) => .d (.int (if mx = true then r.foldl max i else r.foldl min i)) st
    | none => .no)
  | none => .no
def cMaxD (mx : Bool) (a d : EF) : EF := fun F env st => (a F env st).bind fun x st => (d F env st).bind fun y st => maxDG mx st x y
theorem depth_ints : ∀ ns : List Int, PyData.depthAll (ns.map .int) ≤ 1
  | [] => by simp [PyData.depthAll]
  | i :: r => by
    have := depth_ints r
    simp only [List.map_cons, PyData.depthAll, PyData.depth]
    omega
theorem alike_ints (ns : List Int) : PySem.W.AlikeAll (ns.map .int) := by
  refine ⟨fun x hx y hy => ?_, fun x hx => ?_⟩
  · obtain ⟨a, _, rfl⟩ := List.mem_map.mp hx
    obtain ⟨b, _, rfl⟩ := List.mem_map.mp hy
    rfl
  · obtain ⟨a, _, rfl⟩ := List.mem_map.mp hx
    exact fun e => nomatch e
def rMaxD (K : PySem.W.Frag) (mx : Bool) : List V → List V → Hp → VK → Prop := fun xs zs H Q => ∃ (a : Addr) (ns : List Int) (d : V), xs = [.ref a] ∧ zs = [d] ∧ (SqL K H a (ns.map .int) ∨ SqT K H a (ns.map .int)) ∧ (ns = [] → Q d H) ∧ ∀ i r, ns = i :: r → Q (.int (if mx = true then r.foldl max i else r.foldl min i)) H
theorem read_int {h : Heap} {v : Value} {m : Int} {bs : List Addr} (r : Reads h v (.int m) bs) : RelV (.int m) v := by
  cases r with | int _ t => exact ⟨t, rfl⟩
theorem cr_maxD (hc : X.calm = true) (hu : X.A.units + 64 < cLine) : CallRK X (.builtin "max") [("default" : Str)] (rMaxD X.K true) := by
  intro pins s σ H xs zs us ws Q I r r2 h
  obtain ⟨a, ns, d, rfl, rfl, hs, q0, q1⟩ := h
  obtain rfl := Vals.ref1 r
  obtain ⟨u, rfl, ru⟩ := r2.one
  have hd := depth_ints ns
  rcases hs with hs | hs
  · obtain ⟨its, rv, hl, hz⟩ := I.list hs
    refine PySem.W.max_list_default (I.ok.hd hc) hl.isList (rv.ints.reads _) (alike_ints ns) (by omega) (fun e h' tk k => ?_) (fun y ys i v h' tk bs e hv hr k => ?_)
    · exact ⟨d, H, I.kept (t' := tk) k, ru, q0 (List.map_eq_nil_iff.mp e)⟩
    · cases ns with
      | nil => cases e
      | cons n ns =>
        cases e
        rw [PySem.W.maxD_ints] at hr
        exact ⟨.int _, H, I.kept (t' := tk) k, read_int hr, q1 n ns rfl⟩
  · obtain ⟨its, rv, hl, hz⟩ := I.tuple hs
    refine PySem.W.max_tuple_default (I.ok.hd hc) (show s.heap.IsTuple a its.toArray from hl) (rv.ints.reads _) (alike_ints ns) (by omega) (fun e h' tk k => ?_) (fun y ys i v h' tk bs e hv hr k => ?_)
    · exact ⟨d, H, I.kept (t' := tk) k, ru, q0 (List.map_eq_nil_iff.mp e)⟩
    · cases ns with
      | nil => cases e
      | cons n ns =>
        cases e
        rw [PySem.W.maxD_ints] at hr
        exact ⟨.int _, H, I.kept (t' := tk) k, read_int hr, q1 n ns rfl⟩
theorem back_one {e : Expr} {pos : Pos} {env : Env} (h : notStar e = true) : backTo pos (starEach [e] env) = (false, eval e env) :: backTo pos (starEach [] env) := by
  cases e <;> first | rfl | cases h
theorem back_any {e : Expr} {pos : Pos} {env : Env} (h : notStar e = true) : (backTo pos (starEach [e] env)).any (·.1) = false := by
  cases e <;> first | rfl | cases h
theorem ok_maxD {x : Str} {p kpos : Pos} {e d : Expr} {fe fd : EF} (hx : x = "max") (hg : globB sc x = true) (hG : T.G x = some .blt) (hs : notStar e = true) (he : EOk T N sc fn e fe) (hd : EOk T N sc fn d fd) :
    EOk T N sc fn (.Call (.Name x p) [e] [⟨some "default", d, kpos⟩] pos) (cMaxD true fe fd) := by
  subst hx
  intro F n W X g
  refine PE.imp (pe_callBK (cr_maxD g.calm g.room.units) (gl_of g hg) (g.tx.blt _ hG) (by first | rfl | decide +kernel) (pa_cons (he F n W X g) pa_nil (starEach_plain hs)) (pk_cons (hd F n W X g) pk_nil) (by decide) (by decide) (back_one hs) (back_any hs)) fun σ H Q ⟨μ, env, st, re, rs, h⟩ => ?_
  refine ⟨μ, env, st, re, rs, POST.mono (POST.bind h) fun x H1 ⟨μ1, a, st1, e1, rs1, ra, h1⟩ => ?_⟩
  refine ⟨μ1, env, st1, re.ext e1, rs1, POST.mono (POST.bind h1) fun y H2 ⟨μ2, b, st2, e2, rs2, rb, h2⟩ => ?_⟩
  have ra2 := ra.ext e2
  have h2 : POST T (atS W σ) μ2 H2 (maxDG true st2 a b) Q := h2
  unfold maxDG at h2
  split at h2
  · rename_i l el
    obtain ⟨q, ys, rfl, hq, rq⟩ := itemsOf_at (K := X.K) g.hK rs2 ra2 el
    split at h2
    · rename_i ei
      rw [intsOf_eq ei] at rq
      rw [RDs.ofInts rq] at hq
      exact ⟨q, [], y, rfl, rfl, hq.symm, fun _ => h2.done rs2 rb, fun i r e => nomatch e⟩
    · rename_i i r ei
      rw [intsOf_eq ei] at rq
      rw [RDs.ofInts rq] at hq
      refine ⟨q, i :: r, y, rfl, rfl, hq.symm, fun e => (nomatch e), fun i' r' e => ?_⟩
      cases e
      exact h2.done rs2 (.d (.int _))
    · exact h2.elim
  · exact h2.elim
theorem sum_tup {l : Addr} {its : List Value} {ns : List Int} {prog : Program} {w : World} {A : Around} {E : Value → Shared → Prop} {s : Shared} {Q : Value → Shared → Prop} (hh : A.handled = none) (hl : s.heap.IsTuple l its.toArray) (hi : IntsAre its ns)
    (h : ∀ h' tk t', (∀ b o, s.heap.get? b = some o → h'.get? b = some o) → Q (.int ns.sum t') { s with heap := h', toks := tk }) : wpAny (model prog w) A (call (.builtin "sum") [.ref l]) Q E s := by
  obtain ⟨zs, e⟩ := hi.allInts.items
  have en : numsOf (intItems zs).toList = ns := by rw [← e]; exact hi.numsOf
  rw [nums_intItems] at en
  rw [e] at hl
  refine PySem.W.ktm_sumG hh hl fun h' tk t' hk => ?_
  have q := h h' tk t' hk
  rw [preSum_eq, List.take_of_length_le (by simp), en]
  exact q
def sumTG : BG := fun F a st => match a with
  | [.d (.tup l)] => (match intsOf l with
    | some ns => .d (.int ns.sum) st
    | none => .no)
  | a => sumG F a st
theorem cok_sumT (g : GX T F n N sc fn W X) : CallOk T F W X (.builtin "sum") sumTG := by
  intro pins s σ H μ st ds xs us Q I rs rx r h
  unfold sumTG at h
  split at h
  · obtain ⟨x, rfl, rx1⟩ := rvs1 rx
    obtain ⟨p, ys, rfl, hp, rp⟩ := rd_tup rx1
    split at h
    · rename_i ns e
      rw [intsOf_eq e] at rp
      rw [RDs.ofInts rp] at hp
      have hq := hp.sq
      rw [← g.hK] at hq
      obtain ⟨its, rv, hl, hz⟩ := I.tuple hq
      obtain rfl := Vals.ref1 r
      exact sum_tup (I.ok.hd g.calm) (show s.heap.IsTuple p its.toArray from hl) rv.ints fun h' tk t' k => ⟨.int _, H, I.kept (t' := tk) k, ⟨_, rfl⟩, h.done rs (.d (.int _))⟩
    · exact h.elim
  · exact cok_sum g pins s σ H μ st ds xs us Q I rs rx r h
def mxTG (mx : Bool) (alt : BG) : BG := fun F a st => match a with
  | [.d (.tup l)] => (match intsOf l with
    | some (i :: r) => .d (.int (if mx = true then r.foldl max i else r.foldl min i)) st
    | _ => .no)
  | a => alt F a st
theorem cok_maxT (g : GX T F n N sc fn W X) : CallOk T F W X (.builtin "max") (mxTG true maxG) := by
  intro pins s σ H μ st ds xs us Q I rs rx r h
  unfold mxTG at h
  split at h
  · obtain ⟨x, rfl, rx1⟩ := rvs1 rx
    obtain ⟨p, ys, rfl, hp, rp⟩ := rd_tup rx1
    split at h
    · rename_i i r' e
      rw [intsOf_eq e] at rp
      rw [RDs.ofInts rp] at hp
      have hq := hp.sq
      rw [← g.hK] at hq
      obtain ⟨its, rv, hl, hz⟩ := I.tuple hq
      obtain rfl := Vals.ref1 r
      have hd := depth_ints (i :: r')
      have hu := g.room.units
      refine PySem.W.max_tuple_data (I.ok.hd g.calm) (show s.heap.IsTuple p its.toArray from hl) (rv.ints.reads _) (alike_ints (i :: r')) (by simp only [List.map_cons] at hd; omega) fun i' v h' tk bs hv hr k => ?_
      rw [PySem.W.maxD_ints] at hr
      exact ⟨.int _, H, I.kept (t' := tk) k, read_int hr, h.done rs (.d (.int _))⟩
    · exact h.elim
  · exact cok_max g pins s σ H μ st ds xs us Q I rs rx r h
theorem cok_minT (g : GX T F n N sc fn W X) : CallOk T F W X (.builtin "min") (mxTG false minG) := by
  intro pins s σ H μ st ds xs us Q I rs rx r h
  unfold mxTG at h
  split at h
  · obtain ⟨x, rfl, rx1⟩ := rvs1 rx
    obtain ⟨p, ys, rfl, hp, rp⟩ := rd_tup rx1
    split at h
    · rename_i i r' e
      rw [intsOf_eq e] at rp
      rw [RDs.ofInts rp] at hp
      have hq := hp.sq
      rw [← g.hK] at hq
      obtain ⟨its, rv, hl, hz⟩ := I.tuple hq
      obtain rfl := Vals.ref1 r
      have hd := depth_ints (i :: r')
      have hu := g.room.units
      refine PySem.W.min_tuple_data (I.ok.hd g.calm) (show s.heap.IsTuple p its.toArray from hl) (rv.ints.reads _) (alike_ints (i :: r')) (by simp only [List.map_cons] at hd; omega) fun i' v h' tk bs hv hr k => ?_
      rw [PySem.W.minD_ints] at hr
      exact ⟨.int _, H, I.kept (t' := tk) k, read_int hr, h.done rs (.d (.int _))⟩
    · exact h.elim
  · exact cok_min g pins s σ H μ st ds xs us Q I rs rx r h
end
end PyI
namespace PyI
open PySem PySem.SeqAt
open AutoSeq1 (wpAny_loadPart')
open MeetsSeq MeetsSeq2 MeetsSeq3 SeqRoads2 GQ
section
variable {prog : Program} {w : World} {A : Around} {R : Result → Shared → Prop}
theorem ne_loopG (p q : Addr) (M : Nat) (J : Nat → Shared → Prop) (hj : ListI prog w A (fun e z => R (.error e) z) p q M J)
    (endd : ∀ z, J M z → R (.ok (.ret (.bool false))) z) (k : Nat) :
    ∀ j : Nat, M - j = k → j ≤ M → ∀ z, J j z →
      wpAny (model prog w) A.in1 (Builtin.«list.__eq__.loop» ⟨[.ref p, .ref q, rawInt j, rawInt 3], []⟩) (FinOf prog w A R) (fun e z => R (.error e) z) z := by
  induction k with
  | zero =>
    intro j hk hi z h
    obtain ⟨us, vs, n, m, gp, gq, sp, sq, _⟩ := hj _ _ h
    have ej : j = M := by omega
    have hR : R (.ok (.ret (.bool false))) z := endd z (ej ▸ h)
    obtain ⟨hp, g, d, tk, os⟩ := z
    wp_walk using wpAny_loadPart' gp, wpAny_loadPart' gq
    have n1 : us[((j : Nat) : Int).toNat]? = none := by simp; omega
    have n2 : vs[((j : Nat) : Int).toNat]? = none := by simp; omega
    rw [n1, n2]
    wp_walk using wpAny_loadPart' gp, wpAny_loadPart' gq
    show R (.ok (.ret (.bool (us.size != vs.size)))) _
    rw [sp, sq]
    simpa using hR
  | succ k ih =>
    intro j hk hi z h
    obtain ⟨us, vs, n, m, gp, gq, sp, sq, turn⟩ := hj _ _ h
    have l1 : j < us.size := by omega
    have l2 : j < vs.size := by omega
    have ht := turn l1 l2
    obtain ⟨hp, g, d, tk, os⟩ := z
    wp_walk using wpAny_loadPart' gp, wpAny_loadPart' gq
    have n1 : us[((j : Nat) : Int).toNat]? = some us[j] := by simp [l1]
    have n2 : vs[((j : Nat) : Int).toNat]? = some vs[j] := by simp [l2]
    have hc : ((j : Int) + 1) = ((j + 1 : Nat) : Int) := by omega
    rw [n1, n2]
    refine wpAny_bind (wpAny_mono ht (fun r z2 h2 => ?_) fun _ _ x => x)
    obtain ⟨rfl, h2⟩ := h2
    have again := ih (j + 1) (by omega) (by omega) z2 h2
    obtain ⟨hp2, g2, d2, tk2, os2⟩ := z2
    wp_walk
    rw [hc]
    exact ⟨plainId_quiet plain_eq_loop _, codeAny_builtin entry_eq_loop (by
      rw [Around.under_plainId plain_eq_loop _]
      exact again)⟩
theorem list_neG (p q : Addr) (M : Nat) (J : Nat → Shared → Prop) (hj : ListI prog w A (fun e z => R (.error e) z) p q M J)
    (endd : ∀ z, J M z → R (.ok (.ret (.bool false))) z) {z : Shared} (h : J 0 z) :
    wpAny (model prog w) A.in1 (Builtin.«list.__ne__» ⟨[.ref p, .ref q], []⟩) (FinOf prog w A R) (fun e z => R (.error e) z) z := by
  obtain ⟨us, vs, n, m, gp, gq, sp, sq, _⟩ := hj _ _ h
  have again := ne_loopG (A := A) (R := R) p q M J hj endd _ 0 rfl (Nat.zero_le _) z h
  obtain ⟨hp, g, d, tk, os⟩ := z
  have f3 := AutoSeq1.sub_list_list
  have hne : ¬ (us.size != vs.size) = true := by simp [sp, sq]
  wp_walk using wpAny_loadPart' gp, wpAny_loadPart' gq
  exact ⟨plainId_quiet plain_eq_loop _, codeAny_builtin entry_eq_loop (by
    rw [Around.under_plainId plain_eq_loop _]
    exact again)⟩
theorem tuple_neG (p q : Addr) (us vs : Array Value) (n m : Nat) (dp dq : Option Addr) (sp sq : Array (Option Value)) (hsz : us.size = vs.size) (J : Nat → Shared → Prop)
    (turn : ∀ j (h1 : j < us.size) (h2 : j < vs.size) z, J j z → wpAny (model prog w) A.in1 (eqBool us[j] vs[j]) (fun r z => r = true ∧ J (j + 1) z) (fun e z => R (.error e) z) z)
    (endd : ∀ z, J us.size z → R (.ok (.ret (.bool false))) z) {z : Shared} (gp : z.heap.get? p = some { cls := .type "tuple", dict := dp, data := .seq us n, slots := sp }) (gq : z.heap.get? q = some { cls := .type "tuple", dict := dq, data := .seq vs m, slots := sq }) (h : J 0 z) :
    wpAny (model prog w) A.in1 (Builtin.«tuple.__ne__» ⟨[.ref p, .ref q], []⟩) (FinOf prog w A R) (fun e z => R (.error e) z) z := by
  have f2 := AutoSeq1.sub_tuple_tuple
  have hZ : (us.toList.zip vs.toList).length = us.size := by simp [hsz]
  have h0 := h
  obtain ⟨hp, g, d, tk, os⟩ := z
  wp_walk using wpAny_loadPart' gp, wpAny_loadPart' gq, wpAny_forIn_list _ (fun rest b z => b.1 = none ∧ ∃ j, rest = (us.toList.zip vs.toList).drop j ∧ j ≤ us.size ∧ J j z) _
  case turn =>
    rintro ⟨y, x⟩ rest b z ⟨hb', j, hz, hi, hJ⟩
    have lt : j < (us.toList.zip vs.toList).length := by
      rcases Nat.lt_or_ge j (us.toList.zip vs.toList).length with h' | h'
      · exact h'
      · rw [List.drop_of_length_le h'] at hz; cases hz
    have h1 : j < us.size := hZ ▸ lt
    have h2 : j < vs.size := hsz ▸ h1
    rw [List.drop_eq_getElem_cons lt] at hz
    injection hz with hyx hrest
    have hy : y = us[j] := by have := congrArg Prod.fst hyx; simpa using this
    have hx : x = vs[j] := by have := congrArg Prod.snd hyx; simpa using this
    subst hy hx
    refine wpAny_bind (wpAny_mono (turn j h1 h2 z hJ) (fun r z2 q2 => ?_) fun _ _ x => x)
    obtain ⟨rfl, q2⟩ := q2
    wp_walk
    exact ⟨rfl, j + 1, hrest, h1, q2⟩
  case fin =>
    rintro ⟨b1, b2⟩ z ⟨hb', j, hz, hi, hJ⟩
    simp only at hb'
    subst hb'
    have ge : us.size ≤ j := by
      rcases Nat.lt_or_ge j (us.toList.zip vs.toList).length with h' | h'
      · rw [List.drop_eq_getElem_cons h'] at hz; cases hz
      · exact hZ ▸ h'
    have ej : j = us.size := by omega
    have hR : R (.ok (.ret (.bool false))) z := endd z (ej ▸ hJ)
    wp_walk
    simpa [Builtin.Tuple.tupleCompareSizes, hsz] using hR
  case h =>
    exact ⟨rfl, 0, rfl, Nat.zero_le _, h0⟩
end
section
variable {prog : Program} {w : World} {A : Around} {E : Value → Shared → Prop} {s : Shared}
theorem rc_list_ne {p q : Addr} {M : Nat} {Q : Value → Shared → Prop} (hu : A.units < cLine) (J : Nat → Shared → Prop) (hj : ListI prog w A E p q M J)
    (endd : ∀ z, J M z → Q (.bool false) z) (h : J 0 s) : wpAny (model prog w) A (richCompare .NotEq (.ref p) (.ref q)) Q E s := by
  obtain ⟨us, vs, n, m, gp, gq, _, _, _⟩ := hj _ _ h
  refine wpAny_richCompare_same_room (op := .NotEq) ⟨_, gp, rfl⟩ ⟨_, gq, rfl⟩ F.slot_list_ne (call_here F.slot_list_ne ⟨_, gp, rfl⟩ F.entry_list_ne (F.args_list_ne_2 _ _) ?_) hu
  exact list_neG (R := wants (fun v z => v ≠ .notImplemented ∧ Q v z) E) p q M J hj (fun z y => ⟨(fun x => nomatch x), endd z y⟩) h
theorem rc_tup_ne {p q : Addr} {us vs : Array Value} {Q : Value → Shared → Prop} (hsz : us.size = vs.size) (hu : A.units < cLine) (J : Nat → Shared → Prop)
    (hp : s.heap.IsTuple p us) (hq : s.heap.IsTuple q vs)
    (turn : ∀ j (h1 : j < us.size) (h2 : j < vs.size) z, J j z → wpAny (model prog w) A.in1 (eqBool us[j] vs[j]) (fun r z => r = true ∧ J (j + 1) z) E z)
    (endd : ∀ z, J us.size z → Q (.bool false) z) (h : J 0 s) : wpAny (model prog w) A (richCompare .NotEq (.ref p) (.ref q)) Q E s := by
  obtain ⟨⟨cls, dp, data, sl⟩, go, hc, n, hd⟩ := id hp
  obtain ⟨⟨cls2, dq, data2, sl2⟩, go2, hc2, n2, hd2⟩ := id hq
  simp only at hc hd hc2 hd2
  subst hc hd hc2 hd2
  refine wpAny_richCompare_same_room (op := .NotEq) ⟨_, go, rfl⟩ ⟨_, go2, rfl⟩ F.slot_tuple_ne (call_here F.slot_tuple_ne ⟨_, go, rfl⟩ F.entry_tuple_ne (F.args_tuple_ne_2 _ _) ?_) hu
  exact tuple_neG (R := wants (fun v z => v ≠ .notImplemented ∧ Q v z) E) p q us vs n n2 dp dq sl sl2 hsz J turn (fun z y => ⟨(fun x => nomatch x), endd z y⟩) go go2 h
end
end PyI
namespace PyI
open PySem PySem.Spec PyProof.Rows L2
section
variable {X : Cx} {n : Nat} {D : Eqv}
/-- != gives False for what D says -/
def RnG (X : Cx) (n : Nat) (D : Eqv) : Prop :=
  ∀ (A : Around) (pins : List (Addr × Obj)) (s : Shared) (σ : L2.St) (H : Hp) (x y : V) (u v : Value), L2.Sub X n A → Inv X pins σ H s → RelV x u → RelV y v → D x y H →
    wpAny (model X.prog X.w) A (richCompare .NotEq u v) (fun r s' => r = .bool false ∧ ∃ H', Inv X pins σ H' s' ∧ L2.Ext H H') X.xe s
theorem rnG_list (hD : Mon D) (h : EqG X n D) : RnG X (n + 1) (DList D) := by
  intro A pins s σ H x y u v sb I rx ry d
  obtain ⟨a, b, xs, ys, rfl, rfl, ha, hb, pr⟩ := d
  cases rx
  cases ry
  refine rc_list_ne (M := xs.length) sb.room.units0 (fun _ z => LoopI X pins σ H z) (fun i z q => ?_) (fun z q => ⟨rfl, q⟩) ⟨H, I, L2.Ext.rfl'⟩
  obtain ⟨H1, I1, e1⟩ := id q
  obtain ⟨z1, its, k, r, e⟩ := I1.hok a _ (e1 _ _ ha)
  obtain ⟨z2, its2, k2, r2, e2⟩ := I1.hok b _ (e1 _ _ hb)
  exact ⟨its.toArray, its2.toArray, k, k2, e, e2, by rw [List.size_toArray, ← r.length], by rw [List.size_toArray, ← r2.length, ← pr.1], fun h1 h2 => turnG hD h sb pr r r2 i h1 h2 z q⟩
theorem rnG_tup (hD : Mon D) (h : EqG X n D) : RnG X (n + 1) (DTup X.K D) := by
  intro A pins s σ H x y u v sb I rx ry d
  obtain ⟨a, b, xs, ys, rfl, rfl, ha, hb, pr⟩ := d
  cases rx
  cases ry
  obtain ⟨its, r, e, z⟩ := I.tuple ha
  obtain ⟨its2, r2, e2, z2⟩ := I.tuple hb
  have hsz : its.toArray.size = its2.toArray.size := by rw [List.size_toArray, List.size_toArray, ← r.length, ← r2.length]; exact pr.1
  exact rc_tup_ne hsz sb.room.units0 (fun _ z => LoopI X pins σ H z) e e2 (fun i h1 h2 z q => turnG hD h sb pr r r2 i h1 h2 z q) (fun z q => ⟨rfl, q⟩) ⟨H, I, L2.Ext.rfl'⟩
theorem op_neG (h : RnG X n D) (hr : Room n X.A) : OpR X (compareOp .NotEq) (fun x y H Q => D x y H ∧ ∀ H', L2.Ext H H' → Q (.bl false) H') := by
  intro pins s σ H x y v u Q I rx ry ⟨d, q⟩
  show wpAny (model X.prog X.w) X.A (richCompare .NotEq v u) (EP X pins σ Q) X.xe s
  refine wpAny_mono (h X.A pins s σ H x y v u ⟨hr, rfl⟩ I rx ry d) (fun r s' ⟨hr', H', I', e⟩ => ?_) fun _ _ x => x
  subst hr'
  exact ⟨.bl false, H', I', rfl, q H' e⟩
end
/-- two own instances that their class calls equal, whatever else there is -/
def insEq1 (S : Sps) (F : FTs) : D → D → Bool
  | .ins c l, .ins c' m => (match S.spm c "__eq__" with
    | some k => (S.fst c (.own c') && S.isI c') && (match F.b k [.d (.ins c l), .d (.ins c' m)] [] with
      | .ok (.d (.bl true)) _ => true
      | _ => false)
    | none => false)
  | _, _ => false
def insEqs (S : Sps) (F : FTs) : List D → List D → Bool
  | [], [] => true
  | x :: xs, y :: ys => insEq1 S F x y && insEqs S F xs ys
  | _, _ => false
def eqIG (S : Sps) (alt : G2) : G2 := fun F a b st => match a, b with
  | .d (.lst (.ins c l :: xs)), .d (.lst ys) => if insEqs S F (.ins c l :: xs) ys = true then .d (.bl true) st else .no
  | .d (.tup (.ins c l :: xs)), .d (.tup ys) => if insEqs S F (.ins c l :: xs) ys = true then .d (.bl true) st else .no
  | a, b => alt F a b st
def neIG (S : Sps) (alt : G2) : G2 := fun F a b st => match a, b with
  | .d (.lst (.ins c l :: xs)), .d (.lst ys) => if insEqs S F (.ins c l :: xs) ys = true then .d (.bl false) st else .no
  | .d (.tup (.ins c l :: xs)), .d (.tup ys) => if insEqs S F (.ins c l :: xs) ys = true then .d (.bl false) st else .no
  | a, b => alt F a b st
section
variable {T : Tx} {N : List Str} {sc : Scope} {fn : Str → Bool} {F : FTs} {n : Nat} {W : WX} {X : Cx} {μ : Mu} {H : Hp} {st : Store}
theorem RD.none_ {d : D} {v : V} (r : RD T.toTb μ H d v) : RD T.toTb [] H d v := r.keep fun a o h => ⟨h.1, fun ⟨n, p, z, _⟩ => by simp at z⟩
theorem rds_none {ds : List D} {vs : List V} (r : RDs T.toTb μ H ds vs) : RDs T.toTb [] H ds vs := RDs.keep (fun a o h => ⟨h.1, fun ⟨n, p, z, _⟩ => by simp at z⟩) r
theorem RD.big {H' : Hp} {d : D} {v : V} (e : L2.Ext H H') (r : RD T.toTb [] H d v) : RD T.toTb [] H' d v := r.keep fun a o h => ⟨e a o h.1, h.2⟩
theorem RDs.big {H' : Hp} {d : List D} {v : List V} (e : L2.Ext H H') (r : RDs T.toTb [] H d v) : RDs T.toTb [] H' d v := RDs.keep (fun a o h => ⟨e a o h.1, h.2⟩) r
theorem At.big {H' : Hp} {a : Addr} {o : HO} (e : L2.Ext H H') (h : At μ H a o) : At μ H' a o := ⟨e _ _ h.1, h.2⟩
theorem Ext.big {H' : Hp} (e : L2.Ext H H') : Ext μ H μ H' := ⟨fun _ _ h => h.big e, Nat.le_refl _, fun _ _ _ h => h⟩
theorem Slt.big {H' : Hp} {a C dx : Addr} {vs : List (Option V)} (e : L2.Ext H H') (h : SlX.Slt H a C dx vs) : SlX.Slt H' a C dx vs := by
  rcases h with ⟨h1, h2⟩ | ⟨h1, h2⟩
  · exact .inl ⟨e _ _ h1, h2⟩
  · exact .inr ⟨e _ _ h1, e _ _ h2⟩
theorem RSt.big {H' : Hp} (e : L2.Ext H H') (r : RSt T.toTb μ H st) : RSt T.toTb μ H' st := by
  refine ⟨r.len, fun n so h => ?_, r.apart⟩
  obtain ⟨o, e1, s⟩ := r.at_ n so h
  refine ⟨o, e1, ?_⟩
  cases so with
  | dead => exact s
  | lst ds =>
    obtain ⟨a, xs, q1, q2, q3⟩ := s
    exact ⟨a, xs, q1, e _ _ q2, RDs.keep (fun _ _ h => h.big e) q3⟩
  | obj c fs =>
    obtain ⟨a, dx, vs, q1, q2, q3, ⟨u, q4⟩, q5⟩ := s
    exact ⟨a, dx, vs, q1, q2, Slt.big e q3, ⟨u, e _ _ q4⟩, RSl.keep (fun _ _ h => h.big e) q5⟩
theorem eqB_ins {pins : List (Addr × Obj)} {σ : L2.St} {s : Shared} {d e : D} {x y : V} {u v : Value} (g : GX T F n N sc fn W X) (I : Inv X pins σ H s) (rd : RD T.toTb [] H d x) (re : RD T.toTb [] H e y) (rx : RelV x u) (ry : RelV y v) (h : insEq1 T.sps F d e = true) :
    wpAny (model X.prog X.w) X.A.in1 (eqBool u v) (fun r s' => r = true ∧ LoopI X pins σ H s') X.xe s := by
  unfold insEq1 at h
  split at h
  · rename_i c l c' m
    split at h
    · rename_i k hk
      rw [Bool.and_eq_true, Bool.and_eq_true] at h
      obtain ⟨⟨hf, hi⟩, h⟩ := h
      have hv : ∃ st', F.b k [.d (.ins c l), .d (.ins c' m)] [] = .ok (.d (.bl true)) st' := by
        split at h
        · rename_i st' z; exact ⟨st', z⟩
        · cases h
      obtain ⟨st', hv⟩ := hv
      have rs0 : RSt T.toTb [] H [] := ⟨rfl, fun n so z => by simp at z, fun n m p q z => by simp at z⟩
      have ra : RV T.toTb [] H (.d (.ins c l)) x := .d rd
      have rb : RV T.toTb [] H (.d (.ins c' m)) y := .d re
      have hc : instC ([] : Store) (.d (.ins c l)) = some c := rfl
      have ht : tkD T.isI ([] : Store) (.d (.ins c' m)) = some (.own c') := if_pos hi
      obtain ⟨p, dx, vs, rfl, sl⟩ := instC_at rs0 ra hc
      obtain ⟨q, dy, ws, rfl, _⟩ := instC_at rs0 rb (show instC ([] : Store) (.d (.ins c' m)) = some c' from rfl)
      obtain rfl : u = Value.ref p := rx
      obtain rfl : v = Value.ref q := ry
      by_cases hab : p = q
      · subst hab
        exact SeqAt.EqAt.same (A := X.A.in1) (s := s) (.ref p) X.prog X.w X.xe _ ⟨rfl, H, I, L2.Ext.rfl'⟩
      · obtain ⟨s1, s2, s3, _⟩ := g.tx.sp c _ k hk
        rw [← g.hK] at s1 s2 s3
        obtain ⟨sl', od, _, J, _⟩ := SlX.slt_inst I sl
        obtain ⟨mm, hF⟩ := I.fr
        obtain ⟨P, Z, hP, _⟩ := kit_tk g I rs0 rb (show RelV (.ref q) (Value.ref q) from rfl) ht
        have hn := g.tx.fst c (.own c') hf
        rw [← g.hK] at hn
        refine GQ.eqBool_refG hab (PySem.W.cmp_K (op := .Eq) (tb := tkv T.toTb (.own c')) (show X.A.in1.units < cLine from by have := g.room.units; show X.A.units + 1 < cLine; omega) hF I.ok.mod.kin J (Z.ty _ _ I.kIn hP) hn s2 s3 ?_)
        have hp : POST T (atS W σ) [] H (F.b k [.d (.ins c l), .d (.ins c' m)] []) (fun v H' => v = .bl true ∧ L2.Ext H H') := by
          rw [hv]
          intro μ' v H' ex _ rv
          exact ⟨rd_bl rv, fun a o h => (ex.keep a o ⟨h, fun ⟨n, p, z, _⟩ => by simp at z⟩).1⟩
        refine wpAny_mono (run_b (A := X.A.in1) (us := [.ref p, .ref q]) (vs := [.ref p, .ref q]) g rfl I (.cons rfl (.cons rfl .nil)) rs0 (.cons ra (.cons rb .nil)) hp) (fun w s' z => ?_) fun _ _ x => x
        obtain ⟨z', H', I', rz, rfl, ex⟩ := z
        obtain rfl : w = Value.bool true := rz
        first
          | exact ⟨true, rfl, rfl, H', I', ex⟩
          | exact ⟨rfl, true, rfl, rfl, H', I', ex⟩
          | exact ⟨(fun x => nomatch x), true, rfl, rfl, H', I', ex⟩
    · cases h
  · cases h
theorem insEqs_get {S : Sps} : ∀ {ds es : List D}, insEqs S F ds es = true → ds.length = es.length ∧ ∀ (i : Nat) (d e : D), ds[i]? = some d → es[i]? = some e → insEq1 S F d e = true
  | [], [], _ => ⟨rfl, fun i d e h => by simp at h⟩
  | d :: ds, e :: es, h => by
    simp only [insEqs, Bool.and_eq_true] at h
    obtain ⟨h1, h2⟩ := insEqs_get h.2
    refine ⟨by simp [h1], fun i d' e' hd he => ?_⟩
    cases i with
    | zero => simp at hd he; subst hd he; exact h.1
    | succ i => exact h2 i d' e' (by simpa using hd) (by simpa using he)
  | [], _ :: _, h => by cases h
  | _ :: _, [], h => by cases h
/-- the loop over both, by the interpreter -/
theorem turn_ins {pins : List (Addr × Obj)} {σ : L2.St} {s : Shared} {ds es : List D} {xs ys : List V} {its its2 : List Value} (g : GX T F n N sc fn W X) (rd : RDs T.toTb [] H ds xs) (re : RDs T.toTb [] H es ys) (h : insEqs T.sps F ds es = true) (r : Vals xs its) (r2 : Vals ys its2)
    (i : Nat) (h1 : i < its.toArray.size) (h2 : i < its2.toArray.size) (l : LoopI X pins σ H s) : wpAny (model X.prog X.w) X.A.in1 (eqBool its.toArray[i] its2.toArray[i]) (fun r s2 => r = true ∧ LoopI X pins σ H s2) X.xe s := by
  obtain ⟨H1, I1, e1⟩ := l
  obtain ⟨hl, hq⟩ := insEqs_get h
  have k1 : i < xs.length := by rw [r.length]; simpa using h1
  have k2 : i < ys.length := by rw [r2.length]; simpa using h2
  obtain ⟨u, hu, ru⟩ := r.get (List.getElem?_eq_getElem k1)
  obtain ⟨v, hv, rv⟩ := r2.get (List.getElem?_eq_getElem k2)
  have g1 : its[i]? = some its.toArray[i] := by
    have h1' : i < its.length := by simpa using h1
    rw [List.getElem?_eq_getElem h1'] <;> simp
  have g2 : its2[i]? = some its2.toArray[i] := by
    have h2' : i < its2.length := by simpa using h2
    rw [List.getElem?_eq_getElem h2'] <;> simp
  rw [g1] at hu
  rw [g2] at hv
  rw [Option.some.inj hu, Option.some.inj hv]
  obtain ⟨d, hd, rdd⟩ := rd.getV (List.getElem?_eq_getElem k1)
  obtain ⟨e, he, ree⟩ := re.getV (List.getElem?_eq_getElem k2)
  refine wpAny_mono (eqB_ins g I1 (RD.big e1 rdd) (RD.big e1 ree) ru rv (hq i d e hd he)) (fun r s2 q => ?_) fun _ _ x => x
  obtain ⟨hr, H2, I2, e2⟩ := q
  exact ⟨hr, H2, I2, e1.trans e2⟩
theorem opok_eqI {alt : G2} (g : GX T F n N sc fn W X) (ha : OpOk T F W X (compareOp .Eq) alt) : OpOk T F W X (compareOp .Eq) (eqIG T.sps alt) := by
  intro pins s σ H μ st a b x y v u Q I rs ra rb rx ry h
  unfold eqIG at h
  split at h
  · split at h
    · rename_i c l xs ys hq
      cases ra with
      | d ra => cases rb with
        | d rb => cases ra with
          | lst hp rp => cases rb with
            | lst hp2 rp2 =>
              obtain rfl := rx
              obtain rfl := ry
              have hl := (insEqs_get hq).1
              have L1 := rp.length
              have L2' := rp2.length
              show wpAny (model X.prog X.w) X.A (richCompare .Eq _ _) (EP X pins σ Q) X.xe s
              refine GQ.rc_listG (N := (D.ins c l :: xs).length) g.room.units0 (fun _ z => LoopI X pins σ H z) (fun i z q => ?_) (fun z q => ?_) ⟨H, I, L2.Ext.rfl'⟩
              · obtain ⟨H1, I1, e1⟩ := id q
                obtain ⟨z1, its, k, r, e⟩ := I1.hok _ _ (e1 _ _ hp.1)
                obtain ⟨z2, its2, k2, r2, e2⟩ := I1.hok _ _ (e1 _ _ hp2.1)
                exact ⟨its.toArray, its2.toArray, k, k2, e, e2, by rw [List.size_toArray, ← r.length, L1], by rw [List.size_toArray, ← r2.length, ← L2', ← hl], fun h1 h2 => turn_ins g (rds_none rp) (rds_none rp2) hq r r2 i h1 h2 q⟩
              · obtain ⟨H1, I1, e1⟩ := q
                exact ⟨.bl true, H1, I1, rfl, h μ (.bl true) H1 (Ext.big e1) (RSt.big e1 rs) (.d (.bl true))⟩
    · exact h.elim
  · split at h
    · rename_i c l xs ys hq
      cases ra with
      | d ra => cases rb with
        | d rb => cases ra with
          | tup hp rp => cases rb with
            | tup hp2 rp2 =>
              obtain rfl := rx
              obtain rfl := ry
              have hl := (insEqs_get hq).1
              have L1 := rp.length
              have L2' := rp2.length
              have t1 := hp.sq
              have t2 := hp2.sq
              rw [← g.hK] at t1 t2
              obtain ⟨its, r, e, z⟩ := I.tuple t1
              obtain ⟨its2, r2, e2, z2⟩ := I.tuple t2
              show wpAny (model X.prog X.w) X.A (richCompare .Eq _ _) (EP X pins σ Q) X.xe s
              refine GQ.rc_tupG (by rw [List.size_toArray, List.size_toArray, ← r.length, ← r2.length, ← L1, ← L2']; exact hl) g.room.units0 (fun _ z => LoopI X pins σ H z) e e2 (fun i h1 h2 z q => turn_ins g (rds_none rp) (rds_none rp2) hq r r2 i h1 h2 q) (fun z q => ?_) ⟨H, I, L2.Ext.rfl'⟩
              obtain ⟨H1, I1, e1⟩ := q
              exact ⟨.bl true, H1, I1, rfl, h μ (.bl true) H1 (Ext.big e1) (RSt.big e1 rs) (.d (.bl true))⟩
    · exact h.elim
  · exact ha pins s σ H μ st _ _ x y v u Q I rs ra rb rx ry h
theorem opok_neI {alt : G2} (g : GX T F n N sc fn W X) (ha : OpOk T F W X (compareOp .NotEq) alt) : OpOk T F W X (compareOp .NotEq) (neIG T.sps alt) := by
  intro pins s σ H μ st a b x y v u Q I rs ra rb rx ry h
  unfold neIG at h
  split at h
  · split at h
    · rename_i c l xs ys hq
      cases ra with
      | d ra => cases rb with
        | d rb => cases ra with
          | lst hp rp => cases rb with
            | lst hp2 rp2 =>
              obtain rfl := rx
              obtain rfl := ry
              have hl := (insEqs_get hq).1
              have L1 := rp.length
              have L2' := rp2.length
              show wpAny (model X.prog X.w) X.A (richCompare .NotEq _ _) (EP X pins σ Q) X.xe s
              refine rc_list_ne (M := (D.ins c l :: xs).length) g.room.units0 (fun _ z => LoopI X pins σ H z) (fun i z q => ?_) (fun z q => ?_) ⟨H, I, L2.Ext.rfl'⟩
              · obtain ⟨H1, I1, e1⟩ := id q
                obtain ⟨z1, its, k, r, e⟩ := I1.hok _ _ (e1 _ _ hp.1)
                obtain ⟨z2, its2, k2, r2, e2⟩ := I1.hok _ _ (e1 _ _ hp2.1)
                exact ⟨its.toArray, its2.toArray, k, k2, e, e2, by rw [List.size_toArray, ← r.length, L1], by rw [List.size_toArray, ← r2.length, ← L2', ← hl], fun h1 h2 => turn_ins g (rds_none rp) (rds_none rp2) hq r r2 i h1 h2 q⟩
              · obtain ⟨H1, I1, e1⟩ := q
                exact ⟨.bl false, H1, I1, rfl, h μ (.bl false) H1 (Ext.big e1) (RSt.big e1 rs) (.d (.bl false))⟩
    · exact h.elim
  · split at h
    · rename_i c l xs ys hq
      cases ra with
      | d ra => cases rb with
        | d rb => cases ra with
          | tup hp rp => cases rb with
            | tup hp2 rp2 =>
              obtain rfl := rx
              obtain rfl := ry
              have hl := (insEqs_get hq).1
              have L1 := rp.length
              have L2' := rp2.length
              have t1 := hp.sq
              have t2 := hp2.sq
              rw [← g.hK] at t1 t2
              obtain ⟨its, r, e, z⟩ := I.tuple t1
              obtain ⟨its2, r2, e2, z2⟩ := I.tuple t2
              show wpAny (model X.prog X.w) X.A (richCompare .NotEq _ _) (EP X pins σ Q) X.xe s
              refine rc_tup_ne (by rw [List.size_toArray, List.size_toArray, ← r.length, ← r2.length, ← L1, ← L2']; exact hl) g.room.units0 (fun _ z => LoopI X pins σ H z) e e2 (fun i h1 h2 z q => turn_ins g (rds_none rp) (rds_none rp2) hq r r2 i h1 h2 q) (fun z q => ?_) ⟨H, I, L2.Ext.rfl'⟩
              obtain ⟨H1, I1, e1⟩ := q
              exact ⟨.bl false, H1, I1, rfl, h μ (.bl false) H1 (Ext.big e1) (RSt.big e1 rs) (.d (.bl false))⟩
    · exact h.elim
  · exact ha pins s σ H μ st _ _ x y v u Q I rs ra rb rx ry h
end
end PyI
namespace PyI
open PySem PySem.Spec PyProof.Rows L2
theorem meets_enum1 {v : Value} {o : Obj} {H : Heap → Prop} (B : PySem.Begins v o H) :
    Meets (Builtin.«enumerate.__new__» ⟨[.type "enumerate", v], []⟩) (fun _ R s => H s.heap ∧
      R (.ok (.ret (.ref (s.heap.push o).objs.size))) { s with heap := (s.heap.push o).push { cls := .type "enumerate", data := .fields #[.none, .bool false, .ref s.heap.objs.size, rawInt 0, .none, .none] } }) :=
  .of_wp fun prog w A R s h => by
    obtain ⟨hp, g, d, tk, os⟩ := s; obtain ⟨h1, h⟩ := h
    have hsub := sub_enumerate
    have q1 : ∀ {A' : Around} {E : Value → Shared → Prop} {Q : Value → Shared → Prop}, Q (.ref hp.objs.size) ⟨hp.push o, g, d, tk, os⟩ → wpAny (model prog w) A' (pyIter v) Q E ⟨hp, g, d, tk, os⟩ :=
      fun q => B.iter prog w _ _ ⟨hp, g, d, tk, os⟩ _ h1 q
    wp_walk using q1
    refine wpAny_stack_any fun st => wpAny_pure ?_
    split
    · rename_i c _ _ _ _ _
      cases (c == Value.type "enumerate")
      · wp_walk using q1
        exact ⟨_, rfl, h⟩
      · wp_walk using q1
        exact ⟨_, rfl, h⟩
    · wp_walk using q1
      exact ⟨_, rfl, h⟩
section
variable {prog : Program} {w : World} {A : Around} {E : Value → Shared → Prop} {s : Shared}
theorem call_enumT {t : Addr} {items : Array Value} {Q : Value → Shared → Prop} (hT : s.heap.IsTuple t items)
    (h : ∀ h', IsEnum h' (s.heap.objs.size + 1) s.heap.objs.size 0 .none → h'.IsTupleIter s.heap.objs.size t 0 → h'.objs.size = s.heap.objs.size + 2 →
      (∀ b o, s.heap.get? b = some o → h'.get? b = some o) → Q (.ref (s.heap.objs.size + 1)) { s with heap := h' }) :
    wpAny (model prog w) A (call (.type "enumerate") [.ref t]) Q E s := by
  refine callType_new F.called_enumerate (by decide) (F.typeCall_enumerate_1 _) (F.newCall_enumerate_1 _) (fun obj => F.args_object_init_2 obj _) F.entry_enumerate_new
    (meets_enum1 (PySem.begins_tuple t items)) ⟨hT, ?_⟩
  have hz : (s.heap.push { cls := .type "tuple_iterator", data := .fields #[.ref t, .int 0 0] }).objs.size = s.heap.objs.size + 1 := Heap.size_push ..
  show _ ∧ _
  rw [hz]
  have he : IsEnum ((s.heap.push { cls := .type "tuple_iterator", data := .fields #[.ref t, .int 0 0] }).push
      { cls := .type "enumerate", data := .fields #[.none, .bool false, .ref s.heap.objs.size, rawInt 0, .none, .none] }) (s.heap.objs.size + 1) s.heap.objs.size 0 .none := by
    have := Heap.get?_push_size (s.heap.push { cls := .type "tuple_iterator", data := .fields #[.ref t, .int 0 0] })
      (o := { cls := .type "enumerate", data := .fields #[.none, .bool false, .ref s.heap.objs.size, rawInt 0, .none, .none] }) rfl
    rw [hz] at this; exact this
  refine ⟨⟨_, he, rfl⟩, h _ he ⟨_, Heap.get?_push_of_some _ (Heap.get?_push_size _ rfl), rfl, rfl⟩ (by rw [Heap.size_push, hz]) fun b o x => Heap.get?_push_of_some _ (Heap.get?_push_of_some _ x)⟩
end
/-- the tuple at a at each turn, each item in a new pair -/
def IteT (K : PySem.W.Frag) (a : Addr) : It :=
  ⟨fun i H => ∃ (xs : List V) (x : V), SqT K H a xs ∧ xs[i]? = some x, fun i H v H' => ∃ p x, v = .ref p ∧ H p = none ∧ H' = upd H p (.tup [.int (i : Nat), x]) ∧ ∀ xs, SqT K H a xs → xs[i]? = some x, fun i H => ∃ xs : List V, SqT K H a xs ∧ xs.length ≤ i⟩
theorem turn_enumT {P : Program} {w : World} {K : PySem.W.Frag} {elts : List Expr} {kk : Nat} {tpos : Pos} (a e it : Addr) :
    Turn P w K (.Tuple elts kk tpos) (IteT K a) [e, it] e (fun i h => (∃ old, IsEnum h e it ((i : Nat) : Int) old) ∧ h.IsTupleIter it a i ∧ e ≠ it) where
  mem := by simp
  obj := fun i h st b hb => by
    obtain ⟨⟨old, he⟩, ⟨o, ho, hc, hd⟩, _⟩ := st
    have cases_ : b = e ∨ b = it := by simpa using hb
    rcases cases_ with z | z
    · rw [z]; exact ⟨_, he, fun v q => nomatch q⟩
    · rw [z]; exact ⟨o, ho, fun v q => by rw [hd] at q; cases q⟩
  keep := fun i h h' st k => let ⟨⟨old, he⟩, hi, hne⟩ := st; ⟨⟨old, k e (by simp) _ he⟩, hi.at fun o q => k it (by simp) o q, hne⟩
  item := by
    intro X hP hw hK hc i pins s σ H E I hf st hg
    subst hP hw hK
    obtain ⟨⟨old, he⟩, hit, hne⟩ := st
    obtain ⟨xs, x, hq, hx⟩ := hg
    obtain ⟨its, rv, p, hz⟩ := I.tuple hq
    obtain ⟨u, hu, ru⟩ := rv.get hx
    have pT : s.heap.IsTuple a its.toArray := p
    have hel : e < s.heap.objs.size := Heap.lt_size he
    have hil : it < s.heap.objs.size := by obtain ⟨_, q, _⟩ := hit; exact Heap.lt_size q
    have hea : e ≠ a := by
      rintro rfl
      obtain ⟨o, ho, hc', _⟩ := pT
      rw [he] at ho
      cases ho
      exact nomatch (show Value.type "enumerate" = Value.type "tuple" from hc')
    have hia : a ≠ it := by
      rintro rfl
      obtain ⟨o, ho, hc', _⟩ := pT
      obtain ⟨o2, ho2, hc2, _⟩ := hit
      rw [ho] at ho2
      cases ho2
      rw [hc'] at hc2
      exact nomatch hc2
    have hlt : i < its.toArray.size := by
      have := (List.getElem?_eq_some_iff.mp hu).1
      simpa using this
    refine PySem.wpAny_pyNext_enum_itemC (PySem.Draws.tuple (A := X.A.in1) (I.ok.hd hc) it a hia its.toArray) he ⟨hit, pT⟩ hlt hne (by simp [hne, hea]) fun x' h' tk px ho st' hT hsz hk => ?_
    have ex : x' = u := by
      have : its.toArray[i]? = some u := by simpa using hu
      exact Option.some.inj (px.symm.trans this)
    subst ex
    refine ⟨_, rfl, wpAny_letOwnedTupleGo_enum (s := { s with heap := h', toks := tk + 1 }) ho fun h'' he' sb => ?_⟩
    have hT2 : h''.get? s.heap.objs.size = some { cls := .type "tuple", data := .seq #[.int i tk, x'] } := (sb.2 _ (Nat.ne_of_gt hel)).trans hT
    have new : ObjOk X.prog X.w (upd H s.heap.objs.size (.tup [.int (i : Nat), x])) h'' s.heap.objs.size (.tup [.int (i : Nat), x]) :=
      ⟨by show 2 ≤ sizeLine; decide, [.int i tk, x'], .cons ⟨_, rfl⟩ (.cons ru .nil), ⟨_, hT2, rfl, _, rfl⟩⟩
    have I1 : Inv X pins σ (upd H s.heap.objs.size (.tup [.int (i : Nat), x])) { s with heap := h'', toks := tk + 1 } :=
      I.turnedNew (ch := [e, it]) (fun b ob hb q => (sb.2 b (fun z => hb (by simp [z]))).trans (hk b ob (fun z => hb (by simp [z])) (fun z => hb (by simp [z])) q)) hf (Nat.le_refl _) new
    refine ⟨.ref s.heap.objs.size, _, I1, rfl, ⟨_, x, rfl, I.hok.fresh (Nat.le_refl _), rfl, fun ys hy => by rw [I.tuple_inj hy hq]; exact hx⟩, ⟨⟨x', ?_⟩, st'.1.at fun o q => (sb.2 it (Ne.symm hne)).trans q, hne⟩, fun b hb => ?_⟩
    · have e1 : ((i + 1 : Nat) : Int) = (i : Int) + 1 := by omega
      rw [e1]; exact he'
    · have hb' : b < s.heap.objs.size := by
        have cases_ : b = e ∨ b = it := by simpa using hb
        rcases cases_ with z | z
        · rw [z]; exact hel
        · rw [z]; exact hil
      rw [upd_ne (Nat.ne_of_lt hb')]
      exact (hf b hb).1
  done := by
    intro X hP hw hK hc i pins s σ H E I hf st hg
    subst hP hw hK
    obtain ⟨⟨old, he⟩, hit, hne⟩ := st
    obtain ⟨xs, hq, hx⟩ := hg
    obtain ⟨its, rv, p, hz⟩ := I.tuple hq
    obtain ⟨f0, f1, f2, f3, f4, f5⟩ := hf it (by simp)
    have hl := rv.length
    have pT : s.heap.IsTuple a its.toArray := p
    have eT : s.TypeIs (.ref e) "enumerate" := ⟨_, he, rfl⟩
    unfold pyNext
    refine wpAny_bind (wpAny_attempt (wpAny_callSpecial?_slot (name := Str.ofString "__next__") eT PySem.F.slot_enumerate_next
      (wpAny_call_entry PySem.F.slot_enumerate_next eT PySem.F.entry_enumerate_next ?body (PySem.F.args_enumerate_next_1 _))))
    case body =>
      show wpAny (model X.prog X.w) _ (field (.ref e) 2 >>= _) _ _ _
      refine wpAny_bind (wpAny_field he rfl (x := .ref it) rfl (wpAny_bind (PySem.wpAny_nextOf_tuple_end (I.ok.hd hc) hit pT (by simp; omega) fun h' x eb hx' => ?_)))
      obtain ⟨ob, gb, cb⟩ := hx'
      refine wpAny_bind (wpAny_isInstance (T := "StopIteration") (b := true) ⟨ob, gb, cb⟩ isSubtype_stop (wpAny_pure ?_))
      exact ⟨rfl, I.turned (t' := s.toks) (fun b o hb q => eb b o hb q) f0 f1 f3 f4 f5⟩
  self := fun A i s Q E st h => let ⟨⟨_, he⟩, _⟩ := st; wpAny_pyIter_enum he h
def iEnumA (K : PySem.W.Frag) (ta : TA) : TI := fun σ H R => ta σ H fun vs H1 => ∃ a, vs = [.ref a] ∧ ((∃ xs, SqL K H1 a xs ∧ R (Ite K a) H1) ∨ (∃ xs, SqT K H1 a xs ∧ R (IteT K a) H1))
theorem pi_enumA {X : Cx} {e : Expr} {ta : TA} {p pos tpos : Pos} {elts : List Expr} {kk : Nat} (hg : Gl X "enumerate") (hm : X.mg "enumerate" = none) (ha : PA X [e] ta) (hs : starEach [e] X.env = [(false, eval e X.env)]) :
    PI X (.Tuple elts kk tpos) (.Call (.Name "enumerate" p) [e] [] pos) (iEnumA X.K ta) := by
  refine ⟨fun pins s σ H R I h => ?_⟩
  refine Call_ (ld_blt I hg hm boot_enumerate (PyProof.Rows.callWith_type1 (thn (ha.run pos pins s σ H _ I h) fun us s1 ⟨vs, H1, I1, r1, q1⟩ => ?_) hs rfl))
  obtain ⟨a, rfl, q⟩ := q1
  cases r1 with
  | cons r rr =>
    cases rr
    cases r
    have fp : ∀ (h' : Heap) (hk : ∀ b o, s1.heap.get? b = some o → h'.get? b = some o), ∀ b ∈ [s1.heap.objs.size + 1, s1.heap.objs.size], s1.heap.objs.size ≤ b := fun h' hk b hb => by
      have cases_ : b = s1.heap.objs.size + 1 ∨ b = s1.heap.objs.size := by simpa using hb
      rcases cases_ with z | z
      · rw [z]; exact Nat.le_add_right _ _
      · rw [z]; exact Nat.le_refl _
    rcases q with ⟨xs, hq, q⟩ | ⟨xs, hq, q⟩
    · obtain ⟨its, rv, p', hz⟩ := I1.list hq
      refine call_enumerate_list p'.isList fun h' he hit hsz hk => wpAny_pyIter_enum he ?_
      have I2 : Inv X pins σ H1 { s1 with heap := h' } := I1.kept (t' := s1.toks) hk
      exact ⟨s1.heap.objs.size + 1, [s1.heap.objs.size + 1, s1.heap.objs.size], _, _, H1, rfl, I2, turn_enum a (s1.heap.objs.size + 1) s1.heap.objs.size, ⟨⟨.none, he⟩, hit, Nat.succ_ne_self _⟩, fun b hb => I1.fpOk (fp h' hk b hb) (I1.hok.fresh (fp h' hk b hb)), q⟩
    · obtain ⟨its, rv, p', hz⟩ := I1.tuple hq
      refine call_enumT (show s1.heap.IsTuple a its.toArray from p') fun h' he hit hsz hk => wpAny_pyIter_enum he ?_
      have I2 : Inv X pins σ H1 { s1 with heap := h' } := I1.kept (t' := s1.toks) hk
      exact ⟨s1.heap.objs.size + 1, [s1.heap.objs.size + 1, s1.heap.objs.size], _, _, H1, rfl, I2, turn_enumT a (s1.heap.objs.size + 1) s1.heap.objs.size, ⟨⟨.none, he⟩, hit, Nat.succ_ne_self _⟩, fun b hb => I1.fpOk (fp h' hk b hb) (I1.hok.fresh (fp h' hk b hb)), q⟩
def enumL : Nat → List D → List D
  | _, [] => []
  | k, x :: r => .tup [.int k, x] :: enumL (k + 1) r
theorem enumL_get : ∀ {l : List D} {k i : Nat}, (enumL k l)[i]? = (l[i]?).map fun x => D.tup [.int ((k + i : Nat) : Int), x]
  | [], k, i => by simp [enumL]
  | x :: r, k, 0 => by simp [enumL]
  | x :: r, k, i + 1 => by
    have := enumL_get (l := r) (k := k + 1) (i := i)
    simp only [enumL, List.getElem?_cons_succ, this]
    rw [show k + 1 + i = k + (i + 1) by omega]
theorem enumL_len : ∀ {l : List D} {k : Nat}, (enumL k l).length = l.length
  | [], _ => rfl
  | _ :: r, k => by simp [enumL, enumL_len (l := r)]
def enumS (xs : List DV) (st : Store) : R Src := match xs with
  | [a] => (match datL a with
    | some l => .ok (.l (enumL 0 l)) st
    | none => (match datT a with
      | some l => .ok (.l (enumL 0 l)) st
      | none => .no))
  | _ => .no
section
variable {T : Tx} {N : List Str} {sc : Scope} {fn : Str → Bool} {F : FTs} {n : Nat} {W : WX} {X : Cx} {pos : Pos} {μ : Mu} {H : Hp} {st : Store}
theorem rsrc_enum {J : It} {l : List D} {xs : List V} (rx : RDs T.toTb μ H l xs)
    (h1 : ∀ μ' H', Ext μ H μ' H' → ∀ i, xs.length ≤ i → J.stop i H') (h2 : ∀ μ' H', Ext μ H μ' H' → ∀ i x, xs[i]? = some x → J.go i H')
    (h3 : ∀ μ' H', Ext μ H μ' H' → ∀ i v H'', J.yld i H' v H'' → ∃ p x, v = .ref p ∧ H' p = none ∧ H'' = upd H' p (.tup [.int (i : Nat), x]) ∧ xs[i]? = some x) : RSrc T μ H (.l (enumL 0 l)) J := by
  intro μ' H' e i
  have rx' := RDs.ext e rx
  refine ⟨fun q => h1 _ _ e i (by rw [enumL_len] at q; rw [← rx'.length]; omega), fun d hd => ?_⟩
  rw [enumL_get, Nat.zero_add] at hd
  cases hl : l[i]? with
  | none => rw [hl] at hd; cases hd
  | some z =>
    rw [hl] at hd
    cases hd
    obtain ⟨x, hx, rx2⟩ := rx'.get hl
    refine ⟨h2 _ _ e i x hx, fun v H'' st rs q => ?_⟩
    obtain ⟨p, x', rfl, hp, rfl, hx'⟩ := h3 _ _ e i v H'' q
    rw [hx] at hx'; cases hx'
    exact ⟨μ', Ext.new hp, rs.new hp, new_tup rs hp (.cons (.int _) (.cons rx2 .nil))⟩
theorem iok_enum {e : Expr} {x : Str} {p : Pos} {a : AF} {elts : List Expr} {kk : Nat} {tpos : Pos} (hx : x = "enumerate") (hg : globB sc x = true) (hG : T.G x = some .blt) (hs : notStar e = true) (ha : AOk T N sc fn [e] a) :
    IOk T N sc fn (.Tuple elts kk tpos) (.Call (.Name x p) [e] [] pos) (iRng enumS a) := by
  subst hx
  intro F n W X g
  refine PI.imp (pi_enumA (gl_of g hg) (g.tx.blt _ hG) (ha F n W X g) (starEach_plain hs)) fun σ H R ⟨μ, env, st, re, rs, h⟩ => ?_
  refine ⟨μ, env, st, re, rs, PST.mono (PST.bind (Rel := RVs T.toTb) h) fun vs H1 ⟨μ1, ds, st1, e1, rs1, rd, h1⟩ => ?_⟩
  dsimp only at h1
  unfold enumS at h1
  split at h1
  · obtain ⟨v, rfl, rv⟩ := rvs1 rd
    split at h1
    · rename_i l q1
      obtain ⟨a, xs, rfl, hx, rx⟩ := datL_at (K := X.K) g.hK rv q1
      refine ⟨a, rfl, .inl ⟨xs, hx _ _ .refl, h1.done rs1 (rsrc_enum rx (fun μ' H' e i q => ⟨xs, hx _ _ e, q⟩) (fun μ' H' e i x q => ⟨xs, x, hx _ _ e, q⟩) fun μ' H' e i v H'' ⟨p, x, z1, z2, z3, z4⟩ => ⟨p, x, z1, z2, z3, z4 _ (hx _ _ e)⟩)⟩⟩
    · split at h1
      · rename_i l q1
        obtain ⟨a, xs, rfl, hx, rx⟩ := datT_at (K := X.K) g.hK rv q1
        refine ⟨a, rfl, .inr ⟨xs, hx _ _ .refl, h1.done rs1 (rsrc_enum rx (fun μ' H' e i q => ⟨xs, hx _ _ e, q⟩) (fun μ' H' e i x q => ⟨xs, x, hx _ _ e, q⟩) fun μ' H' e i v H'' ⟨p, x, z1, z2, z3, z4⟩ => ⟨p, x, z1, z2, z3, z4 _ (hx _ _ e)⟩)⟩⟩
      · exact h1.elim
  · exact h1.elim
end
end PyI
namespace PyI
open PySem PySem.SeqAt L2 PySem.W PySem.SeqAt
/-- what a comparison of two tuples answers -/
inductive Od | lt | le | gt | ge
def Od.q : Od → PyData → PyData → Bool
  | .lt, a, b => dataLt a b
  | .gt, a, b => dataLt b a
  | .le, a, b => !dataLt b a
  | .ge, a, b => !dataLt a b
def Od.op : Od → CmpOp
  | .lt => .Lt
  | .gt => .Gt
  | .le => .LtE
  | .ge => .GtE
def tupT (o : Od) (alt : G2) : G2 := fun F a b st => match a, b with
  | .d (.tup l), .d (.tup m) => match pyd 64 (.tup l), pyd 64 (.tup m) with
    | some (.tuple p), some (.tuple q) => if alike (.tuple p) (.tuple q) = true then .d (.bl (o.q (.tuple p) (.tuple q))) st else .no
    | _, _ => .no
  | _, _ => alt F a b st
section
variable {T : Tx} {N : List Str} {sc : Scope} {fn : Str → Bool} {F : FTs} {n : Nat} {W : WX} {X : Cx}
theorem opok_tupT {o : Od} {alt : G2} (g : GX T F n N sc fn W X) (ha : OpOk T F W X (compareOp o.op) alt) : OpOk T F W X (compareOp o.op) (tupT o alt) := by
  intro pins s σ H μ st a b x y v u Q I rs ra rb rx ry h
  unfold tupT at h
  split at h
  · split at h
    · rename_i p q e1 e2
      split at h
      · rename_i hal
        cases ra with
        | d ra =>
        cases rb with
        | d rb =>
        obtain ⟨h1, d1, _⟩ := pyd_dp 64 _ _ _ ra e1
        obtain ⟨h3, d2, _⟩ := pyd_dp 64 _ _ _ rb e2
        rw [← g.hK] at h1 h3
        obtain ⟨as, r1⟩ := Dp.reads I _ x v h1 rx
        obtain ⟨bs, r2⟩ := Dp.reads I _ y u h3 ry
        have hu := g.room.units
        have hd : X.A.units + min (PyData.tuple p).depth (PyData.tuple q).depth < cLine := by omega
        have hn : PyData.tuple p ≠ .none := fun e => by cases e
        cases o with
        | lt => exact lt_data r1 r2 hal hn hd (h.done rs (.d (.bl _)) |> fun q => ⟨.bl _, H, I, rfl, q⟩)
        | gt => exact gt_data r1 r2 hal hn hd (h.done rs (.d (.bl _)) |> fun q => ⟨.bl _, H, I, rfl, q⟩)
        | le => exact le_data r1 r2 hal hn hd (h.done rs (.d (.bl _)) |> fun q => ⟨.bl _, H, I, rfl, q⟩)
        | ge => exact ge_data r1 r2 hal hn hd (h.done rs (.d (.bl _)) |> fun q => ⟨.bl _, H, I, rfl, q⟩)
      · exact h.elim
    · exact h.elim
  · exact ha pins s σ H μ st _ _ x y v u Q I rs ra rb rx ry h
theorem opok_ltT (g : GX T F n N sc fn W X) : OpOk T F W X (compareOp .Lt) (cmpOwn T.sps "__lt__" (tupT .lt (cmpI fun i j => decide (i < j)))) := opok_own g (fun _ _ => rfl) (opok_tupT (o := .lt) g (opok_lt g))
theorem opok_leT (g : GX T F n N sc fn W X) : OpOk T F W X (compareOp .LtE) (cmpOwn T.sps "__le__" (tupT .le (cmpI fun i j => decide (i ≤ j)))) := opok_own g (fun _ _ => rfl) (opok_tupT (o := .le) g (opok_le g))
theorem opok_gtT (g : GX T F n N sc fn W X) : OpOk T F W X (compareOp .Gt) (cmpOwn T.sps "__gt__" (tupT .gt (cmpI fun i j => decide (j < i)))) := opok_own g (fun _ _ => rfl) (opok_tupT (o := .gt) g (opok_gt g))
theorem opok_geT (g : GX T F n N sc fn W X) : OpOk T F W X (compareOp .GtE) (cmpOwn T.sps "__ge__" (tupT .ge (cmpI fun i j => decide (j ≤ i)))) := opok_own g (fun _ _ => rfl) (opok_tupT (o := .ge) g (opok_ge g))
end
end PyI
namespace PyI
open PySem PySem.Spec PyProof.Rows L2
/-- where a text is read: the slots' names, the scope, the cells of the entry, the names whose lists change, does the function hand out a place -/
structure Cfg where
  N : List Str
  sc : Scope
  fn : Str → Bool
  mu : List Str
  keep : Bool
  all : Option (PLift (∀ x, fn x = true))
abbrev ME (T : Tx) (g : Cfg) (e : Expr) := { f : EF // EOk T g.N g.sc g.fn e f }
abbrev MT (T : Tx) (g : Cfg) (e : Expr) := { f : EF // TOk T g.N g.sc g.fn e f }
abbrev MA (T : Tx) (g : Cfg) (e : List Expr) := { f : AF // AOk T g.N g.sc g.fn e f }
abbrev ML (T : Tx) (g : Cfg) (e : Expr) := { f : LF // LOk T g.N g.sc g.fn e f }
abbrev MS (T : Tx) (g : Cfg) (e : Stmt) := { f : SF // SOk T g.N g.sc g.fn e f }
abbrev MSs (T : Tx) (g : Cfg) (e : List Stmt) := { f : SF // SsOk T g.N g.sc g.fn e f }
abbrev MG' (T : Tx) (g : Cfg) (e : Expr) := { f : GF // GOk T g.N g.sc g.fn e f }
abbrev MGs (T : Tx) (g : Cfg) (e : List Expr) := { f : GsF // GsOk T g.N g.sc g.fn e f }
abbrev MW (T : Tx) (g : Cfg) (vs : List Nat) (e : Expr) := { f : WF // GwOk T g.N g.sc g.fn vs e f }
abbrev MWs (T : Tx) (g : Cfg) (vs : List Nat) (e : List Expr) := { f : List D → DEnv → Option DEnv // GswOk T g.N g.sc g.fn vs e f }
abbrev MI (T : Tx) (g : Cfg) (tg e : Expr) := { f : IF // IOk T g.N g.sc g.fn tg e f }
section
variable {T : Tx} {g : Cfg}
def noE {e : Expr} : ME T g e := ⟨fun _ _ _ => .no, fun F n W X gx => ⟨fun pins s σ H Q I ⟨_, _, _, _, _, h⟩ => h.elim⟩⟩
def noC {e : Expr} : MT T g e := ⟨fun _ _ _ => .no, fun F n W X gx => ⟨fun pins s σ H Q I ⟨_, _, _, _, _, h⟩ => h.elim⟩⟩
def noA {e : List Expr} : MA T g e := ⟨fun _ _ _ => .no, fun F n W X gx => ⟨fun p pins s σ H Q I ⟨_, _, _, _, _, h⟩ => h.elim⟩⟩
def noS {e : Stmt} : MS T g e := ⟨fun _ _ _ => .no, fun F n W X gx => ⟨fun pins s σ H D I ⟨_, _, _, _, _, h⟩ => h.elim⟩⟩
def noSs {e : List Stmt} : MSs T g e := ⟨fun _ _ _ => .no, fun F n W X gx => ⟨fun pins s σ H D I ⟨_, _, _, _, _, h⟩ => h.elim⟩⟩
def noG {e : Expr} : MG' T g e := ⟨fun _ _ _ _ => .no, fun F n W X gx => ⟨fun pins s σ H v u Q I r ⟨_, _, _, _, _, _, _, h⟩ => h.elim⟩⟩
def noGs {e : List Expr} : MGs T g e := ⟨fun _ _ _ _ => .no, fun F n W X gx => ⟨fun pins s σ H v u Q I r ⟨_, _, _, _, _, _, _, h⟩ => h.elim⟩⟩
def noW {vs : List Nat} {e : Expr} : MW T g vs e := ⟨fun _ _ => none, fun F n W X gx => ⟨fun pins s σ H v u Q I r ⟨_, _, _, _, _, h⟩ => h.elim⟩⟩
def noWs {vs : List Nat} {e : List Expr} : MWs T g vs e := ⟨fun _ _ => none, fun F n W X gx => ⟨fun pins s σ H v u Q I r ⟨_, _, _, _, _, h⟩ => h.elim⟩⟩
def noI {tg e : Expr} : MI T g tg e := ⟨fun _ _ _ => .no, fun F n W X gx => ⟨fun pins s σ H Q I ⟨_, _, _, _, _, h⟩ => h.elim⟩⟩
def notSuper : Expr → Bool
  | .Call (.Name id _) [] [] _ => id != "super"
  | _ => true
theorem base_of {o : Expr} {f : Str} (h : notSuper o = true) (env : Env) (whole : Sem Value) : attributeBase o f env whole = whole := by
  unfold attributeBase
  unfold notSuper at h
  split at h
  · show (if (_ || _ || _ || _) = true then _ else _) = whole
    rw [if_pos (by rw [h]; rfl)]
  · rename_i hn
    split
    · rename_i id p pos
      exact absurd rfl (hn id p pos)
    · rfl
def plainIx : Expr → Bool
  | .Slice .. => false
  | _ => true
theorem plainIx_of {b : Expr} (h : plainIx b = true) : PlainIx b := by
  intro o i
  cases b <;> first | rfl | cases h
theorem plainIx_py {b : Expr} (h : plainIx b = true) : ∀ x i : Value, subscripted b true x i = runValue (.builtin "lifetime.subscript" ⟨[x, i], []⟩) := by
  intro o i
  cases b <;> first | rfl | cases h
def plainT : Expr → Bool
  | .BoolOp .. => false
  | .UnaryOp .Not .. => false
  | .Compare .. => false
  | .IfExp .. => false
  | _ => true
theorem plainT_of {e : Expr} (h : plainT e = true) : ∀ env whole, isTrue e env whole = (do let v ← whole; standAt e.pos; holding [v] (truthy v)) := by
  intro env whole
  cases e <;> first
    | rfl
    | cases h
    | (rename_i op _ _; cases op <;> first | rfl | cases h)
def notSet : Expr → Bool
  | .Set .. => false
  | _ => true
theorem notSet_of {e : Expr} (h : notSet e = true) : ∀ env x, foldedSetIterable e env x = pure x := by
  intro env x
  cases e <;> first | rfl | cases h
theorem eval_meth {o : Expr} {name : Str} {apos pos : Pos} {es : List Expr} (hb : notSuper o = true) (hs : es.all notStar = true) (hl : es.length < 30) (hline : (apos.endLine == pos.line) = true) (env : Env) :
    eval (.Call (.Attribute o name apos) es [] pos) env = (do
      let ov ← eval o env
      standAt apos.atName
      let (f, first) ← holding [ov] (getMethod ov name (do return (← importBound o env).getD true))
      callWith pos f first (backTo pos (starEach es env)) (backToKw pos (keywordEach [] env))) := by
  show (do
    let ov ← attributeBase o name env (eval o env)
    standAt apos.atName
    methodCall o name apos pos env ov (es.length + ([] : List Keyword).length) (backTo pos (starEach es env)) (backToKw pos (keywordEach [] env))) = _
  rw [base_of hb]
  have few : methodCallForm (es.length + ([] : List Keyword).length) (backTo pos (starEach es env)) (backToKw pos (keywordEach [] env)) = true := by
    have q := few_of (env := env) (cpos := pos) hs hl
    exact q
  unfold methodCall calleeOf methodCallPos
  rw [few, hline]
  rfl
end
structure BI (T : Tx) where
  x : Str
  id : String
  g : BG
  hv : bootBuiltins x = some (.builtin id)
  hn : x ≠ "__name__"
  hd : (x == ("__debug__" : Str)) = false
  ok : ∀ N sc fn F n W X, GX T F n N sc fn W X → CallOk T F W X (.builtin id) g
structure BT (T : Tx) where
  x : Str
  id : String
  g : BG
  hv : bootBuiltins x = some (.type id)
  hn : x ≠ "__name__"
  hd : (x == ("__debug__" : Str)) = false
  ok : ∀ N sc fn F n W X, GX T F n N sc fn W X → CallOk T F W X (.type id) g
structure BM (T : Tx) where
  x : Str
  ty : String
  id : String
  g : MG
  pa : PlainAttrs ty
  slot : Slot ty x id
  hty : typeOf (.builtin id) = pure (.type "method_descriptor")
  ok : ∀ N sc fn F n W X, GX T F n N sc fn W X → MthOk T F X id g
def bis (T : Tx) : List (BI T) := [
  ⟨"len", "len", lenOwn T.sps, by decide +kernel, by decide +kernel, by decide +kernel, fun _ _ _ _ _ _ _ g => cok_lenO g⟩,
  ⟨"isinstance", "isinstance", isiG T.isI T.isa, by decide +kernel, by decide +kernel, by decide +kernel, fun _ _ _ _ _ _ _ g => cok_isi g⟩,
  ⟨"repr", "repr", reprG, by decide +kernel, by decide +kernel, by decide +kernel, fun _ _ _ _ _ _ _ g => cok_repr g⟩,
  ⟨"abs", "abs", absG, by decide +kernel, by decide +kernel, by decide +kernel, fun _ _ _ _ _ _ _ g => cok_abs g⟩,
  ⟨"sum", "sum", sumTG, by decide +kernel, by decide +kernel, by decide +kernel, fun _ _ _ _ _ _ _ g => cok_sumT g⟩,
  ⟨"max", "max", mxTG true maxG, by decide +kernel, by decide +kernel, by decide +kernel, fun _ _ _ _ _ _ _ g => cok_maxT g⟩,
  ⟨"min", "min", mxTG false minG, by decide +kernel, by decide +kernel, by decide +kernel, fun _ _ _ _ _ _ _ g => cok_minT g⟩,
  ⟨"all", "all", allG, by decide +kernel, by decide +kernel, by decide +kernel, fun _ _ _ _ _ _ _ g => cok_all g⟩,
  ⟨"any", "any", anyG, by decide +kernel, by decide +kernel, by decide +kernel, fun _ _ _ _ _ _ _ g => cok_any g⟩,
  ⟨"sorted", "sorted", sortedG, by decide +kernel, by decide +kernel, by decide +kernel, fun _ _ _ _ _ _ _ g => cok_sorted g⟩]
def bts (T : Tx) : List (BT T) := [
  ⟨"int", "int", intG, by decide +kernel, by decide +kernel, by decide +kernel, fun _ _ _ _ _ _ _ g => cok_int g⟩,
  ⟨"str", "str", strG, by decide +kernel, by decide +kernel, by decide +kernel, fun _ _ _ _ _ _ _ g => cok_str g⟩,
  ⟨"tuple", "tuple", tupleG, by decide +kernel, by decide +kernel, by decide +kernel, fun _ _ _ _ _ _ _ g => cok_tuple g⟩,
  ⟨"bool", "bool", boolG T.sps, by decide +kernel, by decide +kernel, by decide +kernel, fun _ _ _ _ _ _ _ g => cok_bool g⟩,
  ⟨"list", "list", listG T.itr, by decide +kernel, by decide +kernel, by decide +kernel, fun _ _ _ _ _ _ _ g => cok_list g⟩]
def bms (T : Tx) : List (BM T) := [
  ⟨"append", "list", "list.append", appendG, F.plainAttrs_list, F.slot_list_append, F.type_list_append, fun _ _ _ _ _ _ _ _ => mok_append⟩,
  ⟨"extend", "list", "list.extend", extendG, F.plainAttrs_list, F.slot_list_extend, F.type_list_extend, fun _ _ _ _ _ _ _ _ => mok_extend⟩,
  ⟨"pop", "list", "list.pop", popG, F.plainAttrs_list, F.slot_list_pop, F.type_list_pop, fun _ _ _ _ _ _ _ _ => mok_pop⟩,
  ⟨"reverse", "list", "list.reverse", reverseG, F.plainAttrs_list, F.slot_list_reverse, F.type_list_reverse, fun _ _ _ _ _ _ _ _ => mok_reverse⟩,
  ⟨"join", "str", "str.join", joinG, F.plainAttrs_str, F.slot_str_join, F.type_str_join, fun _ _ _ _ _ _ _ g => mok_join g.hK⟩,
  ⟨"split", "str", "str.split", splitG, F.plainAttrs_str, F.slot_str_split, F.type_str_split, fun _ _ _ _ _ _ _ _ => mok_split⟩,
  ⟨"partition", "str", "str.partition", partitionG, F.plainAttrs_str, F.slot_str_partition, F.type_str_partition, fun _ _ _ _ _ _ _ _ => mok_partition⟩]
end PyI
namespace PyI
open PySem PySem.Spec PyProof.Rows L2
structure Cmp (T : Tx) where
  E : ∀ (g : Cfg) (e : Expr), ME T g e
  C : ∀ (g : Cfg) (e : Expr), MT T g e
  A : ∀ (g : Cfg) (e : List Expr), MA T g e
  L : ∀ (g : Cfg) (e : Expr), Option (ML T g e)
  G : ∀ (g : Cfg) (e : Expr), MG' T g e
  W : ∀ (g : Cfg) (vs : List Nat) (e : Expr), MW T g vs e
  I : ∀ (g : Cfg) (tg e : Expr), MI T g tg e
section
variable {T : Tx}
def stName (g : Cfg) (x : Str) (pos : Pos) : ME T g (.Name x pos) :=
  if hv : visB g.sc x = true then
    (if h : g.N[g.N.idxOf x]? = some x ∧ (x == ("__debug__" : Str)) = false ∧ (x == ("__classdict__" : Str)) = false then ⟨cVar (g.N.idxOf x), ok_var h.1 hv h.2.1 h.2.2⟩ else noE)
  else if h : globB g.sc x = true ∧ (x == ("__debug__" : Str)) = false then
    (match hG : T.G x with
    | some (.val d) => ⟨cCon d, ok_gval h.1 hG h.2⟩
    | some (.cls c) => ⟨cCon (.cls c), ok_gcls h.1 hG h.2⟩
    | some (.fn k) => ⟨cCon (.fn k), ok_gfn h.1 hG h.2⟩
    | some .blt => (match hb : bootBuiltins x with
      | some (.type id) => if hn : x ≠ "__name__" then ⟨cCon (.ty id), ok_gty h.1 hG hb hn h.2⟩ else noE
      | _ => noE)
    | none => noE)
  else noE
def stBin (g : Cfg) (a b : Expr) (pos : Pos) (fa : ME T g a) (fb : ME T g b) : (op : Operator) → ME T g (.BinOp a op b pos)
  | .Add => ⟨c2 (binOwn T.sps .Add addG) fa.1 fb.1, ok_bin (fun _ _ _ _ gx => opok_binOwn gx (opok_add gx)) fa.2 fb.2⟩
  | .Sub => ⟨c2 (binOwn T.sps .Sub subG) fa.1 fb.1, ok_bin (fun _ _ _ _ gx => opok_binOwn gx (opok_sub gx)) fa.2 fb.2⟩
  | .Mult => ⟨c2 (binOwn T.sps .Mult mulG) fa.1 fb.1, ok_bin (fun _ _ _ _ gx => opok_binOwn gx (opok_mul gx)) fa.2 fb.2⟩
  | .FloorDiv => ⟨c2 (binOwn T.sps .FloorDiv fdivG) fa.1 fb.1, ok_bin (fun _ _ _ _ gx => opok_binOwn gx (opok_fdiv gx)) fa.2 fb.2⟩
  | .Mod => ⟨c2 (binOwn T.sps .Mod modG) fa.1 fb.1, ok_bin (fun _ _ _ _ gx => opok_binOwn gx (opok_mod gx)) fa.2 fb.2⟩
  | .Pow => ⟨c2 (binOwn T.sps .Pow powG) fa.1 fb.1, ok_bin (fun _ _ _ _ gx => opok_binOwn gx (opok_pow gx)) fa.2 fb.2⟩
  | _ => noE
def isNoneE : Expr → Bool
  | .Constant .none _ _ => true
  | _ => false
def stCmp (g : Cfg) (a b : Expr) (pos : Pos) (fa : ME T g a) (fb : ME T g b) (op : CmpOp) : ME T g (.Compare a [op] [b] pos) :=
  if hm : behindInMarks op b = false then
    (match op, hm with
    | .Eq, hm => ⟨c2 (eqIG T.sps (cmpOwn T.sps "__eq__" eqG)) fa.1 fb.1, ok_cmp (fun _ _ _ _ gx => opok_eqI gx (opok_eq gx)) fa.2 fb.2 hm⟩
    | .NotEq, hm => ⟨c2 (neIG T.sps (neOwn T.sps neG)) fa.1 fb.1, ok_cmp (fun _ _ _ _ gx => opok_neI gx (opok_ne gx)) fa.2 fb.2 hm⟩
    | .Lt, hm => ⟨c2 (cmpOwn T.sps "__lt__" (tupT .lt (cmpI fun i j => decide (i < j)))) fa.1 fb.1, ok_cmp (fun _ _ _ _ gx => opok_ltT gx) fa.2 fb.2 hm⟩
    | .LtE, hm => ⟨c2 (cmpOwn T.sps "__le__" (tupT .le (cmpI fun i j => decide (i ≤ j)))) fa.1 fb.1, ok_cmp (fun _ _ _ _ gx => opok_leT gx) fa.2 fb.2 hm⟩
    | .Gt, hm => ⟨c2 (cmpOwn T.sps "__gt__" (tupT .gt (cmpI fun i j => decide (j < i)))) fa.1 fb.1, ok_cmp (fun _ _ _ _ gx => opok_gtT gx) fa.2 fb.2 hm⟩
    | .GtE, hm => ⟨c2 (cmpOwn T.sps "__ge__" (tupT .ge (cmpI fun i j => decide (j ≤ i)))) fa.1 fb.1, ok_cmp (fun _ _ _ _ gx => opok_geT gx) fa.2 fb.2 hm⟩
    | .Is, hm => ⟨c2 isNG fa.1 fb.1, ok_cmp (fun _ _ _ _ gx => opok_isN gx) fa.2 fb.2 hm⟩
    | .IsNot, hm => ⟨c2 notNG fa.1 fb.1, ok_cmp (fun _ _ _ _ gx => opok_notN gx) fa.2 fb.2 hm⟩
    | _, _ => noE)
  else noE
def stTCmp (g : Cfg) (a b : Expr) (pos : Pos) (fa : ME T g a) (fb : ME T g b) (op : CmpOp) : MT T g (.Compare a [op] [b] pos) :=
  if hm : behindInMarks op b = false then
    (match op, hm with
    | .Eq, hm => ⟨c2 (eqIG T.sps (cmpOwn T.sps "__eq__" eqG)) fa.1 fb.1, tok_cmp (fun _ _ _ _ gx => opok_eqI gx (opok_eq gx)) fa.2 fb.2 hm⟩
    | .NotEq, hm => ⟨c2 (neIG T.sps (neOwn T.sps neG)) fa.1 fb.1, tok_cmp (fun _ _ _ _ gx => opok_neI gx (opok_ne gx)) fa.2 fb.2 hm⟩
    | .Lt, hm => ⟨c2 (cmpOwn T.sps "__lt__" (tupT .lt (cmpI fun i j => decide (i < j)))) fa.1 fb.1, tok_cmp (fun _ _ _ _ gx => opok_ltT gx) fa.2 fb.2 hm⟩
    | .LtE, hm => ⟨c2 (cmpOwn T.sps "__le__" (tupT .le (cmpI fun i j => decide (i ≤ j)))) fa.1 fb.1, tok_cmp (fun _ _ _ _ gx => opok_leT gx) fa.2 fb.2 hm⟩
    | .Gt, hm => ⟨c2 (cmpOwn T.sps "__gt__" (tupT .gt (cmpI fun i j => decide (j < i)))) fa.1 fb.1, tok_cmp (fun _ _ _ _ gx => opok_gtT gx) fa.2 fb.2 hm⟩
    | .GtE, hm => ⟨c2 (cmpOwn T.sps "__ge__" (tupT .ge (cmpI fun i j => decide (j ≤ i)))) fa.1 fb.1, tok_cmp (fun _ _ _ _ gx => opok_geT gx) fa.2 fb.2 hm⟩
    | .Is, hm => ⟨c2 isNG fa.1 fb.1, tok_cmp (fun _ _ _ _ gx => opok_isN gx) fa.2 fb.2 hm⟩
    | .IsNot, hm => ⟨c2 notNG fa.1 fb.1, tok_cmp (fun _ _ _ _ gx => opok_notN gx) fa.2 fb.2 hm⟩
    | _, _ => noC)
  else noC
/-- an order of whole numbers -/
def icmp : (op : CmpOp) → Option { p : Int → Int → Bool // ICmp op p }
  | .Lt => some ⟨_, icmp_lt⟩
  | .LtE => some ⟨_, icmp_le⟩
  | .Gt => some ⟨_, icmp_gt⟩
  | .GtE => some ⟨_, icmp_ge⟩
  | _ => none
def findB {α : Type} (f : α → Str) (x : Str) : (l : List α) → Option { b : α // f b = x }
  | [] => none
  | b :: r => if h : f b = x then some ⟨b, h⟩ else findB f x r
def stCall (g : Cfg) (x : Str) (p : Pos) (e : Expr) (es : List Expr) (pos : Pos) (fa : MA T g (e :: es)) : ME T g (.Call (.Name x p) (e :: es) [] pos) :=
  if h : globB g.sc x = true ∧ (x == ("__debug__" : Str)) = false ∧ (e :: es).all notStar = true then
    (match hG : T.G x with
    | some (.fn k) => ⟨cCall k fa.1, ok_call h.1 hG h.2.1 h.2.2 fa.2⟩
    | some (.cls c) => (match hi : T.init c with
      | some k => ⟨cMake c k fa.1, ok_make h.1 hG hi h.2.1 h.2.2 fa.2⟩
      | none => noE)
    | some .blt => (match findB BI.x x (bis T) with
      | some ⟨b, hb⟩ => ⟨cB b.g fa.1, ok_callB h.1 hG ((congrArg bootBuiltins hb).symm.trans b.hv) (fun F n W X gx => b.ok _ _ _ F n W X gx) (fun e => b.hn (hb.trans e)) h.2.1 h.2.2 fa.2⟩
      | none => (match findB BT.x x (bts T) with
        | some ⟨b, hb⟩ => ⟨cB b.g fa.1, ok_callTy h.1 hG ((congrArg bootBuiltins hb).symm.trans b.hv) (fun F n W X gx => b.ok _ _ _ F n W X gx) (fun e => b.hn (hb.trans e)) h.2.1 h.2.2 fa.2⟩
        | none => noE))
    | _ => noE)
  else noE
def stCall0 (g : Cfg) (x : Str) (p : Pos) (pos : Pos) : ME T g (.Call (.Name x p) [] [] pos) :=
  if h : globB g.sc x = true ∧ (x == ("__debug__" : Str)) = false then
    (match hG : T.G x with
    | some (.fn k) => ⟨cCall k aNil, ok_call0 h.1 hG h.2⟩
    | some (.cls c) => (match hi : T.init c with
      | some k => ⟨cMake c k aNil, ok_make0 h.1 hG hi h.2⟩
      | none => noE)
    | _ => noE)
  else noE
def stMeth (g : Cfg) (o : Expr) (m : Str) (ap : Pos) (e : Expr) (es : List Expr) (pos : Pos) (fo : ME T g o) (fa : MA T g (e :: es)) : ME T g (.Call (.Attribute o m ap) (e :: es) [] pos) :=
  if h : notSuper o = true ∧ (e :: es).all notStar = true ∧ (e :: es).length < 30 ∧ (ap.endLine == pos.line) = true then
    (match findB BM.x m (bms T) with
    | some ⟨b, hb⟩ => ⟨cBM b.ty b.g fo.1 fa.1, ok_bm b.pa (hb ▸ b.slot) b.hty (fun F n W X gx => b.ok _ _ _ F n W X gx) fo.2 fa.2 h.2.1 h.2.2.1 (fun env => base_of h.1 env _) h.2.2.2⟩
    | none => ⟨cMeth T.att m fo.1 fa.1, ok_meth fo.2 h.2.1 fa.2 (fun env => eval_meth h.1 h.2.1 h.2.2.1 h.2.2.2 env)⟩)
  else noE
def stMeth0 (g : Cfg) (o : Expr) (m : Str) (ap : Pos) (pos : Pos) (fo : ME T g o) : ME T g (.Call (.Attribute o m ap) [] [] pos) :=
  if h : notSuper o = true ∧ (ap.endLine == pos.line) = true then
    (match findB BM.x m (bms T) with
    | some ⟨b, hb⟩ => ⟨cBM b.ty b.g fo.1 aNil, ok_bm0 b.pa (hb ▸ b.slot) b.hty (fun F n W X gx => b.ok _ _ _ F n W X gx) fo.2 (fun env => base_of h.1 env _) h.2⟩
    | none => ⟨cMeth T.att m fo.1 aNil, ok_meth0 fo.2 (fun env => eval_meth h.1 rfl (by decide) h.2 env)⟩)
  else noE
/-- the block's own names, with their slots -/
def ownOf (N : List Str) (scope : Scope) : List (Str × Nat) := scope.names.filterMap fun y => match y.2 with
  | .local => if y.1 ∈ N then some (y.1, N.idxOf y.1) else none
  | .cell => if y.1 ∈ N then some (y.1, N.idxOf y.1) else none
  | _ => none
def Cfg.blk (g : Cfg) (scope : Scope) : Cfg := { g with sc := relS scope g.sc, fn := fun x => scope.names.lookup x == some .cell, mu := [], all := none }
def stTests (R : Cmp T) (g : Cfg) : (es : List Expr) → { f : EF // TsOk T g.N g.sc g.fn es f }
  | [] => ⟨cCon (.bl true), tsok_nil⟩
  | [c] => let f := R.C g c; ⟨f.1, tsok_one f.2⟩
  | _ => ⟨fun _ _ _ => .no, fun F n W X gx => ⟨fun pins s σ H Q I ⟨_, _, _, _, _, h⟩ => h.elim⟩⟩
def stLc (R : Cmp T) (thw : Bool) (g : Cfg) (elt tg iter : Expr) (ifs : List Expr) (scope : Scope) (pos : Pos) : ME T g (.ListComp elt [⟨tg, iter, ifs, 0⟩] scope pos) :=
  if h : blkC g.N g.sc scope (ownOf g.N scope) = true ∧ notSet iter = true then
    ⟨cLc thw ((ownOf g.N scope).map (·.2)) (R.I g tg iter).1 (R.W (g.blk scope) ((ownOf g.N scope).map (·.2)) tg).1 (stTests R (g.blk scope) ifs).1 (R.E (g.blk scope) elt).1,
      ok_lc h.1 (R.I g tg iter).2 (R.W (g.blk scope) _ tg).2 (stTests R (g.blk scope) ifs).2 (R.E (g.blk scope) elt).2 (notSet_of h.2)⟩
  else noE
def stPart (R : Cmp T) (g : Cfg) : (e : Option Expr) → { f : Option EF // POk T g.N g.sc g.fn e f }
  | none => ⟨none, trivial⟩
  | some e => let f := R.E g e; ⟨some f.1, f.2⟩
def stE (R : Cmp T) (g : Cfg) (e : Expr) : ME T g e := match e with
  | .Constant (.int i) j pos => ⟨cCon (.int i), ok_int⟩
  | .Constant (.bool i) j pos => ⟨cCon (.bl i), ok_bl⟩
  | .Constant .none j pos => ⟨cCon .non, ok_non⟩
  | .Constant (.str i) j pos => ⟨cCon (.str i), ok_str⟩
  | .Name x pos => stName g x pos
  | .BinOp a op b pos => stBin g a b pos (R.E g a) (R.E g b) op
  | .Compare a [op] [b] pos => stCmp g a b pos (R.E g a) (R.E g b) op
  | .Compare a [op, op'] [b, c] pos => (match icmp op, icmp op' with
    | some p, some q => if h : lastMarks [op, op'] [b, c] = false then ⟨cChain p.1 q.1 (R.E g a).1 (R.E g b).1 (R.E g c).1, ok_chain p.2 q.2 (R.E g a).2 (R.E g b).2 (R.E g c).2 h⟩ else noE
    | _, _ => noE)
  | .BoolOp op [a] pos => ⟨(R.E g a).1, ok_one (R.E g a).2⟩
  | .BoolOp .And (a :: b :: r) pos => ⟨cAnd (R.E g a).1 (R.E g (.BoolOp .And (b :: r) pos)).1, ok_and (R.E g a).2 (R.E g (.BoolOp .And (b :: r) pos)).2⟩
  | .BoolOp .Or (a :: b :: r) pos => ⟨cOr (R.E g a).1 (R.E g (.BoolOp .Or (b :: r) pos)).1, ok_or (R.E g a).2 (R.E g (.BoolOp .Or (b :: r) pos)).2⟩
  | .UnaryOp .Not a pos => ⟨cNot (R.E g a).1, ok_not (R.E g a).2⟩
  | .UnaryOp .USub a pos => ⟨cNeg (R.E g a).1, ok_neg (R.E g a).2⟩
  | .IfExp c a b pos => ⟨cIf (R.C g c).1 (R.E g a).1 (R.E g b).1, ok_if (R.C g c).2 (R.E g a).2 (R.E g b).2⟩
  | .Tuple es k pos => ⟨cTup (R.A g es).1, ok_tup (R.A g es).2⟩
  | .List es pos => ⟨cLst (R.A g es).1, ok_lst (R.A g es).2⟩
  | .Subscript a (.Slice none none (some (.UnaryOp .USub (.Constant (.int 1) k p1) p2)) p3) pos => ⟨cRev (R.E g a).1, ok_rev (R.E g a).2⟩
  | .Call (.Name x p) [e] [⟨some y, d, kpos⟩] pos => if hy : y = "default" then (if h : x = "max" ∧ globB g.sc x = true ∧ notStar e = true then (match hG : T.G x with
      | some .blt => ⟨cMaxD true (R.E g e).1 (R.E g d).1, by subst hy; exact ok_maxD h.1 h.2.1 hG h.2.2 (R.E g e).2 (R.E g d).2⟩
      | _ => noE) else noE) else noE
  | .Subscript a (.Slice lo hi none p2) pos => ⟨cSlice (stPart R g lo).1 (stPart R g hi).1 (R.E g a).1, ok_slice (R.E g a).2 (stPart R g lo).2 (stPart R g hi).2⟩
  | .Subscript a b pos => if h : plainIx b = true then ⟨c2 (idxOwn T.sps) (R.E g a).1 (R.E g b).1, ok_ixO (R.E g a).2 (R.E g b).2 (plainIx_of h) (plainIx_py h)⟩ else noE
  | .Attribute o f pos => if h : notSuper o = true then ⟨cAtt T.att f (R.E g o).1, ok_att (R.E g o).2 fun env => base_of h env _⟩ else noE
  | .Call (.Name x p) (e :: es) [] pos => stCall g x p e es pos (R.A g (e :: es))
  | .Call (.Name x p) [] [] pos => stCall0 g x p pos
  | .Call (.Attribute o m ap) (e :: es) [] pos => stMeth g o m ap e es pos (R.E g o) (R.A g (e :: es))
  | .Call (.Attribute o m ap) [] [] pos => stMeth0 g o m ap pos (R.E g o)
  | .ListComp elt [⟨tg, iter, ifs, 0⟩] scope pos => stLc R false g elt tg iter ifs scope pos
  | _ => noE
def stC (R : Cmp T) (g : Cfg) (e : Expr) : MT T g e := match e with
  | .Compare a [op] [b] pos => stTCmp g a b pos (R.E g a) (R.E g b) op
  | .Compare a [op, op'] [b, c] pos => (match icmp op, icmp op' with
    | some p, some q => if h : lastMarks [op, op'] [b, c] = false then ⟨cChain p.1 q.1 (R.E g a).1 (R.E g b).1 (R.E g c).1, tok_chain p.2 q.2 (R.E g a).2 (R.E g b).2 (R.E g c).2 h⟩ else noC
    | _, _ => noC)
  | .UnaryOp .Not a pos => ⟨cNot (R.C g a).1, tok_not (R.C g a).2⟩
  | e => if h : plainT e = true then ⟨cTru T.sps (R.E g e).1, tok_tru (R.E g e).2 (plainT_of h)⟩ else noC
/-- both and, or: at once -/
def bpW (R : Cmp T) (g : Cfg) (pos : Pos) : (op : BoolOp) → (es : List Expr) → { f : EF // WOk T g.N g.sc g.fn (.BoolOp op es pos) f }
  | .And, [a] => ⟨(R.C g a).1, wok_and1 (R.C g a).2⟩
  | .Or, [a] => ⟨(R.C g a).1, wok_or1 (R.C g a).2⟩
  | .And, a :: b :: r => let w := bpW R g pos .And (b :: r); ⟨cAnd (R.C g a).1 w.1, wok_and (R.C g a).2 w.2⟩
  | .Or, a :: b :: r => let w := bpW R g pos .Or (b :: r); ⟨cOr (R.C g a).1 w.1, wok_or (R.C g a).2 w.2⟩
  | _, [] => ⟨fun _ _ _ => .no, fun F n W X gx => ⟨fun wh pins s σ H Q I ⟨_, _, _, _, _, h⟩ => h.elim⟩⟩
def stC' (R : Cmp T) (g : Cfg) (e : Expr) : MT T g e := match e with
  | .BoolOp op es pos => let w := bpW R g pos op es; ⟨w.1, WOk.tok w.2⟩
  | e => stC R g e
def stA (E : ∀ (g : Cfg) (e : Expr), ME T g e) (g : Cfg) : (es : List Expr) → MA T g es
  | [] => ⟨aNil, ok_nil⟩
  | .Starred e p :: es => let r := stA E g es; ⟨aStar (E g e).1 r.1, ok_star (E g e).2 r.2⟩
  | e :: es => if h : notStar e = true then (let r := stA E g es; ⟨aCons (E g e).1 r.1, ok_cons (E g e).2 r.2 h⟩) else noA
def stL (R : Cmp T) (g : Cfg) (e : Expr) : Option (ML T g e) := match e with
  | .List es pos => some ⟨lDisp (R.A g es).1, lok_disp (R.A g es).2⟩
  | .Call (.Name x p) [e] [] pos => if h : x = "list" ∧ globB g.sc x = true ∧ notStar e = true then (match hG : T.G x with
    | some .blt => some ⟨lList T.itr (R.E g e).1, lok_list h.1 h.2.1 hG h.2.2 (R.E g e).2⟩
    | _ => none) else none
  | .BinOp a .Add b pos => some ⟨lCat (R.E g a).1 (R.E g b).1, lok_cat (R.E g a).2 (R.E g b).2⟩
  | .BinOp a .Mult b pos => some ⟨lRep (R.E g a).1 (R.E g b).1, lok_rep (R.E g a).2 (R.E g b).2⟩
  | _ => none
/-- to a name whose list will change -/
def thwE (R : Cmp T) (g : Cfg) (e : Expr) : ME T g e := match e with
  | .ListComp elt [⟨tg, iter, ifs, 0⟩] scope pos => stLc R true g elt tg iter ifs scope pos
  | e => (match R.L g e with
    | some l => ⟨cThw l.1, LOk.thw l.2⟩
    | none => R.E g e)
def stGs (G : ∀ (g : Cfg) (e : Expr), MG' T g e) (g : Cfg) : (es : List Expr) → MGs T g es
  | [] => ⟨gsNil, gsok_nil⟩
  | e :: es => if h : notStar e = true then (let r := stGs G g es; ⟨gsCons (G g e).1 r.1, gsok_cons h (G g e).2 r.2⟩) else noGs
def stG (R : Cmp T) (g : Cfg) (e : Expr) : MG' T g e := match e with
  | .Name x pos => if h : g.N[g.N.idxOf x]? = some x ∧ locB g.sc x = true ∧ ownB g.sc g.fn x = true then ⟨gName (g.N.idxOf x), gok_name h.1 h.2.1 h.2.2⟩ else noG
  | .Tuple es k pos => if h : es.all notStar = true then ⟨gTup es.length (stGs R.G g es).1, gok_tup h (stGs R.G g es).2⟩ else noG
  | .Subscript o i pos => if h : plainSub i = true then ⟨gItem (R.E g o).1 (R.E g i).1, gok_item h (R.E g o).2 (R.E g i).2⟩ else noG
  | _ => noG
def stWs (W : ∀ (g : Cfg) (vs : List Nat) (e : Expr), MW T g vs e) (g : Cfg) (vs : List Nat) : (es : List Expr) → MWs T g vs es
  | [] => ⟨wsNil, gswok_nil⟩
  | e :: es => if h : notStar e = true then (let r := stWs W g vs es; ⟨wsCons (W g vs e).1 r.1, gswok_cons h (W g vs e).2 r.2⟩) else noWs
def stW (R : Cmp T) (g : Cfg) (vs : List Nat) (e : Expr) : MW T g vs e := match e with
  | .Name x pos => if h : g.N.idxOf x ∈ vs ∧ g.N[g.N.idxOf x]? = some x ∧ locB g.sc x = true ∧ ownB g.sc g.fn x = true then ⟨wName (g.N.idxOf x), gwok_name h.1 h.2.1 h.2.2.1 h.2.2.2⟩ else noW
  | .Tuple es k pos => if h : es.all notStar = true then ⟨wTup es.length (stWs R.W g vs es).1, gwok_tup h (stWs R.W g vs es).2⟩ else noW
  | _ => noW
def isRange (g : Cfg) (x : Str) : Bool := x == "range" && globB g.sc x
def stI (R : Cmp T) (g : Cfg) (tg e : Expr) : MI T g tg e := match e with
  | .Call (.Name x p) [a] [] pos => if h : x = "enumerate" ∧ globB g.sc x = true ∧ notStar a = true then (match hG : T.G x with
    | some .blt => (match tg with
      | .Tuple es k tp => ⟨iRng enumS (R.A g [a]).1, iok_enum h.1 h.2.1 hG h.2.2 (R.A g [a]).2⟩
      | _ => noI)
    | _ => noI) else if h : x = "range" ∧ globB g.sc x = true ∧ notStar a = true then (match hG : T.G x with
    | some .blt => ⟨iRng rng1 (R.A g [a]).1, iok_rng1 h.1 h.2.1 hG h.2.2 (R.A g [a]).2⟩
    | _ => noI) else ⟨iSrc T.itr (R.E g (.Call (.Name x p) [a] [] pos)).1, iok_any (R.E g (.Call (.Name x p) [a] [] pos)).2⟩
  | .Call (.Name x p) [a, b] [] pos => if h : x = "range" ∧ globB g.sc x = true ∧ notStar a = true ∧ notStar b = true then (match hG : T.G x with
    | some .blt => ⟨iRng rng2 (R.A g [a, b]).1, iok_rng2 h.1 h.2.1 hG h.2.2.1 h.2.2.2 (R.A g [a, b]).2⟩
    | _ => noI) else if h : x = "zip" ∧ globB g.sc x = true ∧ notStar a = true ∧ [b].all notStar = true then (match hG : T.G x with
    | some .blt => (match tg with
      | .Tuple es k tp => ⟨iRng zipS (R.A g [a, b]).1, iok_zip h.1 h.2.1 hG h.2.2.1 h.2.2.2 (R.A g [a, b]).2⟩
      | _ => noI)
    | _ => noI) else ⟨iSrc T.itr (R.E g (.Call (.Name x p) [a, b] [] pos)).1, iok_any (R.E g (.Call (.Name x p) [a, b] [] pos)).2⟩
  | .Call (.Name x p) [a, b, c] [] pos => if h : x = "range" ∧ globB g.sc x = true ∧ notStar a = true ∧ [b, c].all notStar = true then (match hG : T.G x with
    | some .blt => ⟨iRng rng3 (R.A g [a, b, c]).1, iok_rng3 h.1 h.2.1 hG h.2.2.1 h.2.2.2 (R.A g [a, b, c]).2⟩
    | _ => noI) else ⟨iSrc T.itr (R.E g (.Call (.Name x p) [a, b, c] [] pos)).1, iok_any (R.E g (.Call (.Name x p) [a, b, c] [] pos)).2⟩
  | e => ⟨iSrc T.itr (R.E g e).1, iok_any (R.E g e).2⟩
def cmp0 : Cmp T := ⟨fun _ _ => noE, fun _ _ => noC, fun _ _ => noA, fun _ _ => none, fun _ _ => noG, fun _ _ _ => noW, fun _ _ _ => noI⟩
def cmpS (R : Cmp T) : Cmp T := ⟨stE R, stC' R, stA R.E, stL R, stG R, stW R, stI R⟩
def cmp (T : Tx) : Nat → Cmp T
  | 0 => cmp0
  | n + 1 => cmpS (cmp T n)
end
end PyI
namespace PyI
open PySem PySem.Spec PyProof.Rows L2
section
variable {T : Tx}
def valE (R : Cmp T) (g : Cfg) (x : Str) (e : Expr) : ME T g e := if x ∈ g.mu then thwE R g e else R.E g e
def slotOk (g : Cfg) (x : Str) : Bool := decide (g.N[g.N.idxOf x]? = some x) && locB g.sc x && ownB g.sc g.fn x
theorem slotOk_of {g : Cfg} {x : Str} (h : slotOk g x = true) : g.N[g.N.idxOf x]? = some x ∧ locB g.sc x = true ∧ ownB g.sc g.fn x = true := by
  unfold slotOk at h
  rw [Bool.and_eq_true, Bool.and_eq_true, decide_eq_true_iff] at h
  exact ⟨h.1.1, h.1.2, h.2⟩
def stSet (R : Cmp T) (g : Cfg) (x : Str) (p : Pos) (e : Expr) (pos : Pos) : MS T g (.Assign [.Name x p] e pos) :=
  if h : slotOk g x = true then (match e with
    | .ListComp elt gs scope lp => if hs : swB g.sc x p scope lp = true then (match gs with
        | [⟨tg, iter, ifs, 0⟩] => if hb : blkC g.N g.sc scope (ownOf g.N scope) = true ∧ notSet iter = true then
            ⟨sSet (g.N.idxOf x) (cLc (decide (x ∈ g.mu)) ((ownOf g.N scope).map (·.2)) (R.I g tg iter).1 (R.W (g.blk scope) ((ownOf g.N scope).map (·.2)) tg).1 (stTests R (g.blk scope) ifs).1 (R.E (g.blk scope) elt).1),
              sok_setLc (slotOk_of h).1 hs hb.1 (R.I g tg iter).2 (R.W (g.blk scope) _ tg).2 (stTests R (g.blk scope) ifs).2 (R.E (g.blk scope) elt).2 (notSet_of hb.2)⟩ else noS
        | _ => noS)
      else ⟨sSet (g.N.idxOf x) (valE R g x (.ListComp elt gs scope lp)).1, sok_setLc0 (slotOk_of h).1 (by simpa using hs) (slotOk_of h).2.1 (slotOk_of h).2.2 (valE R g x (.ListComp elt gs scope lp)).2⟩
    | e => if hn : notLc e = true then ⟨sSet (g.N.idxOf x) (valE R g x e).1, sok_set (slotOk_of h).1 (slotOk_of h).2.1 (slotOk_of h).2.2 hn (valE R g x e).2⟩ else noS)
  else noS
def stAsg (R : Cmp T) (g : Cfg) (t e : Expr) (pos : Pos) : MS T g (.Assign [t] e pos) :=
  if h : notLc e = true ∧ notStar t = true ∧ asIs g.sc t e = true then ⟨sAsg (R.E g e).1 (R.G g t).1, sok_asg (R.E g e).2 (R.G g t).2 h.1 h.2.1 h.2.2⟩ else noS
def stPar (R : Cmp T) (g : Cfg) (x y : Str) (px py pt : Pos) (kt : Nat) (a b : Expr) (k2 : Nat) (pt2 pos : Pos) : MS T g (.Assign [.Tuple [.Name x px, .Name y py] kt pt] (.Tuple [a, b] k2 pt2) pos) :=
  if h : slotOk g x = true ∧ slotOk g y = true ∧ g.N.idxOf x ≠ g.N.idxOf y ∧ isLocal g.sc x = true ∧ isLocal g.sc y = true ∧ parB x y px.line py.line a b = true ∧ notStar a = true ∧ notStar b = true then
    ⟨sPar (g.N.idxOf x) (g.N.idxOf y) (aCons (valE R g x a).1 (aCons (valE R g y b).1 aNil)),
      sok_par (slotOk_of h.1).1 (slotOk_of h.2.1).1 h.2.2.1 h.2.2.2.1 h.2.2.2.2.1 h.2.2.2.2.2.1 (ok_cons (valE R g x a).2 (ok_cons (valE R g y b).2 ok_nil h.2.2.2.2.2.2.2) h.2.2.2.2.2.2.1)⟩
  else stAsg R g (.Tuple [.Name x px, .Name y py] kt pt) (.Tuple [a, b] k2 pt2) pos
def stAug (R : Cmp T) (g : Cfg) (x : Str) (p : Pos) (e : Expr) (pos : Pos) : (op : Operator) → MS T g (.AugAssign (.Name x p) op e pos)
  | .Add => if h : slotOk g x = true then ⟨sAug (g.N.idxOf x) (fun i j => i + j) (R.E g e).1, sok_aug (fun _ => ip_add) (slotOk_of h).1 (slotOk_of h).2.1 (slotOk_of h).2.2 (R.E g e).2⟩ else noS
  | .Sub => if h : slotOk g x = true then ⟨sAug (g.N.idxOf x) (fun i j => i - j) (R.E g e).1, sok_aug (fun _ => ip_sub) (slotOk_of h).1 (slotOk_of h).2.1 (slotOk_of h).2.2 (R.E g e).2⟩ else noS
  | _ => noS
def stRaise (R : Cmp T) (g : Cfg) (x : Str) (p : Pos) (e : Expr) (es : List Expr) (cp pos : Pos) : MS T g (.Raise (some (.Call (.Name x p) (e :: es) [] cp)) none pos) :=
  if h : globB g.sc x = true ∧ (x == ("__debug__" : Str)) = false ∧ (e :: es).all notStar = true then (match hG : T.G x with
    | some (.cls c) => (match he : T.exn c with
      | some b => ⟨sRaise c b (R.A g (e :: es)).1, sok_raise h.1 hG he h.2.1 h.2.2 (R.A g (e :: es)).2⟩
      | none => noS)
    | _ => noS) else noS
def noX {N : List Str} {sc : Scope} {i : Nat} {e : Expr} : { f : XF // XOk T N sc i e f } := ⟨fun _ _ => none, fun F n fn W X gx a oe cls dd pn hz hf => ⟨fun pins s σ H Q I ⟨_, _, _, _, _, _, _, _, z, _⟩ => (nomatch z)⟩⟩
def noXs {N : List Str} {sc : Scope} {i : Nat} {es : List Expr} : { f : Nat → Option D → Option (List D) // XsOk T N sc i es f } := ⟨fun _ _ => none, fun F n fn W X gx a oe cls dd pn hz hf => ⟨fun pp pins s σ H Q I ⟨_, _, _, _, _, _, _, _, z, _⟩ => (nomatch z)⟩⟩
def stX (N : List Str) (sc : Scope) (i : Nat) (nm : Str) : Nat → (e : Expr) → { f : XF // XOk T N sc i e f }
  | 0, _ => noX
  | k + 1, .Constant (.str m) j pos => ⟨_, xok_str⟩
  | k + 1, .Constant (.int m) j pos => ⟨_, xok_int⟩
  | k + 1, .Constant (.bool m) j pos => ⟨_, xok_bl⟩
  | k + 1, .Constant .none j pos => ⟨_, xok_non⟩
  | k + 1, .Attribute (.Name y p) f pos => if h : N[i]? = some y ∧ visB sc y = true ∧ (y == ("__debug__" : Str)) = false ∧ (y == ("__classdict__" : Str)) = false then ⟨xFld T f, xok_fld h.1 h.2.1 h.2.2.1 h.2.2.2 fun env w => base_of rfl env w⟩ else noX
  | k + 1, .Tuple [] kd pos => ⟨_, xok_tup xsok_nil⟩
  | k + 1, .Tuple [a] kd pos => if h : notStar a = true then ⟨xTup (xCons (stX N sc i nm k a).1 fun _ _ => some []), xok_tup (xsok_cons h (stX N sc i nm k a).2 xsok_nil)⟩ else noX
  | k + 1, .Tuple [a, b] kd pos => if h : notStar a = true ∧ notStar b = true then ⟨xTup (xCons (stX N sc i nm k a).1 (xCons (stX N sc i nm k b).1 fun _ _ => some [])), xok_tup (xsok_cons h.1 (stX N sc i nm k a).2 (xsok_cons h.2 (stX N sc i nm k b).2 xsok_nil))⟩ else noX
  | k + 1, _ => noX
def clsT (T : Tx) (x : Str) : Option { t : TK // ClsIs T x t } := match h : T.G x with
  | some (.cls k) => some ⟨.own k, .inl ⟨k, rfl, h⟩⟩
  | some .blt => (match hb : bootBuiltins x with
    | some (.type ty) => if hn : x ≠ "__name__" then some ⟨.ty ty, .inr ⟨ty, rfl, h, hb, hn⟩⟩ else none
    | _ => none)
  | _ => none
def stTry (Ss : ∀ (g : Cfg) (e : List Stmt), MSs T g e) (g : Cfg) (body : List Stmt) (x nm : Str) (e : Expr) (np rp hp pos : Pos) : MS T g (.Try body [.ExceptHandler (some (.Name x np)) (some nm) [.Return (some e) rp] hp] [] [] pos) :=
  if h : g.N[g.N.idxOf nm]? = some nm ∧ g.sc.names.lookup nm = some .local ∧ globB g.sc x = true ∧ (x == ("__debug__" : Str)) = false then (match g.all, clsT T x with
    | some ⟨ha⟩, some ⟨t, ht⟩ => ⟨sTry (g.N.idxOf nm) (fun c => T.exm c t) (Ss g body).1 (stX (T := T) g.N g.sc (g.N.idxOf nm) nm 8 e).1, sok_try ha h.1 h.2.1 h.2.2.1 h.2.2.2 ht (Ss g body).2 (stX (T := T) g.N g.sc (g.N.idxOf nm) nm 8 e).2⟩
    | _, _ => noS) else noS
def stS (R : Cmp T) (Ss : ∀ (g : Cfg) (e : List Stmt), MSs T g e) (g : Cfg) (s : Stmt) : MS T g s := match s with
  | .Expr e pos => if h : notLc e = true then ⟨sExpr (R.E g e).1, sok_expr (R.E g e).2 h⟩ else noS
  | .Assign [.Name x p] e pos => stSet R g x p e pos
  | .Assign [.Tuple [.Name x px, .Name y py] kt pt] (.Tuple [a, b] k2 pt2) pos => stPar R g x y px py pt kt a b k2 pt2 pos
  | .Assign [.Attribute o f p] v pos => ⟨sSlot T.att f (R.E g o).1 (R.E g v).1, sok_slot (R.E g o).2 (R.E g v).2⟩
  | .Assign [t] e pos => stAsg R g t e pos
  | .AugAssign (.Name x p) op e pos => stAug R g x p e pos op
  | .If c a b pos => ⟨sIf (R.C g c).1 (Ss g a).1 (Ss g b).1, sok_if (R.C g c).2 (Ss g a).2 (Ss g b).2⟩
  | .While c b [] pos => ⟨sWhile (R.C g c).1 (Ss g b).1 turns, sok_while (R.C g c).2 (Ss g b).2⟩
  | .For tg it b [] pos => if h : notSet it = true then ⟨sFor (R.I g tg it).1 (R.G g tg).1 (Ss g b).1, sok_for (R.I g tg it).2 (R.G g tg).2 (Ss g b).2 (notSet_of h)⟩ else noS
  | .Return (some e) pos => if g.keep = true then ⟨sRet (thwE R g e).1, sok_ret (thwE R g e).2⟩ else ⟨sRet (R.E g e).1, sok_ret (R.E g e).2⟩
  | .Return none pos => ⟨sRetN, sok_retN⟩
  | .Raise (some (.Call (.Name x p) (e :: es) [] cp)) none pos => stRaise R g x p e es cp pos
  | .Try body [.ExceptHandler (some (.Name x np)) (some nm) [.Return (some e) rp] hp] [] [] pos => stTry Ss g body x nm e np rp hp pos
  | .Pass pos => ⟨sSkip, sok_pass⟩
  | .Break pos => ⟨sBreak, sok_break⟩
  | .Continue pos => ⟨sCont, sok_cont⟩
  | _ => noS
def cSs (R : Cmp T) : Nat → (g : Cfg) → (e : List Stmt) → MSs T g e
  | 0, _, _ => noSs
  | n + 1, g, [] => ⟨sSkip, sok_skip⟩
  | n + 1, g, [s] => let f := stS R (cSs R n) g s; ⟨f.1, sok_one f.2⟩
  | n + 1, g, s :: r => let f := stS R (cSs R n) g s; let h := cSs R n g r; ⟨sSeq f.1 h.1, sok_cons f.2 h.2⟩
def comp (T : Tx) (g : Cfg) (e : List Stmt) : MSs T g e := cSs (cmp T 60) 60 g e
end
end PyI
namespace PyI
open PySem PySem.Spec PyProof.Rows L2
section
variable {P : Program} {w : World} {K : PySem.W.Frag} {mg mb : Str → Option Value} {k : Nat} {fa a : Addr} {sp : Sp} {s₁ : Shared} {vs : List Value} {ns : List Int}
/-- where nothing but the script is tracked -/
structure Bare1 (K : PySem.W.Frag) (h : Heap) (P : Program) (w : World) (a : Addr) (H : Hp) : Prop where
  only : Only H
  ok : HOk P w H h
  one : ∀ b, H b ≠ none → b = a
  apart : H a ≠ none → K.lookup a = none
theorem Bare1.off {H : Hp} {h : Heap} {b : Addr} {o : Obj} {es : Array DictEntry} {ep : Nat} (B : Bare1 K h P w a H) (ha : h.get? a = some { cls := .type "list", data := .seq vs.toArray }) (e : h.get? b = some o) (d : o.data = .dict es ep) : H b = none := by
  rcases q : H b with _ | u
  · rfl
  · cases B.one b (by simp [q])
    cases ha.symm.trans e
    exact (nomatch (show Data.seq vs.toArray _ = Data.dict es ep from d))
theorem Bare1.nsp {H : Hp} {h : Heap} {b : Addr} {m : Str → Option Value} (B : Bare1 K h P w a H) (ha : h.get? a = some { cls := .type "list", data := .seq vs.toArray }) : h.Ns b m → (hidT h H).Ns b m
  | ⟨o, es, ep, e, d, r⟩ => ⟨o, es, ep, hidT_get e (B.off ha e d), d, r⟩
theorem Bare1.part {H : Hp} {h : Heap} (B : Bare1 K h P w a H) (KX : K.In h) : K.In (hidT h H) := by
  intro b o e
  refine hidT_get (KX b o e) ?_
  rcases q : H b with _ | u
  · rfl
  · cases B.one b (by simp [q])
    exact (nomatch (B.apart (by simp [q])).symm.trans e)
theorem bare_call {H : Hp} (B : Bare1 K s₁.heap P w a H) (KX : K.In s₁.heap) (hns : s₁.heap.Ns mainGlobals mg) (hb : s₁.heap.Ns builtinsNs mb) (hbb : ∀ x : Str, x ≠ "__name__" → mb x = bootBuiltins x) (hlim : s₁.heap.NoLimit) (hg : s₁.gens = #[])
    (ha : s₁.heap.get? a = some { cls := .type "list", data := .seq vs.toArray }) (hr : Room (k + 3) callerA) (Fn : FnG P w K mg (hidT s₁.heap H) k fa sp) (hsp : sp [.ref a] H (fun v _ => v = .bl true) fun _ _ _ => False) :
    codeAny (model P w) callerA (.call (.ref fa) ⟨[.ref a], []⟩) (fun r s' => r = .ok (.ret (.bool true)) ∧ OldK s₁.heap s'.heap ∧ s'.os = s₁.os ∧ AllBare s'.gens) s₁ := by
  have lim : (hidT s₁.heap H).NoLimit := by
    obtain ⟨mc, l1, l2⟩ := hlim
    exact ⟨mc, B.nsp ha l1, l2⟩
  have M : Mod K mg (hidT s₁.heap H) := ⟨B.part KX, B.nsp ha hns, ⟨mb, B.nsp ha hb, hbb⟩, lim⟩
  have e0 : Env0 P w K mg (hidT s₁.heap H) callerA [] s₁ H :=
    { frames := rfl, mod := M, bs := fun _ _ e => of_hidT e, bsz := Nat.le_of_eq (hidT_size _ _), funs := trivial
      frf := fun _ z => (nomatch (show _ ∈ ([] : List Addr) from z)), hok := B.ok, bare := .of_eq hg }
  refine codeAny_mono (Fn callerA [] s₁ H [.ref a] [.ref a] _ _ hr rfl e0 (.cons rfl .nil) hsp) fun r s' h => ?_
  match r, h with
  | .error e, h =>
    obtain ⟨_, _, _, _, _, _, _, _, _, _, _, _, z⟩ := h
    exact z.elim
  | .ok (.ret u), h =>
    obtain ⟨v, H', os, bare, un, hok', rv, q⟩ := h
    cases (show v = .bl true from q)
    cases (show u = Value.bool true from rv)
    refine ⟨rfl, OldK.of_keep fun b o e => ?_, os, bare⟩
    rcases q : H b with _ | u
    · exact un.keep b o e q (by simp [frs]) (by simp)
    · rcases B.only b with z | ⟨ob, xs, z⟩
      · cases q.symm.trans z
      · have z1 := (B.ok b _ z).1
        have z2 := (hok' b _ (un.frzs b ob _ z)).1
        cases e.symm.trans z1
        exact z2
  | .ok .next, h => exact h.elim
  | .ok .brk, h => exact h.elim
  | .ok .cont, h => exact h.elim
/-- the call of the law -/
theorem call_law (KX : K.In s₁.heap) (hns : s₁.heap.Ns mainGlobals mg) (hb : s₁.heap.Ns builtinsNs mb) (hbb : ∀ x : Str, x ≠ "__name__" → mb x = bootBuiltins x) (hlim : s₁.heap.NoLimit) (hg : s₁.gens = #[])
    (ha : s₁.heap.get? a = some { cls := .type "list", data := .seq vs.toArray }) (hi : IntsAre vs ns) (hl : ns.length ≤ sizeLine) (hr : Room (k + 3) callerA) (Fn : ∀ base : Heap, K.In base → base.Ns mainGlobals mg → FnG P w K mg base k fa sp)
    (hsp : ∀ H : Hp, (∃ ob, H a = some (.frz ob (.lst (ns.map V.int)))) ∨ (∃ (o : Obj) (its : Array Value) (n : Nat), K.lookup a = some o ∧ o.cls = .type "list" ∧ o.dict = none ∧ o.data = .seq its n ∧ its.size ≤ sizeLine ∧ Vals (ns.map V.int) its.toList) → sp [.ref a] H (fun v _ => v = .bl true) fun _ _ _ => False) :
    codeAny (model P w) callerA (.call (.ref fa) ⟨[.ref a], []⟩) (fun r s' => r = .ok (.ret (.bool true)) ∧ OldK s₁.heap s'.heap ∧ s'.os = s₁.os ∧ AllBare s'.gens) s₁ := by
  have rv := vals_ints hi
  rcases hk : K.lookup a with _ | o
  · have gA : (fun b => if b = a then some (HO.frz { cls := .type "list", data := .seq vs.toArray } (.lst (ns.map V.int))) else none : Hp) a = some (HO.frz { cls := .type "list", data := .seq vs.toArray } (.lst (ns.map V.int))) := if_pos rfl
    have B : Bare1 K s₁.heap P w a (fun b => if b = a then some (HO.frz { cls := .type "list", data := .seq vs.toArray } (.lst (ns.map V.int))) else none) := by
      refine ⟨fun b => ?_, fun b u z => ?_, fun b z => ?_, fun _ => hk⟩
      · rcases Decidable.em (b = a) with c | c
        · exact .inr ⟨_, _, if_pos c⟩
        · exact .inl (if_neg c)
      · rcases Decidable.em (b = a) with c | c
        · subst c
          cases gA.symm.trans z
          exact ⟨ha, by rw [List.length_map]; exact hl, vs, _, rv, ha⟩
        · exact (nomatch (if_neg c).symm.trans z)
      · rcases Decidable.em (b = a) with c | c
        · exact c
        · exact absurd (if_neg c) z
    exact bare_call B KX hns hb hbb hlim hg ha hr (Fn _ (B.part KX) (B.nsp ha hns)) (hsp _ (.inl ⟨_, gA⟩))
  · have e := KX a o hk
    cases ha.symm.trans e
    have B : Bare1 K s₁.heap P w a (fun _ => none) := ⟨fun _ => .inl rfl, fun _ _ z => (nomatch z), fun _ z => absurd rfl z, fun z => absurd rfl z⟩
    exact bare_call B KX hns hb hbb hlim hg ha hr (Fn _ (B.part KX) (B.nsp ha hns)) (hsp _ (.inr ⟨_, vs.toArray, _, hk, rfl, rfl, rfl, by rw [List.size_toArray, hi.length]; exact hl, by simpa using rv⟩))
end
/-- a law over facts of the head -/
theorem walk_lev {l : PySem.W.OpenLaw} {n k : Nat} {q : Program} {loose : List Str} {XP : (Str → Option Value) → Heap → Prop} {YP : World → Heap → Prop} {d : DefRec}
    (hn : l.most = some n) (hn2 : n ≤ sizeLine) (hdf : d.params.defaults = []) (hr : Room (k + 3) callerA)
    (F : ∀ (w : World) (mg : Str → Option Value) (fa : Addr) (h : Heap), YP w h → h.Ns mainGlobals mg → mg d.name = some (.ref fa) →
      ∃ (T : Tx) (fds : Nat → Option FD) (j : Nat), T.K.In h ∧ T.fa j = fa ∧ TxOk T mg ∧ (∀ i fd, fds i = some fd → FnFact T i fd) ∧ (∀ c i, T.itr c = some i → ItFact T c i) ∧ (∀ c b, T.exn c = some b → ExFact l.prog mg T c b) ∧
        ∀ ns : List Int, ns.length ≤ n → ∃ st, (levs fds k).a j [.d (.scr (ns.map .int))] [] = .ok (.d (.bl true)) st) :
    PySem.W.WalkO q loose XP YP l.row.toRowW d [] (fun f vs => PySem.call f vs) := by
  refine Att.attach_call hn hdf fun w s₀ s₁ mg mb fa o pm cd doc a vs ns G Y ho hd hcd hmg hobj hints hlen hg => ?_
  obtain ⟨T, fds, j, KX, rfl, tx, ff, fi, fe, run⟩ := F w mg fa _ Y G.T.g hmg
  refine call_law KX G.T.g G.T.b G.T.builtins G.T.nolimit hg hobj hints (Nat.le_trans hlen hn2) hr (fun base _ _ => lev_ok tx ff fi fe k j) fun H hS => ?_
  obtain ⟨st, e⟩ := run ns hlen
  refine ⟨[], [], [.d (.scr (ns.map .int))], .cons (.d (.scr ?_ RDs.ints)) .nil, ⟨rfl, fun n so z => by simp at z, fun n m p q z => by simp at z⟩, ?_⟩
  · rcases hS with ⟨ob, z⟩ | z
    · exact .inr (.inl ⟨ob, z, fun ⟨n, p, z, _⟩ => by simp at z⟩)
    · exact .inr (.inr z)
  · rw [e]
    intro μ' v H' _ _ rv
    exact rd_bl rv
end PyI
namespace PyI
open PySem PySem.Spec PyProof.Rows L2
def all2 {α β : Type} (f : α → β → Bool) : List α → List β → Bool
  | [], [] => true
  | a :: as, b :: bs => f a b && all2 f as bs
  | _, _ => false
def dvB (K : PySem.W.Frag) : Nat → D → Value → Bool
  | _, .non, .none => true
  | _, .bl b, .bool c => b == c
  | _, .int i, .int j _ => decide (i = j)
  | _, .str x, .str y _ => decide (x = y)
  | n + 1, .tup l, .ref a => (match K.lookup a with
    | some ⟨.type c, _, .seq its _, _⟩ => decide (c = "tuple") && decide (its.size ≤ sizeLine) && all2 (dvB K n) l its.toList
    | _ => false)
  | _, _, _ => false
theorem vals_by {K : PySem.W.Frag} {f : D → Value → Bool} (ih : ∀ {d : D} {u : Value}, f d u = true → ∃ v, RelV v u ∧ ∀ (T : Tb) (μ : Mu) (H : Hp), T.K = K → RD T μ H d v) : ∀ {l : List D} {us : List Value}, all2 f l us = true → ∃ vs, Vals vs us ∧ ∀ (T : Tb) (μ : Mu) (H : Hp), T.K = K → RDs T μ H l vs
  | [], [], _ => ⟨[], .nil, fun _ _ _ _ => .nil⟩
  | [], _ :: _, h => by cases h
  | _ :: _, [], h => by cases h
  | d :: l, u :: us, h => by
    simp only [all2, Bool.and_eq_true] at h
    obtain ⟨v, r1, r2⟩ := ih h.1
    obtain ⟨vs, q1, q2⟩ := vals_by ih h.2
    exact ⟨v :: vs, .cons r1 q1, fun T μ H e => .cons (r2 T μ H e) (q2 T μ H e)⟩
theorem dvB_ok {K : PySem.W.Frag} : ∀ {n : Nat} {d : D} {u : Value}, dvB K n d u = true → ∃ v, RelV v u ∧ ∀ (T : Tb) (μ : Mu) (H : Hp), T.K = K → RD T μ H d v := by
  intro n
  induction n with
  | zero =>
    intro d u h
    cases d <;> cases u <;> simp only [dvB, reduceCtorEq, Bool.false_eq_true] at h
    · exact ⟨.non, rfl, fun _ _ _ _ => .non⟩
    · rename_i b c; rw [beq_iff_eq] at h; subst h; exact ⟨.bl b, rfl, fun _ _ _ _ => .bl b⟩
    · rename_i i j t; rw [decide_eq_true_iff] at h; subst h; exact ⟨.int i, ⟨t, rfl⟩, fun _ _ _ _ => .int i⟩
    · rename_i i j t; rw [decide_eq_true_iff] at h; subst h; exact ⟨.str i, ⟨t, rfl⟩, fun _ _ _ _ => .str i⟩
  | succ n ih =>
    intro d u h
    cases d <;> cases u <;> simp only [dvB, reduceCtorEq, Bool.false_eq_true] at h
    · exact ⟨.non, rfl, fun _ _ _ _ => .non⟩
    · rename_i b c; rw [beq_iff_eq] at h; subst h; exact ⟨.bl b, rfl, fun _ _ _ _ => .bl b⟩
    · rename_i i j t; rw [decide_eq_true_iff] at h; subst h; exact ⟨.int i, ⟨t, rfl⟩, fun _ _ _ _ => .int i⟩
    · rename_i i j t; rw [decide_eq_true_iff] at h; subst h; exact ⟨.str i, ⟨t, rfl⟩, fun _ _ _ _ => .str i⟩
    · rename_i l a
      split at h
      · rename_i c dd its m sl hk
        simp only [Bool.and_eq_true, decide_eq_true_iff] at h
        obtain ⟨⟨rfl, hz⟩, h⟩ := h
        obtain ⟨vs, q1, q2⟩ := vals_by (fun {d u} => ih) h
        exact ⟨.ref a, rfl, fun T μ H e => .tup (.inr ⟨_, its, m, by rw [e]; exact hk, rfl, rfl, hz, q1⟩) (q2 T μ H e)⟩
      · cases h
inductive Pa where
  | g (x : Str) | m (x m : Str) | r (x m : Str) (ty : String)
def paA (K : PySem.W.Frag) : Pa → Addr
  | .g x => He.ga K x
  | .m x m => He.ma K (He.ga K x) m
  | .r x m ty => (match PySem.W.recIn K (He.ma K (He.ga K x) m) ty with
    | some (.ref f :: _) => f
    | _ => 0)
structure FnI where
  at_ : Pa
  name : Str
  qual : Str
  params : Arguments
  body : List Stmt
  scope : Scope
  N : List Str
  ps : List Str
  dfl : List D
  keep : Bool
  mu : List Str
def FnI.cfg (f : FnI) : Cfg := ⟨f.N, f.scope, fun _ => true, f.mu, f.keep, some ⟨fun _ => rfl⟩⟩
def FnI.val (f : FnI) : He.FnW := some (f.name, f.qual, f.params, .stmts f.body, f.scope, mainGlobals, [], builtinsNs)
def fnAt (K : PySem.W.Frag) (a : Addr) : He.FnW := match K.lookup a with
  | some ⟨_, _, .func fd, _⟩ => some (fd.name, fd.qualname, fd.params, fd.body, fd.scope, fd.globals, fd.closure, fd.builtins)
  | _ => none
def dfB (K : PySem.W.Frag) (dV : Value) (l : List D) : Bool := match l with
  | [] => (match dV with
    | .none => true
    | _ => false)
  | l => (match dV with
    | .ref t => (match K.lookup t with
      | some ⟨_, _, .seq its _, _⟩ => all2 (dvB K 8) l its.toList
      | _ => false)
    | _ => false)
def FnI.chk (K : PySem.W.Frag) (f : FnI) : Bool := PySem.W.keepIn K (.ref (paA K f.at_)) && (match K.lookup (paA K f.at_) with
  | some ⟨_, _, .func fd, _⟩ => PySem.W.codeIn K fd.code f.qual && dfB K fd.defaults f.dfl
  | _ => false)
/-- how its parameters are bound -/
structure FnI.Bd (f : FnI) : Prop where
  S : FnScope f.N f.ps f.scope
  b0 : f.dfl = [] → ∀ (kV doc pm : Value) (an : Option Addr) (cdv ct : Value) (us : List Value), us.length = f.ps.length → bindArgs (PySem.W.fnOf f.name f.qual f.params f.body f.scope .none kV doc pm an cdv ct) ⟨us, []⟩ = pure (f.ps.zip us)
  b1 : f.dfl ≠ [] → ∀ n j, j ≤ f.dfl.length → n + (f.dfl.length - j) = f.ps.length → ∀ (t : Addr) (kV doc pm : Value) (an : Option Addr) (cdv ct : Value) (us its : List Value), us.length = n → its.length = f.dfl.length →
    ∃ k, bindArgs (PySem.W.fnOf f.name f.qual f.params f.body f.scope (.ref t) kV doc pm an cdv ct) ⟨us, []⟩ = seqItems? (.ref t) >>= k ∧ k (some its.toArray) = pure (f.ps.zip (us ++ its.drop j))
/-- the function, read: T the text's tables -/
def FnI.fd (T : Tx) (f : FnI) : FD := ⟨f.ps.length, f.N.length, f.dfl, f.keep, (comp T f.cfg f.body).1⟩
theorem FnI.raw {T : Tx} {k : Nat} {f : FnI} (e : fnAt T.K (paA T.K f.at_) = f.val) (c : f.chk T.K = true) (ha : T.fa k = paA T.K f.at_) (B : f.Bd) : FnRaw T (T.fa k) f.name f.qual f.params f.body f.scope f.N f.ps f.dfl := by
  obtain ⟨kp, c2⟩ := Bool.and_eq_true_iff.mp c
  unfold fnAt at e
  cases q : T.K.lookup (paA T.K f.at_) with
  | none => rw [q] at c2; cases c2
  | some o =>
    obtain ⟨oc, od, dt, osl⟩ := o
    rw [q] at c2 e
    cases dt with
    | func fd =>
      obtain ⟨n1, n2, n3, n4, n5, n6, n7, n8, n9, n10, n11, n12, n13, n14, n15⟩ := fd
      have e2 : (some (n1, n2, n3, n4, n5, n6, n7, n15) : He.FnW) = some (f.name, f.qual, f.params, .stmts f.body, f.scope, mainGlobals, [], builtinsNs) := e
      simp only [Option.some.injEq, Prod.mk.injEq] at e2
      obtain ⟨h1, h2, h3, h4, h5, h6, h7, h8⟩ := e2
      subst h1 h2 h3 h4 h5 h6 h7 h8
      have c3 : (PySem.W.codeIn T.K n13 f.qual && dfB T.K n8 f.dfl) = true := c2
      obtain ⟨k1, k2⟩ := Bool.and_eq_true_iff.mp c3
      refine ⟨n8, n9, n10, n11, n13, n14, oc, n12, od, osl, by rw [ha]; exact q, k1, B.S, fun j hj => ?_⟩
      by_cases hd : f.dfl = []
      · have hj0 : j = 0 := by
          have : f.dfl.length = 0 := by rw [hd]; rfl
          have hj' : j ≤ f.dfl.length := hj
          omega
        have hn : n8 = .none := by
          rw [hd] at k2
          unfold dfB at k2
          cases n8 <;> first | rfl | cases k2
        subst hn
        refine ⟨[], [], .all (B.b0 hd n9 n10 n11 n12 n13 n14), .nil, fun μ H => ?_⟩
        show RDs T.toTb μ H (f.dfl.drop (f.dfl.length - j)) []
        rw [hd]
        simp
        exact .nil
      · have hit : ∃ t o its, n8 = .ref t ∧ T.K.lookup t = some o ∧ (∃ m, o.data = .seq its m) ∧ all2 (dvB T.K 8) f.dfl its.toList = true := by
          unfold dfB at k2
          split at k2
          · rename_i z
            exact absurd z hd
          · cases n8 with
            | ref t =>
              dsimp only at k2
              split at k2
              · rename_i c' d' its m sl hk
                exact ⟨t, _, its, rfl, hk, ⟨m, rfl⟩, k2⟩
              · cases k2
            | _ => cases k2
        obtain ⟨t, o, its, rfl, hk, ⟨m, hm⟩, hall⟩ := hit
        obtain ⟨vs, r1, r2⟩ := vals_by (fun {d u} => dvB_ok) hall
        have hlen : its.toList.length = f.dfl.length := by rw [← r1.length, ← (r2 T.toTb [] (fun _ => none) rfl).length]
        refine ⟨its.toList.drop (f.dfl.length - j), vs.drop (f.dfl.length - j), fun s us X hl => ?_, r1.drop _, fun μ H => (r2 T.toTb μ H rfl).drop _⟩
        have hj' : j ≤ f.dfl.length := hj
        have l2 : us.length = us.length := rfl
        obtain ⟨kk, e1, e3⟩ := B.b1 hd us.length (f.dfl.length - j) (by omega) (by rw [List.length_append, List.length_drop, hlen] at hl; omega) t n9 n10 n11 n12 n13 n14 us its.toList rfl hlen
        refine BindsTo.of_looks fun M => ?_
        rw [e1]
        exact looks_items X hk hm (.of_pure (by rw [← e3, Array.toArray_toList]))
    | _ => cases c2
theorem FnI.fact {T : Tx} {k : Nat} {f : FnI} (e : fnAt T.K (paA T.K f.at_) = f.val) (c : f.chk T.K = true) (ha : T.fa k = paA T.K f.at_) (B : f.Bd) : FnFact T k (f.fd T) := ⟨f.name, f.qual, f.params, f.body, f.scope, f.N, f.ps, FnI.raw e c ha B, rfl, rfl, (comp T f.cfg f.body).2⟩
end PyI
namespace PyI
open PySem PySem.Spec PyProof.Rows L2
structure ClI where
  name : Str
  init : Option Nat
  slots : List (Str × Nat)
  meths : List (Str × Nat)
  props : List (Str × Nat)
  sps : List (Str × Nat)
  neO : Bool
  itr : Option (Nat × Nat × Nat × Str)
/-- a built-in base of exceptions -/
structure BF where
  B : String
  newId : String
  i : String
  bmB : List Value
  sf : StoreFacts B bmB "object.__setattr__" "object"
  kf : PySem.W.KxsFacts B i
  fb : ExcBaseFacts B newId i bmB
def bfs : Nat → BF
  | 0 => ⟨_, _, _, _, F.store_ValueError, PySem.W.kxs_ValueError, F.excBase_ValueError⟩
  | 1 => ⟨_, _, _, _, F.store_IndexError, PySem.W.kxs_IndexError, F.excBase_IndexError⟩
  | 2 => ⟨_, _, _, _, F.store_OverflowError, PySem.W.kxs_OverflowError, F.excBase_OverflowError⟩
  | 3 => ⟨_, _, _, _, F.store_ArithmeticError, PySem.W.kxs_ArithmeticError, F.excBase_ArithmeticError⟩
  | _ => ⟨_, _, _, _, F.store_LookupError, PySem.W.kxs_LookupError, F.excBase_LookupError⟩
/-- an exception's own __init__ -/
structure ExW where
  v : Str
  f : Str
  params : Arguments
  scope : Scope
structure ExI where
  name : Str
  base : Nat
  ini : Option ExW
structure TD where
  fns : List FnI
  cls : List ClI
  gfn : List (Str × Nat)
  gval : List (Str × D)
  gblt : List Str
  isa : List ((TK × TK) × Bool)
  fst : List (Nat × TK)
  bop : List (Nat × Operator × String)
  exs : List ExI
  exm : List ((Nat × TK) × Bool)
  file : Str
def TD.G (td : TD) (x : Str) : Option Gb := match td.gfn.lookup x with
  | some k => some (.fn k)
  | none => (match td.cls.findIdx? (fun c => c.name == x) with
    | some c => some (.cls c)
    | none => (match td.exs.findIdx? (fun c => c.name == x) with
     | some c => some (.cls (td.cls.length + c))
     | none => (match td.gval.lookup x with
      | some d => some (.val d)
      | none => if td.gblt.contains x = true then some .blt else none)))
def TD.ex? (td : TD) (c : Nat) : Option ExI := if c < td.cls.length then none else td.exs[c - td.cls.length]?
def ClI.att (ci : ClI) (f : Str) : Option At1 := match ci.slots.lookup f with
  | some i => some (.slot i)
  | none => (match ci.props.lookup f with
    | some k => some (.prop k)
    | none => (match ci.meths.lookup f with
      | some k => some (.meth k)
      | none => none))
def mkTx (td : TD) (K : PySem.W.Frag) : Tx :=
  { K := K
    fa := fun k => match td.fns[k]? with
      | some f => paA K f.at_
      | none => 0
    ca := fun c => match td.cls[c]? with
      | some ci => He.ga K ci.name
      | none => (match td.ex? c with
        | some e => He.ga K e.name
        | none => 0)
    xf := fun c => match td.ex? c with
      | some ⟨_, _, some w⟩ => w.f
      | _ => Str.empty
    G := td.G
    att := fun c f => match td.cls[c]? with
      | some ci => ci.att f
      | none => none
    slots := fun c => match td.cls[c]? with
      | some ci => ci.slots.length
      | none => 0
    init := fun c => match td.cls[c]? with
      | some ci => ci.init
      | none => none
    spm := fun c m => match td.cls[c]? with
      | some ci => ci.sps.lookup m
      | none => none
    isI := fun c => (td.cls[c]?).isSome
    isa := fun t u => td.isa.lookup (t, u)
    fst := fun c t => td.fst.contains (c, t)
    sfst := fun c => (td.cls[c]?).isSome
    neO := fun c => match td.cls[c]? with
      | some ci => ci.neO
      | none => false
    nsq := fun _ => false
    bop := fun c op ty => td.bop.contains (c, op, ty)
    itr := fun c => match td.cls[c]? with
      | some ci => ci.itr.map (·.1)
      | none => none
    exn := fun c => (td.ex? c).map fun e => e.ini.isSome
    exm := fun c t => td.exm.lookup (c, t) }
def sclsB (K : PySem.W.Frag) (C : Addr) : Bool := PySem.W.plainGet K C Str.empty && PySem.W.isClsIn K C && PySem.W.plainOver K C && He.eqO (PySem.W.findIn K (.ref C) "__setattr__") (some (some (.builtin "object.__setattr__")))
theorem sclsB_ok {K : PySem.W.Frag} {C : Addr} (h : sclsB K C = true) : SlX.SCls K C := by
  simp only [sclsB, Bool.and_eq_true] at h
  exact ⟨h.1.1.1, h.1.1.2, h.1.2, He.eqO_ok h.2⟩
def sisiB (K : PySem.W.Frag) (C : Addr) : Bool := He.eqO (PySem.W.findIn K (.ref C) "__class__") (some (some (.builtin "object.__class__"))) && He.eqO (PySem.W.specialIn K (.builtin "object.__class__") "__get__") (some (some (.builtin "getset_descriptor.__get__"))) &&
  decide (PySem.W.takesIn K (.builtin "object.__class__") = some true) && decide (PySem.W.mroIn K C (.type "object") = some true)
theorem sisiB_ok {K : PySem.W.Frag} {C : Addr} (h : sisiB K C = true) : SlX.SIsi K C := by
  simp only [sisiB, Bool.and_eq_true, decide_eq_true_iff] at h
  exact ⟨He.eqO_ok h.1.1.1, He.eqO_ok h.1.1.2, h.1.2, h.2⟩
def slotB (K : PySem.W.Frag) (C : Addr) (f : Str) (i : Nat) : Bool := He.eqO (PySem.W.findIn K (.ref C) f) (some (some (.ref (He.ma K C f)))) && He.eqO (PySem.W.specialIn K (.ref (He.ma K C f)) "__get__") (some (some (.builtin "member_descriptor.__get__"))) &&
  decide (PySem.W.takesIn K (.ref (He.ma K C f)) = some true) && decide (PySem.W.typeIn K (.ref (He.ma K C f)) = some (.type "member_descriptor")) && decide (PySem.W.slotIn K (He.ma K C f) C = some i) && decide (i < 1000)
theorem slotB_ok {K : PySem.W.Frag} {C : Addr} {f : Str} {i : Nat} (h : slotB K C f i = true) : SlX.Slot1 K C f (He.ma K C f) i := by
  simp only [slotB, Bool.and_eq_true, decide_eq_true_iff] at h
  exact ⟨He.eqO_ok h.1.1.1.1.1, He.eqO_ok h.1.1.1.1.2, h.1.1.1.2, h.1.1.2, h.1.2, h.2⟩
def methB (K : PySem.W.Frag) (C : Addr) (m : Str) (f : Addr) : Bool := He.eqO (PySem.W.findIn K (.ref C) m) (some (some (.ref f))) && PySem.W.isFn K (.ref f) && PySem.W.keepIn K (.ref f)
def spB (K : PySem.W.Frag) (C : Addr) (m : Str) (f : Addr) : Bool := He.eqO (PySem.W.findIn K (.ref C) m) (some (some (.ref f))) && PySem.W.isFn K (.ref f) && PySem.W.fnIn K f
def recH (K : PySem.W.Frag) (p : Addr) (f : Addr) : Bool := match PySem.W.recIn K p "property" with
  | some (.ref g :: _) => decide (g = f)
  | _ => false
def propB (K : PySem.W.Frag) (C : Addr) (m : Str) (f : Addr) : Bool := He.eqO (PySem.W.findIn K (.ref C) m) (some (some (.ref (He.ma K C m)))) && He.eqO (PySem.W.specialIn K (.ref (He.ma K C m)) "__get__") (some (some (.builtin "property.__get__"))) &&
  decide (PySem.W.takesIn K (.ref (He.ma K C m)) = some true) && recH K (He.ma K C m) f
theorem propB_ok {K : PySem.W.Frag} {C f : Addr} {m : Str} (h : propB K C m f = true) : ∃ p, PySem.W.findIn K (.ref C) m = some (some (.ref p)) ∧ PySem.W.specialIn K (.ref p) "__get__" = some (some (.builtin "property.__get__")) ∧
    PySem.W.takesIn K (.ref p) = some true ∧ ∃ rest, PySem.W.recIn K p "property" = some (.ref f :: rest) := by
  simp only [propB, Bool.and_eq_true, decide_eq_true_iff] at h
  obtain ⟨⟨⟨h1, h2⟩, h3⟩, h4⟩ := h
  refine ⟨_, He.eqO_ok h1, He.eqO_ok h2, h3, ?_⟩
  unfold recH at h4
  split at h4
  · rename_i g rest e
    rw [decide_eq_true_iff] at h4
    subst h4
    exact ⟨rest, e⟩
  · cases h4
def initB (K : PySem.W.Frag) (C f : Addr) : Bool := PySem.W.makesIn K C && He.eqO (PySem.W.findIn K (.ref C) "__init__") (some (some (.ref f))) && PySem.W.isFn K (.ref f) && PySem.W.keepIn K (.ref C)
def bopB (K : PySem.W.Frag) (C : Addr) (op : Operator) (ty : String) : Bool := (match PySem.W.findIn K (.ref C) (dunderR op.info.2) with
    | some none => true
    | some (some (.ref _)) => true
    | _ => false) && (PySem.W.findIn K (.type ty) (PySem.dunder op.info.2)).isSome && (PySem.W.findIn K (.type ty) (dunderR op.info.2)).isSome && decide (PySem.W.subIn K (.type ty) (.ref C) = some false)
def globB1 (K : PySem.W.Frag) (x : Str) (a : Addr) : Bool := He.eqO (PySem.W.nsIn K mainGlobals x) (some (some (.ref a))) && PySem.W.keepIn K (.ref a)
def valB1 (K : PySem.W.Frag) (x : Str) (d : D) : Bool := match PySem.W.nsIn K mainGlobals x with
  | some (some u) => dvB K 8 d u
  | _ => false
def retB (f : FnI) (bn F : Str) : Bool := (match f.body with
  | [.Return (some (.Call (.Name b p1) [.Attribute (.Name s p2) F' p3] [] p4)) p5] => decide (b = bn) && decide (s = "self") && decide (F' = F)
  | _ => false) && decide (f.N = [("self" : Str)]) && decide (f.ps = [("self" : Str)]) && f.dfl.isEmpty && visB f.scope "self" && globB f.scope bn
def isBlt (g : Option Gb) : Bool := match g with
  | some .blt => true
  | _ => false
def b1B (td : TD) (K : PySem.W.Frag) (c i k : Nat) (m bn F : Str) : Bool := sclsB K ((mkTx td K).ca c) && slotB K ((mkTx td K).ca c) F i && isBlt (td.G bn) && He.eqO (PySem.W.findIn K (.ref ((mkTx td K).ca c)) m) (some (some (.ref ((mkTx td K).fa k)))) && PySem.W.isFn K (.ref ((mkTx td K).fa k)) && (match td.fns[k]? with
  | some f => retB f bn F
  | none => false)
def itB (td : TD) (K : PySem.W.Frag) (c : Nat) (ci : ClI) : Bool := match ci.itr with
  | some (i, k, k2, F) => b1B td K c i k "__iter__" "iter" F && b1B td K c i k2 "__len__" "len" F
  | none => true
def clsB1 (T : Tx) (c : Nat) (ci : ClI) : Bool := sclsB T.K (T.ca c) && sisiB T.K (T.ca c) && globB1 T.K ci.name (T.ca c) && PySem.W.selfFirst T.K (T.ca c) &&
  (match ci.init with
    | some k => initB T.K (T.ca c) (T.fa k)
    | none => true) && (ci.slots.all fun q => slotB T.K (T.ca c) q.1 q.2) && (ci.meths.all fun q => methB T.K (T.ca c) q.1 (T.fa q.2)) && (ci.props.all fun q => propB T.K (T.ca c) q.1 (T.fa q.2)) && (ci.sps.all fun q => spB T.K (T.ca c) q.1 (T.fa q.2)) &&
  (!ci.neO || He.eqO (PySem.W.findIn T.K (.ref (T.ca c)) "__ne__") (some (some (.builtin "object.__ne__"))))
def noneB : Value → Bool
  | .none => true
  | _ => false
theorem noneB_ok {v : Value} (h : noneB v = true) : v = .none := by
  cases v <;> first | rfl | cases h
def isFun : ScopeKind → Bool
  | .function => true
  | _ => false
def cellB (K : PySem.W.Frag) (C : Addr) (l : List (Str × Addr)) : Bool := match l.lookup ("__class__" : Str) with
  | some cc => (match K.lookup cc with
    | some ⟨_, _, .cell (some (.ref D)), _⟩ => decide (D = C)
    | _ => false)
  | none => false
def fileB (K : PySem.W.Frag) (file : Str) (code : Value) : Bool := match code with
  | .ref oc => (match K.lookup oc with
    | some ⟨_, _, .fields vs, _⟩ => (match (vs[2]? : Option Value) with
      | some (Value.str fl _) => file == fl
      | _ => false)
    | _ => false)
  | _ => false
def selfB (p : Arguments) : Bool := match (p.posonlyargs ++ p.args).head? with
  | some a => decide (a.arg = "self")
  | none => false
def ibodyB (w : ExW) (b : FuncBody) : Bool := match b with
  | .stmts [.Expr (.Call (.Attribute (.Call (.Name sp p0) [] [] p1) ini p2) [.Constant (.str m) j p3] [] p4) p5, .Assign [.Attribute (.Name self p6) f p7] (.Name v p8) p9] =>
    decide (sp = "super") && decide (ini = "__init__") && decide (self = "self") && decide (f = w.f) && decide (v = w.v) && (p2.endLine == p4.line)
  | _ => false
def initXB (file : Str) (K : PySem.W.Frag) (C : Addr) (w : ExW) (b : BF) : Bool := match K.lookup (He.ma K C "__init__") with
  | some ⟨_, _, .func fd, _⟩ => PySem.W.codeIn K fd.code fd.qualname && ibodyB w fd.body && (fd.scope.names.all fun x => decide (x.2 ≠ .cell)) && decide (fd.scope.names.lookup ("self" : Str) = some .local) && decide (fd.scope.names.lookup w.v = some .local) && (!(("self" : Str) == w.v)) &&
    decide (fd.scope.names.lookup ("super" : Str) = some .globalImplicit) && decide (fd.scope.names.lookup ("__class__" : Str) = some .free) && selfB fd.params && fileB K file fd.code && decide (fd.globals = mainGlobals) && decide (fd.builtins = builtinsNs) && cellB K C fd.closure && (!(w.v == ("__debug__" : Str))) &&
    noneB fd.defaults && (!fd.scope.isCoroutine) && (!fd.scope.isGenerator) && isFun fd.scope.kind &&
    He.eqO (PySem.W.findIn K (.ref C) "__setattr__") (some (some (.builtin "object.__setattr__"))) && PySem.W.excOver K C b.bmB && He.eqO (PySem.W.takerIn K C w.f) (some none) && PySem.W.hasDictIn K C && (PySem.W.clsIn K C).isSome && decide (PySem.W.mroIn K C (.ref C) = some true) &&
    PySem.W.excInitIn K C b.bmB b.newId && He.eqO (PySem.W.nsIn K cStatics "thirdparty.any") (some none) && He.eqO (PySem.W.ks_superIn K C C "__init__") (some (some (.builtin b.i))) && decide (PySem.W.subIn K (.ref C) (.type b.B) = some true) &&
    He.eqO (PySem.W.findIn K (.ref C) "__init__") (some (some (.ref (He.ma K C "__init__")))) && decide (PySem.W.typeIn K (.ref (He.ma K C "__init__")) = some (.type "function"))
  | _ => false
def exB (file : Str) (K : PySem.W.Frag) (C : Addr) (e : ExI) : Bool := globB1 K e.name C && decide (PySem.W.subIn K (.ref C) (.type "BaseException") = some true) && decide (PySem.W.typeIn K (.ref C) = some (.type "type")) &&
  (match e.ini with
  | some w => He.eqO (PySem.W.nsIn K mainGlobals "super") (some none) && initXB file K C w (bfs e.base) && xfB K C && He.eqO (PySem.W.findIn K (.ref C) w.f) (some none)
  | none => PySem.W.excIn K C (bfs e.base).bmB (bfs e.base).newId)
/-- how the __init__ of an exception is written, at a part of the heap -/
def exAt (K : PySem.W.Frag) (e : ExI) : Option (Arguments × Scope) := match e.ini with
  | some _ => (match K.lookup (He.ma K (He.ga K e.name) "__init__") with
    | some ⟨_, _, .func fd, _⟩ => some (fd.params, fd.scope)
    | _ => none)
  | none => none
def ExI.val (e : ExI) : Option (Arguments × Scope) := e.ini.map fun w => (w.params, w.scope)
/-- how its parameters are bound -/
def ExI.Bd (e : ExI) : Prop := ∀ w, e.ini = some w → ∀ (name qual : Str) (body : FuncBody) (gl bl : Addr) (cl : List (Str × Addr)) (kV doc pm cdv ct : Value) (an : Option Addr) (x : Addr) (u : Value),
  bindArgs ⟨name, qual, w.params, body, w.scope, gl, cl, .none, kV, doc, pm, an, cdv, ct, bl⟩ ⟨[.ref x, u], []⟩ = pure [(("self" : Str), .ref x), (w.v, u)]
/-- all of the text's tables, at a part of the heap -/
def TD.chk (td : TD) (K : PySem.W.Frag) : Bool :=
  (td.gfn.all fun q => globB1 K q.1 ((mkTx td K).fa q.2)) && (td.gval.all fun q => valB1 K q.1 q.2) && (td.gblt.all fun x => He.eqO (PySem.W.nsIn K mainGlobals x) (some none)) &&
  ((List.range td.cls.length).all fun c => match td.cls[c]? with
    | some ci => clsB1 (mkTx td K) c ci && itB td K c ci
    | none => false) &&
  (td.isa.all fun q => decide (PySem.W.kitOne K (tkv (mkTx td K).toTb q.1.1) (tkv (mkTx td K).toTb q.1.2) = some q.2)) &&
  (td.fst.all fun q => PySem.W.notFirst K ((mkTx td K).ca q.1) (tkv (mkTx td K).toTb q.2)) &&
  (td.bop.all fun q => bopB K ((mkTx td K).ca q.1) q.2.1 q.2.2) && ((List.range td.exs.length).all fun c => match td.exs[c]? with
    | some e => exB td.file K ((mkTx td K).ca (td.cls.length + c)) e
    | none => false) &&
  (td.exm.all fun q => decide (PySem.W.exmOne K (.ref ((mkTx td K).ca q.1.1)) (tkv (mkTx td K).toTb q.1.2) = some q.2)) && (td.fns.all fun f => f.chk K)
theorem lookup_in {α β : Type} [BEq α] [LawfulBEq α] : ∀ {l : List (α × β)} {x : α} {v : β}, l.lookup x = some v → (x, v) ∈ l
  | [], _, _, h => by cases h
  | (y, w) :: r, x, v, h => by
    rw [List.lookup_cons] at h
    cases q : x == y with
    | true =>
      rw [q] at h
      cases h
      rw [eq_of_beq q]
      exact List.mem_cons_self
    | false =>
      rw [q] at h
      exact List.mem_cons_of_mem _ (lookup_in h)
theorem idx_at {l : List ClI} {x : Str} {c : Nat} (h : l.findIdx? (fun c => c.name == x) = some c) : ∃ ci, l[c]? = some ci ∧ ci.name = x := by
  obtain ⟨h1, h2, _⟩ := List.findIdx?_eq_some_iff_getElem.mp h
  exact ⟨l[c], List.getElem?_eq_getElem h1, eq_of_beq h2⟩
section
variable {td : TD} {K : PySem.W.Frag} {h : Heap} {mg : Str → Option Value}
theorem TD.cls_ok2 (c : td.chk K = true) {i : Nat} {ci : ClI} (e : td.cls[i]? = some ci) : (clsB1 (mkTx td K) i ci && itB td K i ci) = true := by
  simp only [TD.chk, Bool.and_eq_true] at c
  have q := List.all_eq_true.mp c.1.1.1.1.1.1.2 i (by rw [List.mem_range]; exact (List.getElem?_eq_some_iff.mp e).1)
  rw [e] at q
  exact q
theorem TD.cls_ok (c : td.chk K = true) {i : Nat} {ci : ClI} (e : td.cls[i]? = some ci) : clsB1 (mkTx td K) i ci = true := (Bool.and_eq_true_iff.mp (TD.cls_ok2 c e)).1
theorem TD.ex_at {i : Nat} {e : ExI} (q : td.ex? i = some e) : ∃ j, i = td.cls.length + j ∧ td.exs[j]? = some e := by
  unfold TD.ex? at q
  split at q
  · cases q
  · exact ⟨i - td.cls.length, by omega, q⟩
theorem TD.ex_of {j : Nat} {e : ExI} (q : td.exs[j]? = some e) : td.ex? (td.cls.length + j) = some e := by
  unfold TD.ex?
  rw [if_neg (by omega), show td.cls.length + j - td.cls.length = j by omega]
  exact q
theorem TD.ex_ok (c : td.chk K = true) {i : Nat} {e : ExI} (q : td.ex? i = some e) : exB td.file K ((mkTx td K).ca i) e = true := by
  obtain ⟨j, rfl, q2⟩ := TD.ex_at q
  clear q
  simp only [TD.chk, Bool.and_eq_true] at c
  have z := List.all_eq_true.mp c.1.1.2 j (by rw [List.mem_range]; exact (List.getElem?_eq_some_iff.mp q2).1)
  rw [q2] at z
  exact z
theorem idx_atx {l : List ExI} {x : Str} {c : Nat} (h : l.findIdx? (fun c => c.name == x) = some c) : ∃ ci, l[c]? = some ci ∧ ci.name = x := by
  obtain ⟨h1, h2, _⟩ := List.findIdx?_eq_some_iff_getElem.mp h
  exact ⟨l[c], List.getElem?_eq_getElem h1, eq_of_beq h2⟩
theorem TD.ok (X : K.In h) (G : h.Ns mainGlobals mg) (c : td.chk K = true) : TxOk (mkTx td K) mg := by
  have cc := fun {i ci} e => TD.cls_ok (td := td) (i := i) (ci := ci) c e
  have cx := fun {i e} q => TD.ex_ok (td := td) (i := i) (e := e) c q
  simp only [TD.chk, Bool.and_eq_true] at c
  obtain ⟨⟨⟨⟨⟨⟨⟨⟨⟨c1, c2⟩, c3⟩, c4⟩, c5⟩, c6⟩, c7⟩, cx1⟩, cx2⟩, c8⟩ := c
  have cls : ∀ {i ci}, td.cls[i]? = some ci → SlX.SCls K ((mkTx td K).ca i) ∧ SlX.SIsi K ((mkTx td K).ca i) ∧ globB1 K ci.name ((mkTx td K).ca i) = true ∧ PySem.W.selfFirst K ((mkTx td K).ca i) = true ∧
      (match ci.init with | some k => initB K ((mkTx td K).ca i) ((mkTx td K).fa k) | none => true) = true ∧ (ci.slots.all fun q => slotB K ((mkTx td K).ca i) q.1 q.2) = true ∧ (ci.meths.all fun q => methB K ((mkTx td K).ca i) q.1 ((mkTx td K).fa q.2)) = true ∧
      (ci.props.all fun q => propB K ((mkTx td K).ca i) q.1 ((mkTx td K).fa q.2)) = true ∧ (ci.sps.all fun q => spB K ((mkTx td K).ca i) q.1 ((mkTx td K).fa q.2)) = true ∧ (!ci.neO || He.eqO (PySem.W.findIn K (.ref ((mkTx td K).ca i)) "__ne__") (some (some (.builtin "object.__ne__")))) = true := fun {i ci} e => by
    have q := cc e
    simp only [clsB1, Bool.and_eq_true] at q
    obtain ⟨⟨⟨⟨⟨⟨⟨⟨⟨q1, q2⟩, q3⟩, q4⟩, q5⟩, q6⟩, q7⟩, q8⟩, q9⟩, q10⟩ := q
    exact ⟨sclsB_ok q1, sisiB_ok q2, q3, q4, q5, q6, q7, q8, q9, q10⟩
  have at_ : ∀ {i : Nat} {α : Type} {f : ClI → Option α} {r : α}, (match td.cls[i]? with | some ci => f ci | none => none) = some r → ∃ ci, td.cls[i]? = some ci ∧ f ci = some r := fun {i α f r} e => by
    cases q : td.cls[i]? with
    | none => rw [q] at e; cases e
    | some ci => rw [q] at e; exact ⟨ci, rfl, e⟩
  have gl : ∀ {x : Str} {a : Addr}, globB1 K x a = true → mg x = some (.ref a) ∧ PySem.W.keepIn K (.ref a) = true := fun {x a} e => by
    simp only [globB1, Bool.and_eq_true] at e
    exact ⟨PySem.W.mg_of X G (He.eqO_ok e.1), e.2⟩
  have gcases : ∀ {x : Str} {r : Gb}, td.G x = some r → (∃ k, r = .fn k ∧ td.gfn.lookup x = some k) ∨ (∃ c, r = .cls c ∧ td.cls.findIdx? (fun c => c.name == x) = some c) ∨ (∃ c, r = .cls (td.cls.length + c) ∧ td.exs.findIdx? (fun c => c.name == x) = some c) ∨ (∃ d, r = .val d ∧ td.gval.lookup x = some d) ∨ (r = .blt ∧ td.gblt.contains x = true) := fun {x r} e => by
    unfold TD.G at e
    split at e
    · rename_i k q; cases e; exact .inl ⟨k, rfl, q⟩
    · split at e
      · rename_i k q; cases e; exact .inr (.inl ⟨k, rfl, q⟩)
      · split at e
        · rename_i k q; cases e; exact .inr (.inr (.inl ⟨k, rfl, q⟩))
        · split at e
          · rename_i k q; cases e; exact .inr (.inr (.inr (.inl ⟨k, rfl, q⟩)))
          · split at e
            · rename_i q; cases e; exact .inr (.inr (.inr (.inr ⟨rfl, q⟩)))
            · cases e
  have atc : ∀ {c : Nat} {f : Str} {r : At1}, (mkTx td K).att c f = some r → ∃ ci, td.cls[c]? = some ci ∧ ((∃ i, r = .slot i ∧ ci.slots.lookup f = some i) ∨ (∃ k, r = .prop k ∧ ci.props.lookup f = some k) ∨ ∃ k, r = .meth k ∧ ci.meths.lookup f = some k) := fun {c f r} e => by
    obtain ⟨ci, e1, e2⟩ := at_ e
    refine ⟨ci, e1, ?_⟩
    unfold ClI.att at e2
    split at e2
    · rename_i i q; cases e2; exact .inl ⟨i, rfl, q⟩
    · split at e2
      · rename_i k q; cases e2; exact .inr (.inl ⟨k, rfl, q⟩)
      · split at e2
        · rename_i k q; cases e2; exact .inr (.inr ⟨k, rfl, q⟩)
        · cases e2
  have some_ : ∀ {c : Nat}, (td.cls[c]?).isSome = true → ∃ ci, td.cls[c]? = some ci := fun e => Option.isSome_iff_exists.mp e
  refine { fn := fun x k e => ?_, cls := fun x k e => ?_, val := fun x d e => ?_, blt := fun x e => ?_, mke := fun i k e => ?_, sl := fun i f j e => ?_, me := fun i f k e => ?_, pr := fun i f k e => ?_, sp := fun i m k e => ?_, si := fun i e => ?_, isa := fun t u b e => ?_, fst := fun i t e => ?_, sfst := fun i e => ?_, neO := fun i e => ?_, nsq := fun i e => (nomatch e), bop := fun i op ty e => ?_, exm := fun i t b e => ?_, xfc := fun i e => ?_ }
  · rcases gcases e with ⟨k', e1, q⟩ | ⟨c, e1, q⟩ | ⟨c, e1, q⟩ | ⟨d, e1, q⟩ | ⟨e1, q⟩ <;> cases e1
    exact gl (List.all_eq_true.mp c1 _ (lookup_in q))
  · rcases gcases e with ⟨k', e1, q⟩ | ⟨c, e1, q⟩ | ⟨c, e1, q⟩ | ⟨d, e1, q⟩ | ⟨e1, q⟩ <;> cases e1
    · obtain ⟨ci, q1, q2⟩ := idx_at q
      subst q2
      exact gl (cls q1).2.2.1
    · obtain ⟨ex, q1, q2⟩ := idx_atx q
      subst q2
      have z := cx (TD.ex_of q1)
      simp only [exB, Bool.and_eq_true] at z
      exact gl z.1.1.1
  · rcases gcases e with ⟨k', e1, q⟩ | ⟨c, e1, q⟩ | ⟨c, e1, q⟩ | ⟨d', e1, q⟩ | ⟨e1, q⟩ <;> cases e1
    have z := List.all_eq_true.mp c2 _ (lookup_in q)
    simp only [valB1] at z
    split at z
    · rename_i u hu
      obtain ⟨v, r1, r2⟩ := dvB_ok z
      exact ⟨u, v, PySem.W.mg_of X G hu, r1, fun μ H => r2 _ μ H rfl⟩
    · cases z
  · rcases gcases e with ⟨k', e1, q⟩ | ⟨c, e1, q⟩ | ⟨c, e1, q⟩ | ⟨d', e1, q⟩ | ⟨e1, q⟩ <;> cases e1
    exact PySem.W.mg_none_of X G (He.eqO_ok (List.all_eq_true.mp c3 _ (List.contains_iff_mem.mp q)))
  · obtain ⟨ci, e1, e2⟩ := at_ e
    have z := (cls e1).2.2.2.2.1
    rw [e2] at z
    simp only [initB, Bool.and_eq_true] at z
    exact ⟨z.1.1.1, He.eqO_ok z.1.1.2, z.1.2, z.2⟩
  · obtain ⟨ci, e1, ⟨i', z, q⟩ | ⟨k', z, q⟩ | ⟨k', z, q⟩⟩ := atc e <;> cases z
    exact ⟨(cls e1).1, _, slotB_ok (List.all_eq_true.mp (cls e1).2.2.2.2.2.1 _ (lookup_in q))⟩
  · obtain ⟨ci, e1, ⟨i', z, q⟩ | ⟨k', z, q⟩ | ⟨k', z, q⟩⟩ := atc e <;> cases z
    have y := List.all_eq_true.mp (cls e1).2.2.2.2.2.2.1 _ (lookup_in q)
    simp only [methB, Bool.and_eq_true] at y
    exact ⟨(cls e1).1, He.eqO_ok y.1.1, y.1.2, y.2⟩
  · obtain ⟨ci, e1, ⟨i', z, q⟩ | ⟨k', z, q⟩ | ⟨k', z, q⟩⟩ := atc e <;> cases z
    exact ⟨(cls e1).1, propB_ok (List.all_eq_true.mp (cls e1).2.2.2.2.2.2.2.1 _ (lookup_in q))⟩
  · obtain ⟨ci, e1, q⟩ := at_ e
    have y := List.all_eq_true.mp (cls e1).2.2.2.2.2.2.2.2.1 _ (lookup_in q)
    simp only [spB, Bool.and_eq_true] at y
    exact ⟨(cls e1).1, He.eqO_ok y.1.1, y.1.2, y.2⟩
  · obtain ⟨ci, e1⟩ := some_ e
    exact ⟨(cls e1).1, (cls e1).2.1⟩
  · have y := List.all_eq_true.mp c5 _ (lookup_in e)
    rw [decide_eq_true_iff] at y
    exact y
  · exact List.all_eq_true.mp c6 _ (List.contains_iff_mem.mp e)
  · obtain ⟨ci, e1⟩ := some_ e
    exact (cls e1).2.2.2.1
  · have e' : (match td.cls[i]? with | some ci => ci.neO | none => false) = true := e
    cases q : td.cls[i]? with
    | none => rw [q] at e'; cases e'
    | some ci =>
      rw [q] at e'
      have y := (cls q).2.2.2.2.2.2.2.2.2
      have e'' : ci.neO = true := e'
      rw [e''] at y
      exact He.eqO_ok y
  · have y := List.all_eq_true.mp c7 _ (List.contains_iff_mem.mp e)
    simp only [bopB, Bool.and_eq_true, decide_eq_true_iff] at y
    obtain ⟨⟨⟨y1, y2⟩, y3⟩, y4⟩ := y
    obtain ⟨fo, y2⟩ := Option.isSome_iff_exists.mp y2
    obtain ⟨ro, y3⟩ := Option.isSome_iff_exists.mp y3
    split at y1
    · rename_i z; exact ⟨fo, ro, _, z, .inl rfl, y2, y3, y4⟩
    · rename_i g z; exact ⟨fo, ro, _, z, .inr ⟨g, rfl⟩, y2, y3, y4⟩
    · cases y1
  · have y := List.all_eq_true.mp cx2 _ (lookup_in e)
    rw [decide_eq_true_iff] at y
    exact y
  · have e' : (td.ex? i).map (fun e => e.ini.isSome) = some true := e
    cases q : td.ex? i with
    | none => rw [q] at e'; cases e'
    | some ex =>
      rw [q] at e'
      have z := cx q
      obtain ⟨nm, bs, ini⟩ := ex
      cases ini with
      | none => cases e'
      | some w =>
        simp only [exB, Bool.and_eq_true] at z
        have hx : (mkTx td K).xf i = w.f := by
          show (match td.ex? i with | some ⟨_, _, some w⟩ => w.f | _ => Str.empty) = _
          rw [q]
        rw [hx]
        exact ⟨xfB_ok z.2.1.2, He.eqO_ok z.2.2⟩
end
abbrev AlT : Type := Bool × List He.FnW × List (Option (Arguments × Scope))
def TD.obs (td : TD) (K : PySem.W.Frag) : AlT := (td.chk K, td.fns.map fun f => fnAt K (paA K f.at_), td.exs.map (exAt K))
def TD.val (td : TD) : AlT := (true, td.fns.map FnI.val, td.exs.map ExI.val)
def TD.obsG (n : Nat) (td : TD) (g : Addr → Option Obj) : AlT := td.obs (He.frG g (He.asD g n ++ [cStatics]))
def TD.hook (n : Nat) (td : TD) : PySem.W.Hook where
  α := AlT
  obs := fun s => td.obsG n s.heap.get?
  val := fun _ => td.val
  says := fun _ h => ∃ K : PySem.W.Frag, K.In h ∧ td.obs K = td.val
  of := fun _ _ e => ⟨_, He.frG_in, e⟩
  keeps := fun _ _ _ ⟨K, hK, c⟩ k => ⟨K, PySem.W.Frag.In.keeps hK k, c⟩
theorem TD.obsG_eq {n : Nat} {td : TD} {g : Addr → Option Obj} {s : Shared} (h : ∀ a, g a = s.heap.get? a) : td.obsG n g = (td.hook n).obs s := by
  have e : g = s.heap.get? := funext h
  rw [e]
  rfl
def TD.fds (td : TD) (T : Tx) (k : Nat) : Option FD := (td.fns[k]?).map (FnI.fd T)
theorem TD.facts {td : TD} {K : PySem.W.Frag} (c : td.obs K = td.val) (B : ∀ f ∈ td.fns, f.Bd) : ∀ k fd, td.fds (mkTx td K) k = some fd → FnFact (mkTx td K) k fd := by
  intro k fd e
  unfold TD.fds at e
  cases q : td.fns[k]? with
  | none => rw [q] at e; cases e
  | some f =>
    rw [q] at e
    cases e
    have hm : f ∈ td.fns := List.mem_of_getElem? q
    have c1 : td.chk K = true := congrArg (fun z : AlT => z.1) c
    have c2 : td.fns.map (fun f => fnAt K (paA K f.at_)) = td.fns.map FnI.val := congrArg (fun z : AlT => z.2.1) c
    have c3 : (td.fns.map fun f => fnAt K (paA K f.at_))[k]? = (td.fns.map FnI.val)[k]? := by rw [c2]
    rw [List.getElem?_map, List.getElem?_map, q] at c3
    simp only [TD.chk, Bool.and_eq_true] at c1
    refine FnI.fact (f := f) (Option.some.inj c3) (List.all_eq_true.mp c1.2 f hm) ?_ (B f hm)
    show (match td.fns[k]? with | some f => paA K f.at_ | none => 0) = _
    rw [q]
    rfl
theorem retB_ok {f : FnI} {bn F : Str} (h : retB f bn F = true) : (∃ p1 p2 p3 p4 p5, f.body = [.Return (some (.Call (.Name bn p1) [.Attribute (.Name "self" p2) F p3] [] p4)) p5]) ∧ f.N = [("self" : Str)] ∧ f.ps = [("self" : Str)] ∧ f.dfl = [] ∧ visB f.scope "self" = true ∧ globB f.scope bn = true := by
  simp only [retB, Bool.and_eq_true, decide_eq_true_iff] at h
  obtain ⟨⟨⟨⟨⟨h1, h2⟩, h3⟩, h4⟩, h5⟩, h6⟩ := h
  refine ⟨?_, h2, h3, List.isEmpty_iff.mp h4, h5, h6⟩
  split at h1
  · rename_i b p1 s p2 F' p3 p4 p5 e
    simp only [Bool.and_eq_true, decide_eq_true_iff] at h1
    obtain ⟨⟨rfl, rfl⟩, rfl⟩ := h1
    exact ⟨_, _, _, _, _, e⟩
  · cases h1
theorem b1B_ok {td : TD} {K : PySem.W.Frag} {c i k : Nat} {m bn F : Str} (c0 : td.obs K = td.val) (B : ∀ f ∈ td.fns, f.Bd) (h : b1B td K c i k m bn F = true) : B1Fact (mkTx td K) c i m bn := by
  simp only [b1B, Bool.and_eq_true] at h
  obtain ⟨⟨⟨⟨⟨h1, h2⟩, h3⟩, h4⟩, h5⟩, h6⟩ := h
  cases q : td.fns[k]? with
  | none => rw [q] at h6; cases h6
  | some f =>
    rw [q] at h6
    obtain ⟨⟨p1, p2, p3, p4, p5, hb⟩, hN, hps, hd, hv, hg⟩ := retB_ok h6
    have hm : f ∈ td.fns := List.mem_of_getElem? q
    have c1 : td.chk K = true := congrArg (fun z : AlT => z.1) c0
    have c2 : td.fns.map (fun f => fnAt K (paA K f.at_)) = td.fns.map FnI.val := congrArg (fun z : AlT => z.2.1) c0
    have c3 : (td.fns.map fun f => fnAt K (paA K f.at_))[k]? = (td.fns.map FnI.val)[k]? := by rw [c2]
    rw [List.getElem?_map, List.getElem?_map, q] at c3
    simp only [TD.chk, Bool.and_eq_true] at c1
    have ha : (mkTx td K).fa k = paA (mkTx td K).K f.at_ := by
      show (match td.fns[k]? with | some f => paA K f.at_ | none => 0) = _
      rw [q]
      rfl
    have R := FnI.raw (T := mkTx td K) (k := k) (f := f) (Option.some.inj c3) (List.all_eq_true.mp c1.2 f hm) ha (B f hm)
    rw [hb, hN, hps, hd] at R
    have hG : (mkTx td K).G bn = some .blt := by
      show td.G bn = some .blt
      unfold isBlt at h3
      split at h3
      · rename_i e; exact e
      · cases h3
    exact ⟨k, F, _, p1, p2, p3, p4, p5, f.name, f.qual, f.params, f.scope, He.eqO_ok h4, h5, sclsB_ok h1, slotB_ok h2, hG, hg, hv, R⟩
theorem TD.itrs {td : TD} {K : PySem.W.Frag} (c : td.obs K = td.val) (B : ∀ f ∈ td.fns, f.Bd) : ∀ i j, (mkTx td K).itr i = some j → ItFact (mkTx td K) i j := by
  intro i j e
  have c1 : td.chk K = true := congrArg (fun z : AlT => z.1) c
  have e0 : (match td.cls[i]? with | some ci => ci.itr.map (·.1) | none => none) = some j := e
  cases q : td.cls[i]? with
  | none => rw [q] at e0; cases e0
  | some ci =>
    rw [q] at e0
    have e' : ci.itr.map (·.1) = some j := e0
    have h := (Bool.and_eq_true_iff.mp (TD.cls_ok2 c1 q)).2
    unfold itB at h
    cases z : ci.itr with
    | none => rw [z] at e'; cases e'
    | some w =>
      obtain ⟨i', k, k2, F⟩ := w
      rw [z] at e' h
      cases e'
      dsimp only at h
      obtain ⟨h1, h2⟩ := Bool.and_eq_true_iff.mp h
      exact ⟨b1B_ok c B h1, b1B_ok c B h2⟩
theorem cellB_ok {K : PySem.W.Frag} {C : Addr} {l : List (Str × Addr)} (h : cellB K C l = true) : ∃ cc c3 od3 sl3, l.lookup ("__class__" : Str) = some cc ∧ K.lookup cc = some ⟨c3, od3, .cell (some (.ref C)), sl3⟩ := by
  unfold cellB at h
  split at h
  · rename_i cc e
    split at h
    · rename_i c3 od3 D sl3 e2
      rw [decide_eq_true_iff] at h
      subst h
      exact ⟨cc, c3, od3, sl3, e, e2⟩
    · cases h
  · cases h
theorem fileB_ok {K : PySem.W.Frag} {file : Str} {code : Value} (h : fileB K file code = true) : ∃ oc c2 od2 sl2 vs fl tf, code = .ref oc ∧ K.lookup oc = some ⟨c2, od2, .fields vs, sl2⟩ ∧ vs[2]? = some (.str fl tf) ∧ (file == fl) = true := by
  unfold fileB at h
  split at h
  · rename_i oc
    split at h
    · rename_i c2 od2 vs sl2 e
      split at h
      · rename_i fl tf e2
        exact ⟨oc, c2, od2, sl2, vs, fl, tf, rfl, e, e2, h⟩
      · cases h
    · cases h
  · cases h
theorem selfB_ok {p : Arguments} (h : selfB p = true) : ∃ a1, (p.posonlyargs ++ p.args).head? = some a1 ∧ a1.arg = "self" := by
  unfold selfB at h
  split at h
  · rename_i a e
    exact ⟨a, e, of_decide_eq_true h⟩
  · cases h
theorem ibodyB_ok {w : ExW} {b : FuncBody} (h : ibodyB w b = true) : ∃ m j p0 p1 p2 p3 p4 p5 p6 p7 p8 p9, (p2.endLine == p4.line) = true ∧
    b = .stmts [.Expr (.Call (.Attribute (.Call (.Name "super" p0) [] [] p1) "__init__" p2) [.Constant (.str m) j p3] [] p4) p5, .Assign [.Attribute (.Name "self" p6) w.f p7] (.Name w.v p8) p9] := by
  unfold ibodyB at h
  split at h
  · rename_i sp p0 p1 ini p2 m j p3 p4 p5 self p6 f p7 v p8 p9
    simp only [Bool.and_eq_true, decide_eq_true_iff] at h
    obtain ⟨⟨⟨⟨⟨rfl, rfl⟩, rfl⟩, rfl⟩, rfl⟩, hl⟩ := h
    exact ⟨m, j, p0, p1, p2, p3, p4, p5, p6, p7, p8, p9, hl, rfl⟩
  · cases h
theorem isFun_ok {k : ScopeKind} (h : isFun k = true) : k = .function := by
  unfold isFun at h
  split at h
  · rfl
  · cases h
theorem TD.exfs {td : TD} {K : PySem.W.Frag} {h : Heap} {P : Program} {mg : Str → Option Value} (X : K.In h) (G : h.Ns mainGlobals mg) (c0 : td.obs K = td.val) (B : ∀ e ∈ td.exs, e.Bd) (hf : td.exs.any (fun e => e.ini.isSome) = true → (P.main.file : Str) = td.file ∧ (P.main.scope.names.lookup ("super" : Str)).isSome = false) :
    ∀ c b, (mkTx td K).exn c = some b → ExFact P mg (mkTx td K) c b := by
  intro c b e
  have c1 : td.chk K = true := congrArg (fun z : AlT => z.1) c0
  have e' : (td.ex? c).map (fun e => e.ini.isSome) = some b := e
  cases q : td.ex? c with
  | none => rw [q] at e'; cases e'
  | some ex =>
    rw [q] at e'
    cases e'
    have z := TD.ex_ok c1 q
    obtain ⟨j, rfl, q2⟩ := TD.ex_at q
    have hm : ex ∈ td.exs := List.mem_of_getElem? q2
    have c2 : td.exs.map (exAt K) = td.exs.map ExI.val := congrArg (fun z : AlT => z.2.2) c0
    have c3 : (td.exs.map (exAt K))[j]? = (td.exs.map ExI.val)[j]? := by rw [c2]
    rw [List.getElem?_map, List.getElem?_map, q2] at c3
    have c4 : exAt K ex = ex.val := Option.some.inj c3
    have ha : (mkTx td K).ca (td.cls.length + j) = He.ga K ex.name := by
      show (match td.cls[td.cls.length + j]? with | some ci => He.ga K ci.name | none => (match td.ex? (td.cls.length + j) with | some e => He.ga K e.name | none => 0)) = _
      rw [List.getElem?_eq_none (by omega), q]
    have hB := B ex hm
    have hx : ∀ w, ex.ini = some w → (mkTx td K).xf (td.cls.length + j) = w.f := by
      intro w hw
      show (match td.ex? (td.cls.length + j) with | some ⟨_, _, some w⟩ => w.f | _ => Str.empty) = _
      rw [q]
      obtain ⟨_, _, ini⟩ := ex
      cases hw
      rfl
    have hf2 : ex.ini.isSome = true → (P.main.file : Str) = td.file ∧ (P.main.scope.names.lookup ("super" : Str)).isSome = false := fun h => hf (List.any_eq_true.mpr ⟨ex, hm, h⟩)
    obtain ⟨nm, bs, ini⟩ := ex
    cases ini with
    | none =>
      simp only [exB, Bool.and_eq_true, globB1, decide_eq_true_iff] at z
      obtain ⟨⟨⟨⟨z1, z2⟩, z3⟩, z4⟩, z5⟩ := z
      exact ⟨z2, z3, z4, _, _, _, _, (bfs bs).fb, z5⟩
    | some w =>
      obtain ⟨hf3, hf4⟩ := hf2 rfl
      simp only [exB, Bool.and_eq_true, globB1, decide_eq_true_iff] at z
      obtain ⟨⟨⟨⟨z1, z2⟩, z3⟩, z4⟩, ⟨⟨z5, z6⟩, z7⟩, z8⟩ := z
      refine ⟨z2, z3, z4, ?_⟩
      show ExIni P K mg ((mkTx td K).ca (td.cls.length + j)) ((mkTx td K).xf (td.cls.length + j))
      rw [hx w rfl]
      rw [ha] at z6 z3 z4 ⊢
      unfold initXB at z6
      split at z6
      · rename_i c1 od1 fd sl1 hfd
        have c5 : exAt K ⟨nm, bs, some w⟩ = some (fd.params, fd.scope) := by
          show (match K.lookup (He.ma K (He.ga K nm) "__init__") with | some ⟨_, _, .func fd, _⟩ => some (fd.params, fd.scope) | _ => none) = _
          rw [hfd]
        rw [c5] at c4
        have c6 : some (fd.params, fd.scope) = some (w.params, w.scope) := c4
        simp only [Option.some.injEq, Prod.mk.injEq] at c6
        obtain ⟨c7, c8⟩ := c6
        simp only [Bool.and_eq_true, decide_eq_true_iff, Bool.not_eq_true'] at z6
        obtain ⟨⟨⟨⟨⟨⟨⟨⟨⟨⟨⟨⟨⟨⟨⟨⟨⟨⟨⟨⟨⟨⟨⟨⟨⟨⟨⟨⟨⟨y1, y2⟩, y3⟩, y4⟩, y5⟩, y6⟩, y7⟩, y8⟩, y9⟩, y10⟩, y11⟩, y12⟩, y13⟩, y14⟩, y15⟩, y16⟩, y17⟩, y18⟩, y19⟩, y20⟩, y21⟩, y22⟩, y23⟩, y24⟩, y25⟩, y26⟩, y27⟩, y28⟩, y29⟩, y30⟩ := z6
        obtain ⟨m, jj, p0, p1, p2, p3, p4, p5, p6, p7, p8, p9, hl, hb⟩ := ibodyB_ok y2
        obtain ⟨a1, ha1, ha2⟩ := selfB_ok y9
        obtain ⟨oc, c2', od2, sl2, vs, fl, tf, hco, hoc, hvs, hfl⟩ := fileB_ok y10
        obtain ⟨cc, c3', od3, sl3, hcl, hcc⟩ := cellB_ok y13
        obtain ⟨cdD, hcd⟩ := Option.isSome_iff_exists.mp y23
        have hbind : ∀ e u s, BindsTo s fd ⟨[.ref e, u], []⟩ [("self", .ref e), (w.v, u)] := by
          intro e u s
          refine BindsTo.of_eq ?_
          obtain ⟨n1, n2, n3, n4, n5, n6, n7, n8, n9, n10, n11, n12, n13, n14, n15⟩ := fd
          have hn8 : n8 = .none := noneB_ok y15
          subst hn8
          have c7' : n3 = w.params := c7
          have c8' : n5 = w.scope := c8
          subst c7' c8'
          exact hB w rfl n1 n2 n4 n6 n15 n7 n9 n10 n11 n13 n14 n12 e u
        exact ⟨_, cc, oc, fd, c1, c2', c3', od1, od2, od3, sl1, sl2, sl3, w.v, m, jj, p0, p1, p2, p3, p4, p5, p6, p7, p8, p9, a1, vs, fl, tf, cdD, _, _, _, _, hl, hfd, y1, hb, hbind, fun x hx => of_decide_eq_true (List.all_eq_true.mp y3 x hx), y4, y5, y6, y7, y8, ha1, ha2, hco, hoc, hvs, by rw [hf3]; exact hfl, hf4,
          y11, PySem.W.mg_none_of X G (He.eqO_ok z5), y12, hcl, hcc, y14, (bfs bs).sf, He.eqO_ok y19, y20, He.eqO_ok y21, y22, hcd, y24, (bfs bs).kf, (bfs bs).fb, y25, He.eqO_ok y26, He.eqO_ok y27, y28, He.eqO_ok y29, y30, y16, y17, isFun_ok y18, z3, z4⟩
      · cases z6
end PyI
namespace PyI
open PySem PySem.Spec PyProof.Rows L2
section
variable {α β : Type} {a b c : EF} {F : FTs} {env : DEnv} {st : Store} {s : Sps}
@[simp] theorem bind_ok {x : α} {k : α → Store → R β} : (R.ok x st).bind k = k x st := (rfl)
@[simp] theorem bind_ex {x : Option D} {i : Nat} {k : α → Store → R β} : (R.ex i x st).bind k = .ex i x st := (rfl)
@[simp] theorem bind_no {k : α → Store → R β} : (R.no : R α).bind k = .no := (rfl)
@[simp] theorem lift_ok {x : α} {k : α → Store → RS} : liftE (R.ok x st) env k = k x st := (rfl)
@[simp] theorem lift_ex {x : Option D} {i : Nat} {k : α → Store → RS} : liftE (R.ex i x st) env k = .ex i x env st := (rfl)
@[simp] theorem seq_nx {k : DEnv → Store → RS} : (RS.ok .nx env st).seq k = k env st := (rfl)
@[simp] theorem seq_rt {k : DEnv → Store → RS} {d : DV} : (RS.ok (.rt d) env st).seq k = .ok (.rt d) env st := (rfl)
@[simp] theorem seq_bk {k : DEnv → Store → RS} : (RS.ok .bk env st).seq k = .ok .bk env st := (rfl)
@[simp] theorem seq_ct {k : DEnv → Store → RS} : (RS.ok .ct env st).seq k = .ok .ct env st := (rfl)
@[simp] theorem seq_ex {k : DEnv → Store → RS} {i : Nat} {x : Option D} : (RS.ex i x env st).seq k = .ex i x env st := (rfl)
@[simp] theorem loop_nx {k : DEnv → Store → RS} : (RS.ok .nx env st).loop k = k env st := (rfl)
@[simp] theorem loop_ct {k : DEnv → Store → RS} : (RS.ok .ct env st).loop k = k env st := (rfl)
@[simp] theorem loop_bk {k : DEnv → Store → RS} : (RS.ok .bk env st).loop k = .ok .nx env st := (rfl)
@[simp] theorem loop_rt {k : DEnv → Store → RS} {d : DV} : (RS.ok (.rt d) env st).loop k = .ok (.rt d) env st := (rfl)
@[simp] theorem loop_ex {k : DEnv → Store → RS} {i : Nat} {x : Option D} : (RS.ex i x env st).loop k = .ex i x env st := (rfl)
@[simp] theorem only_nx : onlyNx (.ok .nx env st) = .ok .nx env st := (rfl)
@[simp] theorem only_ex {i : Nat} {x : Option D} : onlyNx (.ex i x env st) = .ex i x env st := (rfl)
@[simp] theorem noEx_ok {x : DV} : noEx (.ok x st) = .ok x st := (rfl)
@[simp] theorem cVar_eq {i : Nat} : cVar i F env st = (match env[i]? with | some (some d) => .ok d st | _ => .no) := (rfl)
@[simp] theorem cCon_eq {d : D} : cCon d F env st = .ok (.d d) st := (rfl)
@[simp] theorem c2_eq {g : G2} : c2 g a b F env st = (a F env st).bind fun x st => (b F env st).bind fun y st => g F x y st := (rfl)
@[simp] theorem cAnd_eq : cAnd a b F env st = (a F env st).bind fun x st => (match x with | .d (.bl true) => b F env st | .d (.bl false) => .d (.bl false) st | _ => .no) := (rfl)
@[simp] theorem cOr_eq : cOr a b F env st = (a F env st).bind fun x st => (match x with | .d (.bl true) => .d (.bl true) st | .d (.bl false) => b F env st | _ => .no) := (rfl)
@[simp] theorem cNot_eq : cNot a F env st = (a F env st).bind fun x st => (match x with | .d (.bl b) => .d (.bl (!b)) st | _ => .no) := (rfl)
@[simp] theorem cIf_eq : cIf c a b F env st = (c F env st).bind fun x st => (match x with | .d (.bl true) => a F env st | .d (.bl false) => b F env st | _ => .no) := (rfl)
@[simp] theorem cNeg_eq : cNeg a F env st = (a F env st).bind fun x st => (match x with | .d (.int i) => .d (.int (-i)) st | _ => .no) := (rfl)
@[simp] theorem cChain_eq {p q : Int → Int → Bool} : cChain p q a b c F env st = (a F env st).bind fun x st => (b F env st).bind fun y st => (match x, y with
  | .d (.int i), .d (.int j) => if p i j then (c F env st).bind fun z st => (match z with
      | .d (.int k) => .d (.bl (q j k)) st
      | _ => .no) else .d (.bl false) st
  | _, _ => .no) := (rfl)
@[simp] theorem aNil_eq : aNil F env st = .ok [] st := (rfl)
@[simp] theorem aCons_eq {r : AF} : aCons a r F env st = (a F env st).bind fun x st => (r F env st).bind fun xs st => .ok (x :: xs) st := (rfl)
@[simp] theorem aStar_eq {r : AF} : aStar a r F env st = (a F env st).bind fun x st => (match itemsOf st x with
  | some l => (r F env st).bind fun xs st => .ok (l.map .d ++ xs) st
  | none => .no) := (rfl)
@[simp] theorem cB_eq {g : BG} {r : AF} : cB g r F env st = (r F env st).bind fun xs st => g F xs st := (rfl)
@[simp] theorem cTup_eq {r : AF} : cTup r F env st = (r F env st).bind fun xs st => (match plainD xs with
  | some l => if l.length ≤ line then .d (.tup l) st else .no
  | none => .no) := (rfl)
@[simp] theorem cLst_eq {r : AF} : cLst r F env st = (r F env st).bind fun xs st => (match plainD xs with
  | some l => if l.length ≤ line then .d (.lst l) st else .no
  | none => .no) := (rfl)
@[simp] theorem cCall_eq {k : Nat} {r : AF} : cCall k r F env st = (r F env st).bind fun xs st => F.a k xs st := (rfl)
@[simp] theorem cAtt_eq {att : Nat → Str → Option At1} {f : Str} : cAtt att f a F env st = (a F env st).bind fun x st => attG att f F x st := (rfl)
@[simp] theorem cTru_eq : cTru s a F env st = (a F env st).bind fun d st => truG s F d st := (rfl)
@[simp] theorem cThw_eq {f : LF} : cThw f F env st = (f F env st).bind fun l st => .ok (.loc st.length) (st ++ [.lst l]) := (rfl)
@[simp] theorem lDisp_eq {r : AF} : lDisp r F env st = (r F env st).bind fun xs st => (match plainD xs with
  | some l => if l.length ≤ line then .ok l st else .no
  | none => .no) := (rfl)
@[simp] theorem lList_eq {itr : Nat → Option Nat} : lList itr a F env st = (a F env st).bind fun a st => (match itemsOf st a with
  | some l => .ok l st
  | none => (match ownL itr st a with
    | some l => .ok l st
    | none => .no)) := (rfl)
@[simp] theorem lCat_eq : lCat a b F env st = (a F env st).bind fun a st => (b F env st).bind fun b st => (match lstL st a, lstL st b with
  | some l, some m => if l.length + m.length ≤ line then .ok (l ++ m) st else .no
  | _, _ => .no) := (rfl)
@[simp] theorem cSlice_eq {lo hi : Option EF} : cSlice lo hi a F env st = (a F env st).bind fun x st => sPart lo F env st fun l st => sPart hi F env st fun u st => sliceG st x l u := (rfl)
@[simp] theorem sPart_none {k : Option Int → Store → R DV} : sPart none F env st k = k none st := (rfl)
@[simp] theorem sPart_some {k : Option Int → Store → R DV} : sPart (some a) F env st k = (a F env st).bind fun d st => (match d with
    | .d (.int i) => k (some i) st
    | _ => .no) := (rfl)
@[simp] theorem cBM_eq {ty : String} {g : MG} {r : AF} : cBM ty g a r F env st = (a F env st).bind fun x st => if tyB ty st x = true then (r F env st).bind fun ds st => noEx (g F x ds st) else .no := (rfl)
@[simp] theorem iSrc_eq {itr : Nat → Option Nat} : iSrc itr a F env st = (a F env st).bind fun d st => (match srcX itr st d with
  | some s => .ok s st
  | none => .no) := (rfl)
@[simp] theorem iRng_eq {k : List DV → Store → R Src} {r : AF} : iRng k r F env st = (r F env st).bind fun xs st => k xs st := (rfl)
variable {p q : SF} {d : DV}
@[simp] theorem sSkip_eq : sSkip F env st = .ok .nx env st := (rfl)
@[simp] theorem sSeq_eq : sSeq p q F env st = (p F env st).seq fun env st => q F env st := (rfl)
@[simp] theorem sExpr_eq : sExpr a F env st = liftE (a F env st) env fun _ st => .ok .nx env st := (rfl)
@[simp] theorem sRet_eq : sRet a F env st = liftE (a F env st) env fun d st => .ok (.rt d) env st := (rfl)
@[simp] theorem sRetN_eq : sRetN F env st = .ok (.rt (.d .non)) env st := (rfl)
@[simp] theorem sIf_eq : sIf a p q F env st = liftE (a F env st) env fun x st => (match x with
  | .d (.bl true) => p F env st
  | .d (.bl false) => q F env st
  | _ => .no) := (rfl)
@[simp] theorem sSet_eq {i : Nat} : sSet i a F env st = liftE (a F env st) env fun d st => .ok .nx (env.set i (some d)) st := (rfl)
@[simp] theorem sAsg_eq {g : GF} : sAsg a g F env st = liftE (a F env st) env fun d st => onlyNx (g F d env st) := (rfl)
@[simp] theorem sPar_eq {i j : Nat} {r : AF} : sPar i j r F env st = liftE (r F env st) env fun ds st => (match ds with
  | [x, y] => .ok .nx ((env.set i (some x)).set j (some y)) st
  | _ => .no) := (rfl)
@[simp] theorem sAug_eq {i : Nat} {f : Int → Int → Int} : sAug i f a F env st = (match env[i]? with
  | some (some (.d (.int x))) => liftE (a F env st) env fun y st => (match y with
    | .d (.int y) => .ok .nx (env.set i (some (.d (.int (f x y))))) st
    | _ => .no)
  | _ => .no) := (rfl)
@[simp] theorem gName_eq {i : Nat} : gName i F d env st = .ok .nx (env.set i (some d)) st := (rfl)
@[simp] theorem gItem_eq : gItem a b F d env st = liftE (a F env st) env fun x st => liftE (b F env st) env fun y st => (match x, y, d with
  | .loc m, .d (.int k), .d v => (match st[m]? with
    | some (.lst l) => (match ixN l.length k with
      | some j => .ok .nx env (st.set m (.lst (l.set j v)))
      | none => .no)
    | _ => .no)
  | _, _, _ => .no) := (rfl)
@[simp] theorem sRaise_eq {c : Nat} {r : AF} : sRaise c true r F env st = liftE (r F env st) env fun xs st => (match xs with
    | [.d d] => .ex c (some d) env st
    | _ => .no) := (rfl)
@[simp] theorem instC_int {i : Int} : instC st (.d (.int i)) = none := (rfl)
@[simp] theorem instC_bl {i : Bool} : instC st (.d (.bl i)) = none := (rfl)
@[simp] theorem instC_str {i : Str} : instC st (.d (.str i)) = none := (rfl)
@[simp] theorem instC_non : instC st (.d .non) = none := (rfl)
@[simp] theorem instC_tup {l : List D} : instC st (.d (.tup l)) = none := (rfl)
@[simp] theorem instC_lst {l : List D} : instC st (.d (.lst l)) = none := (rfl)
@[simp] theorem instC_scr {l : List D} : instC st (.d (.scr l)) = none := (rfl)
@[simp] theorem instC_ins {i : Nat} {l : List D} : instC st (.d (.ins i l)) = some i := (rfl)
theorem bin_no {op : Operator} {g : G2} {x y : DV} (h : instC st x = none) (h2 : instC st y = none) : binOwn s op g F x y st = g F x y st := by simp [binOwn, h, h2]
theorem cmp_no {m : Str} {g : G2} {x y : DV} (h : instC st x = none) (h2 : instC st y = none) : cmpOwn s m g F x y st = g F x y st := by simp [cmpOwn, h, h2]
theorem ne_no {g : G2} {x y : DV} (h : instC st x = none) (h2 : instC st y = none) : neOwn s g F x y st = g F x y st := by simp [neOwn, h, h2]
@[simp] theorem bin_int {op : Operator} {g : G2} {i j : Int} : binOwn s op g F (.d (.int i)) (.d (.int j)) st = g F (.d (.int i)) (.d (.int j)) st := (rfl)
@[simp] theorem cmp_int {m : Str} {g : G2} {i j : Int} : cmpOwn s m g F (.d (.int i)) (.d (.int j)) st = g F (.d (.int i)) (.d (.int j)) st := (rfl)
@[simp] theorem ne_int {g : G2} {i j : Int} : neOwn s g F (.d (.int i)) (.d (.int j)) st = g F (.d (.int i)) (.d (.int j)) st := (rfl)
@[simp] theorem ne_str {g : G2} {i j : Str} : neOwn s g F (.d (.str i)) (.d (.str j)) st = g F (.d (.str i)) (.d (.str j)) st := (rfl)
@[simp] theorem cmp_str {m : Str} {g : G2} {i j : Str} : cmpOwn s m g F (.d (.str i)) (.d (.str j)) st = g F (.d (.str i)) (.d (.str j)) st := (rfl)
@[simp] theorem ne_tup {g : G2} {i j : List D} : neOwn s g F (.d (.tup i)) (.d (.tup j)) st = g F (.d (.tup i)) (.d (.tup j)) st := (rfl)
@[simp] theorem cmp_tup {m : Str} {g : G2} {i j : List D} : cmpOwn s m g F (.d (.tup i)) (.d (.tup j)) st = g F (.d (.tup i)) (.d (.tup j)) st := (rfl)
@[simp] theorem bin_tup {op : Operator} {g : G2} {i j : List D} : binOwn s op g F (.d (.tup i)) (.d (.tup j)) st = g F (.d (.tup i)) (.d (.tup j)) st := (rfl)
@[simp] theorem bin_tupi {op : Operator} {g : G2} {i : List D} {j : Int} : binOwn s op g F (.d (.tup i)) (.d (.int j)) st = g F (.d (.tup i)) (.d (.int j)) st := (rfl)
@[simp] theorem add_int {i j : Int} : addG F (.d (.int i)) (.d (.int j)) st = .ok (.d (.int (i + j))) st := (rfl)
@[simp] theorem sub_int {i j : Int} : subG F (.d (.int i)) (.d (.int j)) st = .ok (.d (.int (i - j))) st := (rfl)
@[simp] theorem cmpI_int {p : Int → Int → Bool} {i j : Int} : cmpI p F (.d (.int i)) (.d (.int j)) st = .ok (.d (.bl (p i j))) st := (rfl)
@[simp] theorem tupT_int {o : Od} {g : G2} {i j : Int} : tupT o g F (.d (.int i)) (.d (.int j)) st = g F (.d (.int i)) (.d (.int j)) st := (rfl)
@[simp] theorem eqIG_int {g : G2} {i : Int} {y : DV} : eqIG s g F (.d (.int i)) y st = g F (.d (.int i)) y st := (rfl)
@[simp] theorem neIG_int {g : G2} {i : Int} {y : DV} : neIG s g F (.d (.int i)) y st = g F (.d (.int i)) y st := (rfl)
@[simp] theorem eqIG_str {g : G2} {i : Str} {y : DV} : eqIG s g F (.d (.str i)) y st = g F (.d (.str i)) y st := (rfl)
@[simp] theorem neIG_str {g : G2} {i : Str} {y : DV} : neIG s g F (.d (.str i)) y st = g F (.d (.str i)) y st := (rfl)
@[simp] theorem eqIG_bl {g : G2} {i : Bool} {y : DV} : eqIG s g F (.d (.bl i)) y st = g F (.d (.bl i)) y st := (rfl)
@[simp] theorem neIG_bl {g : G2} {i : Bool} {y : DV} : neIG s g F (.d (.bl i)) y st = g F (.d (.bl i)) y st := (rfl)
@[simp] theorem eqIG_ins {g : G2} {c : Nat} {l : List D} {y : DV} : eqIG s g F (.d (.ins c l)) y st = g F (.d (.ins c l)) y st := (rfl)
@[simp] theorem neIG_ins {g : G2} {c : Nat} {l : List D} {y : DV} : neIG s g F (.d (.ins c l)) y st = g F (.d (.ins c l)) y st := (rfl)
@[simp] theorem eqIG_loc {g : G2} {c : Nat} {y : DV} : eqIG s g F (.loc c) y st = g F (.loc c) y st := (rfl)
@[simp] theorem neIG_loc {g : G2} {c : Nat} {y : DV} : neIG s g F (.loc c) y st = g F (.loc c) y st := (rfl)
theorem eqIG_ints {g : G2} {l : List Int} {y : DV} : eqIG s g F (.d (.tup (l.map .int))) y st = g F (.d (.tup (l.map .int))) y st := by cases l <;> rfl
theorem neIG_ints {g : G2} {l : List Int} {y : DV} : neIG s g F (.d (.tup (l.map .int))) y st = g F (.d (.tup (l.map .int))) y st := by cases l <;> rfl
theorem eqIG_lints {g : G2} {l : List Int} {y : DV} : eqIG s g F (.d (.lst (l.map .int))) y st = g F (.d (.lst (l.map .int))) y st := by cases l <;> rfl
theorem neIG_lints {g : G2} {l : List Int} {y : DV} : neIG s g F (.d (.lst (l.map .int))) y st = g F (.d (.lst (l.map .int))) y st := by cases l <;> rfl
@[simp] theorem mxT_max {i j : Int} : mxTG true maxG F [.d (.int i), .d (.int j)] st = maxG F [.d (.int i), .d (.int j)] st := (rfl)
@[simp] theorem mxT_min {i j : Int} : mxTG false minG F [.d (.int i), .d (.int j)] st = minG F [.d (.int i), .d (.int j)] st := (rfl)
@[simp] theorem eq_int' {i j : Int} : eqG F (.d (.int i)) (.d (.int j)) st = .ok (.d (.bl (decide (i = j)))) st := (rfl)
@[simp] theorem ne_int' {i j : Int} : neG F (.d (.int i)) (.d (.int j)) st = .ok (.d (.bl (!decide (i = j)))) st := (rfl)
@[simp] theorem eq_str' {i j : Str} : eqG F (.d (.str i)) (.d (.str j)) st = .ok (.d (.bl (decide (i = j)))) st := (rfl)
@[simp] theorem ne_str' {i j : Str} : neG F (.d (.str i)) (.d (.str j)) st = .ok (.d (.bl (!decide (i = j)))) st := (rfl)
@[simp] theorem truG_bl {i : Bool} : truG s F (.d (.bl i)) st = .ok (.d (.bl i)) st := (rfl)
@[simp] theorem len_tup {l : List D} : lenOwn s F [.d (.tup l)] st = .ok (.d (.int l.length)) st := (rfl)
@[simp] theorem len_scr {l : List D} : lenOwn s F [.d (.scr l)] st = .ok (.d (.int l.length)) st := (rfl)
@[simp] theorem len_lst {l : List D} : lenOwn s F [.d (.lst l)] st = .ok (.d (.int l.length)) st := (rfl)
@[simp] theorem idx_tup {l : List D} {i : Int} : idxOwn s F (.d (.tup l)) (.d (.int i)) st = (match atI l i with | some x => .d x st | none => .no) := (rfl)
@[simp] theorem idx_lst {l : List D} {i : Int} : idxOwn s F (.d (.lst l)) (.d (.int i)) st = (match atI l i with | some x => .d x st | none => .no) := (rfl)
@[simp] theorem idx_scr {l : List D} {i : Int} : idxOwn s F (.d (.scr l)) (.d (.int i)) st = (match atI l i with | some x => .d x st | none => .no) := (rfl)
@[simp] theorem int_int {i : Int} : intG F [.d (.int i)] st = .ok (.d (.int i)) st := (rfl)
@[simp] theorem int_bl {i : Bool} : intG F [.d (.bl i)] st = .ok (.d (.int (if i then 1 else 0))) st := (rfl)
@[simp] theorem tup_lst {l : List D} : tupleG F [.d (.lst l)] st = .ok (.d (.tup l)) st := (rfl)
@[simp] theorem tup_tup {l : List D} : tupleG F [.d (.tup l)] st = .ok (.d (.tup l)) st := (rfl)
end
theorem levs_b {fds : Nat → Option FD} {n : Nat} : (levs fds (n + 1)).b = (levs fds n).a := rfl
theorem levs_c {fds : Nat → Option FD} {n : Nat} : (levs fds (n + 1)).c = (levs fds n).b := rfl
theorem end_d {k : Bool} {m : Nat} {x : D} {env : DEnv} {S E : Store} (h : S.length = m) : endFD k m (.ok (.rt (.d x)) env (S ++ E)) = .ok (.d x) S := by
  subst h
  simp [endFD]
theorem end_d0 {k : Bool} {m : Nat} {x : D} {env : DEnv} {S : Store} (h : S.length = m) : endFD k m (.ok (.rt (.d x)) env S) = .ok (.d x) S := by
  subst h
  simp [endFD]
theorem end_nx {k : Bool} {m : Nat} {env : DEnv} {S : Store} (h : S.length = m) : endFD k m (.ok .nx env S) = .ok (.d .non) S := by
  subst h
  simp [endFD]
theorem end_ex {k : Bool} {m c : Nat} {x : Option D} {env : DEnv} {S : Store} (h : S.length = m) : endFD k m (.ex c x env S) = .ex c x S := by
  subst h
  simp [endFD]
theorem end_exE {k : Bool} {m c : Nat} {x : Option D} {env : DEnv} {S E : Store} (h : S.length = m) : endFD k m (.ex c x env (S ++ E)) = .ex c x S := by
  subst h
  simp [endFD]
/-- a body that answers data -/
def Ans (b : SF) (F : FTs) (env : DEnv) (st : Store) (x : D) (st' : Store) : Prop := ∃ env' ex, b F env st = .ok (.rt (.d x)) env' (st' ++ ex)
theorem Ans.end_ {b : SF} {F : FTs} {env : DEnv} {st st' : Store} {x : D} {k : Bool} (h : Ans b F env st x st') (hl : st'.length = st.length) : endFD k st.length (b F env st) = .ok (.d x) st' := by
  obtain ⟨env', ex, e⟩ := h
  rw [e, end_d hl]
theorem app_at {S Z : Store} {n : Nat} {o : SO} (h : S[n]? = some o) : (S ++ Z)[n]? = some o := by
  have := (List.getElem?_eq_some_iff.mp h).1
  rw [List.getElem?_append_left this]; exact h
theorem app_set {S Z : Store} {n : Nat} {o p : SO} (h : S[n]? = some o) : (S ++ Z).set n p = S.set n p ++ Z := by
  have := (List.getElem?_eq_some_iff.mp h).1
  rw [List.set_append_left _ _ this]
theorem app_len {S : Store} {x : SO} {R : Store} : (S ++ x :: R)[S.length]? = some x := by simp
theorem app_len1 {S : Store} {x y : SO} {R : Store} : (S ++ x :: y :: R)[S.length + 1]? = some y := by
  rw [List.getElem?_append_right (by omega)]; simp
theorem app_lset {S : Store} {x y : SO} {R : Store} : (S ++ x :: R).set S.length y = S ++ y :: R := by
  rw [List.set_append_right _ _ (by omega)]; simp
theorem app_lset1 {S : Store} {x y z : SO} {R : Store} : (S ++ x :: y :: R).set (S.length + 1) z = S ++ x :: z :: R := by
  rw [List.set_append_right _ _ (by omega)]; simp
/-- at place n of the store: dice with at least m rolls to go -/
def Dst (n : Nat) (S : Store) (m : Nat) : Prop := ∃ a b c : Int, S[n]? = some (.lst [.int a, .int b, .int c]) ∧ 0 ≤ a ∧ 0 ≤ c ∧ c + m ≤ 1000000000
theorem Dst.less {n m m' : Nat} {S : Store} (h : Dst n S m) (hm : m' ≤ m) : Dst n S m' := by
  obtain ⟨a, b, c, e, h1, h2, h3⟩ := h
  exact ⟨a, b, c, e, h1, h2, by omega⟩
theorem Dst.app {n m : Nat} {S Z : Store} (h : Dst n S m) : Dst n (S ++ Z) m := by
  obtain ⟨a, b, c, e, h1⟩ := h
  exact ⟨a, b, c, app_at e, h1⟩
/-- the same store, but for place n -/
def But (n : Nat) (S S' : Store) : Prop := S'.length = S.length ∧ ∀ i, i ≠ n → S'[i]? = S[i]?
theorem But.refl {n : Nat} {S : Store} : But n S S := ⟨rfl, fun _ _ => rfl⟩
theorem But.trans {n : Nat} {S S' S'' : Store} (h : But n S S') (k : But n S' S'') : But n S S'' := ⟨k.1.trans h.1, fun i hi => (k.2 i hi).trans (h.2 i hi)⟩
theorem But.set {n : Nat} {S : Store} {o : SO} : But n S (S.set n o) := ⟨by simp, fun i hi => by rw [List.getElem?_set_ne (Ne.symm hi)]⟩
def rollB (S : Sps) : SF := sSeq (sIf (c2 (cmpOwn S "__gt__" (tupT .gt (cmpI fun i j => decide (j < i)))) (c2 (idxOwn S) (cVar 0) (cCon (.int (0)))) (cCon (.int (0)))) (sSeq (sSet 4 (c2 (binOwn S .Mod modG) (cB intG (aCons (c2 (idxOwn S) (cVar 0) (cCon (.int (0)))) aNil)) (cVar 1))) (sSeq (sAsg (c2 (binOwn S .FloorDiv fdivG) (c2 (idxOwn S) (cVar 0) (cCon (.int (0)))) (cVar 1)) (gItem (cVar 0) (cCon (.int (0))))) (sRet (cVar 4)))) sSkip) (sSeq (sAsg (c2 (binOwn S .Add addG) (c2 (idxOwn S) (cVar 0) (cCon (.int (2)))) (cCon (.int (1)))) (gItem (cVar 0) (cCon (.int (2))))) (sSeq (sSet 2 (c2 (binOwn S .Mod modG) (cB intG (aCons (c2 (binOwn S .Add addG) (c2 (idxOwn S) (cVar 0) (cCon (.int (1)))) (c2 (binOwn S .Mult mulG) (cCon (.int (122949823))) (c2 (idxOwn S) (cVar 0) (cCon (.int (2)))))) aNil)) (cCon (.int (2305843009213693571))))) (sSeq (sSet 3 (c2 (binOwn S .Add addG) (c2 (binOwn S .Mult mulG) (c2 (binOwn S .Mod modG) (cB intG (aCons (c2 (binOwn S .Add addG) (c2 (binOwn S .Mult mulG) (cVar 2) (cVar 2)) (c2 (binOwn S .Mult mulG) (cCon (.int (109))) (c2 (idxOwn S) (cVar 0) (cCon (.int (2)))))) aNil)) (cCon (.int (2305843009213693487)))) (cCon (.int (2750159)))) (cVar 2))) (sRet (c2 (binOwn S .Mod modG) (cB intG (aCons (c2 (binOwn S .FloorDiv fdivG) (cVar 3) (cCon (.int (65536)))) aNil)) (cVar 1))))))
theorem instC_loc {S : Store} {n : Nat} {l : List D} (h : S[n]? = some (.lst l)) : instC S (.loc n) = none := by
  simp [instC, instV, h]
theorem idx_loc {S : Store} {n : Nat} {l : List D} {i : Int} {F : FTs} {s : Sps} {d : D} (h : S[n]? = some (.lst l)) (hi : atI l i = some d) : idxOwn s F (.loc n) (.d (.int i)) S = .ok (.d d) S := by
  simp [idxOwn, instC_loc h, idxG, seqL, viewD, h, hi]
theorem log2_lt {x : Int} {k : Nat} (h0 : 0 ≤ x) (h : x < 2 ^ k) (hk : 0 < k) : x.natAbs.log2 < k := by
  by_cases z : x.natAbs = 0
  · rw [z]; simpa using hk
  · rw [Nat.log2_lt z]
    have : (x.natAbs : Int) = x := Int.natAbs_of_nonneg h0
    have h' : ((x.natAbs : Nat) : Int) < ((2 ^ k : Nat) : Int) := by rw [this]; simpa using h
    exact_mod_cast h'
theorem mulI_ok {x y : Int} (hx : x.natAbs.log2 < 500000) (hy : y.natAbs.log2 < 500000) : mulI x y = true := by
  unfold mulI
  rw [decide_eq_true_iff]
  omega
theorem mulI_small {x y : Int} (h0 : 0 ≤ x) (h1 : x < 2 ^ 200) (h2 : 0 ≤ y) (h3 : y < 2 ^ 200) : mulI x y = true :=
  mulI_ok (Nat.lt_trans (log2_lt h0 h1 (by decide)) (by decide)) (Nat.lt_trans (log2_lt h2 h3 (by decide)) (by decide))
theorem roll_ok {s : Sps} {F : FTs} {n m : Nat} {t : Int} {S Z : Store} (h : Dst n S (m + 1)) (ht : 0 < t) (ht2 : t.natAbs.log2 < 9000) :
    ∃ r S', endFD false (S ++ Z).length (rollB s F [some (.loc n), some (.d (.int t)), none, none, none] (S ++ Z)) = .ok (.d (.int r)) (S' ++ Z) ∧ 0 ≤ r ∧ r < t ∧ Dst n S' m ∧ But n S S' := by
  obtain ⟨a, b, c, e, h1, h2, h3⟩ := h
  have e' := app_at (Z := Z) e
  have a0 : atI [D.int a, D.int b, D.int c] 0 = some (.int a) := rfl
  have a1 : atI [D.int a, D.int b, D.int c] 1 = some (.int b) := rfl
  have a2 : atI [D.int a, D.int b, D.int c] 2 = some (.int c) := rfl
  have hn := (List.getElem?_eq_some_iff.mp e).1
  by_cases ha : 0 < a
  · refine ⟨a % t, S.set n (.lst [.int (a / t), .int b, .int c]), ?_, Int.emod_nonneg _ (by omega), Int.emod_lt_of_pos _ ht, ⟨a / t, b, c, by rw [List.getElem?_set_self hn], Int.ediv_nonneg h1 (by omega), h2, by omega⟩, .set⟩
    have : rollB s F [some (.loc n), some (.d (.int t)), none, none, none] (S ++ Z) = .ok (.rt (.d (.int (a % t)))) [some (.loc n), some (.d (.int t)), none, none, some (.d (.int (a % t)))] (S.set n (.lst [.int (a / t), .int b, .int c]) ++ Z) := by
      simp [rollB, idx_loc e' a0, ha, modG, ht, fdivG, ht2, e', ixN, app_set e]
    rw [this, end_d0 (by simp)]
  · have hz : a = 0 := by omega
    subst hz
    let c' := c + 1
    have e2 : (S.set n (.lst [.int 0, .int b, .int (c + 1)]) ++ Z)[n]? = some (.lst [.int 0, .int b, .int (c + 1)]) := app_at (by rw [List.getElem?_set_self hn])
    have a1' : atI [D.int 0, D.int b, D.int (c + 1)] 1 = some (.int b) := rfl
    have a2' : atI [D.int 0, D.int b, D.int (c + 1)] 2 = some (.int (c + 1)) := rfl
    have m1 : mulI 122949823 (c + 1) = true := mulI_small (by decide) (by decide) (by omega) (by omega)
    have o0 : 0 ≤ (b + 122949823 * (c + 1)) % 2305843009213693571 := Int.emod_nonneg _ (by decide)
    have o1 : (b + 122949823 * (c + 1)) % 2305843009213693571 < 2305843009213693571 := Int.emod_lt_of_pos _ (by decide)
    generalize ho : (b + 122949823 * (c + 1)) % 2305843009213693571 = o at o0 o1
    have m2 : mulI o o = true := mulI_small o0 (by omega) o0 (by omega)
    have m3 : mulI 109 (c + 1) = true := mulI_small (by decide) (by decide) (by omega) (by omega)
    have q0 : 0 ≤ (o * o + 109 * (c + 1)) % 2305843009213693487 := Int.emod_nonneg _ (by decide)
    have q1 : (o * o + 109 * (c + 1)) % 2305843009213693487 < 2305843009213693487 := Int.emod_lt_of_pos _ (by decide)
    generalize hq : (o * o + 109 * (c + 1)) % 2305843009213693487 = q at q0 q1
    have m4 : mulI q 2750159 = true := mulI_small q0 (by omega) (by decide) (by decide)
    refine ⟨(q * 2750159 + o) / 65536 % t, S.set n (.lst [.int 0, .int b, .int (c + 1)]), ?_, Int.emod_nonneg _ (by omega), Int.emod_lt_of_pos _ ht, ⟨0, b, c + 1, by rw [List.getElem?_set_self hn], by omega, by omega, by omega⟩, .set⟩
    have l1 : Nat.log2 65536 < 9000 := by decide +kernel
    have : rollB s F [some (.loc n), some (.d (.int t)), none, none, none] (S ++ Z) = .ok (.rt (.d (.int ((q * 2750159 + o) / 65536 % t)))) [some (.loc n), some (.d (.int t)), some (.d (.int o)), some (.d (.int (q * 2750159 + o))), none] (S.set n (.lst [.int 0, .int b, .int (c + 1)]) ++ Z) := by
      simp [rollB, idx_loc e' a0, idx_loc e' a2, modG, ht, fdivG, ht2, e', ixN, app_set e, idx_loc e2 a1', idx_loc e2 a2', mulG, m1, m2, m3, m4, ho, hq, l1]
    rw [this, end_d0 (by simp)]
end PyI
namespace PyI
open PySem PySem.Spec PyProof.Rows L2
def RollAt (f : FT) (k : Nat) : Prop := ∀ (n m : Nat) (t : Int) (S Z : Store), Dst n S (m + 1) → 0 < t → t.natAbs.log2 < 9000 →
  ∃ r S', f k [.loc n, .d (.int t)] (S ++ Z) = .ok (.d (.int r)) (S' ++ Z) ∧ 0 ≤ r ∧ r < t ∧ Dst n S' m ∧ But n S S'
theorem roll_at {fds : Nat → Option FD} {k : Nat} {s : Sps} (h : fds k = some ⟨2, 5, [], false, rollB s⟩) (n : Nat) : RollAt (levs fds (n + 1)).a k := by
  intro p m t S Z hS ht ht2
  obtain ⟨r, S', e, h1⟩ := roll_ok (s := s) (F := levs fds n) (Z := Z) hS ht ht2
  refine ⟨r, S', ?_, h1⟩
  show (match fds k with | some fd => callFD fd (levs fds n) _ _ | none => .no) = _
  rw [h]
  exact e
def pickB (s : Sps) (k : Nat) : SF := sRet (c2 (idxOwn s) (cVar 1) (cCall k (aCons (cVar 0) (aCons (cB (lenOwn s) (aCons (cVar 1) aNil)) aNil))))
def PickAt (f : FT) (k : Nat) : Prop := ∀ (n m : Nat) (l : List D) (S Z : Store), Dst n S (m + 1) → l ≠ [] → l.length < 1000000 →
  (∃ (i : Nat) (d : D) (S' : Store), f k [.loc n, .d (.lst l)] (S ++ Z) = .ok (.d d) (S' ++ Z) ∧ l[i]? = some d ∧ Dst n S' m ∧ But n S S') ∧
  (∃ (i : Nat) (d : D) (S' : Store), f k [.loc n, .d (.tup l)] (S ++ Z) = .ok (.d d) (S' ++ Z) ∧ l[i]? = some d ∧ Dst n S' m ∧ But n S S')
theorem atI_nat {α : Type} {l : List α} {r : Int} (h0 : 0 ≤ r) (h1 : r < l.length) : atI l r = l[r.toNat]? := by
  simp [atI, ixN, h0, h1]
theorem atI_some {l : List D} {r : Int} (h0 : 0 ≤ r) (h1 : r < l.length) : ∃ d, l[r.toNat]? = some d ∧ atI l r = some d := by
  have : r.toNat < l.length := by omega
  exact ⟨l[r.toNat], by rw [List.getElem?_eq_getElem this], by rw [atI_nat h0 h1, List.getElem?_eq_getElem this]⟩
theorem log2_small {k : Nat} (h : k < 1000000) : (k : Int).natAbs.log2 < 9000 :=
  Nat.lt_trans (log2_lt (k := 20) (by omega) (by omega) (by decide)) (by decide)
theorem pick_at {fds : Nat → Option FD} {k kr : Nat} {s sr : Sps} (h : fds k = some ⟨2, 2, [], false, pickB s kr⟩) (hr : fds kr = some ⟨2, 5, [], false, rollB sr⟩) (n : Nat) : PickAt (levs fds (n + 2)).a k := by
  intro p m l S Z hS hl hz
  have hlen : 0 < (l.length : Int) := by
    have := List.length_pos_iff.mpr hl
    omega
  obtain ⟨r, S', e, r0, r1, hD, hB⟩ := roll_at hr n p m l.length S Z hS hlen (log2_small hz)
  obtain ⟨d, e1, e2⟩ := atI_some r0 r1
  have hl' : (S' ++ Z).length = (S ++ Z).length := by simp [hB.1]
  refine ⟨⟨r.toNat, d, S', ?_, e1, hD, hB⟩, ⟨r.toNat, d, S', ?_, e1, hD, hB⟩⟩
  · show (match fds k with | some fd => callFD fd (levs fds (n + 1)) _ _ | none => .no) = _
    rw [h]
    show endFD false _ (pickB s kr (levs fds (n + 1)) [some (.loc p), some (.d (.lst l))] (S ++ Z)) = _
    have : pickB s kr (levs fds (n + 1)) [some (.loc p), some (.d (.lst l))] (S ++ Z) = .ok (.rt (.d d)) [some (.loc p), some (.d (.lst l))] (S' ++ Z) := by
      simp [pickB, e, e2]
    rw [this, end_d0 hl']
  · show (match fds k with | some fd => callFD fd (levs fds (n + 1)) _ _ | none => .no) = _
    rw [h]
    show endFD false _ (pickB s kr (levs fds (n + 1)) [some (.loc p), some (.d (.tup l))] (S ++ Z)) = _
    have : pickB s kr (levs fds (n + 1)) [some (.loc p), some (.d (.tup l))] (S ++ Z) = .ok (.rt (.d d)) [some (.loc p), some (.d (.tup l))] (S' ++ Z) := by
      simp [pickB, e, e2]
    rw [this, end_d0 hl']
def diceB (s : Sps) : SF := sSeq (sSet 2 (cIf (c2 (cmpOwn s "__lt__" (tupT .lt (cmpI fun i j => decide (i < j)))) (cVar 1) (cB (lenOwn s) (aCons (cVar 0) aNil))) (cB intG (aCons (c2 (idxOwn s) (cVar 0) (cVar 1)) aNil)) (c2 (binOwn s .Add addG) (c2 (binOwn s .Mult mulG) (cCon (.int (83))) (cVar 1)) (cCon (.int (61)))))) (sSeq (sSet 3 (c2 (binOwn s .Mod modG) (cB (mxTG true maxG) (aCons (cCon (.int (0))) (aCons (c2 (binOwn s .Sub subG) (cB absG (aCons (cVar 2) aNil)) (c2 (binOwn s .Pow powG) (cCon (.int (10))) (cCon (.int (16))))) aNil))) (c2 (binOwn s .Mult mulG) (c2 (binOwn s .Pow powG) (cCon (.int (10))) (cCon (.int (60)))) (c2 (binOwn s .Pow powG) (cCon (.int (10))) (cCon (.int (60))))))) (sRet (cThw (lDisp (aCons (cVar 3) (aCons (c2 (binOwn s .Add addG) (c2 (binOwn s .Add addG) (c2 (binOwn s .Add addG) (c2 (binOwn s .Mult mulG) (c2 (binOwn s .Mod modG) (cB absG (aCons (cVar 2) aNil)) (cCon (.int (1152921504606846559)))) (cCon (.int (71)))) (c2 (binOwn s .Mult mulG) (cCon (.int (787))) (cVar 1))) (c2 (binOwn s .Mult mulG) (cCon (.int (47))) (cB intG (aCons (c2 (cmpOwn s "__lt__" (tupT .lt (cmpI fun i j => decide (i < j)))) (cVar 2) (cCon (.int (0)))) aNil)))) (cCon (.int (13)))) (aCons (cCon (.int (0))) aNil)))))))
theorem abs_int {F : FTs} {st : Store} {i : Int} : absG F [.d (.int i)] st = .ok (.d (.int i.natAbs)) st := by
  unfold absG
  dsimp only
  congr 3
  split <;> omega
theorem max_int {F : FTs} {st : Store} {i j : Int} : maxG F [.d (.int i), .d (.int j)] st = .ok (.d (.int (max i j))) st := by
  show R.d (.int (if j > i then j else i)) st = _
  rw [show (if j > i then j else i) = max i j by split <;> omega]
theorem min_int {F : FTs} {st : Store} {i j : Int} : minG F [.d (.int i), .d (.int j)] st = .ok (.d (.int (min i j))) st := by
  show R.d (.int (if j < i then j else i)) st = _
  rw [show (if j < i then j else i) = min i j by split <;> omega]
def DiceAt (f : FT) (k : Nat) : Prop := ∀ (ns : List Int) (i : Nat) (st : Store), i < 1000 → ∃ o, f k [.d (.scr (ns.map .int)), .d (.int i)] st = .ok (.loc st.length) (st ++ [o]) ∧ Dst st.length (st ++ [o]) 1000000000
theorem dice_at {fds : Nat → Option FD} {k : Nat} {s : Sps} (h : fds k = some ⟨2, 4, [], true, diceB s⟩) (n : Nat) : DiceAt (levs fds (n + 1)).a k := by
  intro ns i st hi
  have cell : ∃ z : Int, (cIf (c2 (cmpOwn s "__lt__" (tupT .lt (cmpI fun i j => decide (i < j)))) (cVar 1) (cB (lenOwn s) (aCons (cVar 0) aNil))) (cB intG (aCons (c2 (idxOwn s) (cVar 0) (cVar 1)) aNil)) (c2 (binOwn s .Add addG) (c2 (binOwn s .Mult mulG) (cCon (.int (83))) (cVar 1)) (cCon (.int (61))))) (levs fds n) [some (.d (.scr (ns.map .int))), some (.d (.int i)), none, none] st = .ok (.d (.int z)) st := by
    by_cases c : i < ns.length
    · refine ⟨ns[i], ?_⟩
      have e : atI (ns.map D.int) (i : Int) = some (.int ns[i]) := by
        rw [atI_nat (by omega) (by simpa using c)]
        simp [c]
      simp [c, e]
    · refine ⟨83 * i + 61, ?_⟩
      have m1 : mulI 83 i = true := mulI_small (by decide) (by decide) (by omega) (by omega)
      simp [c, mulG, m1]
  obtain ⟨z, hz⟩ := cell
  have p0 : (0 : Int) < 10 ^ 60 * 10 ^ 60 := by decide
  have p1 : mulI (10 ^ 60) (10 ^ 60) = true := by decide +kernel
  have p2 : 0 ≤ (z.natAbs : Int) % 1152921504606846559 := Int.emod_nonneg _ (by decide)
  have p3 : (z.natAbs : Int) % 1152921504606846559 < 1152921504606846559 := Int.emod_lt_of_pos _ (by decide)
  have m1 : mulI ((z.natAbs : Int) % 1152921504606846559) 71 = true := mulI_small p2 (by omega) (by decide) (by decide)
  have m2 : mulI 787 (i : Int) = true := mulI_small (by decide) (by decide) (by omega) (by omega)
  have m3 : mulI 47 (if z < 0 then 1 else 0) = true := by split <;> decide +kernel
  have w1 : ∀ {F : FTs} {st : Store}, powG F (.d (.int 10)) (.d (.int 16)) st = .ok (.d (.int (10 ^ 16))) st := fun {F st} => rfl
  have w2 : ∀ {F : FTs} {st : Store}, powG F (.d (.int 10)) (.d (.int 60)) st = .ok (.d (.int (10 ^ 60))) st := fun {F st} => rfl
  have q0 : 0 ≤ max 0 ((z.natAbs : Int) - 10 ^ 16) % (10 ^ 60 * 10 ^ 60) := Int.emod_nonneg _ (by decide)
  obtain ⟨A, hA⟩ : ∃ A : Int, A = max 0 ((z.natAbs : Int) - 10 ^ 16) % (10 ^ 60 * 10 ^ 60) := ⟨_, rfl⟩
  obtain ⟨B, hB⟩ : ∃ B : Int, B = (z.natAbs : Int) % 1152921504606846559 * 71 + 787 * i + 47 * (if z < 0 then 1 else 0) + 13 := ⟨_, rfl⟩
  refine ⟨.lst [.int (A), .int (B), .int 0], ?_, ⟨A, B, 0, by simp, by rw [hA]; exact q0, by decide, by decide⟩⟩
  show (match fds k with | some fd => callFD fd (levs fds n) _ _ | none => .no) = _
  rw [h]
  show endFD true _ (diceB s (levs fds n) [some (.d (.scr (ns.map .int))), some (.d (.int i)), none, none] st) = _
  have e : diceB s (levs fds n) [some (.d (.scr (ns.map .int))), some (.d (.int i)), none, none] st = .ok (.rt (.loc st.length)) [some (.d (.scr (ns.map .int))), some (.d (.int i)), some (.d (.int z)), some (.d (.int (A)))] (st ++ [.lst [.int (A), .int (B), .int 0]]) := by
    unfold diceB
    rw [sSeq_eq, sSet_eq, hz]
    simp only [lift_ok, seq_nx, sSeq_eq, sSet_eq, List.set_cons_succ, List.set_cons_zero]
    simp [abs_int, max_int, w1, w2, mulG, p0, p1, modG, m1, m2, m3, plainD, line, -Int.reducePow, hA, hB]
  rw [e]
  unfold endFD
  simp
@[simp] theorem forL_nil {g : GF} {b : SF} {F : FTs} {env : DEnv} {st : Store} : forL g b [] F env st = .ok .nx env st := (rfl)
theorem forL_cons {g : GF} {b : SF} {F : FTs} {env : DEnv} {st : Store} {d : D} {ds : List D} : forL g b (d :: ds) F env st = ((onlyNx (g F (.d d) env st)).seq fun env st => b F env st).loop fun env st => forL g b ds F env st := rfl
/-- a loop whose turns keep a word -/
theorem forL_inv {g : GF} {b : SF} {F : FTs} {Q : Nat → DEnv → Store → Prop} : ∀ {l : List D} {k : Nat} {env : DEnv} {st : Store},
    (∀ i d env st, l[i]? = some d → Q (k + i) env st → ∃ env2 st2, ((onlyNx (g F (.d d) env st)).seq fun env st => b F env st) = .ok .nx env2 st2 ∧ Q (k + i + 1) env2 st2) →
    Q k env st → ∃ env' st', forL g b l F env st = .ok .nx env' st' ∧ Q (k + l.length) env' st'
  | [], k, env, st, _, h => ⟨env, st, rfl, h⟩
  | d :: ds, k, env, st, hs, h => by
    obtain ⟨env2, st2, e, h2⟩ := hs 0 d env st rfl h
    obtain ⟨env3, st3, e3, h3⟩ := forL_inv (l := ds) (k := k + 1) (fun i d' env st hi hq => by
      obtain ⟨env2, st2, e, h2⟩ := hs (i + 1) d' env st (by simpa using hi) (by rwa [show k + (i + 1) = k + 1 + i by omega])
      exact ⟨env2, st2, e, by rwa [show k + 1 + i + 1 = k + (i + 1) + 1 by omega]⟩) h2
    exact ⟨env3, st3, by rw [forL_cons, e, loop_nx, e3], by rwa [List.length_cons, show k + (ds.length + 1) = k + 1 + ds.length by omega]⟩
/-- a while whose turns keep a word and lessen a number -/
theorem while_inv {c : EF} {b : SF} {F : FTs} {Q : Nat → DEnv → Store → Prop} {P : DEnv → Store → Prop}
    (hs : ∀ m env st, Q m env st → (∃ st', c F env st = .ok (.d (.bl false)) st' ∧ P env st') ∨ (∃ st1 env2 st2 m', c F env st = .ok (.d (.bl true)) st1 ∧ b F env st1 = .ok .nx env2 st2 ∧ m' < m ∧ Q m' env2 st2)) :
    ∀ {f m : Nat} {env : DEnv} {st : Store}, m < f → Q m env st → ∃ env' st', sWhile c b f F env st = .ok .nx env' st' ∧ P env' st'
  | 0, m, env, st, h, _ => absurd h (Nat.not_lt_zero _)
  | f + 1, m, env, st, h, q => by
    rcases hs m env st q with ⟨st', e, hp⟩ | ⟨st1, env2, st2, m', e1, e2, hm, q'⟩
    · exact ⟨env, st', by simp [sWhile, e], hp⟩
    · obtain ⟨env', st', e3, hp⟩ := while_inv hs (f := f) (m := m') (by omega) q'
      exact ⟨env', st', by simp [sWhile, e1, e2, e3], hp⟩
theorem upTo_at {n i : Nat} {lo : Int} {d : D} (h : (upTo lo 1 n)[i]? = some d) : d = .int (lo + i) ∧ i < n := by
  rw [upTo_get] at h
  split at h
  · rename_i c
    cases h
    exact ⟨by simp, c⟩
  · cases h
theorem lcL_ok {g : WF} {ft fe : EF} {F : FTs} {env : DEnv} {p : D → Bool} {h : D → D} {st : Store} : ∀ (l acc : List D),
    (∀ d ∈ l, ∃ env1, g d env = some env1 ∧ ∀ acc, ft F env1 (st ++ [.lst acc]) = .ok (.d (.bl (p d))) (st ++ [.lst acc]) ∧ (p d = true → fe F env1 (st ++ [.lst acc]) = .ok (.d (h d)) (st ++ [.lst acc]))) →
    acc.length + l.length ≤ line → lcL g ft fe st.length F env l (st ++ [.lst acc]) = .ok ⟨⟩ (st ++ [.lst (acc ++ (l.filter p).map h)])
  | [], acc, _, _ => by simp [lcL]
  | d :: ds, acc, hs, hl => by
    obtain ⟨env1, e1, e2⟩ := hs d List.mem_cons_self
    obtain ⟨e3, e4⟩ := e2 acc
    have hl' : acc.length + (ds.length + 1) ≤ line := by simpa using hl
    unfold lcL
    rw [e1]
    dsimp only
    unfold lcTurn
    rw [e3]
    cases hp : p d with
    | true =>
      have e5 := e4 hp
      have e6 : lcPut st.length (.d (h d)) (st ++ [.lst acc]) = .ok ⟨⟩ (st ++ [.lst (acc ++ [h d])]) := by
        have q : acc.length < line := by omega
        simp [lcPut, q]
      simp only [noEx_ok, bind_ok, e5, e6]
      rw [lcL_ok ds (acc ++ [h d]) (fun x hx => hs x (List.mem_cons_of_mem _ hx)) (by simp; omega)]
      simp [hp]
    | false =>
      simp only [noEx_ok, bind_ok]
      rw [lcL_ok ds acc (fun x hx => hs x (List.mem_cons_of_mem _ hx)) (by omega)]
      simp [hp]
/-- a comprehension over data whose parts leave the store alone -/
theorem cLc_ok {vs : List Nat} {src : IF} {g : WF} {ft fe : EF} {F : FTs} {env : DEnv} {st : Store} {l : List D} (p : D → Bool) (h : D → D) (hsrc : src F env st = .ok (.l l) st)
    (hs : ∀ d ∈ l, ∃ env1, g d (wipeD env vs) = some env1 ∧ ∀ acc, ft F env1 (st ++ [.lst acc]) = .ok (.d (.bl (p d))) (st ++ [.lst acc]) ∧ (p d = true → fe F env1 (st ++ [.lst acc]) = .ok (.d (h d)) (st ++ [.lst acc])))
    (hl : l.length ≤ line) : cLc false vs src g ft fe F env st = .ok (.d (.lst ((l.filter p).map h))) st := by
  unfold cLc
  rw [hsrc, bind_ok]
  dsimp only
  rw [lcL_ok l [] hs (by simpa using hl), bind_ok]
  simp [lcFin]
theorem cLc_all {vs : List Nat} {src : IF} {g : WF} {fe : EF} {F : FTs} {env : DEnv} {st : Store} {l : List D} (h : D → D) (hsrc : src F env st = .ok (.l l) st)
    (hs : ∀ d ∈ l, ∃ env1, g d (wipeD env vs) = some env1 ∧ ∀ acc, fe F env1 (st ++ [.lst acc]) = .ok (.d (h d)) (st ++ [.lst acc]))
    (hl : l.length ≤ line) : cLc false vs src g (cCon (.bl true)) fe F env st = .ok (.d (.lst (l.map h))) st := by
  have := cLc_ok (fun _ => true) h hsrc (ft := cCon (.bl true)) (fun d hd => by
    obtain ⟨env1, e1, e2⟩ := hs d hd
    exact ⟨env1, e1, fun acc => ⟨rfl, fun _ => e2 acc⟩⟩) hl
  rw [this, List.filter_eq_self.mpr (by simp)]
theorem intsOf_map {l : List Int} : intsOf (l.map .int) = some l := by
  induction l with
  | nil => rfl
  | cons a l ih => simp [intsOf, ih]
theorem blsOf_map {α : Type} {l : List α} {f : α → Bool} : blsOf (l.map fun x => .bl (f x)) = some (l.map f) := by
  induction l with
  | nil => rfl
  | cons a l ih => simp [blsOf, ih]
section
variable {s : Sps} {F : FTs} {st st' : Store} {c k : Nat} {l : List D}
theorem len_ins {i : Int} (h : s.spm c "__len__" = some k) (hb : F.b k [.d (.ins c l)] st = .ok (.d (.int i)) st') (h0 : 0 ≤ i) (h1 : i < 1000000000) : lenOwn s F [.d (.ins c l)] st = .ok (.d (.int i)) st' := by
  have h63 : (decide (0 ≤ i) && decide (i < 2 ^ 63)) = true := by
    rw [Bool.and_eq_true, decide_eq_true_iff, decide_eq_true_iff]
    exact ⟨h0, by omega⟩
  unfold lenOwn
  simp only [instC_ins, h, hb, bind_ok, h63, if_true]
theorem bool_ins {i : Bool} (h : s.spm c "__bool__" = some k) (hb : F.c k [.d (.ins c l)] st = .ok (.d (.bl i)) st') : boolG s F [.d (.ins c l)] st = .ok (.d (.bl i)) st' := by
  unfold boolG
  simp only [instC_ins, h, hb, bind_ok]
theorem idx_ins {y d : DV} (h : s.spm c "__getitem__" = some k) (hb : F.b k [.d (.ins c l), y] st = .ok d st') : idxOwn s F (.d (.ins c l)) y st = .ok d st' := by
  unfold idxOwn
  simp only [instC_ins, h, hb]
theorem cmp_ins {m : Str} {g : G2} {y d : DV} {t : TK} (h : s.spm c m = some k) (ht : tkD s.isI st y = some t) (hf : s.fst c t = true) (hb : F.a k [.d (.ins c l), y] st = .ok d st') : cmpOwn s m g F (.d (.ins c l)) y st = .ok d st' := by
  unfold cmpOwn
  simp only [instC_ins, h, ht, hf, hb, if_true]
theorem ne_ins {g : G2} {y : DV} {i : Bool} {t : TK} (h : s.spm c "__eq__" = some k) (ht : tkD s.isI st y = some t) (hf : (s.fst c t && s.neO c && s.isI c) = true) (hb : F.b k [.d (.ins c l), y] st = .ok (.d (.bl i)) st') : neOwn s g F (.d (.ins c l)) y st = .ok (.d (.bl (!i))) st' := by
  unfold neOwn
  simp only [instC_ins, h, ht, hf, hb, if_true, bind_ok]
theorem tk_ins {b : Nat → Bool} (h : b c = true) : tkD b st (.d (.ins c l)) = some (.own c) := if_pos h
end
end PyI
namespace PyI
open PySem PySem.Spec PyProof.Rows L2
mutual
def rbd : PyData → Option Nat
  | .none => some 4
  | .bool _ => some 5
  | .int i => if i.natAbs.log2 < 1920 then some 1921 else none
  | .str x => some (reprText x).length
  | .list xs => (rbds xs).map (· + 3)
  | .tuple xs => (rbds xs).map (· + 3)
  | .dict _ => none
def rbds : List PyData → Option Nat
  | [] => some 0
  | x :: xs => match rbd x, rbds xs with
    | some a, some b => some (a + 2 + b)
    | _, _ => none
end
theorem textFrom_le : ∀ (ts : List Str) (k : Nat) (acc : Str), (textFrom k acc ts).length ≤ acc.length + piled ts
  | [], k, acc => Nat.le_add_right _ _
  | t :: r, k, acc => by
    have h := textFrom_le r (k + 1) (acc ++ (if k > 0 then ", " else "" : String) ++ t)
    have e : (acc ++ (if k > 0 then ", " else "" : String) ++ t).length ≤ acc.length + 2 + t.length := by
      rw [strLen_append, strLen_append]
      have : (Str.ofString (if k > 0 then ", " else "" : String)).length ≤ 2 := by split <;> decide
      exact Nat.add_le_add_right (Nat.add_le_add_left this _) _
    rw [piled_cons]
    show (textFrom (k + 1) _ r).length ≤ _
    omega
theorem listText_le (ts : List Str) : (listText ts).length ≤ piled ts + 3 := by
  have h := textFrom_le ts 0 "["
  unfold listText
  rw [strLen_append]
  have h1 : (Str.ofString "[").length = 1 := by decide
  have h2 : (Str.ofString "]").length = 1 := by decide
  have h' : (textFrom 0 (Str.ofString "[") ts).length ≤ (Str.ofString "[").length + piled ts := h
  show (textFrom 0 (Str.ofString "[") ts).length + (Str.ofString "]").length ≤ _
  omega
theorem tupleText_le (ts : List Str) : (tupleText ts).length ≤ piled ts + 3 := by
  unfold tupleText
  rw [strLen_append, strLen_append]
  have h1 : (Str.ofString "(").length = 1 := by decide
  have h2 : (Str.ofString (if ts.length == 1 then ",)" else ")" : String)).length ≤ 2 := by split <;> decide
  have h3 : (Str.join (Str.ofString ", ") ts).length ≤ piled ts := by
    cases ts with
    | nil => decide
    | cons t r =>
      have h3' : (Str.join (Str.ofString ", ") (t :: r)).length + 2 = piled (t :: r) := join_length_add (t :: r) (by simp)
      omega
  show (Str.ofString "(").length + (Str.join (Str.ofString ", ") ts).length + (Str.ofString (if ts.length == 1 then ",)" else ")" : String)).length ≤ _
  omega
mutual
theorem rbd_ok : ∀ {p : PyData} {b : Nat}, rbd p = some b → p.shown.length ≤ b ∧ p.showable = true
  | .none, b, h => by cases h; exact ⟨by simp only [PyData.shown]; decide, rfl⟩
  | .bool x, b, h => by cases h; exact ⟨by cases x <;> (simp only [PyData.shown]; decide), by simp only [PyData.showable]⟩
  | .int i, b, h => by
    simp only [rbd] at h
    split at h
    · rename_i c
      cases h
      exact ⟨by simp only [PyData.shown]; exact int_text_len_1921 c, by simp only [PyData.showable]; exact decide_eq_true c⟩
    · cases h
  | .str x, b, h => by cases h; exact ⟨by simp only [PyData.shown]; exact Nat.le_refl _, by simp only [PyData.showable]⟩
  | .list xs, b, h => by
    simp only [rbd, Option.map_eq_some_iff] at h
    obtain ⟨c, h1, rfl⟩ := h
    obtain ⟨h2, h3⟩ := rbds_ok h1
    simp only [PyData.shown, PyData.showable]
    have := listText_le (PyData.shownAll xs)
    exact ⟨by omega, h3⟩
  | .tuple xs, b, h => by
    simp only [rbd, Option.map_eq_some_iff] at h
    obtain ⟨c, h1, rfl⟩ := h
    obtain ⟨h2, h3⟩ := rbds_ok h1
    simp only [PyData.shown, PyData.showable]
    have := tupleText_le (PyData.shownAll xs)
    exact ⟨by omega, h3⟩
  | .dict _, b, h => by simp only [rbd] at h; cases h
theorem rbds_ok : ∀ {ps : List PyData} {b : Nat}, rbds ps = some b → piled (PyData.shownAll ps) ≤ b ∧ PyData.showableAll ps = true
  | [], b, h => by cases h; exact ⟨by simp only [PyData.shownAll]; exact Nat.le_refl _, by simp only [PyData.showableAll]⟩
  | p :: ps, b, h => by
    simp only [rbds] at h
    split at h
    · rename_i x y e1 e2
      cases h
      obtain ⟨h1, h2⟩ := rbd_ok e1
      obtain ⟨h3, h4⟩ := rbds_ok e2
      simp only [PyData.shownAll, PyData.showableAll, piled_cons]
      exact ⟨by omega, by rw [h2, h4]; rfl⟩
    · cases h
end
theorem repr_seq {F : FTs} {st : Store} {x : D} {p : PyData} {b : Nat} (hx : (∃ l, x = .tup l) ∨ ∃ l, x = .lst l) (h : pyv st (.d x) = some p) (hb : rbd p = some b) (hl : b ≤ line) : reprG F [.d x] st = .ok (.d (.str p.shown)) st := by
  obtain ⟨h1, h2⟩ := rbd_ok hb
  have hs : isSeqP p = true := by
    rcases hx with ⟨l, rfl⟩ | ⟨l, rfl⟩
    · have h' : (pyds 63 l).map PyData.tuple = some p := h
      cases e : pyds 63 l with
      | none => rw [e] at h'; cases h'
      | some q => rw [e] at h'; cases h'; rfl
    · have h' : (pyds 63 l).map PyData.list = some p := h
      cases e : pyds 63 l with
      | none => rw [e] at h'; cases h'
      | some q => rw [e] at h'; cases h'; rfl
  have ok : shownOk p = true := by
    unfold shownOk
    rw [hs, h2, decide_eq_true (Nat.le_trans h1 hl)]
    rfl
  rcases hx with ⟨l, rfl⟩ | ⟨l, rfl⟩
  · show (match pyv st (.d (.tup l)) with | some p => if shownOk p = true then R.d (.str p.shown) st else .no | none => .no) = _
    rw [h]
    simp [ok]
  · show (match pyv st (.d (.lst l)) with | some p => if shownOk p = true then R.d (.str p.shown) st else .no | none => .no) = _
    rw [h]
    simp [ok]
theorem rbds_ints : ∀ {l : List Int}, (∀ i ∈ l, i.natAbs.log2 < 1920) → rbds (l.map .int) = some (1923 * l.length)
  | [], _ => rfl
  | a :: l, h => by
    have ih := rbds_ints (l := l) fun i hi => h i (List.mem_cons_of_mem _ hi)
    simp only [List.map_cons, rbds, rbd, if_pos (h a List.mem_cons_self), ih, List.length_cons]
    congr 1
    omega
theorem repr_int {F : FTs} {st : Store} {i : Int} (h : i.natAbs.log2 < 1920) : reprG F [.d (.int i)] st = .ok (.d (.str (Str.ofString (toString i)))) st := if_pos h
theorem log2_le {i : Int} {k : Nat} (h : i.natAbs < 2 ^ k) (hk : 0 < k) : i.natAbs.log2 < k := by
  by_cases z : i.natAbs = 0
  · rw [z]; simpa using hk
  · exact (Nat.log2_lt z).mpr h
end PyI
namespace PyI
open PySem PySem.Spec PyProof.Rows L2
abbrev T (l : List Int) : D := .tup (l.map .int)
section
variable {s : Sps} {F : FTs} {env : DEnv} {st : Store}
theorem lcM_ok {α : Type} {g : WF} {ft fe : EF} {m : α → D} {p : α → Bool} {h : α → D} : ∀ (l : List α) (acc : List D),
    (∀ a ∈ l, ∃ env1, g (m a) env = some env1 ∧ ∀ acc, ft F env1 (st ++ [.lst acc]) = .ok (.d (.bl (p a))) (st ++ [.lst acc]) ∧ (p a = true → fe F env1 (st ++ [.lst acc]) = .ok (.d (h a)) (st ++ [.lst acc]))) →
    acc.length + l.length ≤ line → lcL g ft fe st.length F env (l.map m) (st ++ [.lst acc]) = .ok ⟨⟩ (st ++ [.lst (acc ++ (l.filter p).map h)])
  | [], acc, _, _ => by simp [lcL]
  | a :: l, acc, hs, hl => by
    obtain ⟨env1, e1, e2⟩ := hs a List.mem_cons_self
    obtain ⟨e3, e4⟩ := e2 acc
    have hl' : acc.length + (l.length + 1) ≤ line := by simpa using hl
    rw [List.map_cons]
    unfold lcL
    rw [e1]
    dsimp only
    unfold lcTurn
    rw [e3]
    cases hp : p a with
    | true =>
      have e5 := e4 hp
      have e6 : lcPut st.length (.d (h a)) (st ++ [.lst acc]) = .ok ⟨⟩ (st ++ [.lst (acc ++ [h a])]) := by
        have q : acc.length < line := by omega
        simp [lcPut, q]
      simp only [noEx_ok, bind_ok, e5, e6]
      rw [lcM_ok l (acc ++ [h a]) (fun x hx => hs x (List.mem_cons_of_mem _ hx)) (by simp; omega)]
      simp [hp]
    | false =>
      simp only [noEx_ok, bind_ok]
      rw [lcM_ok l acc (fun x hx => hs x (List.mem_cons_of_mem _ hx)) (by omega)]
      simp [hp]
/-- a comprehension over a mapped list -/
theorem cLcF {α : Type} {vs : List Nat} {src : IF} {g : WF} {ft fe : EF} {l : List α} (m : α → D) (p : α → Bool) (h : α → D) (hsrc : src F env st = .ok (.l (l.map m)) st)
    (hs : ∀ a ∈ l, ∃ env1, g (m a) (wipeD env vs) = some env1 ∧ ∀ acc, ft F env1 (st ++ [.lst acc]) = .ok (.d (.bl (p a))) (st ++ [.lst acc]) ∧ (p a = true → fe F env1 (st ++ [.lst acc]) = .ok (.d (h a)) (st ++ [.lst acc])))
    (hl : l.length ≤ line) : cLc false vs src g ft fe F env st = .ok (.d (.lst ((l.filter p).map h))) st := by
  unfold cLc
  rw [hsrc, bind_ok]
  dsimp only
  rw [lcM_ok l [] hs (by simpa using hl), bind_ok]
  simp [lcFin]
theorem cLcM {α : Type} {vs : List Nat} {src : IF} {g : WF} {fe : EF} {l : List α} (m : α → D) (h : α → D) (hsrc : src F env st = .ok (.l (l.map m)) st)
    (hs : ∀ a ∈ l, ∃ env1, g (m a) (wipeD env vs) = some env1 ∧ ∀ acc, fe F env1 (st ++ [.lst acc]) = .ok (.d (h a)) (st ++ [.lst acc]))
    (hl : l.length ≤ line) : cLc false vs src g (cCon (.bl true)) fe F env st = .ok (.d (.lst (l.map h))) st := by
  have := cLcF m (fun _ => true) h hsrc (ft := cCon (.bl true)) (fun d hd => by
    obtain ⟨env1, e1, e2⟩ := hs d hd
    exact ⟨env1, e1, fun acc => ⟨rfl, fun _ => e2 acc⟩⟩) hl
  rw [this, List.filter_eq_self.mpr (by simp)]
theorem all_bls {α : Type} {l : List α} {p : α → Bool} : allG F [.d (.lst (l.map fun a => .bl (p a)))] st = .ok (.d (.bl (l.all p))) st := by
  unfold allG blsG
  simp only [seqL, viewD]
  rw [blsOf_map]
  simp [List.all_map]
theorem sum_lints {l : List Int} : sumTG F [.d (.lst (l.map .int))] st = .ok (.d (.int l.sum)) st := by
  show sumG F [.d (.lst (l.map .int))] st = _
  unfold sumG intsG
  simp only [seqL, viewD]
  rw [intsOf_map]
theorem sum_tints {l : List Int} : sumTG F [.d (T l)] st = .ok (.d (.int l.sum)) st := by
  show (match intsOf (l.map .int) with | some q => _ | none => _) = _
  rw [intsOf_map]
theorem upTo_map : ∀ {lo : Int} {n : Nat}, upTo lo 1 n = (List.range n).map fun (i : Nat) => D.int (lo + i) := by
  intro lo n
  apply List.ext_getElem?
  intro i
  rw [upTo_get]
  by_cases c : i < n
  · simp [c, List.getElem?_range]
  · simp [c, List.getElem?_eq_none]
theorem upTo0_map {n : Nat} : upTo 0 1 n = (List.range n).map fun (i : Nat) => D.int i := by
  rw [upTo_map]
  congr 1
  funext i
  rw [Int.zero_add]
theorem zipP_map : ∀ {l m : List Int}, zipP (l.map .int) (m.map .int) = (l.zip m).map fun p => D.tup [.int p.1, .int p.2]
  | [], _ => by simp [zipP]
  | _ :: _, [] => by simp [zipP]
  | a :: l, b :: m => by simp [zipP, zipP_map (l := l) (m := m)]
theorem enumL_map : ∀ {k : Nat} {l : List Int}, enumL k (l.map .int) = (l.zipIdx k).map fun p => D.tup [.int p.2, .int p.1]
  | _, [] => by simp [enumL]
  | k, a :: l => by simp [enumL, enumL_map (k := k + 1) (l := l)]
theorem cutD_to' {α : Type} {l : List α} {k : Nat} : cutD l none (some (k : Int)) = l.take k := by
  unfold cutD
  rw [HT.sIx_nat, HT.sIx_none]
  simp only [List.drop_zero, Nat.sub_zero]
  by_cases h : k ≤ l.length
  · rw [Nat.min_eq_left h]
  · rw [Nat.min_eq_right (by omega), List.take_of_length_le (Nat.le_refl _), List.take_of_length_le (by omega)]
theorem cutD_from1 {α : Type} {l : List α} : cutD l (some 1) none = l.drop 1 := by
  unfold cutD
  have := HT.sIx_nat l.length 0 1
  rw [show ((1 : Nat) : Int) = 1 from rfl] at this
  rw [this, HT.sIx_none]
  cases l with
  | nil => rfl
  | cons a l => simp [Nat.min_def]
@[simp] theorem sSlot_eq {att : Nat → Str → Option At1} {f : Str} {o v : EF} : sSlot att f o v F env st = liftE (v F env st) env fun y st => liftE (o F env st) env fun x st => (match x, y with
  | .loc m, .d y => (match st[m]? with
    | some (.obj c fs) => (match att c f with
      | some (.slot i) => .ok .nx env (st.set m (.obj c (putD i y fs)))
      | _ => .no)
    | _ => .no)
  | _, _ => .no) := (rfl)
theorem pyds_ints : ∀ (l : List Int) k, pyds k (l.map .int) = some (l.map .int) := by
  intro l k
  induction l with
  | nil => cases k <;> rfl
  | cons a l ih =>
    cases k with
    | zero => simp only [List.map_cons, pyds, pyd, ih]
    | succ k => simp only [List.map_cons, pyds, pyd, ih]
theorem pyv_ints {l : List Int} : pyv st (.d (T l)) = some (.tuple (l.map .int)) := by
  show (pyds 63 (l.map .int)).map PyData.tuple = _
  rw [pyds_ints]
  rfl
theorem pyv_lints {l : List Int} : pyv st (.d (.lst (l.map .int))) = some (.list (l.map .int)) := by
  show (pyds 63 (l.map .int)).map PyData.list = _
  rw [pyds_ints]
  rfl
theorem eqv_ints : ∀ {l m : List Int}, PyData.eqvAll (l.map .int) (m.map .int) = decide (l = m)
  | [], [] => by simp [PyData.eqvAll]
  | [], _ :: _ => by simp [PyData.eqvAll]
  | _ :: _, [] => by simp [PyData.eqvAll]
  | a :: l, b :: m => by
    simp only [List.map_cons, PyData.eqvAll, PyData.eqv, eqv_ints (l := l) (m := m)]
    by_cases h : a = b <;> by_cases h2 : l = m <;> simp [h, h2]
theorem eq_ints {l m : List Int} : eqG F (.d (T l)) (.d (T m)) st = .ok (.d (.bl (decide (l = m)))) st := by
  show (match pyv st (.d (T l)), pyv st (.d (T m)) with | some p, some q => R.d (.bl (PyData.eqv p q)) st | _, _ => .no) = _
  rw [pyv_ints, pyv_ints]
  show R.d (.bl (PyData.eqv _ _)) st = _
  rw [PyData.eqv, eqv_ints]
theorem ne_ints {l m : List Int} : neG F (.d (T l)) (.d (T m)) st = .ok (.d (.bl (!decide (l = m)))) st := by
  show (match pyv st (.d (T l)), pyv st (.d (T m)) with | some p, some q => R.d (.bl (!PyData.eqv p q)) st | _, _ => .no) = _
  rw [pyv_ints, pyv_ints]
  show R.d (.bl (!PyData.eqv _ _)) st = _
  rw [PyData.eqv, eqv_ints]
theorem eq_lints {l m : List Int} : eqG F (.d (.lst (l.map .int))) (.d (.lst (m.map .int))) st = .ok (.d (.bl (decide (l = m)))) st := by
  show (match pyv st (.d (.lst (l.map .int))), pyv st (.d (.lst (m.map .int))) with | some p, some q => R.d (.bl (PyData.eqv p q)) st | _, _ => .no) = _
  rw [pyv_lints, pyv_lints]
  show R.d (.bl (PyData.eqv _ _)) st = _
  rw [PyData.eqv, eqv_ints]
theorem atI_ints {l : List Int} {k : Nat} {x : Int} (h : l[k]? = some x) : atI (l.map D.int) (k : Int) = some (.int x) := by
  have := (List.getElem?_eq_some_iff.mp h).1
  rw [atI_nat (by omega) (by simpa using this)]
  simp [h]
/-- == and != of tuples of ints -/
theorem teq {l m : List Int} : eqIG s (cmpOwn s "__eq__" eqG) F (.d (T l)) (.d (T m)) st = .ok (.d (.bl (decide (l = m)))) st := by
  rw [eqIG_ints, cmp_tup, eq_ints]
theorem tne {l m : List Int} : neIG s (neOwn s neG) F (.d (T l)) (.d (T m)) st = .ok (.d (.bl (!decide (l = m)))) st := by
  rw [neIG_ints, ne_tup, ne_ints]
theorem leq {l m : List Int} : eqIG s (cmpOwn s "__eq__" eqG) F (.d (.lst (l.map .int))) (.d (.lst (m.map .int))) st = .ok (.d (.bl (decide (l = m)))) st := by
  rw [eqIG_lints, show cmpOwn s "__eq__" eqG F (.d (.lst (l.map .int))) (.d (.lst (m.map .int))) st = eqG F (.d (.lst (l.map .int))) (.d (.lst (m.map .int))) st from cmp_no rfl rfl, eq_lints]
theorem sort_ints {l : List Int} : sortedG F [.d (.lst (l.map .int))] st = .ok (.d (.lst ((sortI l).map .int))) st := by
  unfold sortedG intsG
  simp only [seqL, viewD]
  rw [intsOf_map]
theorem strsOf_map {α : Type} {l : List α} {f : α → Str} : strsOf (l.map fun a => .str (f a)) = some (l.map f) := by
  induction l with
  | nil => rfl
  | cons a l ih => simp [strsOf, ih]
def maxI (l : List Int) : Int := match l with
  | [] => 0
  | i :: r => r.foldl max i
theorem maxD_ints {a : EF} {l : List Int} {st' : Store} (h : a F env st = .ok (.d (T l)) st') : cMaxD true a (cCon (.int 0)) F env st = .ok (.d (.int (maxI l))) st' := by
  unfold cMaxD
  rw [h, bind_ok, cCon_eq, bind_ok]
  unfold maxDG
  simp only [itemsOf]
  rw [intsOf_map]
  cases l <;> simp [maxI]
theorem rev_lst {a : EF} {l : List D} {st' : Store} (h : a F env st = .ok (.d (.lst l)) st') : cRev a F env st = .ok (.d (.lst l.reverse)) st' := by
  unfold cRev
  rw [h, bind_ok]
  simp only [seqL, viewD]
end
end PyI
namespace PyI.Law
open PySem PySem.Spec PyProof.Rows L2 PyI
abbrev prg : PySem.Program := PySem.Challenge.pw_primekinds_k07_whole_turned_and_joined_k
def top (i : Nat) : Stmt := prg.main.body.getD i (.Pass ⟨0, 0, 0, 0⟩)
def mth (i j : Nat) : Stmt := (C8.clsBody (top i)).getD j (.Pass ⟨0, 0, 0, 0⟩)
def f_is_whole : FnI := ⟨.g "is_whole", "is_whole", "is_whole", defArgs (top 11), defBody (top 11), defScope (top 11), ["value"], ["value"], [], false, []⟩
def f_is_integer : FnI := ⟨.g "is_integer", "is_integer", "is_integer", defArgs (top 12), defBody (top 12), defScope (top 12), ["value"], ["value"], [], false, []⟩
def f_is_from : FnI := ⟨.g "is_from", "is_from", "is_from", defArgs (top 13), defBody (top 13), defScope (top 13), ["value", "least", "most"], ["value", "least", "most"], [], false, []⟩
def f_are_numbers : FnI := ⟨.g "are_numbers", "are_numbers", "are_numbers", defArgs (top 20), defBody (top 20), defScope (top 20), ["value", "one", "other", "number"], ["value"], [], false, []⟩
def f_turned_numbers : FnI := ⟨.g "turned_numbers", "turned_numbers", "turned_numbers", defArgs (top 21), defBody (top 21), defScope (top 21), ["numbers", "at", "number"], ["numbers"], [], false, []⟩
def f_Kind_init : FnI := ⟨.m "Kind" "__init__", "__init__", "Kind.__init__", defArgs (mth 25 1), defBody (mth 25 1), defScope (mth 25 1), ["self", "numbers", "number"], ["self", "numbers"], [.tup []], false, []⟩
def f_Kind_numbers : FnI := ⟨.r "Kind" "numbers" "property", "numbers", "Kind.numbers", defArgs (mth 25 3), defBody (mth 25 3), defScope (mth 25 3), ["self"], ["self"], [], false, []⟩
def f_Kind_size : FnI := ⟨.r "Kind" "size" "property", "size", "Kind.size", defArgs (mth 25 4), defBody (mth 25 4), defScope (mth 25 4), ["self"], ["self"], [], false, []⟩
def f_Kind_rank : FnI := ⟨.r "Kind" "rank" "property", "rank", "Kind.rank", defArgs (mth 25 5), defBody (mth 25 5), defScope (mth 25 5), ["self"], ["self"], [], false, []⟩
def f_Kind_height : FnI := ⟨.r "Kind" "height" "property", "height", "Kind.height", defArgs (mth 25 6), defBody (mth 25 6), defScope (mth 25 6), ["self"], ["self"], [], false, []⟩
def f_Kind_slant : FnI := ⟨.r "Kind" "slant" "property", "slant", "Kind.slant", defArgs (mth 25 7), defBody (mth 25 7), defScope (mth 25 7), ["self", "at", "number"], ["self"], [], false, []⟩
def f_Kind_turned : FnI := ⟨.r "Kind" "turned" "property", "turned", "Kind.turned", defArgs (mth 25 8), defBody (mth 25 8), defScope (mth 25 8), ["self"], ["self"], [], false, []⟩
def f_Kind_holds : FnI := ⟨.m "Kind" "holds", "holds", "Kind.holds", defArgs (mth 25 12), defBody (mth 25 12), defScope (mth 25 12), ["self", "other", "number", "own"], ["self", "other"], [], false, []⟩
def f_Kind_tops : FnI := ⟨.m "Kind" "tops", "tops", "Kind.tops", defArgs (mth 25 13), defBody (mth 25 13), defScope (mth 25 13), ["self", "other", "own", "theirs", "many"], ["self", "other"], [], false, []⟩
def f_Kind_over : FnI := ⟨.m "Kind" "over", "over", "Kind.over", defArgs (mth 25 14), defBody (mth 25 14), defScope (mth 25 14), ["self", "other", "wide", "at"], ["self", "other"], [], false, []⟩
def f_Kind_add : FnI := ⟨.m "Kind" "__add__", "__add__", "Kind.__add__", defArgs (mth 25 16), defBody (mth 25 16), defScope (mth 25 16), ["self", "other"], ["self", "other"], [], false, []⟩
def f_Kind_getitem : FnI := ⟨.m "Kind" "__getitem__", "__getitem__", "Kind.__getitem__", defArgs (mth 25 17), defBody (mth 25 17), defScope (mth 25 17), ["self", "index"], ["self", "index"], [], false, []⟩
def f_Kind_iter : FnI := ⟨.m "Kind" "__iter__", "__iter__", "Kind.__iter__", defArgs (mth 25 18), defBody (mth 25 18), defScope (mth 25 18), ["self"], ["self"], [], false, []⟩
def f_Kind_len : FnI := ⟨.m "Kind" "__len__", "__len__", "Kind.__len__", defArgs (mth 25 19), defBody (mth 25 19), defScope (mth 25 19), ["self"], ["self"], [], false, []⟩
def f_Kind_eq : FnI := ⟨.m "Kind" "__eq__", "__eq__", "Kind.__eq__", defArgs (mth 25 20), defBody (mth 25 20), defScope (mth 25 20), ["self", "other"], ["self", "other"], [], false, []⟩
def f_Kind_lt : FnI := ⟨.m "Kind" "__lt__", "__lt__", "Kind.__lt__", defArgs (mth 25 21), defBody (mth 25 21), defScope (mth 25 21), ["self", "other"], ["self", "other"], [], false, []⟩
def f_Kind_str : FnI := ⟨.m "Kind" "__str__", "__str__", "Kind.__str__", defArgs (mth 25 22), defBody (mth 25 22), defScope (mth 25 22), ["self"], ["self"], [], false, []⟩
def f_require_kind : FnI := ⟨.g "require_kind", "require_kind", "require_kind", defArgs (top 26), defBody (top 26), defScope (top 26), ["value"], ["value"], [], false, []⟩
def f_require_size : FnI := ⟨.g "require_size", "require_size", "require_size", defArgs (top 27), defBody (top 27), defScope (top 27), ["size"], ["size"], [], false, []⟩
def f_number_at : FnI := ⟨.g "number_at", "number_at", "number_at", defArgs (top 28), defBody (top 28), defScope (top 28), ["kind", "index"], ["kind", "index"], [], false, []⟩
def f_law_dice : FnI := ⟨.g "_law_dice", "_law_dice", "_law_dice", defArgs (top 30), defBody (top 30), defScope (top 30), ["_law_script", "_law_spot", "_law_cell", "_law_left"], ["_law_script", "_law_spot"], [], true, []⟩
def f_law_roll : FnI := ⟨.g "_law_roll", "_law_roll", "_law_roll", defArgs (top 31), defBody (top 31), defScope (top 31), ["_law_dice_here", "_law_total", "_law_one", "_law_two", "_law_found"], ["_law_dice_here", "_law_total"], [], false, []⟩
def f_law_pick : FnI := ⟨.g "_law_pick", "_law_pick", "_law_pick", defArgs (top 32), defBody (top 32), defScope (top 32), ["_law_dice_here", "_law_items"], ["_law_dice_here", "_law_items"], [], false, []⟩
def f_law_kinds : FnI := ⟨.g "_law_kinds", "_law_kinds", "_law_kinds", defArgs (top 33), defBody (top 33), defScope (top 33), ["_law_size", "_law_found", "_law_waits", "_law_kind_here", "_law_left", "_law_most", "_law_number"], ["_law_size"], [], false, ["_law_waits", "_law_found"]⟩
def f_law_kind : FnI := ⟨.g "_law_kind", "_law_kind", "_law_kind", defArgs (top 34), defBody (top 34), defScope (top 34), ["_law_dice_here", "_law_most"], ["_law_dice_here", "_law_most"], [], false, []⟩
def f_law_turned : FnI := ⟨.g "_law_turned", "_law_turned", "_law_turned", defArgs (top 35), defBody (top 35), defScope (top 35), ["_law_kind_here", "_law_at", "_law_number"], ["_law_kind_here"], [], false, []⟩
def f_law_does_hold : FnI := ⟨.g "_law_does_hold", "_law_does_hold", "_law_does_hold", defArgs (top 36), defBody (top 36), defScope (top 36), ["_law_kind_here", "_law_other", "_law_one", "_law_two"], ["_law_kind_here", "_law_other"], [], false, []⟩
def f_law_does_top : FnI := ⟨.g "_law_does_top", "_law_does_top", "_law_does_top", defArgs (top 37), defBody (top 37), defScope (top 37), ["_law_kind_here", "_law_other", "_law_many"], ["_law_kind_here", "_law_other"], [], false, []⟩
def f_law_put_together : FnI := ⟨.g "_law_put_together", "_law_put_together", "_law_put_together", defArgs (top 38), defBody (top 38), defScope (top 38), ["_law_one", "_law_other"], ["_law_one", "_law_other"], [], false, []⟩
def f_law_added_up : FnI := ⟨.g "_law_added_up", "_law_added_up", "_law_added_up", defArgs (top 39), defBody (top 39), defScope (top 39), ["_law_one", "_law_other", "_law_wide", "_law_rows", "_law_row", "_law_turn", "_law_left", "_law_right_here"], ["_law_one", "_law_other"], [], false, []⟩
def f_law_joined_right : FnI := ⟨.g "_law_joined_right", "_law_joined_right", "_law_joined_right", defArgs (top 40), defBody (top 40), defScope (top 40), ["_law_one", "_law_other", "_law_both", "_law_rows", "_law_kind_here", "_law_more", "_law_due", "_law_at", "_law_found"], ["_law_one", "_law_other"], [], false, []⟩
def f_law_is_one_right : FnI := ⟨.g "_law_is_one_right", "_law_is_one_right", "_law_is_one_right", defArgs (top 41), defBody (top 41), defScope (top 41), ["_law_numbers", "_law_kind_here", "_law_turned_here", "_law_t"], ["_law_numbers"], [], false, []⟩
def f_law_are_tops_right : FnI := ⟨.g "_law_are_tops_right", "_law_are_tops_right", "_law_are_tops_right", defArgs (top 42), defBody (top 42), defScope (top 42), ["_law_size", "_law_one", "_law_other", "_law_is_top", "_law_kind_here", "_law_more"], ["_law_size"], [], false, []⟩
def f_law_right : FnI := ⟨.g "_law_right", "_law_right", "_law_right", defArgs (top 43), defBody (top 43), defScope (top 43), ["_law_dice_here", "_law_one", "_law_told", "_law_other", "_law_third"], ["_law_dice_here"], [], false, []⟩
def f_law_limit : FnI := ⟨.g "_law_limit", "_law_limit", "_law_limit", defArgs (top 44), defBody (top 44), defScope (top 44), ["_law_one", "_law_other", "_law_way", "e"], ["_law_one", "_law_other", "_law_way"], [], false, []⟩
def f_law : FnI := ⟨.g "law", "law", "law", defArgs (top 45), defBody (top 45), defScope (top 45), ["_law_script", "_law_spot", "_law_told", "_law_dice_here", "_law_turn", "_law_way"], ["_law_script"], [], false, []⟩
theorem bf_is_whole : f_is_whole.Bd := ⟨⟨rfl, rfl, rfl, by decide +kernel, rfl, by decide +kernel, by decide +kernel⟩, fun _ _ _ _ _ _ _ us hl => match us, hl with | [_], _ => rfl, fun h => absurd rfl h⟩
theorem bf_is_integer : f_is_integer.Bd := ⟨⟨rfl, rfl, rfl, by decide +kernel, rfl, by decide +kernel, by decide +kernel⟩, fun _ _ _ _ _ _ _ us hl => match us, hl with | [_], _ => rfl, fun h => absurd rfl h⟩
theorem bf_is_from : f_is_from.Bd := ⟨⟨rfl, rfl, rfl, by decide +kernel, rfl, by decide +kernel, by decide +kernel⟩, fun _ _ _ _ _ _ _ us hl => match us, hl with | [_, _, _], _ => rfl, fun h => absurd rfl h⟩
theorem bf_are_numbers : f_are_numbers.Bd := ⟨⟨rfl, rfl, rfl, by decide +kernel, rfl, by decide +kernel, by decide +kernel⟩, fun _ _ _ _ _ _ _ us hl => match us, hl with | [_], _ => rfl, fun h => absurd rfl h⟩
theorem bf_turned_numbers : f_turned_numbers.Bd := ⟨⟨rfl, rfl, rfl, by decide +kernel, rfl, by decide +kernel, by decide +kernel⟩, fun _ _ _ _ _ _ _ us hl => match us, hl with | [_], _ => rfl, fun h => absurd rfl h⟩
theorem bf_Kind_init : f_Kind_init.Bd := ⟨⟨rfl, rfl, rfl, by decide +kernel, rfl, by decide +kernel, by decide +kernel⟩, fun h => (nomatch h), fun _ n j hj hn t kV doc pm an cdv ct us its h1 h2 => match its, h2 with | [_], _ => match j, hj, n, hn, us, h1 with | 0, _, 1, _, [_], _ => ⟨_, rfl, rfl⟩ | 1, _, 2, _, [_, _], _ => ⟨_, rfl, rfl⟩⟩
theorem bf_Kind_numbers : f_Kind_numbers.Bd := ⟨⟨rfl, rfl, rfl, by decide +kernel, rfl, by decide +kernel, by decide +kernel⟩, fun _ _ _ _ _ _ _ us hl => match us, hl with | [_], _ => rfl, fun h => absurd rfl h⟩
theorem bf_Kind_size : f_Kind_size.Bd := ⟨⟨rfl, rfl, rfl, by decide +kernel, rfl, by decide +kernel, by decide +kernel⟩, fun _ _ _ _ _ _ _ us hl => match us, hl with | [_], _ => rfl, fun h => absurd rfl h⟩
theorem bf_Kind_rank : f_Kind_rank.Bd := ⟨⟨rfl, rfl, rfl, by decide +kernel, rfl, by decide +kernel, by decide +kernel⟩, fun _ _ _ _ _ _ _ us hl => match us, hl with | [_], _ => rfl, fun h => absurd rfl h⟩
theorem bf_Kind_height : f_Kind_height.Bd := ⟨⟨rfl, rfl, rfl, by decide +kernel, rfl, by decide +kernel, by decide +kernel⟩, fun _ _ _ _ _ _ _ us hl => match us, hl with | [_], _ => rfl, fun h => absurd rfl h⟩
theorem bf_Kind_slant : f_Kind_slant.Bd := ⟨⟨rfl, rfl, rfl, by decide +kernel, rfl, by decide +kernel, by decide +kernel⟩, fun _ _ _ _ _ _ _ us hl => match us, hl with | [_], _ => rfl, fun h => absurd rfl h⟩
theorem bf_Kind_turned : f_Kind_turned.Bd := ⟨⟨rfl, rfl, rfl, by decide +kernel, rfl, by decide +kernel, by decide +kernel⟩, fun _ _ _ _ _ _ _ us hl => match us, hl with | [_], _ => rfl, fun h => absurd rfl h⟩
theorem bf_Kind_holds : f_Kind_holds.Bd := ⟨⟨rfl, rfl, rfl, by decide +kernel, rfl, by decide +kernel, by decide +kernel⟩, fun _ _ _ _ _ _ _ us hl => match us, hl with | [_, _], _ => rfl, fun h => absurd rfl h⟩
theorem bf_Kind_tops : f_Kind_tops.Bd := ⟨⟨rfl, rfl, rfl, by decide +kernel, rfl, by decide +kernel, by decide +kernel⟩, fun _ _ _ _ _ _ _ us hl => match us, hl with | [_, _], _ => rfl, fun h => absurd rfl h⟩
theorem bf_Kind_over : f_Kind_over.Bd := ⟨⟨rfl, rfl, rfl, by decide +kernel, rfl, by decide +kernel, by decide +kernel⟩, fun _ _ _ _ _ _ _ us hl => match us, hl with | [_, _], _ => rfl, fun h => absurd rfl h⟩
theorem bf_Kind_add : f_Kind_add.Bd := ⟨⟨rfl, rfl, rfl, by decide +kernel, rfl, by decide +kernel, by decide +kernel⟩, fun _ _ _ _ _ _ _ us hl => match us, hl with | [_, _], _ => rfl, fun h => absurd rfl h⟩
theorem bf_Kind_getitem : f_Kind_getitem.Bd := ⟨⟨rfl, rfl, rfl, by decide +kernel, rfl, by decide +kernel, by decide +kernel⟩, fun _ _ _ _ _ _ _ us hl => match us, hl with | [_, _], _ => rfl, fun h => absurd rfl h⟩
theorem bf_Kind_iter : f_Kind_iter.Bd := ⟨⟨rfl, rfl, rfl, by decide +kernel, rfl, by decide +kernel, by decide +kernel⟩, fun _ _ _ _ _ _ _ us hl => match us, hl with | [_], _ => rfl, fun h => absurd rfl h⟩
theorem bf_Kind_len : f_Kind_len.Bd := ⟨⟨rfl, rfl, rfl, by decide +kernel, rfl, by decide +kernel, by decide +kernel⟩, fun _ _ _ _ _ _ _ us hl => match us, hl with | [_], _ => rfl, fun h => absurd rfl h⟩
theorem bf_Kind_eq : f_Kind_eq.Bd := ⟨⟨rfl, rfl, rfl, by decide +kernel, rfl, by decide +kernel, by decide +kernel⟩, fun _ _ _ _ _ _ _ us hl => match us, hl with | [_, _], _ => rfl, fun h => absurd rfl h⟩
theorem bf_Kind_lt : f_Kind_lt.Bd := ⟨⟨rfl, rfl, rfl, by decide +kernel, rfl, by decide +kernel, by decide +kernel⟩, fun _ _ _ _ _ _ _ us hl => match us, hl with | [_, _], _ => rfl, fun h => absurd rfl h⟩
theorem bf_Kind_str : f_Kind_str.Bd := ⟨⟨rfl, rfl, rfl, by decide +kernel, rfl, by decide +kernel, by decide +kernel⟩, fun _ _ _ _ _ _ _ us hl => match us, hl with | [_], _ => rfl, fun h => absurd rfl h⟩
theorem bf_require_kind : f_require_kind.Bd := ⟨⟨rfl, rfl, rfl, by decide +kernel, rfl, by decide +kernel, by decide +kernel⟩, fun _ _ _ _ _ _ _ us hl => match us, hl with | [_], _ => rfl, fun h => absurd rfl h⟩
theorem bf_require_size : f_require_size.Bd := ⟨⟨rfl, rfl, rfl, by decide +kernel, rfl, by decide +kernel, by decide +kernel⟩, fun _ _ _ _ _ _ _ us hl => match us, hl with | [_], _ => rfl, fun h => absurd rfl h⟩
theorem bf_number_at : f_number_at.Bd := ⟨⟨rfl, rfl, rfl, by decide +kernel, rfl, by decide +kernel, by decide +kernel⟩, fun _ _ _ _ _ _ _ us hl => match us, hl with | [_, _], _ => rfl, fun h => absurd rfl h⟩
theorem bf_law_dice : f_law_dice.Bd := ⟨⟨rfl, rfl, rfl, by decide +kernel, rfl, by decide +kernel, by decide +kernel⟩, fun _ _ _ _ _ _ _ us hl => match us, hl with | [_, _], _ => rfl, fun h => absurd rfl h⟩
theorem bf_law_roll : f_law_roll.Bd := ⟨⟨rfl, rfl, rfl, by decide +kernel, rfl, by decide +kernel, by decide +kernel⟩, fun _ _ _ _ _ _ _ us hl => match us, hl with | [_, _], _ => rfl, fun h => absurd rfl h⟩
theorem bf_law_pick : f_law_pick.Bd := ⟨⟨rfl, rfl, rfl, by decide +kernel, rfl, by decide +kernel, by decide +kernel⟩, fun _ _ _ _ _ _ _ us hl => match us, hl with | [_, _], _ => rfl, fun h => absurd rfl h⟩
theorem bf_law_kinds : f_law_kinds.Bd := ⟨⟨rfl, rfl, rfl, by decide +kernel, rfl, by decide +kernel, by decide +kernel⟩, fun _ _ _ _ _ _ _ us hl => match us, hl with | [_], _ => rfl, fun h => absurd rfl h⟩
theorem bf_law_kind : f_law_kind.Bd := ⟨⟨rfl, rfl, rfl, by decide +kernel, rfl, by decide +kernel, by decide +kernel⟩, fun _ _ _ _ _ _ _ us hl => match us, hl with | [_, _], _ => rfl, fun h => absurd rfl h⟩
theorem bf_law_turned : f_law_turned.Bd := ⟨⟨rfl, rfl, rfl, by decide +kernel, rfl, by decide +kernel, by decide +kernel⟩, fun _ _ _ _ _ _ _ us hl => match us, hl with | [_], _ => rfl, fun h => absurd rfl h⟩
theorem bf_law_does_hold : f_law_does_hold.Bd := ⟨⟨rfl, rfl, rfl, by decide +kernel, rfl, by decide +kernel, by decide +kernel⟩, fun _ _ _ _ _ _ _ us hl => match us, hl with | [_, _], _ => rfl, fun h => absurd rfl h⟩
theorem bf_law_does_top : f_law_does_top.Bd := ⟨⟨rfl, rfl, rfl, by decide +kernel, rfl, by decide +kernel, by decide +kernel⟩, fun _ _ _ _ _ _ _ us hl => match us, hl with | [_, _], _ => rfl, fun h => absurd rfl h⟩
theorem bf_law_put_together : f_law_put_together.Bd := ⟨⟨rfl, rfl, rfl, by decide +kernel, rfl, by decide +kernel, by decide +kernel⟩, fun _ _ _ _ _ _ _ us hl => match us, hl with | [_, _], _ => rfl, fun h => absurd rfl h⟩
theorem bf_law_added_up : f_law_added_up.Bd := ⟨⟨rfl, rfl, rfl, by decide +kernel, rfl, by decide +kernel, by decide +kernel⟩, fun _ _ _ _ _ _ _ us hl => match us, hl with | [_, _], _ => rfl, fun h => absurd rfl h⟩
theorem bf_law_joined_right : f_law_joined_right.Bd := ⟨⟨rfl, rfl, rfl, by decide +kernel, rfl, by decide +kernel, by decide +kernel⟩, fun _ _ _ _ _ _ _ us hl => match us, hl with | [_, _], _ => rfl, fun h => absurd rfl h⟩
theorem bf_law_is_one_right : f_law_is_one_right.Bd := ⟨⟨rfl, rfl, rfl, by decide +kernel, rfl, by decide +kernel, by decide +kernel⟩, fun _ _ _ _ _ _ _ us hl => match us, hl with | [_], _ => rfl, fun h => absurd rfl h⟩
theorem bf_law_are_tops_right : f_law_are_tops_right.Bd := ⟨⟨rfl, rfl, rfl, by decide +kernel, rfl, by decide +kernel, by decide +kernel⟩, fun _ _ _ _ _ _ _ us hl => match us, hl with | [_], _ => rfl, fun h => absurd rfl h⟩
theorem bf_law_right : f_law_right.Bd := ⟨⟨rfl, rfl, rfl, by decide +kernel, rfl, by decide +kernel, by decide +kernel⟩, fun _ _ _ _ _ _ _ us hl => match us, hl with | [_], _ => rfl, fun h => absurd rfl h⟩
theorem bf_law_limit : f_law_limit.Bd := ⟨⟨rfl, rfl, rfl, by decide +kernel, rfl, by decide +kernel, by decide +kernel⟩, fun _ _ _ _ _ _ _ us hl => match us, hl with | [_, _, _], _ => rfl, fun h => absurd rfl h⟩
theorem bf_law : f_law.Bd := ⟨⟨rfl, rfl, rfl, by decide +kernel, rfl, by decide +kernel, by decide +kernel⟩, fun _ _ _ _ _ _ _ us hl => match us, hl with | [_], _ => rfl, fun h => absurd rfl h⟩
def cls : List ClI := [
  ⟨"Kind", some 5, [("own_key", 0), ("own_numbers", 1), ("own_size", 2), ("own_text", 3)], [("holds", 12), ("tops", 13), ("over", 14)], [("numbers", 6), ("size", 7), ("rank", 8), ("height", 9), ("slant", 10), ("turned", 11)], [("__add__", 15), ("__getitem__", 16), ("__iter__", 17), ("__len__", 18), ("__eq__", 19), ("__lt__", 20), ("__str__", 21)], true, some (1, 17, 18, "own_numbers")⟩]
def isaT : List ((TK × TK) × Bool) := [((.ty "NoneType", .own 0), false), ((.ty "bool", .own 0), false), ((.ty "int", .own 0), false), ((.ty "str", .own 0), false), ((.ty "tuple", .own 0), false), ((.ty "list", .own 0), false), ((.own 0, .own 0), true), ((.ty "NoneType", .ty "bool"), false), ((.ty "bool", .ty "bool"), true), ((.ty "int", .ty "bool"), false), ((.ty "str", .ty "bool"), false), ((.ty "tuple", .ty "bool"), false), ((.ty "list", .ty "bool"), false), ((.own 0, .ty "bool"), false), ((.ty "NoneType", .ty "int"), false), ((.ty "bool", .ty "int"), true), ((.ty "int", .ty "int"), true), ((.ty "str", .ty "int"), false), ((.ty "tuple", .ty "int"), false), ((.ty "list", .ty "int"), false), ((.own 0, .ty "int"), false), ((.ty "NoneType", .ty "tuple"), false), ((.ty "bool", .ty "tuple"), false), ((.ty "int", .ty "tuple"), false), ((.ty "str", .ty "tuple"), false), ((.ty "tuple", .ty "tuple"), true), ((.ty "list", .ty "tuple"), false), ((.own 0, .ty "tuple"), false)]
def fstT : List (Nat × TK) := [(0, .ty "NoneType"), (0, .ty "bool"), (0, .ty "int"), (0, .ty "str"), (0, .ty "tuple"), (0, .ty "list"), (0, .own 0)]
def bopT : List (Nat × Operator × String) := [(0, .Add, "int")]
def exs : List ExI := [⟨"InvalidKind", 0, none⟩, ⟨"InvalidNumber", 1, some ⟨"value", "value", defArgs (mth 6 0), defScope (mth 6 0)⟩⟩, ⟨"TooMany", 2, some ⟨"limit", "limit", defArgs (mth 7 0), defScope (mth 7 0)⟩⟩, ⟨"Refused", 3, some ⟨"reason", "reason", defArgs (mth 8 0), defScope (mth 8 0)⟩⟩]
theorem exsBd : ∀ e ∈ exs, e.Bd := by
  intro e h
  simp only [exs, List.mem_cons, List.not_mem_nil, or_false] at h
  rcases h with rfl | rfl | rfl | rfl
  all_goals (intro w hw; first | (cases hw; done) | (cases hw; intro name qual body gl bl cl kV doc pm cdv ct an x u; rfl))
def exmT : List ((Nat × TK) × Bool) := [((1, .own 3), false), ((2, .own 3), false), ((3, .own 3), true), ((4, .own 3), false)]
def td : TD := {
  fns := [f_is_whole, f_is_integer, f_is_from, f_are_numbers, f_turned_numbers, f_Kind_init, f_Kind_numbers, f_Kind_size, f_Kind_rank, f_Kind_height, f_Kind_slant, f_Kind_turned, f_Kind_holds, f_Kind_tops, f_Kind_over, f_Kind_add, f_Kind_getitem, f_Kind_iter, f_Kind_len, f_Kind_eq, f_Kind_lt, f_Kind_str, f_require_kind, f_require_size, f_number_at, f_law_dice, f_law_roll, f_law_pick, f_law_kinds, f_law_kind, f_law_turned, f_law_does_hold, f_law_does_top, f_law_put_together, f_law_added_up, f_law_joined_right, f_law_is_one_right, f_law_are_tops_right, f_law_right, f_law_limit, f_law],
  cls := cls,
  gfn := [("is_whole", 0), ("is_integer", 1), ("is_from", 2), ("are_numbers", 3), ("turned_numbers", 4), ("require_kind", 22), ("require_size", 23), ("number_at", 24), ("_law_dice", 25), ("_law_roll", 26), ("_law_pick", 27), ("_law_kinds", 28), ("_law_kind", 29), ("_law_turned", 30), ("_law_does_hold", 31), ("_law_does_top", 32), ("_law_put_together", 33), ("_law_added_up", 34), ("_law_joined_right", 35), ("_law_is_one_right", 36), ("_law_are_tops_right", 37), ("_law_right", 38), ("_law_limit", 39), ("law", 40)],
  gval := [("BEYOND", .int (1000000000000000000000000000000000000000000000000000000000000)), ("BLANK", .str " "), ("CLOSING", .str "]"), ("MAX_SIZE", .int (12)), ("OPENING", .str "[")],
  gblt := ["NotImplemented", "abs", "all", "bool", "enumerate", "int", "isinstance", "iter", "len", "list", "max", "min", "property", "range", "sorted", "str", "sum", "tuple", "zip"],
  isa := isaT,
  fst := fstT,
  bop := bopT,
  exs := exs,
  exm := exmT,
  file := prg.main.file }
def loose0 : List PySem.Str := ["_wall", "__name__", "KindsError", "InvalidKind", "InvalidOperation", "ParseError", "InvalidNumber", "TooMany", "Refused", "BEYOND", "is_whole", "is_integer", "is_from", "MAX_SIZE", "DIGITS", "OPENING", "CLOSING", "BLANK", "are_numbers", "turned_numbers", "is_number_text", "number_end", "read_numbers", "Kind", "require_kind", "require_size", "number_at", "_law_dice", "_law_roll", "_law_pick"]
def loose1 : List PySem.Str := ["_law_kinds", "_law_kind", "_law_turned", "_law_does_hold", "_law_does_top", "_law_put_together", "_law_added_up", "_law_joined_right", "_law_is_one_right", "_law_are_tops_right", "_law_right", "_law_limit"]
def loose : List PySem.Str := loose0 ++ loose1
abbrev row : PySem.W.OpenRow := PySem.W.OpenLaw.row PySem.Challenge.rw_primekinds_k07_whole_turned_and_joined_k
def ob (s : PySem.W.SharedT) : AlT := td.obsG 6 (HandSHeadRun.getT s)
theorem ob_eq (s : PySem.W.SharedT) : ob s = (td.hook 6).obs s.abs := TD.obsG_eq (HandSHeadRun.getT_eq s)
abbrev vw : PySem.Program := PySem.W.view row.prog [45]
-- law 45 of 46, function 40
theorem bds : ∀ f ∈ td.fns, f.Bd := by
  intro f hf
  simp only [td, List.mem_cons, List.not_mem_nil, or_false] at hf
  rcases hf with rfl | rfl | rfl | rfl | rfl | rfl | rfl | rfl | rfl | rfl | rfl | rfl | rfl | rfl | rfl | rfl | rfl | rfl | rfl | rfl | rfl | rfl | rfl | rfl | rfl | rfl | rfl | rfl | rfl | rfl | rfl | rfl | rfl | rfl | rfl | rfl | rfl | rfl | rfl | rfl | rfl
  · exact bf_is_whole
  · exact bf_is_integer
  · exact bf_is_from
  · exact bf_are_numbers
  · exact bf_turned_numbers
  · exact bf_Kind_init
  · exact bf_Kind_numbers
  · exact bf_Kind_size
  · exact bf_Kind_rank
  · exact bf_Kind_height
  · exact bf_Kind_slant
  · exact bf_Kind_turned
  · exact bf_Kind_holds
  · exact bf_Kind_tops
  · exact bf_Kind_over
  · exact bf_Kind_add
  · exact bf_Kind_getitem
  · exact bf_Kind_iter
  · exact bf_Kind_len
  · exact bf_Kind_eq
  · exact bf_Kind_lt
  · exact bf_Kind_str
  · exact bf_require_kind
  · exact bf_require_size
  · exact bf_number_at
  · exact bf_law_dice
  · exact bf_law_roll
  · exact bf_law_pick
  · exact bf_law_kinds
  · exact bf_law_kind
  · exact bf_law_turned
  · exact bf_law_does_hold
  · exact bf_law_does_top
  · exact bf_law_put_together
  · exact bf_law_added_up
  · exact bf_law_joined_right
  · exact bf_law_is_one_right
  · exact bf_law_are_tops_right
  · exact bf_law_right
  · exact bf_law_limit
  · exact bf_law
end PyI.Law
namespace PyI.Law
open PySem PySem.Spec PyProof.Rows L2 PyI
theorem run (w : World) : HandSHeadRun.RunEq row vw (td.hook 6) ob 6000 loose w := by
  intro os
  kernel_rfl
end PyI.Law
namespace PyI.Law
open PySem PySem.Spec PyProof.Rows L2 PyI
def noF : EF := fun _ _ _ => .no
def noS0 : SF := fun _ _ _ => .no
def T0 : Tx := mkTx td ([] : PySem.W.Frag)
abbrev S0 : Sps := T0.sps
abbrev att0 := T0.att
abbrev itr0 := T0.itr
abbrev isI0 := T0.isI
abbrev isa0 := T0.isa
def B_is_whole : SF := sRet (cAnd (cB (isiG isI0 isa0) (aCons (cVar 0) (aCons (cCon (.ty "int")) aNil))) (cNot (cB (isiG isI0 isa0) (aCons (cVar 0) (aCons (cCon (.ty "bool")) aNil)))))
def B_is_integer : SF := sRet (cAnd (cCall 0 (aCons (cVar 0) aNil)) (cChain (fun i j => decide (i < j)) (fun i j => decide (i < j)) (cNeg (cCon (.int (1000000000000000000000000000000000000000000000000000000000000)))) (cVar 0) (cCon (.int (1000000000000000000000000000000000000000000000000000000000000)))))
def B_is_from : SF := sRet (cAnd (cCall 0 (aCons (cVar 0) aNil)) (cChain (fun i j => decide (i ≤ j)) (fun i j => decide (i ≤ j)) (cVar 1) (cVar 0) (cVar 2)))
def B_are_numbers : SF := sSeq (sIf (cOr (cNot (cTru S0 (cB (isiG isI0 isa0) (aCons (cVar 0) (aCons (cCon (.ty "tuple")) aNil))))) (c2 (cmpOwn S0 "__gt__" (tupT .gt (cmpI fun i j => decide (j < i)))) (cB (lenOwn S0) (aCons (cVar 0) aNil)) (cCon (.int (12))))) (sRet (cCon (.bl false))) sSkip) (sSeq (sIf (cOr (cNot (cTru S0 (cB allG (aCons (cLc false [3] (iSrc itr0 (cVar 0)) (wName 3) (cCon (.bl true)) (cCall 2 (aCons (cVar 3) (aCons (cCon (.int (1))) (aCons (cCon (.int (12))) aNil))))) aNil)))) (c2 (cmpOwn S0 "__gt__" (tupT .gt (cmpI fun i j => decide (j < i)))) (cB sumTG (aCons (cVar 0) aNil)) (cCon (.int (12))))) (sRet (cCon (.bl false))) sSkip) (sRet (cB allG (aCons (cLc false [1, 2] (iRng zipS (aCons (cVar 0) (aCons (cSlice (some (cCon (.int (1)))) none (cVar 0)) aNil))) (wTup 2 (wsCons (wName 1) (wsCons (wName 2) wsNil))) (cCon (.bl true)) (c2 (cmpOwn S0 "__ge__" (tupT .ge (cmpI fun i j => decide (j ≤ i)))) (cVar 1) (cVar 2))) aNil))))
def B_turned_numbers : SF := sRet (cB tupleG (aCons (cLc false [1] (iRng rng1 (aCons (cMaxD true (cVar 0) (cCon (.int (0)))) aNil)) (wName 1) (cCon (.bl true)) (cB (lenOwn S0) (aCons (cLc false [2] (iSrc itr0 (cVar 0)) (wName 2) (c2 (cmpOwn S0 "__gt__" (tupT .gt (cmpI fun i j => decide (j < i)))) (cVar 2) (cVar 1)) (cVar 2)) aNil))) aNil))
def B_Kind_init : SF := sSeq (sIf (cNot (cTru S0 (cCall 3 (aCons (cVar 1) aNil)))) (sRaise 1 false (aCons (cCon (.str "a falling tuple of integers of at least 1 is expected, with a sum of at most 12")) aNil)) sSkip) (sSeq (sSlot att0 "own_numbers" (cVar 0) (cVar 1)) (sSeq (sSlot att0 "own_size" (cVar 0) (cB sumTG (aCons (cVar 1) aNil))) (sSeq (sSlot att0 "own_key" (cVar 0) (cTup (aCons (cAtt att0 "own_size" (cVar 0)) (aCons (cB tupleG (aCons (cLc false [2] (iSrc itr0 (cVar 1)) (wName 2) (cCon (.bl true)) (cNeg (cVar 2))) aNil)) aNil)))) (sSlot att0 "own_text" (cVar 0) (c2 (binOwn S0 .Add addG) (c2 (binOwn S0 .Add addG) (cCon (.str "[")) (cBM "str" joinG (cCon (.str " ")) (aCons (cLc false [2] (iSrc itr0 (cVar 1)) (wName 2) (cCon (.bl true)) (cB strG (aCons (cVar 2) aNil))) aNil))) (cCon (.str "]")))))))
def B_Kind_numbers : SF := sRet (cAtt att0 "own_numbers" (cVar 0))
def B_Kind_size : SF := sRet (cAtt att0 "own_size" (cVar 0))
def B_Kind_rank : SF := sRet (cB (lenOwn S0) (aCons (cAtt att0 "own_numbers" (cVar 0)) aNil))
def B_Kind_height : SF := sRet (cMaxD true (cAtt att0 "own_numbers" (cVar 0)) (cCon (.int (0))))
def B_Kind_slant : SF := sRet (cB sumTG (aCons (cLc false [1, 2] (iRng enumS (aCons (cAtt att0 "own_numbers" (cVar 0)) aNil)) (wTup 2 (wsCons (wName 1) (wsCons (wName 2) wsNil))) (cCon (.bl true)) (c2 (binOwn S0 .Mult mulG) (cVar 1) (cVar 2))) aNil))
def B_Kind_turned : SF := sRet (cMake 0 5 (aCons (cCall 4 (aCons (cAtt att0 "own_numbers" (cVar 0)) aNil)) aNil))
def B_Kind_holds : SF := sSeq (sExpr (cCall 22 (aCons (cVar 1) aNil))) (sSeq (sIf (c2 (cmpOwn S0 "__gt__" (tupT .gt (cmpI fun i j => decide (j < i)))) (cB (lenOwn S0) (aCons (cAtt att0 "own_numbers" (cVar 1)) aNil)) (cB (lenOwn S0) (aCons (cAtt att0 "own_numbers" (cVar 0)) aNil))) (sRet (cCon (.bl false))) sSkip) (sRet (cB allG (aCons (cLc false [2, 3] (iRng zipS (aCons (cAtt att0 "own_numbers" (cVar 1)) (aCons (cAtt att0 "own_numbers" (cVar 0)) aNil))) (wTup 2 (wsCons (wName 2) (wsCons (wName 3) wsNil))) (cCon (.bl true)) (c2 (cmpOwn S0 "__le__" (tupT .le (cmpI fun i j => decide (i ≤ j)))) (cVar 2) (cVar 3))) aNil))))
def B_Kind_tops : SF := sSeq (sExpr (cCall 22 (aCons (cVar 1) aNil))) (sSeq (sIf (c2 (neIG S0 (neOwn S0 neG)) (cAtt att0 "own_size" (cVar 1)) (cAtt att0 "own_size" (cVar 0))) (sRaise 4 true (aCons (cTup (aCons (cCon (.str "size")) (aCons (cAtt att0 "own_size" (cVar 0)) (aCons (cAtt att0 "own_size" (cVar 1)) aNil)))) aNil)) sSkip) (sSeq (sAsg (cTup (aCons (cAtt att0 "own_numbers" (cVar 0)) (aCons (cAtt att0 "own_numbers" (cVar 1)) aNil))) (gTup 2 (gsCons (gName 2) (gsCons (gName 3) gsNil)))) (sRet (cB allG (aCons (cLc false [4] (iRng rng2 (aCons (cCon (.int (1))) (aCons (cCon (.int (12))) aNil))) (wName 4) (cCon (.bl true)) (c2 (cmpOwn S0 "__ge__" (tupT .ge (cmpI fun i j => decide (j ≤ i)))) (cB sumTG (aCons (cSlice none (some (cVar 4)) (cVar 2)) aNil)) (cB sumTG (aCons (cSlice none (some (cVar 4)) (cVar 3)) aNil)))) aNil)))))
def B_Kind_over : SF := sSeq (sExpr (cCall 22 (aCons (cVar 1) aNil))) (sSeq (sExpr (cCall 23 (aCons (c2 (binOwn S0 .Add addG) (cAtt att0 "own_size" (cVar 0)) (cAtt att0 "own_size" (cVar 1))) aNil))) (sSeq (sSet 2 (cB (mxTG true maxG) (aCons (cB (lenOwn S0) (aCons (cAtt att0 "own_numbers" (cVar 0)) aNil)) (aCons (cB (lenOwn S0) (aCons (cAtt att0 "own_numbers" (cVar 1)) aNil)) aNil)))) (sRet (cMake 0 5 (aCons (cB tupleG (aCons (cLc false [3] (iRng rng1 (aCons (cVar 2) aNil)) (wName 3) (cCon (.bl true)) (c2 (binOwn S0 .Add addG) (cCall 24 (aCons (cVar 0) (aCons (cVar 3) aNil))) (cCall 24 (aCons (cVar 1) (aCons (cVar 3) aNil))))) aNil)) aNil)))))
def B_Kind_add : SF := sSeq (sIf (cNot (cTru S0 (cB (isiG isI0 isa0) (aCons (cVar 1) (aCons (cCon (.cls 0)) aNil))))) (sRet noF) sSkip) (sSeq (sExpr (cCall 23 (aCons (c2 (binOwn S0 .Add addG) (cAtt att0 "own_size" (cVar 0)) (cAtt att0 "own_size" (cVar 1))) aNil))) (sRet (cMake 0 5 (aCons (cB tupleG (aCons (cRev (cB sortedG (aCons (cLst (aStar (cAtt att0 "own_numbers" (cVar 0)) (aStar (cAtt att0 "own_numbers" (cVar 1)) aNil))) aNil))) aNil)) aNil))))
def B_Kind_getitem : SF := sSeq (sIf (cOr (cNot (cTru S0 (cCall 1 (aCons (cVar 1) aNil)))) (c2 (cmpOwn S0 "__lt__" (tupT .lt (cmpI fun i j => decide (i < j)))) (cVar 1) (cCon (.int (0))))) (sRaise 2 true (aCons (cVar 1) aNil)) sSkip) (sRet (cCall 24 (aCons (cVar 0) (aCons (cVar 1) aNil))))
def B_Kind_iter : SF := sRet noF
def B_Kind_len : SF := sRet (cB (lenOwn S0) (aCons (cAtt att0 "own_numbers" (cVar 0)) aNil))
def B_Kind_eq : SF := sRet (cAnd (cB (isiG isI0 isa0) (aCons (cVar 1) (aCons (cCon (.cls 0)) aNil))) (c2 (eqIG S0 (cmpOwn S0 "__eq__" eqG)) (cAtt att0 "own_key" (cVar 0)) (cAtt att0 "own_key" (cVar 1))))
def B_Kind_lt : SF := sSeq (sIf (cNot (cTru S0 (cB (isiG isI0 isa0) (aCons (cVar 1) (aCons (cCon (.cls 0)) aNil))))) (sRet noF) sSkip) (sRet (c2 (cmpOwn S0 "__lt__" (tupT .lt (cmpI fun i j => decide (i < j)))) (cAtt att0 "own_key" (cVar 0)) (cAtt att0 "own_key" (cVar 1))))
def B_Kind_str : SF := sRet (cB strG (aCons (cAtt att0 "own_text" (cVar 0)) aNil))
def B_require_kind : SF := sIf (cNot (cTru S0 (cB (isiG isI0 isa0) (aCons (cVar 0) (aCons (cCon (.cls 0)) aNil))))) (sRaise 1 false (aCons (cCon (.str "a kind is expected")) aNil)) sSkip
def B_require_size : SF := sIf (c2 (cmpOwn S0 "__gt__" (tupT .gt (cmpI fun i j => decide (j < i)))) (cVar 0) (cCon (.int (12)))) (sRaise 3 true (aCons (cCon (.int (12))) aNil)) sSkip
def B_number_at : SF := sRet (cIf (c2 (cmpOwn S0 "__lt__" (tupT .lt (cmpI fun i j => decide (i < j)))) (cVar 1) (cB (lenOwn S0) (aCons (cAtt att0 "own_numbers" (cVar 0)) aNil))) (c2 (idxOwn S0) (cAtt att0 "own_numbers" (cVar 0)) (cVar 1)) (cCon (.int (0))))
def B_law_dice : SF := sSeq (sSet 2 (cIf (c2 (cmpOwn S0 "__lt__" (tupT .lt (cmpI fun i j => decide (i < j)))) (cVar 1) (cB (lenOwn S0) (aCons (cVar 0) aNil))) (cB intG (aCons (c2 (idxOwn S0) (cVar 0) (cVar 1)) aNil)) (c2 (binOwn S0 .Add addG) (c2 (binOwn S0 .Mult mulG) (cCon (.int (83))) (cVar 1)) (cCon (.int (61)))))) (sSeq (sSet 3 (c2 (binOwn S0 .Mod modG) (cB (mxTG true maxG) (aCons (cCon (.int (0))) (aCons (c2 (binOwn S0 .Sub subG) (cB absG (aCons (cVar 2) aNil)) (c2 (binOwn S0 .Pow powG) (cCon (.int (10))) (cCon (.int (16))))) aNil))) (c2 (binOwn S0 .Mult mulG) (c2 (binOwn S0 .Pow powG) (cCon (.int (10))) (cCon (.int (60)))) (c2 (binOwn S0 .Pow powG) (cCon (.int (10))) (cCon (.int (60))))))) (sRet (cThw (lDisp (aCons (cVar 3) (aCons (c2 (binOwn S0 .Add addG) (c2 (binOwn S0 .Add addG) (c2 (binOwn S0 .Add addG) (c2 (binOwn S0 .Mult mulG) (c2 (binOwn S0 .Mod modG) (cB absG (aCons (cVar 2) aNil)) (cCon (.int (1152921504606846559)))) (cCon (.int (71)))) (c2 (binOwn S0 .Mult mulG) (cCon (.int (787))) (cVar 1))) (c2 (binOwn S0 .Mult mulG) (cCon (.int (47))) (cB intG (aCons (c2 (cmpOwn S0 "__lt__" (tupT .lt (cmpI fun i j => decide (i < j)))) (cVar 2) (cCon (.int (0)))) aNil)))) (cCon (.int (13)))) (aCons (cCon (.int (0))) aNil)))))))
def B_law_roll : SF := sSeq (sIf (c2 (cmpOwn S0 "__gt__" (tupT .gt (cmpI fun i j => decide (j < i)))) (c2 (idxOwn S0) (cVar 0) (cCon (.int (0)))) (cCon (.int (0)))) (sSeq (sSet 4 (c2 (binOwn S0 .Mod modG) (cB intG (aCons (c2 (idxOwn S0) (cVar 0) (cCon (.int (0)))) aNil)) (cVar 1))) (sSeq (sAsg (c2 (binOwn S0 .FloorDiv fdivG) (c2 (idxOwn S0) (cVar 0) (cCon (.int (0)))) (cVar 1)) (gItem (cVar 0) (cCon (.int (0))))) (sRet (cVar 4)))) sSkip) (sSeq (sAsg (c2 (binOwn S0 .Add addG) (c2 (idxOwn S0) (cVar 0) (cCon (.int (2)))) (cCon (.int (1)))) (gItem (cVar 0) (cCon (.int (2))))) (sSeq (sSet 2 (c2 (binOwn S0 .Mod modG) (cB intG (aCons (c2 (binOwn S0 .Add addG) (c2 (idxOwn S0) (cVar 0) (cCon (.int (1)))) (c2 (binOwn S0 .Mult mulG) (cCon (.int (122949823))) (c2 (idxOwn S0) (cVar 0) (cCon (.int (2)))))) aNil)) (cCon (.int (2305843009213693571))))) (sSeq (sSet 3 (c2 (binOwn S0 .Add addG) (c2 (binOwn S0 .Mult mulG) (c2 (binOwn S0 .Mod modG) (cB intG (aCons (c2 (binOwn S0 .Add addG) (c2 (binOwn S0 .Mult mulG) (cVar 2) (cVar 2)) (c2 (binOwn S0 .Mult mulG) (cCon (.int (109))) (c2 (idxOwn S0) (cVar 0) (cCon (.int (2)))))) aNil)) (cCon (.int (2305843009213693487)))) (cCon (.int (2750159)))) (cVar 2))) (sRet (c2 (binOwn S0 .Mod modG) (cB intG (aCons (c2 (binOwn S0 .FloorDiv fdivG) (cVar 3) (cCon (.int (65536)))) aNil)) (cVar 1))))))
def B_law_pick : SF := sRet (c2 (idxOwn S0) (cVar 1) (cCall 26 (aCons (cVar 0) (aCons (cB (lenOwn S0) (aCons (cVar 1) aNil)) aNil))))
def B_law_kinds : SF := sSeq (sPar 1 2 (aCons (cThw (lDisp aNil)) (aCons (cThw (lDisp (aCons (cTup (aCons (cTup aNil) (aCons (cVar 0) aNil))) aNil))) aNil))) (sSeq (sWhile (c2 (neIG S0 (neOwn S0 neG)) (cVar 2) (cLst aNil)) (sSeq (sAsg (cBM "list" popG (cVar 2) aNil) (gTup 2 (gsCons (gName 3) (gsCons (gName 4) gsNil)))) (sIf (c2 (eqIG S0 (cmpOwn S0 "__eq__" eqG)) (cVar 4) (cCon (.int (0)))) (sExpr (cBM "list" appendG (cVar 1) (aCons (cVar 3) aNil))) (sSeq (sSet 5 (cIf (c2 (neIG S0 (neOwn S0 neG)) (cVar 3) (cTup aNil)) (cB (mxTG false minG) (aCons (cVar 4) (aCons (c2 (idxOwn S0) (cVar 3) (cNeg (cCon (.int (1))))) aNil))) (cVar 4))) (sExpr (cBM "list" extendG (cVar 2) (aCons (cLc false [6] (iRng rng2 (aCons (cCon (.int (1))) (aCons (c2 (binOwn S0 .Add addG) (cVar 5) (cCon (.int (1)))) aNil))) (wName 6) (cCon (.bl true)) (cTup (aCons (c2 (binOwn S0 .Add addG) (cVar 3) (cTup (aCons (cVar 6) aNil))) (aCons (c2 (binOwn S0 .Sub subG) (cVar 4) (cVar 6)) aNil)))) aNil)))))) turns) (sRet (cVar 1)))
def B_law_kind : SF := sRet (cCall 27 (aCons (cVar 0) (aCons (cCall 28 (aCons (cCall 26 (aCons (cVar 0) (aCons (c2 (binOwn S0 .Add addG) (cVar 1) (cCon (.int (1)))) aNil))) aNil)) aNil)))
def B_law_turned : SF := sRet (cB tupleG (aCons (cLc false [1] (iRng rng1 (aCons (cB (mxTG true maxG) (aCons (c2 (binOwn S0 .Add addG) (cTup (aCons (cCon (.int (0))) aNil)) (cVar 0)) aNil)) aNil)) (wName 1) (cCon (.bl true)) (cB (lenOwn S0) (aCons (cLc false [2] (iSrc itr0 (cVar 0)) (wName 2) (c2 (cmpOwn S0 "__gt__" (tupT .gt (cmpI fun i j => decide (j < i)))) (cVar 2) (cVar 1)) (cVar 2)) aNil))) aNil))
def B_law_does_hold : SF := sRet (cAnd (c2 (cmpOwn S0 "__le__" (tupT .le (cmpI fun i j => decide (i ≤ j)))) (cB (lenOwn S0) (aCons (cVar 1) aNil)) (cB (lenOwn S0) (aCons (cVar 0) aNil))) (c2 (eqIG S0 (cmpOwn S0 "__eq__" eqG)) (cLc false [2, 3] (iRng zipS (aCons (cVar 1) (aCons (cVar 0) aNil))) (wTup 2 (wsCons (wName 2) (wsCons (wName 3) wsNil))) (c2 (cmpOwn S0 "__gt__" (tupT .gt (cmpI fun i j => decide (j < i)))) (cVar 2) (cVar 3)) (cCon (.int (1)))) (cLst aNil)))
def B_law_does_top : SF := sRet (c2 (eqIG S0 (cmpOwn S0 "__eq__" eqG)) (cLc false [2] (iRng rng2 (aCons (cCon (.int (1))) (aCons (cCon (.int (13))) aNil))) (wName 2) (c2 (cmpOwn S0 "__lt__" (tupT .lt (cmpI fun i j => decide (i < j)))) (cB sumTG (aCons (cSlice none (some (cVar 2)) (cVar 0)) aNil)) (cB sumTG (aCons (cSlice none (some (cVar 2)) (cVar 1)) aNil))) (cVar 2)) (cLst aNil))
def B_law_put_together : SF := sRet (cB tupleG (aCons (cRev (cB sortedG (aCons (c2 (binOwn S0 .Add addG) (cB (listG itr0) (aCons (cVar 0) aNil)) (cB (listG itr0) (aCons (cVar 1) aNil))) aNil))) aNil))
def B_law_added_up : SF := sSeq (sSet 2 (cB (mxTG true maxG) (aCons (cB (lenOwn S0) (aCons (cVar 0) aNil)) (aCons (cB (lenOwn S0) (aCons (cVar 1) aNil)) aNil)))) (sSeq (sSet 3 (cLc false [4] (iSrc itr0 (cTup (aCons (cVar 0) (aCons (cVar 1) aNil)))) (wName 4) (cCon (.bl true)) (c2 (binOwn S0 .Add addG) (cB (listG itr0) (aCons (cVar 4) aNil)) (cLc false [5] (iRng rng1 (aCons (c2 (binOwn S0 .Sub subG) (cVar 2) (cB (lenOwn S0) (aCons (cVar 4) aNil))) aNil)) (wName 5) (cCon (.bl true)) (cCon (.int (0))))))) (sRet (cB tupleG (aCons (cLc false [6, 7] (iRng zipS (aCons (c2 (idxOwn S0) (cVar 3) (cCon (.int (0)))) (aCons (c2 (idxOwn S0) (cVar 3) (cCon (.int (1)))) aNil))) (wTup 2 (wsCons (wName 6) (wsCons (wName 7) wsNil))) (cCon (.bl true)) (c2 (binOwn S0 .Add addG) (cVar 6) (cVar 7))) aNil))))
def B_law_joined_right : SF := sSeq (sAsg (cTup (aCons (cMake 0 5 (aCons (cVar 0) aNil)) (aCons (cMake 0 5 (aCons (cVar 1) aNil)) (aCons (cLst (aCons (cCall 33 (aCons (cVar 0) (aCons (cVar 1) aNil))) (aCons (cCall 34 (aCons (cVar 0) (aCons (cVar 1) aNil))) aNil))) aNil)))) (gTup 3 (gsCons (gName 4) (gsCons (gName 5) (gsCons (gName 6) gsNil))))) (sSeq (sSet 2 (cLst (aCons (c2 (binOwn S0 .Add addG) (cVar 4) (cVar 5)) (aCons (cMeth att0 "over" (cVar 4) (aCons (cVar 5) aNil)) aNil)))) (sSeq (sIf (cOr (c2 (neIG S0 (neOwn S0 neG)) (cLc false [8] (iSrc itr0 (cVar 2)) (wName 8) (cCon (.bl true)) (cAtt att0 "numbers" (cVar 8))) (cVar 6)) (c2 (neIG S0 (neOwn S0 neG)) (cVar 2) (cLst (aCons (c2 (binOwn S0 .Add addG) (cVar 5) (cVar 4)) (aCons (cMeth att0 "over" (cVar 5) (aCons (cVar 4) aNil)) aNil))))) (sRet (cCon (.bl false))) sSkip) (sSeq (sIf (cOr (c2 (neIG S0 (neOwn S0 neG)) (cAtt att0 "turned" (c2 (idxOwn S0) (cVar 2) (cCon (.int (0))))) (cMeth att0 "over" (cAtt att0 "turned" (cVar 4)) (aCons (cAtt att0 "turned" (cVar 5)) aNil))) (c2 (neIG S0 (neOwn S0 neG)) (cAtt att0 "turned" (c2 (idxOwn S0) (cVar 2) (cCon (.int (1))))) (c2 (binOwn S0 .Add addG) (cAtt att0 "turned" (cVar 4)) (cAtt att0 "turned" (cVar 5))))) (sRet (cCon (.bl false))) sSkip) (sSeq (sIf (cOr (c2 (neIG S0 (neOwn S0 neG)) (cAtt att0 "slant" (c2 (idxOwn S0) (cVar 2) (cCon (.int (1))))) (c2 (binOwn S0 .Add addG) (cAtt att0 "slant" (cVar 4)) (cAtt att0 "slant" (cVar 5)))) (c2 (neIG S0 (neOwn S0 neG)) (cTup (aCons (c2 (binOwn S0 .Add addG) (cVar 4) (cMake 0 5 aNil)) (aCons (cMeth att0 "over" (cVar 4) (aCons (cMake 0 5 aNil) aNil)) aNil))) (cTup (aCons (cVar 4) (aCons (cVar 4) aNil))))) (sRet (cCon (.bl false))) sSkip) (sSeq (sSet 3 (cLc false [7] (iRng rng1 (aCons (cCon (.int (13))) aNil)) (wName 7) (cCon (.bl true)) (c2 (binOwn S0 .Mult mulG) (c2 (idxOwn S0) (cAtt att0 "turned" (cVar 4)) (cVar 7)) (c2 (idxOwn S0) (cAtt att0 "turned" (cVar 5)) (cVar 7))))) (sRet (c2 (eqIG S0 (cmpOwn S0 "__eq__" eqG)) (cAtt att0 "slant" (c2 (idxOwn S0) (cVar 2) (cCon (.int (0))))) (c2 (binOwn S0 .Add addG) (c2 (binOwn S0 .Add addG) (cAtt att0 "slant" (cVar 4)) (cAtt att0 "slant" (cVar 5))) (cB sumTG (aCons (cVar 3) aNil))))))))))
def B_law_is_one_right : SF := sSeq (sSet 1 (cMake 0 5 (aCons (cVar 0) aNil))) (sSeq (sSet 2 (cAtt att0 "turned" (cVar 1))) (sSeq (sIf (cOr (c2 (neIG S0 (neOwn S0 neG)) (cAtt att0 "numbers" (cVar 2)) (cCall 30 (aCons (cVar 0) aNil))) (cOr (c2 (neIG S0 (neOwn S0 neG)) (cAtt att0 "turned" (cVar 2)) (cVar 1)) (c2 (neIG S0 (neOwn S0 neG)) (cAtt att0 "size" (cVar 2)) (cAtt att0 "size" (cVar 1))))) (sRet (cCon (.bl false))) sSkip) (sRet (c2 (eqIG S0 (cmpOwn S0 "__eq__" eqG)) (cLst (aCons (cAtt att0 "rank" (cVar 2)) (aCons (cAtt att0 "height" (cVar 2)) (aCons (cAtt att0 "slant" (cVar 1)) aNil)))) (cLst (aCons (cAtt att0 "height" (cVar 1)) (aCons (cAtt att0 "rank" (cVar 1)) (aCons (cB sumTG (aCons (cLc false [3] (iSrc itr0 (cVar 2)) (wName 3) (cCon (.bl true)) (c2 (binOwn S0 .FloorDiv fdivG) (c2 (binOwn S0 .Mult mulG) (cVar 3) (c2 (binOwn S0 .Sub subG) (cVar 3) (cCon (.int (1))))) (cCon (.int (2))))) aNil)) aNil))))))))
def B_law_are_tops_right : SF := sSeq (sFor (iSrc itr0 (cCall 28 (aCons (cVar 0) aNil))) (gName 1) (sSeq (sFor (iSrc itr0 (cCall 28 (aCons (cVar 0) aNil))) (gName 2) (sSeq (sPar 4 5 (aCons (cMake 0 5 (aCons (cVar 1) aNil)) (aCons (cMake 0 5 (aCons (cVar 2) aNil)) aNil))) (sSeq (sSet 3 (cCall 32 (aCons (cVar 1) (aCons (cVar 2) aNil)))) (sSeq (sIf (cOr (c2 (neIG S0 (neOwn S0 neG)) (cMeth att0 "tops" (cVar 4) (aCons (cVar 5) aNil)) (cVar 3)) (c2 (neIG S0 (neOwn S0 neG)) (cMeth att0 "tops" (cAtt att0 "turned" (cVar 5)) (aCons (cAtt att0 "turned" (cVar 4)) aNil)) (cVar 3))) (sRet (cCon (.bl false))) sSkip) (sIf (cOr (cAnd (cTru S0 (cVar 3)) (cOr (c2 (cmpOwn S0 "__gt__" (tupT .gt (cmpI fun i j => decide (j < i)))) (cAtt att0 "slant" (cVar 4)) (cAtt att0 "slant" (cVar 5))) (c2 (cmpOwn S0 "__lt__" (tupT .lt (cmpI fun i j => decide (i < j)))) (cVar 5) (cVar 4)))) (c2 (neIG S0 (neOwn S0 neG)) (cMeth att0 "holds" (cVar 4) (aCons (cVar 5) aNil)) (c2 (eqIG S0 (cmpOwn S0 "__eq__" eqG)) (cVar 1) (cVar 2)))) (sRet (cCon (.bl false))) sSkip))))) (sFor (iSrc itr0 (cIf (c2 (cmpOwn S0 "__gt__" (tupT .gt (cmpI fun i j => decide (j < i)))) (cVar 0) (cCon (.int (0)))) (cCall 28 (aCons (c2 (binOwn S0 .Sub subG) (cVar 0) (cCon (.int (1)))) aNil)) (cLst aNil))) (gName 2) (sIf (cOr (c2 (neIG S0 (neOwn S0 neG)) (cMeth att0 "holds" (cMake 0 5 (aCons (cVar 1) aNil)) (aCons (cMake 0 5 (aCons (cVar 2) aNil)) aNil)) (cCall 31 (aCons (cVar 1) (aCons (cVar 2) aNil)))) (cTru S0 (cMeth att0 "holds" (cMake 0 5 (aCons (cVar 2) aNil)) (aCons (cMake 0 5 (aCons (cVar 1) aNil)) aNil)))) (sRet (cCon (.bl false))) sSkip)))) (sRet (cCon (.bl true)))
def B_law_right : SF := sSeq (sSet 1 (cCall 29 (aCons (cVar 0) (aCons (cCon (.int (12))) aNil)))) (sSeq (sPar 3 4 (aCons (cCall 29 (aCons (cVar 0) (aCons (c2 (binOwn S0 .Sub subG) (cCon (.int (12))) (cB sumTG (aCons (cVar 1) aNil))) aNil))) (aCons (cCall 29 (aCons (cVar 0) (aCons (cCon (.int (12))) aNil))) aNil))) (sSeq (sIf (cOr (cNot (cTru S0 (cCall 35 (aCons (cVar 1) (aCons (cVar 3) aNil))))) (cOr (cNot (cTru S0 (cCall 36 (aCons (cVar 1) aNil)))) (cNot (cTru S0 (cCall 36 (aCons (cVar 4) aNil)))))) (sRet (cCon (.bl false))) sSkip) (sSeq (sSet 2 (cLst (aCons (cMeth att0 "holds" (cMake 0 5 (aCons (cVar 1) aNil)) (aCons (cMake 0 5 (aCons (cVar 4) aNil)) aNil)) (aCons (cMeth att0 "holds" (cAtt att0 "turned" (cMake 0 5 (aCons (cVar 1) aNil))) (aCons (cAtt att0 "turned" (cMake 0 5 (aCons (cVar 4) aNil))) aNil)) aNil)))) (sRet (c2 (eqIG S0 (cmpOwn S0 "__eq__" eqG)) (cVar 2) (c2 (binOwn S0 .Mult mulG) (cLst (aCons (cCall 31 (aCons (cVar 1) (aCons (cVar 4) aNil))) aNil)) (cCon (.int (2)))))))))
def B_law_limit : SF := sTry 3 (fun c => T0.exm c (.own 3)) (sRet (c2 (binOwn S0 .Mult mulG) (cAtt att0 "size" (cIf (c2 (eqIG S0 (cmpOwn S0 "__eq__" eqG)) (cVar 2) (cCon (.int (0)))) (c2 (binOwn S0 .Add addG) (cVar 0) (cVar 1)) (cMeth att0 "over" (cVar 0) (aCons (cVar 1) aNil)))) (cCon (.int (0))))) (xFld T0 "limit")
def B_law : SF := sSeq (sFor (iRng rng1 (aCons (cB (mxTG true maxG) (aCons (cCon (.int (1))) (aCons (cB (mxTG false minG) (aCons (cCon (.int (3))) (aCons (cB (lenOwn S0) (aCons (cVar 0) aNil)) aNil))) aNil))) aNil)) (gName 1) (sSeq (sSet 3 (cCall 25 (aCons (cVar 0) (aCons (cVar 1) aNil)))) (sSeq (sFor (iRng rng1 (aCons (cCon (.int (4))) aNil)) (gName 4) (sIf (cNot (cTru S0 (cCall 38 (aCons (cVar 3) aNil)))) (sRet (cCon (.bl false))) sSkip)) (sIf (cNot (cTru S0 (cCall 37 (aCons (cCall 26 (aCons (cVar 3) (aCons (cCon (.int (8))) aNil))) aNil)))) (sRet (cCon (.bl false))) sSkip)))) (sSeq (sSet 2 (c2 (binOwn S0 .Add addG) (cLc false [5] (iRng rng1 (aCons (cCon (.int (2))) aNil)) (wName 5) (cCon (.bl true)) (cCall 39 (aCons (cMake 0 5 (aCons (cTup (aCons (cCon (.int (6))) (aCons (cCon (.int (2))) aNil))) aNil)) (aCons (cMake 0 5 (aCons (cTup (aCons (cCon (.int (3))) (aCons (cCon (.int (2))) aNil))) aNil)) (aCons (cVar 5) aNil))))) (cLc false [5] (iRng rng1 (aCons (cCon (.int (2))) aNil)) (wName 5) (cCon (.bl true)) (cCall 39 (aCons (cMake 0 5 (aCons (cTup (aCons (cCon (.int (6))) (aCons (cCon (.int (2))) aNil))) aNil)) (aCons (cMake 0 5 (aCons (cTup (aCons (cCon (.int (3))) (aCons (cCon (.int (1))) aNil))) aNil)) (aCons (cVar 5) aNil))))))) (sRet (c2 (eqIG S0 (cmpOwn S0 "__eq__" eqG)) (cVar 2) (cLst (aCons (cCon (.int (12))) (aCons (cCon (.int (12))) (aCons (cCon (.int (0))) (aCons (cCon (.int (0))) aNil))))))))
def fds0 : Nat → Option FD
  | 0 => some ⟨1, 1, [], false, B_is_whole⟩
  | 1 => some ⟨1, 1, [], false, B_is_integer⟩
  | 2 => some ⟨3, 3, [], false, B_is_from⟩
  | 3 => some ⟨1, 4, [], false, B_are_numbers⟩
  | 4 => some ⟨1, 3, [], false, B_turned_numbers⟩
  | 5 => some ⟨2, 3, [.tup []], false, B_Kind_init⟩
  | 6 => some ⟨1, 1, [], false, B_Kind_numbers⟩
  | 7 => some ⟨1, 1, [], false, B_Kind_size⟩
  | 8 => some ⟨1, 1, [], false, B_Kind_rank⟩
  | 9 => some ⟨1, 1, [], false, B_Kind_height⟩
  | 10 => some ⟨1, 3, [], false, B_Kind_slant⟩
  | 11 => some ⟨1, 1, [], false, B_Kind_turned⟩
  | 12 => some ⟨2, 4, [], false, B_Kind_holds⟩
  | 13 => some ⟨2, 5, [], false, B_Kind_tops⟩
  | 14 => some ⟨2, 4, [], false, B_Kind_over⟩
  | 15 => some ⟨2, 2, [], false, B_Kind_add⟩
  | 16 => some ⟨2, 2, [], false, B_Kind_getitem⟩
  | 17 => some ⟨1, 1, [], false, B_Kind_iter⟩
  | 18 => some ⟨1, 1, [], false, B_Kind_len⟩
  | 19 => some ⟨2, 2, [], false, B_Kind_eq⟩
  | 20 => some ⟨2, 2, [], false, B_Kind_lt⟩
  | 21 => some ⟨1, 1, [], false, B_Kind_str⟩
  | 22 => some ⟨1, 1, [], false, B_require_kind⟩
  | 23 => some ⟨1, 1, [], false, B_require_size⟩
  | 24 => some ⟨2, 2, [], false, B_number_at⟩
  | 25 => some ⟨2, 4, [], true, B_law_dice⟩
  | 26 => some ⟨2, 5, [], false, B_law_roll⟩
  | 27 => some ⟨2, 2, [], false, B_law_pick⟩
  | 28 => some ⟨1, 7, [], false, B_law_kinds⟩
  | 29 => some ⟨2, 2, [], false, B_law_kind⟩
  | 30 => some ⟨1, 3, [], false, B_law_turned⟩
  | 31 => some ⟨2, 4, [], false, B_law_does_hold⟩
  | 32 => some ⟨2, 3, [], false, B_law_does_top⟩
  | 33 => some ⟨2, 2, [], false, B_law_put_together⟩
  | 34 => some ⟨2, 8, [], false, B_law_added_up⟩
  | 35 => some ⟨2, 9, [], false, B_law_joined_right⟩
  | 36 => some ⟨1, 4, [], false, B_law_is_one_right⟩
  | 37 => some ⟨1, 6, [], false, B_law_are_tops_right⟩
  | 38 => some ⟨1, 5, [], false, B_law_right⟩
  | 39 => some ⟨3, 4, [], false, B_law_limit⟩
  | 40 => some ⟨1, 6, [], false, B_law⟩
  | _ => none
theorem fe0 (K : PySem.W.Frag) : td.fds (mkTx td K) 0 = fds0 0 := by kernel_rfl
theorem fe1 (K : PySem.W.Frag) : td.fds (mkTx td K) 1 = fds0 1 := by kernel_rfl
theorem fe2 (K : PySem.W.Frag) : td.fds (mkTx td K) 2 = fds0 2 := by kernel_rfl
theorem fe3 (K : PySem.W.Frag) : td.fds (mkTx td K) 3 = fds0 3 := by kernel_rfl
theorem fe4 (K : PySem.W.Frag) : td.fds (mkTx td K) 4 = fds0 4 := by kernel_rfl
theorem fe5 (K : PySem.W.Frag) : td.fds (mkTx td K) 5 = fds0 5 := by kernel_rfl
theorem fe6 (K : PySem.W.Frag) : td.fds (mkTx td K) 6 = fds0 6 := by kernel_rfl
theorem fe7 (K : PySem.W.Frag) : td.fds (mkTx td K) 7 = fds0 7 := by kernel_rfl
theorem fe8 (K : PySem.W.Frag) : td.fds (mkTx td K) 8 = fds0 8 := by kernel_rfl
theorem fe9 (K : PySem.W.Frag) : td.fds (mkTx td K) 9 = fds0 9 := by kernel_rfl
theorem fe10 (K : PySem.W.Frag) : td.fds (mkTx td K) 10 = fds0 10 := by kernel_rfl
theorem fe11 (K : PySem.W.Frag) : td.fds (mkTx td K) 11 = fds0 11 := by kernel_rfl
theorem fe12 (K : PySem.W.Frag) : td.fds (mkTx td K) 12 = fds0 12 := by kernel_rfl
theorem fe13 (K : PySem.W.Frag) : td.fds (mkTx td K) 13 = fds0 13 := by kernel_rfl
theorem fe14 (K : PySem.W.Frag) : td.fds (mkTx td K) 14 = fds0 14 := by kernel_rfl
theorem fe15 (K : PySem.W.Frag) : td.fds (mkTx td K) 15 = fds0 15 := by kernel_rfl
theorem fe16 (K : PySem.W.Frag) : td.fds (mkTx td K) 16 = fds0 16 := by kernel_rfl
theorem fe17 (K : PySem.W.Frag) : td.fds (mkTx td K) 17 = fds0 17 := by kernel_rfl
theorem fe18 (K : PySem.W.Frag) : td.fds (mkTx td K) 18 = fds0 18 := by kernel_rfl
theorem fe19 (K : PySem.W.Frag) : td.fds (mkTx td K) 19 = fds0 19 := by kernel_rfl
theorem fe20 (K : PySem.W.Frag) : td.fds (mkTx td K) 20 = fds0 20 := by kernel_rfl
theorem fe21 (K : PySem.W.Frag) : td.fds (mkTx td K) 21 = fds0 21 := by kernel_rfl
theorem fe22 (K : PySem.W.Frag) : td.fds (mkTx td K) 22 = fds0 22 := by kernel_rfl
theorem fe23 (K : PySem.W.Frag) : td.fds (mkTx td K) 23 = fds0 23 := by kernel_rfl
theorem fe24 (K : PySem.W.Frag) : td.fds (mkTx td K) 24 = fds0 24 := by kernel_rfl
theorem fe25 (K : PySem.W.Frag) : td.fds (mkTx td K) 25 = fds0 25 := by kernel_rfl
theorem fe26 (K : PySem.W.Frag) : td.fds (mkTx td K) 26 = fds0 26 := by kernel_rfl
theorem fe27 (K : PySem.W.Frag) : td.fds (mkTx td K) 27 = fds0 27 := by kernel_rfl
theorem fe28 (K : PySem.W.Frag) : td.fds (mkTx td K) 28 = fds0 28 := by kernel_rfl
theorem fe29 (K : PySem.W.Frag) : td.fds (mkTx td K) 29 = fds0 29 := by kernel_rfl
theorem fe30 (K : PySem.W.Frag) : td.fds (mkTx td K) 30 = fds0 30 := by kernel_rfl
theorem fe31 (K : PySem.W.Frag) : td.fds (mkTx td K) 31 = fds0 31 := by kernel_rfl
theorem fe32 (K : PySem.W.Frag) : td.fds (mkTx td K) 32 = fds0 32 := by kernel_rfl
theorem fe33 (K : PySem.W.Frag) : td.fds (mkTx td K) 33 = fds0 33 := by kernel_rfl
theorem fe34 (K : PySem.W.Frag) : td.fds (mkTx td K) 34 = fds0 34 := by kernel_rfl
theorem fe35 (K : PySem.W.Frag) : td.fds (mkTx td K) 35 = fds0 35 := by kernel_rfl
theorem fe36 (K : PySem.W.Frag) : td.fds (mkTx td K) 36 = fds0 36 := by kernel_rfl
theorem fe37 (K : PySem.W.Frag) : td.fds (mkTx td K) 37 = fds0 37 := by kernel_rfl
theorem fe38 (K : PySem.W.Frag) : td.fds (mkTx td K) 38 = fds0 38 := by kernel_rfl
theorem fe39 (K : PySem.W.Frag) : td.fds (mkTx td K) 39 = fds0 39 := by kernel_rfl
theorem fe40 (K : PySem.W.Frag) : td.fds (mkTx td K) 40 = fds0 40 := by kernel_rfl
theorem fds_eq (K : PySem.W.Frag) : td.fds (mkTx td K) = fds0 := funext fun k => match k with
  | 0 => fe0 K
  | 1 => fe1 K
  | 2 => fe2 K
  | 3 => fe3 K
  | 4 => fe4 K
  | 5 => fe5 K
  | 6 => fe6 K
  | 7 => fe7 K
  | 8 => fe8 K
  | 9 => fe9 K
  | 10 => fe10 K
  | 11 => fe11 K
  | 12 => fe12 K
  | 13 => fe13 K
  | 14 => fe14 K
  | 15 => fe15 K
  | 16 => fe16 K
  | 17 => fe17 K
  | 18 => fe18 K
  | 19 => fe19 K
  | 20 => fe20 K
  | 21 => fe21 K
  | 22 => fe22 K
  | 23 => fe23 K
  | 24 => fe24 K
  | 25 => fe25 K
  | 26 => fe26 K
  | 27 => fe27 K
  | 28 => fe28 K
  | 29 => fe29 K
  | 30 => fe30 K
  | 31 => fe31 K
  | 32 => fe32 K
  | 33 => fe33 K
  | 34 => fe34 K
  | 35 => fe35 K
  | 36 => fe36 K
  | 37 => fe37 K
  | 38 => fe38 K
  | 39 => fe39 K
  | 40 => fe40 K
  | n + 41 => rfl
end PyI.Law
namespace PyI.Law
open PySem PySem.Spec PyProof.Rows L2 PyI
abbrev L (n : Nat) : FTs := levs fds0 n
theorem run_d {k n : Nat} {fd : FD} {xs : List DV} {st st' ex : Store} {x : D} {env : DEnv} (h : fds0 k = some fd) (hn : (decide (xs.length ≤ fd.np) && decide (fd.np - xs.length ≤ fd.dfl.length)) = true)
    (e : fd.body (L n) ((xs ++ (fd.dfl.drop (fd.dfl.length - (fd.np - xs.length))).map DV.d).map some ++ List.replicate (fd.ns - fd.np) none) st = .ok (.rt (.d x)) env (st' ++ ex)) (hl : st'.length = st.length) : (L (n + 1)).a k xs st = .ok (.d x) st' := by
  show (match fds0 k with | some fd => callFD fd (levs fds0 n) xs st | none => .no) = _
  rw [h]
  show callFD fd (levs fds0 n) xs st = _
  unfold callFD
  rw [if_pos hn, e, end_d hl]
theorem run_d0 {k n : Nat} {fd : FD} {xs : List DV} {st : Store} {x : D} {env : DEnv} (h : fds0 k = some fd) (hn : (decide (xs.length ≤ fd.np) && decide (fd.np - xs.length ≤ fd.dfl.length)) = true)
    (e : fd.body (L n) ((xs ++ (fd.dfl.drop (fd.dfl.length - (fd.np - xs.length))).map DV.d).map some ++ List.replicate (fd.ns - fd.np) none) st = .ok (.rt (.d x)) env st) : (L (n + 1)).a k xs st = .ok (.d x) st :=
  run_d (ex := []) h hn (by rw [List.append_nil]; exact e) rfl
theorem run_n {k n : Nat} {fd : FD} {xs : List DV} {st st' : Store} {env : DEnv} (h : fds0 k = some fd) (hn : (decide (xs.length ≤ fd.np) && decide (fd.np - xs.length ≤ fd.dfl.length)) = true)
    (e : fd.body (L n) ((xs ++ (fd.dfl.drop (fd.dfl.length - (fd.np - xs.length))).map DV.d).map some ++ List.replicate (fd.ns - fd.np) none) st = .ok .nx env st') (hl : st'.length = st.length) : (L (n + 1)).a k xs st = .ok (.d .non) st' := by
  show (match fds0 k with | some fd => callFD fd (levs fds0 n) xs st | none => .no) = _
  rw [h]
  show callFD fd (levs fds0 n) xs st = _
  unfold callFD
  rw [if_pos hn, e, end_nx hl]
theorem run_x {k n c : Nat} {fd : FD} {xs : List DV} {st : Store} {x : Option D} {env : DEnv} (h : fds0 k = some fd) (hn : (decide (xs.length ≤ fd.np) && decide (fd.np - xs.length ≤ fd.dfl.length)) = true)
    (e : fd.body (L n) ((xs ++ (fd.dfl.drop (fd.dfl.length - (fd.np - xs.length))).map DV.d).map some ++ List.replicate (fd.ns - fd.np) none) st = .ex c x env st) : (L (n + 1)).a k xs st = .ex c x st := by
  show (match fds0 k with | some fd => callFD fd (levs fds0 n) xs st | none => .no) = _
  rw [h]
  show callFD fd (levs fds0 n) xs st = _
  unfold callFD
  rw [if_pos hn, e, end_ex rfl]
def fall (l : List Int) : Bool := (l.zip (l.drop 1)).all fun p => decide (p.2 ≤ p.1)
def okK (l : List Int) : Bool := decide (l.length ≤ 12) && (l.all (fun i => decide (1 ≤ i) && decide (i ≤ 12)) && (decide (l.sum ≤ 12) && fall l))
theorem okK_len {l : List Int} (h : okK l = true) : l.length ≤ 12 := by
  simp only [okK, Bool.and_eq_true, decide_eq_true_iff] at h; exact h.1
theorem okK_all {l : List Int} (h : okK l = true) : ∀ i ∈ l, 1 ≤ i ∧ i ≤ 12 := by
  simp only [okK, Bool.and_eq_true, decide_eq_true_iff, List.all_eq_true] at h; exact h.2.1
theorem okK_sum {l : List Int} (h : okK l = true) : l.sum ≤ 12 := by
  simp only [okK, Bool.and_eq_true, decide_eq_true_iff] at h; exact h.2.2.1
theorem okK_fall {l : List Int} (h : okK l = true) : fall l = true := by
  simp only [okK, Bool.and_eq_true, decide_eq_true_iff] at h; exact h.2.2.2
theorem okK_max {l : List Int} (h : okK l = true) : 0 ≤ maxI l ∧ maxI l ≤ 12 := by
  have key : ∀ (r : List Int) (i : Int), (0 ≤ i ∧ i ≤ 12) → (∀ x ∈ r, 1 ≤ x ∧ x ≤ 12) → 0 ≤ r.foldl max i ∧ r.foldl max i ≤ 12 := by
    intro r
    induction r with
    | nil => exact fun i hi _ => hi
    | cons a r ih =>
      intro i hi hr
      have := hr a List.mem_cons_self
      exact ih (max i a) (by omega) fun x hx => hr x (List.mem_cons_of_mem _ hx)
  have h2 := okK_all h
  cases l with
  | nil => exact ⟨by decide, by decide⟩
  | cons a r =>
    have := h2 a List.mem_cons_self
    exact key r a (by omega) fun x hx => h2 x (List.mem_cons_of_mem _ hx)
def strI (i : Int) : Str := (toString i : String)
def kText (l : List Int) : Str := ("[" : Str) ++ Txt.join " " (l.map strI) ++ ("]" : Str)
abbrev K (l : List Int) : D := .ins 0 [.tup [.int l.sum, T (l.map fun i => -i)], T l, .int l.sum, .str (kText l)]
section
variable {n : Nat} {st : Store} {F : FTs}
theorem s_whole_int {i : Int} : (L (n + 1)).a 0 [.d (.int i)] st = .ok (.d (.bl true)) st := run_d0 rfl rfl (env := [some (.d (.int i))]) (by kernel_rfl)
theorem s_from {i lo hi : Int} : (L (n + 2)).a 2 [.d (.int i), .d (.int lo), .d (.int hi)] st = .ok (.d (.bl (decide (lo ≤ i) && decide (i ≤ hi)))) st := by
  refine run_d0 rfl rfl (env := [some (.d (.int i)), some (.d (.int lo)), some (.d (.int hi))]) ?_
  show B_is_from (L (n + 1)) [some (.d (.int i)), some (.d (.int lo)), some (.d (.int hi))] st = _
  by_cases h : lo ≤ i
  · simp [B_is_from, s_whole_int, h]
  · simp [B_is_from, s_whole_int, h]
theorem isi_tup_tup {l : List D} : isiG isI0 isa0 F [.d (.tup l), .d (.ty "tuple")] st = .ok (.d (.bl true)) st := by kernel_rfl
theorem s_are {l : List Int} (h : okK l = true) : (L (n + 3)).a 3 [.d (T l)] st = .ok (.d (.bl true)) st := by
  have h1 := okK_len h
  have h2 := okK_all h
  have h3 := okK_sum h
  have h4 := okK_fall h
  refine run_d0 rfl rfl (env := [some (.d (T l)), none, none, none]) ?_
  show B_are_numbers (L (n + 2)) [some (.d (T l)), none, none, none] st = _
  have e : cLc false [3] (iSrc itr0 (cVar 0)) (wName 3) (cCon (.bl true)) (cCall 2 (aCons (cVar 3) (aCons (cCon (.int (1))) (aCons (cCon (.int (12))) aNil)))) (L (n + 2)) [some (.d (T l)), none, none, none] st = .ok (.d (.lst (l.map fun i => .bl (decide (1 ≤ i) && decide (i ≤ 12))))) st :=
    cLcM .int _ (by simp [srcX, srcOf]) (fun i hi => ⟨_, rfl, fun acc => by simp [wipeD, s_from]⟩) (by simp [line]; omega)
  have e' : l.all (fun i => decide (1 ≤ i) && decide (i ≤ 12)) = true := by
    simp only [List.all_eq_true, Bool.and_eq_true, decide_eq_true_iff]; exact h2
  have c1 : cutD (l.map D.int) (some 1) none = (l.drop 1).map D.int := by rw [cutD_from1, List.map_drop]
  have e2 : cLc false [1, 2] (iRng zipS (aCons (cVar 0) (aCons (cSlice (some (cCon (.int (1)))) none (cVar 0)) aNil))) (wTup 2 (wsCons (wName 1) (wsCons (wName 2) wsNil))) (cCon (.bl true)) (c2 (cmpOwn S0 "__ge__" (tupT .ge (cmpI fun i j => decide (j ≤ i)))) (cVar 1) (cVar 2)) (L (n + 2)) [some (.d (T l)), none, none, none] st = .ok (.d (.lst ((l.zip (l.drop 1)).map fun p => .bl (decide (p.2 ≤ p.1))))) st :=
    cLcM (fun p : Int × Int => .tup [.int p.1, .int p.2]) _ (by
      simp only [iRng_eq, aCons_eq, cVar_eq, cSlice_eq, sPart_some, sPart_none, cCon_eq, bind_ok, aNil_eq, sliceG, List.getElem?_cons_zero]
      simp only [R.d, bind_ok, zipS, datL, datT]
      rw [c1, zipP_map]) (fun p hp => ⟨[some (.d (T l)), some (.d (.int p.1)), some (.d (.int p.2)), none], rfl, fun acc => by simp⟩) (by simp [line]; omega)
  simp [B_are_numbers, isi_tup_tup, e, e2, all_bls, e', sum_tints, show ¬ (12 < l.sum) by omega, show ¬ ((12 : Int) < (l.length : Int)) by omega, -List.map_map, -List.all_map]
  simpa [fall] using h4
def turn (l : List Int) : List Int := (List.range (maxI l).toNat).map fun (at_ : Nat) => (((l.filter fun x => decide ((at_ : Int) < x)).length : Nat) : Int)
theorem s_turned_numbers {l : List Int} (h : l.length ≤ 12) (h0 : 0 ≤ maxI l) (h2 : maxI l ≤ 12) : (L (n + 1)).a 4 [.d (T l)] st = .ok (.d (T (turn l))) st := by
  refine run_d0 rfl rfl (env := [some (.d (T l)), none, none]) ?_
  show B_turned_numbers (L n) [some (.d (T l)), none, none] st = _
  have e : cLc false [1] (iRng rng1 (aCons (cMaxD true (cVar 0) (cCon (.int (0)))) aNil)) (wName 1) (cCon (.bl true)) (cB (lenOwn S0) (aCons (cLc false [2] (iSrc itr0 (cVar 0)) (wName 2) (c2 (cmpOwn S0 "__gt__" (tupT .gt (cmpI fun i j => decide (j < i)))) (cVar 2) (cVar 1)) (cVar 2)) aNil)) (L n) [some (.d (T l)), none, none] st = .ok (.d (.lst ((List.range (maxI l).toNat).map fun (a : Nat) => .int ((l.filter fun x => decide ((a : Int) < x)).length : Nat)))) st := by
    refine cLcM (fun a : Nat => .int a) _ ?_ (fun a ha => ⟨[some (.d (T l)), some (.d (.int a)), none], rfl, fun acc => ?_⟩) (by simp [line]; omega)
    · have : cMaxD true (cVar 0) (cCon (.int 0)) (L n) [some (.d (T l)), none, none] st = .ok (.d (.int (maxI l))) st := maxD_ints (by simp)
      have hs : smallI (maxI l) = true := by
        unfold smallI
        rw [Bool.and_eq_true, decide_eq_true_iff, decide_eq_true_iff]
        omega
      simp [this, rng1, hs, upTo0_map]
    · have : cLc false [2] (iSrc itr0 (cVar 0)) (wName 2) (c2 (cmpOwn S0 "__gt__" (tupT .gt (cmpI fun i j => decide (j < i)))) (cVar 2) (cVar 1)) (cVar 2) (L n) [some (.d (T l)), some (.d (.int a)), none] (st ++ [.lst acc]) = .ok (.d (.lst ((l.filter fun x => decide ((a : Int) < x)).map .int))) (st ++ [.lst acc]) :=
        cLcF .int _ _ (by simp [srcX, srcOf]) (fun i hi => ⟨_, rfl, fun acc => by simp [wipeD]⟩) (by simp [line]; omega)
      simp [this]
  simp [B_turned_numbers, e, turn, Function.comp_def]
theorem at_key {l : List Int} : attG att0 "own_key" F (.d (K l)) st = .ok (.d (.tup [.int l.sum, T (l.map fun i => -i)])) st := by kernel_rfl
theorem at_own {l : List Int} : attG att0 "own_numbers" F (.d (K l)) st = .ok (.d (T l)) st := by kernel_rfl
theorem at_own_size {l : List Int} : attG att0 "own_size" F (.d (K l)) st = .ok (.d (.int l.sum)) st := by kernel_rfl
theorem att_key : att0 0 "own_key" = some (.slot 0) := by kernel_rfl
theorem att_numbers : att0 0 "own_numbers" = some (.slot 1) := by kernel_rfl
theorem att_size : att0 0 "own_size" = some (.slot 2) := by kernel_rfl
theorem att_text : att0 0 "own_text" = some (.slot 3) := by kernel_rfl
theorem log_le {i : Int} (h : 0 ≤ i ∧ i ≤ 1000) : i.natAbs.log2 < 1920 := Nat.lt_trans (log2_lt (k := 20) (by omega) (by omega) (by decide)) (by decide)
theorem strI_len {i : Int} (h : 0 ≤ i ∧ i ≤ 1000) : (strI i).length ≤ 1921 := int_text_len_1921 (log_le h)
theorem lens {l : List Int} (h : ∀ i ∈ l, 1 ≤ i ∧ i ≤ 12) : ((l.map strI).map (·.length)).sum ≤ 1921 * l.length := by
  induction l with
  | nil => simp
  | cons a l ih =>
    have h1 := ih fun i hi => h i (List.mem_cons_of_mem _ hi)
    have h2 := strI_len (i := a) (by have := h a List.mem_cons_self; omega)
    simp only [List.map_cons, List.sum_cons, List.length_cons]
    omega
theorem mkK {l : List Int} {S : Store} (h : okK l = true) : (L (n + 4)).a 5 [.loc S.length, .d (T l)] (S ++ [.obj 0 []]) = .ok (.d .non) (S ++ [.obj 0 [some (.tup [.int l.sum, T (l.map fun i => -i)]), some (T l), some (.int l.sum), some (.str (kText l))]]) := by
  have h1 := okK_len h
  have h2 := okK_all h
  refine run_n rfl rfl (env := [some (.loc S.length), some (.d (T l)), none]) ?_ (by simp)
  have e1 := fun st => s_are (n := n) (st := st) h
  have e2 : ∀ st, cLc false [2] (iSrc itr0 (cVar 1)) (wName 2) (cCon (.bl true)) (cNeg (cVar 2)) (L (n + 3)) [some (.loc S.length), some (.d (T l)), none] st = .ok (.d (.lst (l.map fun i => .int (-i)))) st := fun st =>
    cLcM .int _ (by simp [srcX, srcOf]) (fun i hi => ⟨_, rfl, fun acc => by simp [wipeD]⟩) (by simp [line]; omega)
  have e3 : ∀ st, cLc false [2] (iSrc itr0 (cVar 1)) (wName 2) (cCon (.bl true)) (cB strG (aCons (cVar 2) aNil)) (L (n + 3)) [some (.loc S.length), some (.d (T l)), none] st = .ok (.d (.lst (l.map fun i => .str (strI i)))) st := fun st =>
    cLcM .int _ (by simp [srcX, srcOf]) (fun i hi => ⟨_, rfl, fun acc => by
      have := h2 i hi
      simp [wipeD, strG, log_le (i := i) (by omega), strI]⟩) (by simp [line]; omega)
  have e4 : ∀ st, joinG (L (n + 3)) (.d (.str " ")) [.d (.lst (l.map fun i => .str (strI i)))] st = .ok (.d (.str (Txt.join " " (l.map strI)))) st := fun st => by
    have := lens h2
    unfold joinG
    simp only [itemsOf, seqL, viewD]
    rw [strsOf_map]
    dsimp only
    rw [if_pos]
    have l1 : (Str.ofString " ").length = 1 := by decide
    rw [l1]
    simp only [List.length_map]
    omega
  have l1 : (Str.ofString " ").length = 1 := by decide
  have l2 : (Str.ofString "[").length = 1 := by decide
  have l3 : (Str.ofString "]").length = 1 := by decide
  have j : (Txt.join " " (l.map strI)).length ≤ 30000 := by
    show (Builtin.Str.glued (Str.ofString " ") (l.map strI)).length ≤ _
    rw [StrLaws.glued_eq_join]
    have h3 := StrLaws.join_length_le (Str.ofString " ") (l.map strI)
    have h4 := lens h2
    simp only [List.length_map, l1] at h3
    omega
  have b1 : (Str.ofString "[").length + (Txt.join " " (l.map strI)).length ≤ line := by unfold line; omega
  have b2 : (Str.ofString "[" ++ Txt.join " " (l.map strI)).length + (Str.ofString "]").length ≤ line := by
    rw [strLen_append]; unfold line; omega
  have n1 : ∀ {x y : Option D} {z : D} {S : Store}, attG att0 "own_size" (L (n + 3)) (.loc S.length) (S ++ [.obj 0 [x, y, some z]]) = .ok (.d z) (S ++ [.obj 0 [x, y, some z]]) := by
    intro x y z S
    have q : instV (S ++ [.obj 0 [x, y, some z]]) (.loc S.length) = some (0, [x, y, some z]) := by
      show (match (S ++ [SO.obj 0 [x, y, some z]])[S.length]? with | some (.obj c fs) => some (c, fs) | _ => none) = _
      rw [app_len]
    unfold attG
    rw [q]
    dsimp only
    rw [att_size]
    rfl
  have tu : ∀ st, tupleG (L (n + 3)) [.d (.lst (l.map fun i => .int (-i)))] st = .ok (.d (T (l.map fun i => -i))) st := fun st => by
    rw [tup_lst]
    simp [T, Function.comp_def]
  have ad1 : ∀ st, binOwn S0 .Add addG (L (n + 3)) (.d (.str "[")) (.d (.str (Txt.join " " (l.map strI)))) st = .ok (.d (.str (("[" : Str) ++ Txt.join " " (l.map strI)))) st := fun st => by
    rw [bin_no rfl rfl]
    exact if_pos b1
  have ad2 : ∀ st, binOwn S0 .Add addG (L (n + 3)) (.d (.str (("[" : Str) ++ Txt.join " " (l.map strI)))) (.d (.str "]")) st = .ok (.d (.str (kText l))) st := fun st => by
    rw [bin_no rfl rfl]
    exact if_pos b2
  have ty : ∀ st, tyB "str" st (.d (.str " ")) = true := fun st => by rfl
  simp [B_Kind_init, e1, e2, e3, e4, sum_tints, att_key, att_numbers, att_size, att_text, n1, tu, ad1, ad2, ty, plainD, line, putD]
theorem make_K {e : EF} {env : DEnv} {S : Store} {l : List Int} (he : e (L (n + 5)) env st = .ok (.d (T l)) S) (h : okK l = true) : cMake 0 5 (aCons e aNil) (L (n + 5)) env st = .ok (.d (K l)) S := by
  unfold cMake
  have := mkK (n := n) (S := S) h
  have hb : (L (n + 5)).b = (L (n + 4)).a := rfl
  simp [he, hb, this, settle, doneSl]
end
end PyI.Law
namespace PyI.Law
open PySem PySem.Spec PyProof.Rows L2 PyI
def slantI (l : List Int) : Int := (l.zipIdx.map fun p => (p.2 : Int) * p.1).sum
def holdsB (l m : List Int) : Bool := decide (m.length ≤ l.length) && (m.zip l).all fun p => decide (p.1 ≤ p.2)
def topsB (l m : List Int) : Bool := (List.range 11).all fun i => decide ((m.take (1 + i)).sum ≤ (l.take (1 + i)).sum)
def overI (l m : List Int) : List Int := (List.range (max l.length m.length)).map fun i => l.getD i 0 + m.getD i 0
def addI (l m : List Int) : List Int := (sortI (l ++ m)).reverse
section
variable {n : Nat} {st : Store} {F : FTs} {l m : List Int}
theorem s_numbers : (L (n + 1)).a 6 [.d (K l)] st = .ok (.d (T l)) st := run_d0 rfl rfl (env := [some (.d (K l))]) (by simp [B_Kind_numbers, at_own])
theorem s_size : (L (n + 1)).a 7 [.d (K l)] st = .ok (.d (.int l.sum)) st := run_d0 rfl rfl (env := [some (.d (K l))]) (by simp [B_Kind_size, at_own_size])
theorem s_rank : (L (n + 1)).a 8 [.d (K l)] st = .ok (.d (.int l.length)) st := run_d0 rfl rfl (env := [some (.d (K l))]) (by simp [B_Kind_rank, at_own])
theorem s_height : (L (n + 1)).a 9 [.d (K l)] st = .ok (.d (.int (maxI l))) st := by
  refine run_d0 rfl rfl (env := [some (.d (K l))]) ?_
  have : cMaxD true (cAtt att0 "own_numbers" (cVar 0)) (cCon (.int 0)) (L n) [some (.d (K l))] st = .ok (.d (.int (maxI l))) st := maxD_ints (by simp [at_own])
  simp [B_Kind_height, this]
theorem s_slant (h : okK l = true) : (L (n + 1)).a 10 [.d (K l)] st = .ok (.d (.int (slantI l))) st := by
  have h1 := okK_len h
  have h2 := okK_all h
  refine run_d0 rfl rfl (env := [some (.d (K l)), none, none]) ?_
  show B_Kind_slant (L n) [some (.d (K l)), none, none] st = _
  have e : cLc false [1, 2] (iRng enumS (aCons (cAtt att0 "own_numbers" (cVar 0)) aNil)) (wTup 2 (wsCons (wName 1) (wsCons (wName 2) wsNil))) (cCon (.bl true)) (c2 (binOwn S0 .Mult mulG) (cVar 1) (cVar 2)) (L n) [some (.d (K l)), none, none] st = .ok (.d (.lst (l.zipIdx.map fun p => .int ((p.2 : Int) * p.1)))) st := by
    refine cLcM (fun p : Int × Nat => .tup [.int p.2, .int p.1]) _ ?_ (fun p hp => ⟨[some (.d (K l)), some (.d (.int p.2)), some (.d (.int p.1))], rfl, fun acc => ?_⟩) (by simp [line]; omega)
    · simp only [iRng_eq, aCons_eq, cAtt_eq, cVar_eq, bind_ok, List.getElem?_cons_zero, at_own, aNil_eq, enumS, datL, datT, enumL_map]
    · obtain ⟨p1, p2⟩ := p
      have q1 := List.mem_zipIdx hp
      have q2 := h2 p1 (by rw [q1.2.2]; exact List.getElem_mem _)
      have m1 : mulI (p2 : Int) p1 = true := mulI_small (by omega) (by omega) (by omega) (by omega)
      simp [mulG, m1]
  have e2 : sumTG (L n) [.d (.lst (l.zipIdx.map fun p => .int ((p.2 : Int) * p.1)))] st = .ok (.d (.int (slantI l))) st := by
    have := sum_lints (F := L n) (st := st) (l := l.zipIdx.map fun p => (p.2 : Int) * p.1)
    rwa [List.map_map] at this
  simp [B_Kind_slant, e, e2]
theorem s_turned (h : okK l = true) (h' : okK (turn l) = true) : (L (n + 6)).a 11 [.d (K l)] st = .ok (.d (K (turn l))) st := by
  refine run_d0 rfl rfl (env := [some (.d (K l))]) ?_
  have h2 := okK_max h
  have e : cCall 4 (aCons (cAtt att0 "own_numbers" (cVar 0)) aNil) (L (n + 5)) [some (.d (K l))] st = .ok (.d (T (turn l))) st := by
    simp [at_own, s_turned_numbers (n := n + 4) (okK_len h) h2.1 h2.2]
  have e2 := make_K (n := n) e h'
  simp [B_Kind_turned, e2]
theorem at_numbers : attG att0 "numbers" (L (n + 2)) (.d (K l)) st = .ok (.d (T l)) st := by
  have : attG att0 "numbers" (L (n + 2)) (.d (K l)) st = noEx ((L (n + 1)).a 6 [.d (K l)] st) := by kernel_rfl
  rw [this, s_numbers, noEx_ok]
theorem at_size : attG att0 "size" (L (n + 2)) (.d (K l)) st = .ok (.d (.int l.sum)) st := by
  have : attG att0 "size" (L (n + 2)) (.d (K l)) st = noEx ((L (n + 1)).a 7 [.d (K l)] st) := by kernel_rfl
  rw [this, s_size, noEx_ok]
theorem at_rank : attG att0 "rank" (L (n + 2)) (.d (K l)) st = .ok (.d (.int l.length)) st := by
  have : attG att0 "rank" (L (n + 2)) (.d (K l)) st = noEx ((L (n + 1)).a 8 [.d (K l)] st) := by kernel_rfl
  rw [this, s_rank, noEx_ok]
theorem at_height : attG att0 "height" (L (n + 2)) (.d (K l)) st = .ok (.d (.int (maxI l))) st := by
  have : attG att0 "height" (L (n + 2)) (.d (K l)) st = noEx ((L (n + 1)).a 9 [.d (K l)] st) := by kernel_rfl
  rw [this, s_height, noEx_ok]
theorem at_slant (h : okK l = true) : attG att0 "slant" (L (n + 2)) (.d (K l)) st = .ok (.d (.int (slantI l))) st := by
  have : attG att0 "slant" (L (n + 2)) (.d (K l)) st = noEx ((L (n + 1)).a 10 [.d (K l)] st) := by kernel_rfl
  rw [this, s_slant h, noEx_ok]
theorem at_turned (h : okK l = true) (h' : okK (turn l) = true) : attG att0 "turned" (L (n + 7)) (.d (K l)) st = .ok (.d (K (turn l))) st := by
  have : attG att0 "turned" (L (n + 7)) (.d (K l)) st = noEx ((L (n + 6)).a 11 [.d (K l)] st) := by kernel_rfl
  rw [this, s_turned h h', noEx_ok]
theorem isi_K : isiG isI0 isa0 F [.d (K l), .d (.cls 0)] st = .ok (.d (.bl true)) st := by kernel_rfl
theorem s_require_kind : (L (n + 1)).a 22 [.d (K l)] st = .ok (.d .non) st := run_n rfl rfl (env := [some (.d (K l))]) (by simp [B_require_kind, isi_K]) rfl
theorem s_require_size {i : Int} (h : i ≤ 12) : (L (n + 1)).a 23 [.d (.int i)] st = .ok (.d .non) st := run_n rfl rfl (env := [some (.d (.int i))]) (by simp [B_require_size, show ¬ 12 < i by omega]) rfl
theorem s_require_size_x {i : Int} (h : 12 < i) : (L (n + 1)).a 23 [.d (.int i)] st = .ex 3 (some (.int 12)) st := run_x rfl rfl (env := [some (.d (.int i))]) (by simp [B_require_size, h])
theorem s_number_at {i : Nat} : (L (n + 1)).a 24 [.d (K l), .d (.int i)] st = .ok (.d (.int (l.getD i 0))) st := by
  refine run_d0 rfl rfl (env := [some (.d (K l)), some (.d (.int i))]) ?_
  by_cases c : i < l.length
  · have e : atI (l.map D.int) (i : Int) = some (.int (l.getD i 0)) := atI_ints (by rw [List.getD_eq_getElem?_getD, List.getElem?_eq_getElem c]; rfl)
    simp only [List.getD_eq_getElem?_getD] at e
    simp [B_number_at, at_own, c, e]
  · have e : l.getD i 0 = 0 := by
      rw [List.getD_eq_getElem?_getD, List.getElem?_eq_none (by omega)]; rfl
    simp only [List.getD_eq_getElem?_getD] at e
    simp [B_number_at, at_own, c, e]
theorem s_holds (h : okK m = true) : (L (n + 2)).a 12 [.d (K l), .d (K m)] st = .ok (.d (.bl (holdsB l m))) st := by
  have h1 := okK_len h
  refine run_d0 rfl rfl (env := [some (.d (K l)), some (.d (K m)), none, none]) ?_
  show B_Kind_holds (L (n + 1)) [some (.d (K l)), some (.d (K m)), none, none] st = _
  have e : cLc false [2, 3] (iRng zipS (aCons (cAtt att0 "own_numbers" (cVar 1)) (aCons (cAtt att0 "own_numbers" (cVar 0)) aNil))) (wTup 2 (wsCons (wName 2) (wsCons (wName 3) wsNil))) (cCon (.bl true)) (c2 (cmpOwn S0 "__le__" (tupT .le (cmpI fun i j => decide (i ≤ j)))) (cVar 2) (cVar 3)) (L (n + 1)) [some (.d (K l)), some (.d (K m)), none, none] st = .ok (.d (.lst ((m.zip l).map fun p => .bl (decide (p.1 ≤ p.2))))) st :=
    cLcM (fun p : Int × Int => .tup [.int p.1, .int p.2]) _ (by
      simp only [iRng_eq, aCons_eq, cAtt_eq, cVar_eq, bind_ok, aNil_eq, List.getElem?_cons_zero, List.getElem?_cons_succ, at_own, zipS, datL, datT, zipP_map]) (fun p hp => ⟨[some (.d (K l)), some (.d (K m)), some (.d (.int p.1)), some (.d (.int p.2))], rfl, fun acc => by simp⟩) (by simp [line]; omega)
  by_cases c : m.length ≤ l.length
  · simp [B_Kind_holds, s_require_kind, at_own, e, all_bls, holdsB, c, show ¬ l.length < m.length by omega, -List.all_map]
  · simp [B_Kind_holds, s_require_kind, at_own, holdsB, c, show l.length < m.length by omega]
theorem s_tops (h : m.sum = l.sum) : (L (n + 2)).a 13 [.d (K l), .d (K m)] st = .ok (.d (.bl (topsB l m))) st := by
  refine run_d0 rfl rfl (env := [some (.d (K l)), some (.d (K m)), some (.d (T l)), some (.d (T m)), none]) ?_
  show B_Kind_tops (L (n + 1)) [some (.d (K l)), some (.d (K m)), none, none, none] st = _
  have e : cLc false [4] (iRng rng2 (aCons (cCon (.int (1))) (aCons (cCon (.int (12))) aNil))) (wName 4) (cCon (.bl true)) (c2 (cmpOwn S0 "__ge__" (tupT .ge (cmpI fun i j => decide (j ≤ i)))) (cB sumTG (aCons (cSlice none (some (cVar 4)) (cVar 2)) aNil)) (cB sumTG (aCons (cSlice none (some (cVar 4)) (cVar 3)) aNil))) (L (n + 1)) [some (.d (K l)), some (.d (K m)), some (.d (T l)), some (.d (T m)), none] st = .ok (.d (.lst ((List.range 11).map fun i => .bl (decide ((m.take (1 + i)).sum ≤ (l.take (1 + i)).sum))))) st := by
    refine cLcM (fun i : Nat => .int (1 + i)) _ ?_ (fun i hi => ⟨[some (.d (K l)), some (.d (K m)), some (.d (T l)), some (.d (T m)), some (.d (.int ((1 + i : Nat) : Int)))], by simp [wName, wipeD], fun acc => ?_⟩) (by simp [line])
    · rw [← upTo_map]; rfl
    · have c1 : ∀ l : List Int, cutD (l.map D.int) none (some ((1 + i : Nat) : Int)) = (l.take (1 + i)).map D.int := fun l => by rw [cutD_to', List.map_take]
      have c3 := fun l : List Int => sum_tints (F := L (n + 1)) (st := st ++ [.lst acc]) (l := l.take (1 + i))
      simp only [c2_eq, cB_eq, aCons_eq, cSlice_eq, cVar_eq, sPart_none, sPart_some, bind_ok, aNil_eq, List.getElem?_cons_zero, List.getElem?_cons_succ, sliceG, c1]
      simp only [R.d, bind_ok, c3]
      simp
  have hs : neIG S0 (neOwn S0 neG) (L (n + 1)) (.d (.int m.sum)) (.d (.int l.sum)) st = .ok (.d (.bl false)) st := by simp [h]
  simp [B_Kind_tops, s_require_kind, at_own, at_own_size, hs, e, all_bls, topsB, plainD, line, gTup, gsCons, gsNil, -List.all_map]
end
end PyI.Law
namespace PyI.Law
open PySem PySem.Spec PyProof.Rows L2 PyI
section
variable {n : Nat} {st : Store} {F : FTs} {l m : List Int}
theorem b_a {n : Nat} : (L (n + 1)).b = (L n).a := rfl
theorem s_over (hl : l.length ≤ 12) (hm : m.length ≤ 12) (h : l.sum + m.sum ≤ 12) (hk : okK (overI l m) = true) : (L (n + 6)).a 14 [.d (K l), .d (K m)] st = .ok (.d (K (overI l m))) st := by
  refine run_d0 rfl rfl (env := [some (.d (K l)), some (.d (K m)), some (.d (.int (max l.length m.length : Nat))), none]) ?_
  show B_Kind_over (L (n + 5)) [some (.d (K l)), some (.d (K m)), none, none] st = _
  have hmx : ((max l.length m.length : Nat) : Int) = max (l.length : Int) (m.length : Int) := by omega
  have e : cLc false [3] (iRng rng1 (aCons (cVar 2) aNil)) (wName 3) (cCon (.bl true)) (c2 (binOwn S0 .Add addG) (cCall 24 (aCons (cVar 0) (aCons (cVar 3) aNil))) (cCall 24 (aCons (cVar 1) (aCons (cVar 3) aNil)))) (L (n + 5)) [some (.d (K l)), some (.d (K m)), some (.d (.int (max l.length m.length : Nat))), none] st = .ok (.d (.lst ((List.range (max l.length m.length)).map fun i => .int (l.getD i 0 + m.getD i 0)))) st := by
    refine cLcM (fun i : Nat => .int i) _ ?_ (fun i hi => ⟨_, rfl, fun acc => ?_⟩) (by simp [line]; omega)
    · have hs : smallI ((max l.length m.length : Nat) : Int) = true := by
        unfold smallI
        rw [Bool.and_eq_true, decide_eq_true_iff, decide_eq_true_iff]
        omega
      simp only [iRng_eq, aCons_eq, cVar_eq, bind_ok, aNil_eq, List.getElem?_cons_zero, List.getElem?_cons_succ, rng1, hs, if_true, Int.toNat_natCast, upTo0_map]
    · simp [wipeD, s_number_at]
  have e2 : cB tupleG (aCons (cLc false [3] (iRng rng1 (aCons (cVar 2) aNil)) (wName 3) (cCon (.bl true)) (c2 (binOwn S0 .Add addG) (cCall 24 (aCons (cVar 0) (aCons (cVar 3) aNil))) (cCall 24 (aCons (cVar 1) (aCons (cVar 3) aNil))))) aNil) (L (n + 5)) [some (.d (K l)), some (.d (K m)), some (.d (.int (max l.length m.length : Nat))), none] st = .ok (.d (T (overI l m))) st := by
    simp only [cB_eq, aCons_eq, e, bind_ok, aNil_eq, tup_lst, T, overI, List.map_map, Function.comp_def]
  have e3 := make_K (n := n) e2 hk
  simp only [B_Kind_over, sSeq_eq, sExpr_eq, cCall_eq, aCons_eq, cVar_eq, bind_ok, aNil_eq, List.getElem?_cons_zero, List.getElem?_cons_succ, s_require_kind, lift_ok, seq_nx, c2_eq, cAtt_eq, at_own_size, at_own, bin_int, add_int, s_require_size h, sSet_eq, cB_eq, len_tup, mxT_max, max_int, List.length_map, ← hmx, List.set_cons_succ, List.set_cons_zero, sRet_eq, e3]
theorem s_over_x (h : 12 < l.sum + m.sum) : (L (n + 2)).a 14 [.d (K l), .d (K m)] st = .ex 3 (some (.int 12)) st := by
  refine run_x rfl rfl (env := [some (.d (K l)), some (.d (K m)), none, none]) ?_
  show B_Kind_over (L (n + 1)) [some (.d (K l)), some (.d (K m)), none, none] st = _
  simp only [B_Kind_over, sSeq_eq, sExpr_eq, cCall_eq, aCons_eq, cVar_eq, bind_ok, aNil_eq, List.getElem?_cons_zero, List.getElem?_cons_succ, s_require_kind, lift_ok, seq_nx, c2_eq, cAtt_eq, at_own_size, bin_int, add_int, s_require_size_x h, lift_ex, seq_ex]
theorem plain_d : ∀ l : List D, plainD (l.map .d) = some l
  | [] => rfl
  | d :: l => by simp [plainD, plain_d l]
theorem s_add (hl : l.length ≤ 12) (hm : m.length ≤ 12) (h : l.sum + m.sum ≤ 12) (hk : okK (addI l m) = true) : (L (n + 6)).a 15 [.d (K l), .d (K m)] st = .ok (.d (K (addI l m))) st := by
  refine run_d0 rfl rfl (env := [some (.d (K l)), some (.d (K m))]) ?_
  show B_Kind_add (L (n + 5)) [some (.d (K l)), some (.d (K m))] st = _
  have e1 : cB sortedG (aCons (cLst (aStar (cAtt att0 "own_numbers" (cVar 0)) (aStar (cAtt att0 "own_numbers" (cVar 1)) aNil))) aNil) (L (n + 5)) [some (.d (K l)), some (.d (K m))] st = .ok (.d (.lst ((sortI (l ++ m)).map .int))) st := by
    have q : plainD ((l.map D.int).map DV.d ++ ((m.map D.int).map DV.d ++ [])) = some ((l ++ m).map .int) := by
      rw [List.append_nil, ← List.map_append, ← List.map_append, plain_d]
    have q2 : ((l ++ m).map D.int).length ≤ line := by simp [line]; omega
    simp only [cB_eq, aCons_eq, cLst_eq, aStar_eq, cAtt_eq, cVar_eq, bind_ok, aNil_eq, List.getElem?_cons_zero, List.getElem?_cons_succ, at_own, itemsOf, q, q2, if_true, R.d, sort_ints]
  have e2 := rev_lst e1
  have e3 : cB tupleG (aCons (cRev (cB sortedG (aCons (cLst (aStar (cAtt att0 "own_numbers" (cVar 0)) (aStar (cAtt att0 "own_numbers" (cVar 1)) aNil))) aNil))) aNil) (L (n + 5)) [some (.d (K l)), some (.d (K m))] st = .ok (.d (T (addI l m))) st := by
    simp only [cB_eq, aCons_eq, e2, bind_ok, aNil_eq, tup_lst, T, addI, List.map_reverse]
  have e4 := make_K (n := n) e3 hk
  simp [B_Kind_add, isi_K, at_own_size, s_require_size h, e4]
theorem s_add_x (h : 12 < l.sum + m.sum) : (L (n + 2)).a 15 [.d (K l), .d (K m)] st = .ex 3 (some (.int 12)) st := by
  refine run_x rfl rfl (env := [some (.d (K l)), some (.d (K m))]) ?_
  show B_Kind_add (L (n + 1)) [some (.d (K l)), some (.d (K m))] st = _
  simp [B_Kind_add, isi_K, at_own_size, s_require_size_x h]
theorem sp_eq : S0.spm 0 "__eq__" = some 19 := by kernel_rfl
theorem sp_lt : S0.spm 0 "__lt__" = some 20 := by kernel_rfl
theorem sp_get : S0.spm 0 "__getitem__" = some 16 := by kernel_rfl
theorem sp_add : S0.spm 0 "__add__" = some 15 := by kernel_rfl
theorem sfst_K : S0.sfst 0 = true := by kernel_rfl
theorem isI0_K : S0.isI 0 = true := by kernel_rfl
theorem fst_K : S0.fst 0 (.own 0) = true := by kernel_rfl
theorem ne_ok_K : (S0.fst 0 (.own 0) && S0.neO 0 && S0.isI 0) = true := by kernel_rfl
theorem neg_inj (h : (l.map fun i => -i) = m.map fun i => -i) : l = m := by
  have := congrArg (List.map fun i => -i) h
  simpa [List.map_map, Function.comp_def] using this
theorem s_eq : (L (n + 1)).a 19 [.d (K l), .d (K m)] st = .ok (.d (.bl (decide (l = m)))) st := by
  refine run_d0 rfl rfl (env := [some (.d (K l)), some (.d (K m))]) ?_
  have p : ∀ l : List Int, pyv st (.d (.tup [.int l.sum, T (l.map fun i => -i)])) = some (.tuple [.int l.sum, .tuple ((l.map fun i => -i).map .int)]) := fun l => by
    show (pyds 63 [D.int l.sum, T (l.map fun i => -i)]).map PyData.tuple = _
    simp only [pyds, pyd, T, pyds_ints, Option.map_some]
  have e : eqIG S0 (cmpOwn S0 "__eq__" eqG) (L n) (.d (.tup [.int l.sum, T (l.map fun i => -i)])) (.d (.tup [.int m.sum, T (m.map fun i => -i)])) st = .ok (.d (.bl (decide (l = m)))) st := by
    show cmpOwn S0 "__eq__" eqG (L n) (.d (.tup [.int l.sum, T (l.map fun i => -i)])) (.d (.tup [.int m.sum, T (m.map fun i => -i)])) st = _
    rw [cmp_tup]
    show (match pyv st (.d (.tup [.int l.sum, T (l.map fun i => -i)])), pyv st (.d (.tup [.int m.sum, T (m.map fun i => -i)])) with | some p, some q => R.d (.bl (PyData.eqv p q)) st | _, _ => .no) = _
    rw [p, p]
    show R.d (.bl (PyData.eqv _ _)) st = _
    simp only [PyData.eqv, PyData.eqvAll, eqv_ints]
    by_cases c : l = m
    · subst c; simp [R.d]
    · have : ¬ ((l.map fun i => -i) = m.map fun i => -i) := fun h => c (neg_inj h)
      simp [c, this, R.d]
  simp only [B_Kind_eq, sRet_eq, cAnd_eq, cB_eq, aCons_eq, cVar_eq, cCon_eq, bind_ok, aNil_eq, List.getElem?_cons_zero, List.getElem?_cons_succ, isi_K, c2_eq, cAtt_eq, at_key, e, lift_ok, List.map_cons, List.map_nil, List.cons_append, List.nil_append]
  rfl
theorem eq_K : eqIG S0 (cmpOwn S0 "__eq__" eqG) (L (n + 1)) (.d (K l)) (.d (K m)) st = .ok (.d (.bl (decide (l = m)))) st := by
  rw [eqIG_ins]
  exact cmp_ins sp_eq (tk_ins isI0_K) fst_K s_eq
theorem ne_K : neIG S0 (neOwn S0 neG) (L (n + 2)) (.d (K l)) (.d (K m)) st = .ok (.d (.bl (!decide (l = m)))) st := by
  rw [neIG_ins]
  exact ne_ins sp_eq (tk_ins isI0_K) ne_ok_K (by rw [b_a]; exact s_eq)
def ltK (l m : List Int) : Bool := if l.sum = m.sum then decide ((l.map fun i => -i) < m.map fun i => -i) else decide (l.sum < m.sum)
theorem s_lt : (L (n + 1)).a 20 [.d (K l), .d (K m)] st = .ok (.d (.bl (ltK l m))) st := by
  refine run_d0 rfl rfl (env := [some (.d (K l)), some (.d (K m))]) ?_
  have p : ∀ l : List Int, pyd 64 (.tup [.int l.sum, T (l.map fun i => -i)]) = some (.tuple [.int l.sum, .tuple ((l.map fun i => -i).map .int)]) := fun l => by
    show (pyds 63 [D.int l.sum, T (l.map fun i => -i)]).map PyData.tuple = _
    simp only [pyds, pyd, T, pyds_ints, Option.map_some]
  have al : ∀ l m : List Int, PySem.W.alikeAll (l.map PyData.int) (m.map PyData.int) = true := by
    intro l
    induction l with
    | nil => intro m; simp [PySem.W.alikeAll]
    | cons a l ih =>
      intro m
      cases m with
      | nil => simp [PySem.W.alikeAll]
      | cons b m => simp [PySem.W.alikeAll, PySem.W.alike, ih m]
  have al1 : PySem.W.alike (.int l.sum) (.int m.sum) = true := by simp [PySem.W.alike]
  have al2 : PySem.W.alike (.tuple ((l.map fun i => -i).map .int)) (.tuple ((m.map fun i => -i).map .int)) = true := by
    simp only [PySem.W.alike]; exact al _ _
  have al3 : PySem.W.alike (.tuple [.int l.sum, .tuple ((l.map fun i => -i).map .int)]) (.tuple [.int m.sum, .tuple ((m.map fun i => -i).map .int)]) = true := by
    have := al2
    simp only [PySem.W.alike, PySem.W.alikeAll, Bool.and_true, Bool.true_and] at this ⊢
    exact this
  have dl : PySem.W.dataLt (.tuple [.int l.sum, .tuple ((l.map fun i => -i).map .int)]) (.tuple [.int m.sum, .tuple ((m.map fun i => -i).map .int)]) = ltK l m := by
    rw [PySem.W.dataLt_pair al1 al2]
    have d2 : PySem.W.dataLt (.tuple ((l.map fun i => -i).map .int)) (.tuple ((m.map fun i => -i).map .int)) = decide ((l.map fun i => -i) < m.map fun i => -i) := by
      rw [PySem.W.dataLt_tuple]; exact PySem.W.dataLt_ints _ _
    rw [d2, PySem.W.dataLt_int]
    simp only [PyData.eqv, eqv_ints]
    unfold ltK
    by_cases c : l.sum = m.sum
    · by_cases d : (l.map fun i => -i) = m.map fun i => -i
      · simp [c, d]
      · simp [c, d]
    · simp [c]
  have e : cmpOwn S0 "__lt__" (tupT .lt (cmpI fun i j => decide (i < j))) (L n) (.d (.tup [.int l.sum, T (l.map fun i => -i)])) (.d (.tup [.int m.sum, T (m.map fun i => -i)])) st = .ok (.d (.bl (ltK l m))) st := by
    rw [cmp_tup]
    show (match pyd 64 (.tup [.int l.sum, T (l.map fun i => -i)]), pyd 64 (.tup [.int m.sum, T (m.map fun i => -i)]) with | some (.tuple p), some (.tuple q) => if PySem.W.alike (.tuple p) (.tuple q) = true then R.d (.bl (Od.q .lt (.tuple p) (.tuple q))) st else .no | _, _ => .no) = _
    rw [p, p]
    dsimp only
    rw [if_pos al3]
    show R.d (.bl (PySem.W.dataLt _ _)) st = _
    rw [dl]
  simp [B_Kind_lt, isi_K, at_key, e]
theorem lt_K : cmpOwn S0 "__lt__" (tupT .lt (cmpI fun i j => decide (i < j))) (L (n + 1)) (.d (K l)) (.d (K m)) st = .ok (.d (.bl (ltK l m))) st := cmp_ins sp_lt (tk_ins isI0_K) fst_K s_lt
theorem add_K (hl : l.length ≤ 12) (hm : m.length ≤ 12) (h : l.sum + m.sum ≤ 12) (hk : okK (addI l m) = true) : binOwn S0 .Add addG (L (n + 6)) (.d (K l)) (.d (K m)) st = .ok (.d (K (addI l m))) st := by
  have : binOwn S0 .Add addG (L (n + 6)) (.d (K l)) (.d (K m)) st = (L (n + 6)).a 15 [.d (K l), .d (K m)] st := by kernel_rfl
  rw [this, s_add hl hm h hk]
theorem add_K_x (h : 12 < l.sum + m.sum) : binOwn S0 .Add addG (L (n + 2)) (.d (K l)) (.d (K m)) st = .ex 3 (some (.int 12)) st := by
  have : binOwn S0 .Add addG (L (n + 2)) (.d (K l)) (.d (K m)) st = (L (n + 2)).a 15 [.d (K l), .d (K m)] st := by kernel_rfl
  rw [this, s_add_x h]
def BB : Int := 1000000000000000000000000000000000000000000000000000000000000
theorem s_int {i : Int} : (L (n + 2)).a 1 [.d (.int i)] st = .ok (.d (.bl (decide (-BB < i) && decide (i < BB)))) st := by
  refine run_d0 rfl rfl (env := [some (.d (.int i))]) ?_
  show B_is_integer (L (n + 1)) [some (.d (.int i))] st = _
  by_cases h : -BB < i
  · simp [B_is_integer, s_whole_int, BB] at h ⊢
    simp [h]
    try rfl
  · simp [B_is_integer, s_whole_int, BB] at h ⊢
    simp [show ¬ (-1000000000000000000000000000000000000000000000000000000000000 < i) by omega]
theorem s_get {i : Nat} (h1 : i < 1000) : (L (n + 3)).a 16 [.d (K l), .d (.int i)] st = .ok (.d (.int (l.getD i 0))) st := by
  refine run_d0 rfl rfl (env := [some (.d (K l)), some (.d (.int i))]) ?_
  have q1 : -BB < (i : Int) := by unfold BB; omega
  have q2 : (i : Int) < BB := by unfold BB; omega
  have e := s_number_at (n := n + 1) (st := st) (l := l) (i := i)
  simp only [List.getD_eq_getElem?_getD] at e
  simp [B_Kind_getitem, s_int, q1, q2, e, show ¬ (i : Int) < 0 by omega]
theorem idx_K {i : Nat} (h1 : i < 1000) : idxOwn S0 (L (n + 4)) (.d (K l)) (.d (.int i)) st = .ok (.d (.int (l.getD i 0))) st := idx_ins sp_get (by rw [b_a]; exact s_get h1)
theorem mkK0 {S : Store} : (L (n + 4)).a 5 [.loc S.length] (S ++ [.obj 0 []]) = .ok (.d .non) (S ++ [.obj 0 [some (.tup [.int 0, T []]), some (T []), some (.int 0), some (.str (kText []))]]) := by
  have h := mkK (n := n) (S := S) (l := []) (by decide)
  have : (L (n + 4)).a 5 [.loc S.length] (S ++ [.obj 0 []]) = (L (n + 4)).a 5 [.loc S.length, .d (T [])] (S ++ [.obj 0 []]) := by kernel_rfl
  rw [this, h]
  rfl
theorem make_K0 {env : DEnv} : cMake 0 5 aNil (L (n + 5)) env st = .ok (.d (K [])) st := by
  unfold cMake
  have := mkK0 (n := n) (S := st)
  have hb : (L (n + 5)).b = (L (n + 4)).a := rfl
  simp [hb, this, settle, doneSl]
theorem src_K : srcX itr0 st (.d (K l)) = some (.l (l.map .int)) := by kernel_rfl
theorem list_K : listG itr0 F [.d (K l)] st = .ok (.d (.lst (l.map .int))) st := by kernel_rfl
theorem insEq_K : insEq1 S0 (L (n + 2)) (K l) (K l) = true := by
  unfold insEq1
  dsimp only [K]
  rw [sp_eq]
  dsimp only
  rw [fst_K, isI0_K, b_a, s_eq]
  simp
theorem insEqs_K : ∀ ks : List (List Int), insEqs S0 (L (n + 2)) (ks.map K) (ks.map K) = true
  | [] => rfl
  | k :: ks => by
    simp only [List.map_cons, insEqs, insEq_K, insEqs_K ks, Bool.and_self]
end
end PyI.Law
namespace PyI.Law
open PySem PySem.Spec PyProof.Rows L2 PyI
def lastI (l : List Int) : Int := l.getLast?.getD 0
theorem atI_last {l : List Int} (h : l ≠ []) : atI (l.map D.int) (-1) = some (.int (lastI l)) := by
  have hl := List.length_pos_iff.mpr h
  have : atI (l.map D.int) (-1) = (l.map D.int)[l.length - 1]? := by
    simp only [atI, ixN, List.length_map]
    rw [if_neg (by decide), if_pos (by omega), Option.bind_some, show (-1 + (l.length : Int)).toNat = l.length - 1 by omega]
  rw [this, List.getElem?_map, ← List.getLast?_eq_getElem?]
  cases e : l.getLast? with
  | none => exact absurd (List.getLast?_eq_none_iff.mp e) h
  | some x => simp [lastI, e]
def mostK (k : List Int) (left : Int) : Int := if k = [] then left else min left (lastI k)
def itemsK (k : List Int) (left : Int) : List (List Int × Int) := (List.range (mostK k left).toNat).map fun (i : Nat) => (k ++ [1 + (i : Int)], left - (1 + (i : Int)))
def okStep (found : List (List Int)) (k : List Int) (left : Int) (rest : List (List Int × Int)) : Bool :=
  decide (found.length < 1000) && (decide (rest.length < 1000) && (decide (k.length < 100) && (decide (0 ≤ mostK k left) && decide (mostK k left ≤ 100))))
def kindsRun : Nat → List (List Int) → List (List Int × Int) → Option (List (List Int))
  | 0, _, _ => none
  | f + 1, found, [] => some found
  | f + 1, found, (k, left) :: rest => if okStep found k left rest = true then (if left = 0 then kindsRun f (found ++ [k]) rest else kindsRun f found ((itemsK k left).reverse ++ rest)) else none
def wD (w : List Int × Int) : D := .tup [T w.1, .int w.2]
section
variable {n : Nat} {st S : Store} {F : FTs} {A B : List D}
theorem pop_ok {env : DEnv} {x : D} (h : env[2]? = some (some (.loc (S.length + 1)))) : cBM "list" popG (cVar 2) aNil F env (S ++ [.lst A, .lst (B ++ [x])]) = .ok (.d x) (S ++ [.lst A, .lst B]) := by
  have hp : (S ++ [SO.lst A, .lst (B ++ [x])])[S.length + 1]? = some (SO.lst (B ++ [x])) := app_len1
  have ty : tyB "list" (S ++ [.lst A, .lst (B ++ [x])]) (.loc (S.length + 1)) = true := by
    simp [tyB, seqL, viewD, hp]
  have pp : popG F (.loc (S.length + 1)) [] (S ++ [.lst A, .lst (B ++ [x])]) = .ok (.d x) (S ++ [.lst A, .lst B]) := by
    unfold popG
    dsimp only
    rw [hp]
    dsimp only
    have g : (B ++ [x])[(B ++ [x]).length - 1]? = some x := by simp
    rw [g]
    dsimp only
    rw [app_lset1, List.dropLast_concat]
  simp only [cBM_eq, cVar_eq, h, bind_ok, ty, if_true, aNil_eq, pp, noEx_ok]
theorem append_ok {env : DEnv} {x : D} (h : env[1]? = some (some (.loc S.length))) (h3 : env[3]? = some (some (.d x))) (hl : A.length < line) : cBM "list" appendG (cVar 1) (aCons (cVar 3) aNil) F env (S ++ [.lst A, .lst B]) = .ok (.d .non) (S ++ [.lst (A ++ [x]), .lst B]) := by
  have hp : (S ++ [SO.lst A, .lst B])[S.length]? = some (SO.lst A) := app_len
  have ty : tyB "list" (S ++ [.lst A, .lst B]) (.loc S.length) = true := by
    simp [tyB, seqL, viewD, hp]
  have pp : appendG F (.loc S.length) [.d x] (S ++ [.lst A, .lst B]) = .ok (.d .non) (S ++ [.lst (A ++ [x]), .lst B]) := by
    unfold appendG
    dsimp only
    rw [hp]
    dsimp only
    rw [if_pos hl, app_lset]
  simp only [cBM_eq, cVar_eq, h, h3, bind_ok, ty, if_true, aNil_eq, aCons_eq, pp, noEx_ok]
theorem extend_ok {env : DEnv} {e : EF} {C : List D} (h : env[2]? = some (some (.loc (S.length + 1)))) (he : e F env (S ++ [.lst A, .lst B]) = .ok (.d (.lst C)) (S ++ [.lst A, .lst B])) (hl : B.length + C.length ≤ line) : cBM "list" extendG (cVar 2) (aCons e aNil) F env (S ++ [.lst A, .lst B]) = .ok (.d .non) (S ++ [.lst A, .lst (B ++ C)]) := by
  have hp : (S ++ [SO.lst A, .lst B])[S.length + 1]? = some (SO.lst B) := app_len1
  have ty : tyB "list" (S ++ [.lst A, .lst B]) (.loc (S.length + 1)) = true := by
    simp [tyB, seqL, viewD, hp]
  have pp : extendG F (.loc (S.length + 1)) [.d (.lst C)] (S ++ [.lst A, .lst B]) = .ok (.d .non) (S ++ [.lst A, .lst (B ++ C)]) := by
    unfold extendG
    dsimp only
    rw [hp]
    simp only [lstL, viewD]
    rw [if_pos hl, app_lset1]
  simp only [cBM_eq, cVar_eq, h, bind_ok, ty, if_true, aNil_eq, aCons_eq, he, pp, noEx_ok]
theorem pyds_wD : ∀ l : List (List Int × Int), pyds 63 (l.map wD) = some (l.map fun w => .tuple [.tuple (w.1.map .int), .int w.2])
  | [] => rfl
  | w :: l => by
    have : pyd 63 (wD w) = some (.tuple [.tuple (w.1.map .int), .int w.2]) := by
      show (pyds 62 [T w.1, .int w.2]).map PyData.tuple = _
      simp only [pyds, pyd, T, pyds_ints, Option.map_some]
    simp only [List.map_cons, pyds, this, pyds_wD l]
theorem ne_waits {l : List (List Int × Int)} {m : Nat} (h : S[m]? = some (.lst (l.map wD))) : neIG S0 (neOwn S0 neG) F (.loc m) (.d (.lst [])) S = .ok (.d (.bl (!decide (l = [])))) S := by
  rw [neIG_loc, ne_no (instC_loc h) rfl]
  have p : pyv S (.loc m) = some (.list (l.map fun w => .tuple [.tuple (w.1.map .int), .int w.2])) := by
    unfold pyv
    simp only [viewD, h, Option.bind_some]
    show (pyds 63 (l.map wD)).map PyData.list = _
    rw [pyds_wD]; rfl
  show (match pyv S (.loc m), pyv S (.d (.lst [])) with | some p, some q => R.d (.bl (!PyData.eqv p q)) S | _, _ => .no) = _
  rw [p]
  show R.d (.bl (!PyData.eqv _ (.list []))) S = _
  cases l <;> simp [PyData.eqv, PyData.eqvAll, R.d]
def kBody : SF := sSeq (sAsg (cBM "list" popG (cVar 2) aNil) (gTup 2 (gsCons (gName 3) (gsCons (gName 4) gsNil)))) (sIf (c2 (eqIG S0 (cmpOwn S0 "__eq__" eqG)) (cVar 4) (cCon (.int (0)))) (sExpr (cBM "list" appendG (cVar 1) (aCons (cVar 3) aNil))) (sSeq (sSet 5 (cIf (c2 (neIG S0 (neOwn S0 neG)) (cVar 3) (cTup aNil)) (cB (mxTG false minG) (aCons (cVar 4) (aCons (c2 (idxOwn S0) (cVar 3) (cNeg (cCon (.int (1))))) aNil))) (cVar 4))) (sExpr (cBM "list" extendG (cVar 2) (aCons (cLc false [6] (iRng rng2 (aCons (cCon (.int (1))) (aCons (c2 (binOwn S0 .Add addG) (cVar 5) (cCon (.int (1)))) aNil))) (wName 6) (cCon (.bl true)) (cTup (aCons (c2 (binOwn S0 .Add addG) (cVar 3) (cTup (aCons (cVar 6) aNil))) (aCons (c2 (binOwn S0 .Sub subG) (cVar 4) (cVar 6)) aNil)))) aNil)))))
theorem okStep_of {found : List (List Int)} {k : List Int} {left : Int} {rest : List (List Int × Int)} (h : okStep found k left rest = true) : found.length < 1000 ∧ rest.length < 1000 ∧ k.length < 100 ∧ 0 ≤ mostK k left ∧ mostK k left ≤ 100 := by
  simpa only [okStep, Bool.and_eq_true, decide_eq_true_iff] using h
theorem kStep {found : List (List Int)} {k : List Int} {left : Int} {rest : List (List Int × Int)} {x0 e3 e4 e5 e6 : Option DV} (h : okStep found k left rest = true) :
    ∃ e5' , kBody F [x0, some (.loc S.length), some (.loc (S.length + 1)), e3, e4, e5, e6] (S ++ [.lst (found.map T), .lst (((k, left) :: rest).reverse.map wD)]) =
      .ok .nx [x0, some (.loc S.length), some (.loc (S.length + 1)), some (.d (T k)), some (.d (.int left)), e5', e6] (S ++ [.lst ((if left = 0 then found ++ [k] else found).map T), .lst ((if left = 0 then rest else (itemsK k left).reverse ++ rest).reverse.map wD)]) := by
  obtain ⟨h1, h2, h3, h4, h5⟩ := okStep_of h
  have r1 : ((k, left) :: rest).reverse.map wD = rest.reverse.map wD ++ [wD (k, left)] := by simp
  rw [r1]
  by_cases z : left = 0
  · refine ⟨e5, ?_⟩
    have a := append_ok (F := F) (S := S) (A := found.map T) (B := rest.reverse.map wD) (x := T k) (env := [x0, some (.loc S.length), some (.loc (S.length + 1)), some (.d (T k)), some (.d (.int left)), e5, e6]) rfl rfl (by simp [line]; omega)
    simp only [kBody, sSeq_eq, sAsg_eq]
    rw [pop_ok rfl]
    simp only [lift_ok, wD, gTup, gsCons, gsNil, List.length_cons, List.length_nil, if_true, gName_eq, seq_nx, only_nx, List.set_cons_succ, List.set_cons_zero, sIf_eq, c2_eq, cVar_eq, cCon_eq, List.getElem?_cons_succ, List.getElem?_cons_zero, bind_ok, eqIG_int, cmp_int, eq_int', z, decide_true, sExpr_eq]
    rw [z] at a
    rw [a]
    simp
  · refine ⟨some (.d (.int (mostK k left))), ?_⟩
    have hm : (cIf (c2 (neIG S0 (neOwn S0 neG)) (cVar 3) (cTup aNil)) (cB (mxTG false minG) (aCons (cVar 4) (aCons (c2 (idxOwn S0) (cVar 3) (cNeg (cCon (.int (1))))) aNil))) (cVar 4)) F [x0, some (.loc S.length), some (.loc (S.length + 1)), some (.d (T k)), some (.d (.int left)), e5, e6] (S ++ [.lst (found.map T), .lst (rest.reverse.map wD)]) = .ok (.d (.int (mostK k left))) (S ++ [.lst (found.map T), .lst (rest.reverse.map wD)]) := by
      have q : neIG S0 (neOwn S0 neG) F (.d (T k)) (.d (.tup [])) (S ++ [.lst (found.map T), .lst (rest.reverse.map wD)]) = .ok (.d (.bl (!decide (k = [])))) (S ++ [.lst (found.map T), .lst (rest.reverse.map wD)]) := tne (m := [])
      by_cases c : k = []
      · subst c
        rw [show (!decide (([] : List Int) = [])) = false from rfl] at q
        simp only [cIf_eq, c2_eq, cVar_eq, cTup_eq, aNil_eq, bind_ok, plainD, List.length_nil, Nat.zero_le, if_true, List.getElem?_cons_succ, List.getElem?_cons_zero, R.d, q, mostK]
      · simp only [c, decide_false, Bool.not_false] at q
        simp only [cIf_eq, c2_eq, cVar_eq, cTup_eq, aNil_eq, bind_ok, plainD, List.length_nil, Nat.zero_le, if_true, List.getElem?_cons_succ, List.getElem?_cons_zero, R.d, q, mostK, c, if_false, cB_eq, aCons_eq, cNeg_eq, cCon_eq, idx_tup, atI_last c, mxT_min, min_int]
    have hc : cLc false [6] (iRng rng2 (aCons (cCon (.int (1))) (aCons (c2 (binOwn S0 .Add addG) (cVar 5) (cCon (.int (1)))) aNil))) (wName 6) (cCon (.bl true)) (cTup (aCons (c2 (binOwn S0 .Add addG) (cVar 3) (cTup (aCons (cVar 6) aNil))) (aCons (c2 (binOwn S0 .Sub subG) (cVar 4) (cVar 6)) aNil))) F [x0, some (.loc S.length), some (.loc (S.length + 1)), some (.d (T k)), some (.d (.int left)), some (.d (.int (mostK k left))), e6] (S ++ [.lst (found.map T), .lst (rest.reverse.map wD)]) = .ok (.d (.lst ((itemsK k left).map wD))) (S ++ [.lst (found.map T), .lst (rest.reverse.map wD)]) := by
      have := cLcM (F := F) (vs := [6]) (src := iRng rng2 (aCons (cCon (.int (1))) (aCons (c2 (binOwn S0 .Add addG) (cVar 5) (cCon (.int (1)))) aNil))) (g := wName 6) (fe := cTup (aCons (c2 (binOwn S0 .Add addG) (cVar 3) (cTup (aCons (cVar 6) aNil))) (aCons (c2 (binOwn S0 .Sub subG) (cVar 4) (cVar 6)) aNil))) (env := [x0, some (.loc S.length), some (.loc (S.length + 1)), some (.d (T k)), some (.d (.int left)), some (.d (.int (mostK k left))), e6]) (st := S ++ [.lst (found.map T), .lst (rest.reverse.map wD)]) (l := List.range (mostK k left).toNat) (fun i : Nat => .int (1 + (i : Int))) (fun i : Nat => wD (k ++ [1 + (i : Int)], left - (1 + (i : Int)))) ?_ ?_ ?_
      · rw [this]
        simp only [itemsK, List.map_map, Function.comp_def]
      · have s1 : (smallI 1 && smallI (mostK k left + 1)) = true := by
          unfold smallI
          simp only [Bool.and_eq_true, decide_eq_true_iff]
          omega
        simp only [iRng_eq, aCons_eq, cCon_eq, c2_eq, cVar_eq, bind_ok, aNil_eq, List.getElem?_cons_succ, List.getElem?_cons_zero, bin_int, add_int, rng2, s1, if_true, show (mostK k left + 1 - 1).toNat = (mostK k left).toNat by omega, upTo_map]
      · intro i hi
        refine ⟨_, rfl, fun acc => ?_⟩
        have q : k.length + 1 ≤ line := by unfold line; omega
        simp [wipeD, plainD, line, addG, wD, R.d, T, show k.length ≤ 16777215 by omega]
      · simp [line]; omega
    have a := extend_ok (F := F) (S := S) (A := found.map T) (B := rest.reverse.map wD) (C := (itemsK k left).map wD) (env := [x0, some (.loc S.length), some (.loc (S.length + 1)), some (.d (T k)), some (.d (.int left)), some (.d (.int (mostK k left))), e6]) rfl hc (by simp [line, itemsK]; omega)
    simp only [kBody, sSeq_eq, sAsg_eq]
    rw [pop_ok rfl]
    simp only [lift_ok, wD, gTup, gsCons, gsNil, List.length_cons, List.length_nil, if_true, gName_eq, seq_nx, only_nx, List.set_cons_succ, List.set_cons_zero, sIf_eq, c2_eq, cVar_eq, cCon_eq, List.getElem?_cons_succ, List.getElem?_cons_zero, bind_ok, eqIG_int, cmp_int, eq_int', z, decide_false, sExpr_eq, sSet_eq]
    simp only [sSeq_eq, sSet_eq, hm, lift_ok, seq_nx, List.set_cons_succ, List.set_cons_zero, sExpr_eq, a]
    simp
theorem kLoop {x0 : Option DV} : ∀ (f : Nat) (found : List (List Int)) (ws : List (List Int × Int)) (res : List (List Int)), kindsRun f found ws = some res → ∀ (g : Nat) (e3 e4 e5 e6 : Option DV), f ≤ g →
    ∃ env', sWhile (c2 (neIG S0 (neOwn S0 neG)) (cVar 2) (cLst aNil)) kBody g F [x0, some (.loc S.length), some (.loc (S.length + 1)), e3, e4, e5, e6] (S ++ [.lst (found.map T), .lst (ws.reverse.map wD)]) = .ok .nx env' (S ++ [.lst (res.map T), .lst []]) ∧ env'[1]? = some (some (.loc S.length))
  | 0, _, _, _, h, _, _, _, _, _, _ => by simp [kindsRun] at h
  | f + 1, found, [], res, h, g, e3, e4, e5, e6, hg => by
    obtain ⟨g, rfl⟩ : ∃ g', g = g' + 1 := ⟨g - 1, by omega⟩
    simp only [kindsRun, Option.some.injEq] at h
    subst h
    have hp : (S ++ [SO.lst (found.map T), .lst (([] : List (List Int × Int)).reverse.map wD)])[S.length + 1]? = some (SO.lst (([] : List (List Int × Int)).map wD)) := app_len1
    have e := ne_waits (F := F) hp
    rw [show (!decide (([] : List (List Int × Int)) = [])) = false from rfl] at e
    refine ⟨[x0, some (.loc S.length), some (.loc (S.length + 1)), e3, e4, e5, e6], ?_, rfl⟩
    simp only [sWhile, c2_eq, cVar_eq, cLst_eq, aNil_eq, plainD, bind_ok, lift_ok, List.getElem?_cons_succ, List.getElem?_cons_zero, List.length_nil, Nat.zero_le, if_true, R.d, e]
    simp
  | f + 1, found, (k, left) :: rest, res, h, g, e3, e4, e5, e6, hg => by
    obtain ⟨g, rfl⟩ : ∃ g', g = g' + 1 := ⟨g - 1, by omega⟩
    simp only [kindsRun] at h
    split at h
    · rename_i hk
      have h' : kindsRun f (if left = 0 then found ++ [k] else found) (if left = 0 then rest else (itemsK k left).reverse ++ rest) = some res := by
        by_cases z : left = 0
        · simpa only [z, if_true] using h
        · simpa only [z, if_false] using h
      obtain ⟨e5', st1⟩ := kStep (F := F) (S := S) (x0 := x0) (e3 := e3) (e4 := e4) (e5 := e5) (e6 := e6) hk
      obtain ⟨env', st2, st3⟩ := kLoop (x0 := x0) f _ _ res h' g (some (.d (T k))) (some (.d (.int left))) e5' e6 (by omega)
      refine ⟨env', ?_, st3⟩
      have hp : (S ++ [SO.lst (found.map T), .lst (((k, left) :: rest).reverse.map wD)])[S.length + 1]? = some (SO.lst ((((k, left) :: rest).reverse).map wD)) := app_len1
      have e := ne_waits (F := F) hp
      rw [show (!decide (((k, left) :: rest).reverse = [])) = true by simp] at e
      simp only [sWhile, c2_eq, cVar_eq, cLst_eq, aNil_eq, plainD, bind_ok, lift_ok, List.getElem?_cons_succ, List.getElem?_cons_zero, List.length_nil, Nat.zero_le, if_true, R.d, e, st1, loop_nx, st2]
    · cases h
def kinds (size : Int) : List (List Int) := (kindsRun 2000 [] [([], size)]).getD []
theorem s_kinds {size : Int} {res : List (List Int)} (h : kindsRun 2000 [] [([], size)] = some res) : (L (n + 1)).a 28 [.d (.int size)] st = .ok (.d (.lst (res.map T))) st := by
  obtain ⟨env', e1, e2⟩ := kLoop (F := L n) (S := st) (x0 := some (.d (.int size))) 2000 [] [([], size)] res h turns none none none none (by unfold turns; omega)
  show (match fds0 28 with | some fd => callFD fd (levs fds0 n) [.d (.int size)] st | none => .no) = _
  show endFD false st.length (B_law_kinds (L n) [some (.d (.int size)), none, none, none, none, none, none] st) = _
  have : B_law_kinds (L n) [some (.d (.int size)), none, none, none, none, none, none] st = .ok (.rt (.loc st.length)) env' (st ++ [.lst (res.map T), .lst []]) := by
    have w : wD ([], size) = .tup [.tup [], .int size] := rfl
    simp only [List.map_nil, List.reverse_cons, List.reverse_nil, List.nil_append, List.map_cons, w] at e1
    unfold B_law_kinds
    show sSeq _ (sSeq (sWhile _ kBody turns) _) _ _ _ = _
    simp only [sSeq_eq, sPar_eq, aCons_eq, cThw_eq, lDisp_eq, aNil_eq, bind_ok, plainD, List.length_nil, Nat.zero_le, if_true, cTup_eq, cVar_eq, List.getElem?_cons_zero, R.d, List.length_cons, show 0 + 1 + 1 ≤ line by decide, show 0 + 1 ≤ line by decide, lift_ok, seq_nx, List.set_cons_succ, List.set_cons_zero, List.append_assoc, List.cons_append, List.nil_append, List.length_append, Option.map_some]
    rw [e1]
    simp only [seq_nx, sRet_eq, cVar_eq, e2, lift_ok]
  rw [this]
  unfold endFD
  simp
end
end PyI.Law
namespace PyI.Law
open PySem PySem.Spec PyProof.Rows L2 PyI
def turnL (l : List Int) : List Int := (List.range (maxI (0 :: l)).toNat).map fun (at_ : Nat) => (((l.filter fun x => decide ((at_ : Int) < x)).length : Nat) : Int)
def holdI (l m : List Int) : Bool := decide (m.length ≤ l.length) && decide ((m.zip l).filter (fun p => decide (p.2 < p.1)) = [])
def topI (l m : List Int) : Bool := decide ((List.range 12).filter (fun i => decide ((l.take (1 + i)).sum < (m.take (1 + i)).sum)) = [])
def padI (w : Nat) (r : List Int) : List Int := r ++ (List.range (w - r.length)).map fun _ => 0
def addedI (l m : List Int) : List Int := ((padI (max l.length m.length) l).zip (padI (max l.length m.length) m)).map fun p => p.1 + p.2
theorem okK_max0 {l : List Int} (h : okK l = true) : 0 ≤ maxI (0 :: l) ∧ maxI (0 :: l) ≤ 12 := by
  have key : ∀ (r : List Int) (i : Int), (0 ≤ i ∧ i ≤ 12) → (∀ x ∈ r, 1 ≤ x ∧ x ≤ 12) → 0 ≤ r.foldl max i ∧ r.foldl max i ≤ 12 := by
    intro r
    induction r with
    | nil => exact fun i hi _ => hi
    | cons a r ih =>
      intro i hi hr
      have := hr a List.mem_cons_self
      exact ih (max i a) (by omega) fun x hx => hr x (List.mem_cons_of_mem _ hx)
  exact key l 0 (by omega) (okK_all h)
section
variable {n : Nat} {st : Store} {F : FTs} {l m : List Int}
theorem s_law_turned (h : okK l = true) : (L (n + 1)).a 30 [.d (T l)] st = .ok (.d (T (turnL l))) st := by
  have h1 := okK_len h
  have h2 := okK_max0 h
  refine run_d0 rfl rfl (env := [some (.d (T l)), none, none]) ?_
  show B_law_turned (L n) [some (.d (T l)), none, none] st = _
  have e : cLc false [1] (iRng rng1 (aCons (cB (mxTG true maxG) (aCons (c2 (binOwn S0 .Add addG) (cTup (aCons (cCon (.int (0))) aNil)) (cVar 0)) aNil)) aNil)) (wName 1) (cCon (.bl true)) (cB (lenOwn S0) (aCons (cLc false [2] (iSrc itr0 (cVar 0)) (wName 2) (c2 (cmpOwn S0 "__gt__" (tupT .gt (cmpI fun i j => decide (j < i)))) (cVar 2) (cVar 1)) (cVar 2)) aNil)) (L n) [some (.d (T l)), none, none] st = .ok (.d (.lst ((List.range (maxI (0 :: l)).toNat).map fun (a : Nat) => .int ((l.filter fun x => decide ((a : Int) < x)).length : Nat)))) st := by
    refine cLcM (fun a : Nat => .int a) _ ?_ (fun a ha => ⟨[some (.d (T l)), some (.d (.int a)), none], rfl, fun acc => ?_⟩) (by simp [line]; omega)
    · have hs : smallI (maxI (0 :: l)) = true := by
        unfold smallI
        rw [Bool.and_eq_true, decide_eq_true_iff, decide_eq_true_iff]
        omega
      have mx : mxTG true maxG (L n) [.d (T (0 :: l))] st = .ok (.d (.int (maxI (0 :: l)))) st := by
        show (match intsOf ((0 :: l).map .int) with | some (i :: r) => R.d (.int (if true = true then r.foldl max i else r.foldl min i)) st | _ => .no) = _
        rw [intsOf_map]
        rfl
      have ad : binOwn S0 .Add addG (L n) (.d (.tup [.int 0])) (.d (T l)) st = .ok (.d (T (0 :: l))) st := by
        rw [bin_tup]
        exact if_pos (by simp [line]; omega)
      simp only [iRng_eq, aCons_eq, cB_eq, c2_eq, cTup_eq, cCon_eq, cVar_eq, bind_ok, aNil_eq, plainD, Option.map_some, List.length_cons, List.length_nil, show 0 + 1 ≤ line by decide, if_true, R.d, List.getElem?_cons_zero, ad, mx, rng1, hs, upTo0_map]
    · have : cLc false [2] (iSrc itr0 (cVar 0)) (wName 2) (c2 (cmpOwn S0 "__gt__" (tupT .gt (cmpI fun i j => decide (j < i)))) (cVar 2) (cVar 1)) (cVar 2) (L n) [some (.d (T l)), some (.d (.int a)), none] (st ++ [.lst acc]) = .ok (.d (.lst ((l.filter fun x => decide ((a : Int) < x)).map .int))) (st ++ [.lst acc]) :=
        cLcF .int _ _ (by simp [srcX, srcOf]) (fun i hi => ⟨_, rfl, fun acc => by simp [wipeD]⟩) (by simp [line]; omega)
      simp [this]
  simp [B_law_turned, e, turnL, Function.comp_def]
theorem s_does_hold (hm : m.length ≤ 12) : (L (n + 1)).a 31 [.d (T l), .d (T m)] st = .ok (.d (.bl (holdI l m))) st := by
  refine run_d0 rfl rfl (env := [some (.d (T l)), some (.d (T m)), none, none]) ?_
  show B_law_does_hold (L n) [some (.d (T l)), some (.d (T m)), none, none] st = _
  have e : cLc false [2, 3] (iRng zipS (aCons (cVar 1) (aCons (cVar 0) aNil))) (wTup 2 (wsCons (wName 2) (wsCons (wName 3) wsNil))) (c2 (cmpOwn S0 "__gt__" (tupT .gt (cmpI fun i j => decide (j < i)))) (cVar 2) (cVar 3)) (cCon (.int (1))) (L n) [some (.d (T l)), some (.d (T m)), none, none] st = .ok (.d (.lst (((m.zip l).filter fun p => decide (p.2 < p.1)).map fun _ => .int 1))) st :=
    cLcF (fun p : Int × Int => .tup [.int p.1, .int p.2]) _ _ (by
      simp only [iRng_eq, aCons_eq, cVar_eq, bind_ok, aNil_eq, List.getElem?_cons_zero, List.getElem?_cons_succ, zipS, datL, datT, zipP_map]) (fun p hp => ⟨[some (.d (T l)), some (.d (T m)), some (.d (.int p.1)), some (.d (.int p.2))], rfl, fun acc => by simp⟩) (by simp [line]; omega)
  have e2 : eqIG S0 (cmpOwn S0 "__eq__" eqG) (L n) (.d (.lst (((m.zip l).filter fun p => decide (p.2 < p.1)).map fun _ => .int 1))) (.d (.lst [])) st = .ok (.d (.bl (decide ((m.zip l).filter (fun p => decide (p.2 < p.1)) = [])))) st := by
    have := leq (s := S0) (F := L n) (st := st) (l := ((m.zip l).filter fun p => decide (p.2 < p.1)).map fun _ => (1 : Int)) (m := [])
    rw [List.map_map] at this
    rw [show (D.lst []) = .lst (([] : List Int).map .int) from rfl]
    refine Eq.trans this ?_
    simp only [List.map_eq_nil_iff]
  by_cases c : m.length ≤ l.length
  · simp only [B_law_does_hold, sRet_eq, cAnd_eq, c2_eq, cB_eq, aCons_eq, cVar_eq, bind_ok, aNil_eq, List.getElem?_cons_zero, List.getElem?_cons_succ, len_tup, List.length_map, cmp_int, tupT_int, cmpI_int, show ((m.length : Int) ≤ (l.length : Int)) by omega, decide_true, e, cLst_eq, plainD, List.length_nil, Nat.zero_le, if_true, R.d, e2, lift_ok, holdI, c, Bool.true_and]
  · simp only [B_law_does_hold, sRet_eq, cAnd_eq, c2_eq, cB_eq, aCons_eq, cVar_eq, bind_ok, aNil_eq, List.getElem?_cons_zero, List.getElem?_cons_succ, len_tup, List.length_map, cmp_int, tupT_int, cmpI_int, show ¬ ((m.length : Int) ≤ (l.length : Int)) by omega, decide_false, R.d, lift_ok, holdI, c, Bool.false_and]
theorem s_does_top : (L (n + 1)).a 32 [.d (T l), .d (T m)] st = .ok (.d (.bl (topI l m))) st := by
  refine run_d0 rfl rfl (env := [some (.d (T l)), some (.d (T m)), none]) ?_
  show B_law_does_top (L n) [some (.d (T l)), some (.d (T m)), none] st = _
  have e : cLc false [2] (iRng rng2 (aCons (cCon (.int (1))) (aCons (cCon (.int (13))) aNil))) (wName 2) (c2 (cmpOwn S0 "__lt__" (tupT .lt (cmpI fun i j => decide (i < j)))) (cB sumTG (aCons (cSlice none (some (cVar 2)) (cVar 0)) aNil)) (cB sumTG (aCons (cSlice none (some (cVar 2)) (cVar 1)) aNil))) (cVar 2) (L n) [some (.d (T l)), some (.d (T m)), none] st = .ok (.d (.lst (((List.range 12).filter fun i => decide ((l.take (1 + i)).sum < (m.take (1 + i)).sum)).map fun i => .int ((1 + i : Nat) : Int)))) st := by
    refine cLcF (fun i : Nat => .int (1 + i)) _ _ ?_ (fun i hi => ⟨[some (.d (T l)), some (.d (T m)), some (.d (.int ((1 + i : Nat) : Int)))], by simp [wName, wipeD], fun acc => ⟨?_, fun _ => ?_⟩⟩) (by simp [line])
    · rw [← upTo_map]; rfl
    · have c1 : ∀ l : List Int, cutD (l.map D.int) none (some ((1 + i : Nat) : Int)) = (l.take (1 + i)).map D.int := fun l => by rw [cutD_to', List.map_take]
      have c3 := fun l : List Int => sum_tints (F := L n) (st := st ++ [.lst acc]) (l := l.take (1 + i))
      simp only [c2_eq, cB_eq, aCons_eq, cSlice_eq, cVar_eq, sPart_none, sPart_some, bind_ok, aNil_eq, List.getElem?_cons_zero, List.getElem?_cons_succ, sliceG, c1, R.d, c3]
      simp
    · simp
  have e2 : eqIG S0 (cmpOwn S0 "__eq__" eqG) (L n) (.d (.lst (((List.range 12).filter fun i => decide ((l.take (1 + i)).sum < (m.take (1 + i)).sum)).map fun i => .int ((1 + i : Nat) : Int)))) (.d (.lst [])) st = .ok (.d (.bl (topI l m))) st := by
    have := leq (s := S0) (F := L n) (st := st) (l := ((List.range 12).filter fun i => decide ((l.take (1 + i)).sum < (m.take (1 + i)).sum)).map fun i => ((1 + i : Nat) : Int)) (m := [])
    rw [List.map_map] at this
    rw [show (D.lst []) = .lst (([] : List Int).map .int) from rfl]
    refine Eq.trans this ?_
    simp only [List.map_eq_nil_iff, topI]
  simp only [B_law_does_top, sRet_eq, c2_eq, bind_ok, e, cLst_eq, aNil_eq, plainD, List.length_nil, Nat.zero_le, if_true, R.d, e2, lift_ok]
theorem list_tup {l : List D} : listG itr0 F [.d (.tup l)] st = .ok (.d (.lst l)) st := by kernel_rfl
theorem s_put_together (hl : l.length ≤ 12) (hm : m.length ≤ 12) : (L (n + 1)).a 33 [.d (T l), .d (T m)] st = .ok (.d (T (addI l m))) st := by
  refine run_d0 rfl rfl (env := [some (.d (T l)), some (.d (T m))]) ?_
  show B_law_put_together (L n) [some (.d (T l)), some (.d (T m))] st = _
  have ad : binOwn S0 .Add addG (L n) (.d (.lst (l.map .int))) (.d (.lst (m.map .int))) st = .ok (.d (.lst ((l ++ m).map .int))) st := by
    rw [bin_no rfl rfl, List.map_append]
    show (if (l.map D.int).length + (m.map D.int).length ≤ line then R.d (.lst (l.map .int ++ m.map .int)) st else .no) = _
    rw [if_pos (by simp [line]; omega)]
  have e1 : cB sortedG (aCons (c2 (binOwn S0 .Add addG) (cB (listG itr0) (aCons (cVar 0) aNil)) (cB (listG itr0) (aCons (cVar 1) aNil))) aNil) (L n) [some (.d (T l)), some (.d (T m))] st = .ok (.d (.lst ((sortI (l ++ m)).map .int))) st := by
    simp only [cB_eq, aCons_eq, c2_eq, cVar_eq, bind_ok, aNil_eq, List.getElem?_cons_zero, List.getElem?_cons_succ, list_tup, ad, sort_ints]
  have e2 := rev_lst e1
  simp only [B_law_put_together, sRet_eq, cB_eq, aCons_eq, bind_ok, aNil_eq] at e2 ⊢
  simp only [cB_eq, aCons_eq, bind_ok, aNil_eq, e2, tup_lst, lift_ok, addI, List.map_reverse, T]
theorem s_added_up (hl : l.length ≤ 12) (hm : m.length ≤ 12) : (L (n + 1)).a 34 [.d (T l), .d (T m)] st = .ok (.d (T (addedI l m))) st := by
  let w := max l.length m.length
  refine run_d0 rfl rfl (env := [some (.d (T l)), some (.d (T m)), some (.d (.int (w : Nat))), some (.d (.lst [.lst ((padI w l).map .int), .lst ((padI w m).map .int)])), none, none, none, none]) ?_
  show B_law_added_up (L n) [some (.d (T l)), some (.d (T m)), none, none, none, none, none, none] st = _
  have hw : w ≤ 12 := by show max l.length m.length ≤ 12; omega
  have hmx : max (l.length : Int) (m.length : Int) = (w : Int) := by show _ = ((max l.length m.length : Nat) : Int); omega
  have e1 : cLc false [4] (iSrc itr0 (cTup (aCons (cVar 0) (aCons (cVar 1) aNil)))) (wName 4) (cCon (.bl true)) (c2 (binOwn S0 .Add addG) (cB (listG itr0) (aCons (cVar 4) aNil)) (cLc false [5] (iRng rng1 (aCons (c2 (binOwn S0 .Sub subG) (cVar 2) (cB (lenOwn S0) (aCons (cVar 4) aNil))) aNil)) (wName 5) (cCon (.bl true)) (cCon (.int (0))))) (L n) [some (.d (T l)), some (.d (T m)), some (.d (.int (w : Nat))), none, none, none, none, none] st = .ok (.d (.lst ([l, m].map fun r => .lst ((padI w r).map .int)))) st := by
    refine cLcM T _ ?_ (fun r hr => ⟨[some (.d (T l)), some (.d (T m)), some (.d (.int (w : Nat))), none, some (.d (T r)), none, none, none], rfl, fun acc => ?_⟩) (by simp [line])
    · simp [srcX, srcOf, plainD, line, R.d]
    · have hr' : r.length ≤ w := by
        simp only [List.mem_cons, List.not_mem_nil, or_false] at hr
        rcases hr with rfl | rfl
        · exact Nat.le_max_left _ _
        · exact Nat.le_max_right _ _
      have e : cLc false [5] (iRng rng1 (aCons (c2 (binOwn S0 .Sub subG) (cVar 2) (cB (lenOwn S0) (aCons (cVar 4) aNil))) aNil)) (wName 5) (cCon (.bl true)) (cCon (.int (0))) (L n) [some (.d (T l)), some (.d (T m)), some (.d (.int (w : Nat))), none, some (.d (T r)), none, none, none] (st ++ [.lst acc]) = .ok (.d (.lst ((List.range (w - r.length)).map fun _ => .int 0))) (st ++ [.lst acc]) := by
        refine cLcM (fun a : Nat => .int a) _ ?_ (fun a ha => ⟨_, rfl, fun acc => rfl⟩) (by simp [line]; omega)
        have hs : smallI ((w : Int) - (r.length : Int)) = true := by
          unfold smallI
          rw [Bool.and_eq_true, decide_eq_true_iff, decide_eq_true_iff]
          omega
        simp only [iRng_eq, aCons_eq, c2_eq, cB_eq, cVar_eq, bind_ok, aNil_eq, List.getElem?_cons_zero, List.getElem?_cons_succ, len_tup, List.length_map, bin_int, sub_int, rng1, hs, if_true, show ((w : Int) - (r.length : Int)).toNat = w - r.length by omega, upTo0_map]
      have ad : binOwn S0 .Add addG (L n) (.d (.lst (r.map .int))) (.d (.lst ((List.range (w - r.length)).map fun _ => .int 0))) (st ++ [.lst acc]) = .ok (.d (.lst ((padI w r).map .int))) (st ++ [.lst acc]) := by
        rw [bin_no rfl rfl]
        show (if (r.map D.int).length + ((List.range (w - r.length)).map fun _ => D.int 0).length ≤ line then R.d (.lst (r.map .int ++ (List.range (w - r.length)).map fun _ => .int 0)) (st ++ [.lst acc]) else .no) = _
        rw [if_pos (by simp [line]; omega)]
        simp [padI, R.d]
      simp only [c2_eq, cB_eq, aCons_eq, cVar_eq, bind_ok, aNil_eq, List.getElem?_cons_zero, List.getElem?_cons_succ, list_tup, e, ad]
  have e2 : cLc false [6, 7] (iRng zipS (aCons (c2 (idxOwn S0) (cVar 3) (cCon (.int (0)))) (aCons (c2 (idxOwn S0) (cVar 3) (cCon (.int (1)))) aNil))) (wTup 2 (wsCons (wName 6) (wsCons (wName 7) wsNil))) (cCon (.bl true)) (c2 (binOwn S0 .Add addG) (cVar 6) (cVar 7)) (L n) [some (.d (T l)), some (.d (T m)), some (.d (.int (w : Nat))), some (.d (.lst [.lst ((padI w l).map .int), .lst ((padI w m).map .int)])), none, none, none, none] st = .ok (.d (.lst (((padI w l).zip (padI w m)).map fun p => .int (p.1 + p.2)))) st := by
    have a0 : ∀ x y : D, atI [x, y] 0 = some x := fun _ _ => rfl
    have a1 : ∀ x y : D, atI [x, y] 1 = some y := fun _ _ => rfl
    exact cLcM (fun p : Int × Int => .tup [.int p.1, .int p.2]) _ (by
      simp only [iRng_eq, aCons_eq, c2_eq, cVar_eq, cCon_eq, bind_ok, aNil_eq, List.getElem?_cons_zero, List.getElem?_cons_succ, idx_lst, a0, a1, R.d, zipS, datL, datT, zipP_map]) (fun p hp => ⟨[some (.d (T l)), some (.d (T m)), some (.d (.int (w : Nat))), some (.d (.lst [.lst ((padI w l).map .int), .lst ((padI w m).map .int)])), none, none, some (.d (.int p.1)), some (.d (.int p.2))], rfl, fun acc => by simp⟩) (by simp [line, padI]; omega)
  simp only [B_law_added_up, sSeq_eq, sSet_eq, cB_eq, aCons_eq, cVar_eq, bind_ok, aNil_eq, List.getElem?_cons_zero, List.getElem?_cons_succ, len_tup, List.length_map, mxT_max, max_int, hmx, lift_ok, seq_nx, List.set_cons_succ, List.set_cons_zero, e1, List.map_cons, List.map_nil, sRet_eq, e2, tup_lst]
  simp only [T, addedI, List.map_map, Function.comp_def]
  rfl
end
end PyI.Law
namespace PyI.Law
open PySem PySem.Spec PyProof.Rows L2 PyI
def kindChk (r : Nat) (l : List Int) : Bool := okK l && (decide (l.sum = r) && okK (turn l))
def kindsOk : Bool := (List.range 13).all fun r => (kindsRun 2000 [] [([], (r : Int))]).isSome && (!(kinds r).isEmpty && (decide ((kinds r).length < 1000) && (kinds r).all (kindChk r)))
theorem kindsOk_true : kindsOk = true := by decide +kernel
def rowsI (l m : List Int) : Int := ((List.range 13).map fun i => (turn l).getD i 0 * (turn m).getD i 0).sum
def joinChk (l m : List Int) : Bool :=
  okK (addI l m) && (okK (overI l m) && (okK (turn (addI l m)) && (okK (turn (overI l m)) && (decide (addedI l m = overI l m) && (decide (addI l m = addI m l) && (decide (overI l m = overI m l) &&
  (decide (turn (addI l m) = overI (turn l) (turn m)) && (decide (turn (overI l m) = addI (turn l) (turn m)) && (decide ((turn l).sum + (turn m).sum ≤ 12) && (decide (slantI (overI l m) = slantI l + slantI m) &&
  decide (slantI (addI l m) = slantI l + slantI m + rowsI l m)))))))))))
def joinsOk (a b : Nat) : Bool := (kinds a).all fun l => (kinds b).all fun m => joinChk l m

end PyI.Law
namespace PyI.Law
open PySem PySem.Spec PyProof.Rows L2 PyI
theorem rollL (n : Nat) : RollAt (L (n + 1)).a 26 := roll_at (s := S0) rfl n
theorem pickL (n : Nat) : PickAt (L (n + 2)).a 27 := pick_at (s := S0) (sr := S0) rfl rfl n
theorem diceL (n : Nat) : DiceAt (L (n + 1)).a 25 := dice_at (s := S0) rfl n
theorem kinds_row {r : Nat} (h : r ≤ 12) : (kindsRun 2000 [] [([], (r : Int))]).isSome = true ∧ (kinds r).isEmpty = false ∧ (kinds r).length < 1000 ∧ (kinds r).all (kindChk r) = true := by
  have := List.all_eq_true.mp kindsOk_true r (List.mem_range.mpr (by omega))
  simpa only [Bool.and_eq_true, decide_eq_true_iff, Bool.not_eq_true'] using this
theorem kinds_run {r : Nat} (h : r ≤ 12) : kindsRun 2000 [] [([], (r : Int))] = some (kinds r) := by
  obtain ⟨x, hx⟩ := Option.isSome_iff_exists.mp (kinds_row h).1
  unfold kinds
  rw [hx]
  rfl
theorem kind_chk {r : Nat} (h : r ≤ 12) {l : List Int} (hl : l ∈ kinds r) : okK l = true ∧ l.sum = r ∧ okK (turn l) = true := by
  have := List.all_eq_true.mp (kinds_row h).2.2.2 l hl
  simpa only [kindChk, Bool.and_eq_true, decide_eq_true_iff] using this
section
variable {n : Nat}
theorem kinds_ok {r : Nat} {st : Store} (h : r ≤ 12) : (L (n + 1)).a 28 [.d (.int r)] st = .ok (.d (.lst ((kinds r).map T))) st := s_kinds (kinds_run h)
theorem kind_ok {p m most : Nat} {S Z : Store} (hm : most ≤ 12) (hS : Dst p S (m + 2)) : ∃ (l : List Int) (r : Nat) (S' : Store), (L (n + 3)).a 29 [.loc p, .d (.int most)] (S ++ Z) = .ok (.d (T l)) (S' ++ Z) ∧ r ≤ most ∧ l ∈ kinds r ∧ Dst p S' m ∧ But p S S' := by
  obtain ⟨r, S1, e1, r0, r1, D1, B1⟩ := rollL (n + 1) p (m + 1) ((most : Int) + 1) S Z hS (by omega) (Nat.lt_trans (log2_lt (k := 20) (by omega) (by omega) (by decide)) (by decide))
  obtain ⟨r, rfl⟩ : ∃ k : Nat, r = k := ⟨r.toNat, by omega⟩
  have hr : r ≤ 12 := by omega
  have hk := kinds_row hr
  have e2 := kinds_ok (n := n + 1) (st := S1 ++ Z) hr
  obtain ⟨⟨i, d, S2, e3, g, D2, B2⟩, _⟩ := pickL n p m ((kinds r).map T) S1 Z D1 (by intro h; rw [List.map_eq_nil_iff] at h; rw [h] at hk; exact absurd hk.2.1 (by decide)) (by rw [List.length_map]; omega)
  rw [List.getElem?_map] at g
  cases q : (kinds r)[i]? with
  | none => rw [q] at g; cases g
  | some l =>
    rw [q] at g
    cases g
    refine ⟨l, r, S2, ?_, by omega, List.mem_of_getElem? q, D2, B1.trans B2⟩
    refine run_d (st' := S2 ++ Z) (ex := []) rfl rfl (env := [some (.loc p), some (.d (.int most))]) ?_ (by simp [B1.1, B2.1])
    show B_law_kind (L (n + 2)) [some (.loc p), some (.d (.int most))] (S ++ Z) = _
    simp only [B_law_kind, sRet_eq, cCall_eq, aCons_eq, aNil_eq, c2_eq, cVar_eq, cCon_eq, bind_ok, List.getElem?_cons_zero, List.getElem?_cons_succ, bin_int, add_int, e1, e2, e3, lift_ok, List.append_nil]
end
end PyI.Law
namespace PyI.Law
open PySem PySem.Spec PyProof.Rows L2 PyI
def halfI (t : List Int) : Int := (t.map fun x => x * (x - 1) / 2).sum
def oneChk (l : List Int) : Bool := okK l && (okK (turn l) && (decide (turn l = turnL l) && (decide (turn (turn l) = l) && (decide ((turn l).sum = l.sum) && (decide (((turn l).length : Int) = maxI l) && (decide (maxI (turn l) = (l.length : Int)) && decide (slantI l = halfI (turn l))))))))
section
variable {n : Nat} {st st1 : Store} {F : FTs} {l m : List Int} {env : DEnv}
theorem seq_ends {r : RS} {d : DV} {env1 : DEnv} {k : DEnv → Store → RS} (h : r = .ok (.rt d) env1 st1) : r.seq k = .ok (.rt d) env1 st1 := by rw [h]; rfl
theorem seq1 {a c : SF} {env env' : DEnv} {st' : Store} (h : a F env st = .ok .nx env' st') : sSeq a c F env st = c F env' st' := by rw [sSeq_eq, h, seq_nx]
theorem meth_K {f : Str} {k : Nat} {o : EF} {r : AF} (hk : att0 0 f = some (.meth k)) (ho : o F env st = .ok (.d (K l)) st1) : cMeth att0 f o r F env st = (r F env st1).bind fun xs st => F.a k (.d (K l) :: xs) st := by
  unfold cMeth
  rw [ho, bind_ok]
  show (match att0 0 f with | some (.meth k) => (r F env st1).bind fun xs st => F.a k (.d (K l) :: xs) st | _ => .no) = _
  rw [hk]
theorem pyds_T : ∀ (k : Nat) (ls : List (List Int)), pyds (k + 1) (ls.map T) = some (ls.map fun l => .tuple (l.map .int))
  | k, [] => rfl
  | k, l :: ls => by
    have : pyd (k + 1) (T l) = some (.tuple (l.map .int)) := by
      show (pyds k (l.map .int)).map PyData.tuple = _
      rw [pyds_ints]; rfl
    simp only [List.map_cons, pyds, this, pyds_T k ls]
theorem eqv_T : ∀ {l m : List (List Int)}, PyData.eqvAll (l.map fun l => .tuple (l.map .int)) (m.map fun l => .tuple (l.map .int)) = decide (l = m)
  | [], [] => by simp [PyData.eqvAll]
  | [], _ :: _ => by simp [PyData.eqvAll]
  | _ :: _, [] => by simp [PyData.eqvAll]
  | a :: l, b :: m => by
    simp only [List.map_cons, PyData.eqvAll, PyData.eqv, eqv_T (l := l) (m := m), eqv_ints]
    by_cases h : a = b <;> by_cases h2 : l = m <;> simp [h, h2]
theorem ne_rows {ls ms : List (List Int)} : neIG S0 (neOwn S0 neG) F (.d (.lst (ls.map T))) (.d (.lst (ms.map T))) st = .ok (.d (.bl (!decide (ls = ms)))) st := by
  have h0 : neIG S0 (neOwn S0 neG) F (.d (.lst (ls.map T))) (.d (.lst (ms.map T))) st = neOwn S0 neG F (.d (.lst (ls.map T))) (.d (.lst (ms.map T))) st := by
    cases ls <;> rfl
  rw [h0, ne_no rfl rfl]
  have p : ∀ ls : List (List Int), pyv st (.d (.lst (ls.map T))) = some (.list (ls.map fun l => .tuple (l.map .int))) := fun ls => by
    show (pyds 63 (ls.map T)).map PyData.list = _
    rw [pyds_T]; rfl
  show (match pyv st (.d (.lst (ls.map T))), pyv st (.d (.lst (ms.map T))) with | some p, some q => R.d (.bl (!PyData.eqv p q)) st | _, _ => .no) = _
  rw [p, p]
  show R.d (.bl (!PyData.eqv _ _)) st = _
  rw [PyData.eqv, eqv_T]
theorem neI_lst {k : List Int} {ks : List (List Int)} : neIG S0 (neOwn S0 neG) (L (n + 2)) (.d (.lst (K k :: ks.map K))) (.d (.lst (K k :: ks.map K))) st = .ok (.d (.bl false)) st := by
  have h := insEqs_K (n := n) (k :: ks)
  exact if_pos h
theorem neI_tup {k : List Int} {ks : List (List Int)} : neIG S0 (neOwn S0 neG) (L (n + 2)) (.d (.tup (K k :: ks.map K))) (.d (.tup (K k :: ks.map K))) st = .ok (.d (.bl false)) st := by
  have h := insEqs_K (n := n) (k :: ks)
  exact if_pos h
end
end PyI.Law
namespace PyI.Law
open PySem PySem.Spec PyProof.Rows L2 PyI
section
variable {n : Nat} {st : Store} {l m : List Int}
theorem one_ok (h : oneChk l = true) : (L (n + 10)).a 36 [.d (T l)] st = .ok (.d (.bl true)) st := by
  simp only [oneChk, Bool.and_eq_true, decide_eq_true_iff] at h
  obtain ⟨k1, k2, c1, c2', c3, c4, c5, c6⟩ := h
  have k3 : okK (turn (turn l)) = true := by rw [c2']; exact k1
  refine run_d0 rfl rfl (env := [some (.d (T l)), some (.d (K l)), some (.d (K (turn l))), none]) ?_
  show B_law_is_one_right (L (n + 9)) [some (.d (T l)), none, none, none] st = _
  have e1 : cMake 0 5 (aCons (cVar 0) aNil) (L (n + 9)) [some (.d (T l)), none, none, none] st = .ok (.d (K l)) st := make_K (n := n + 4) rfl k1
  have t1 := at_turned (n := n + 2) (st := st) k1 k2
  have t2 := at_turned (n := n + 2) (st := st) k2 k3
  rw [c2'] at t2
  have lt := s_law_turned (n := n + 8) (st := st) k1
  have q1 : neIG S0 (neOwn S0 neG) (L (n + 9)) (.d (T (turn l))) (.d (T (turnL l))) st = .ok (.d (.bl false)) st := by
    rw [tne, c1]; simp
  have q2 : neIG S0 (neOwn S0 neG) (L (n + 9)) (.d (K l)) (.d (K l)) st = .ok (.d (.bl false)) st := by
    rw [ne_K (n := n + 7)]; simp
  have e3 : cLc false [3] (iSrc itr0 (cVar 2)) (wName 3) (cCon (.bl true)) (c2 (binOwn S0 .FloorDiv fdivG) (c2 (binOwn S0 .Mult mulG) (cVar 3) (c2 (binOwn S0 .Sub subG) (cVar 3) (cCon (.int (1))))) (cCon (.int (2)))) (L (n + 9)) [some (.d (T l)), some (.d (K l)), some (.d (K (turn l))), none] st = .ok (.d (.lst ((turn l).map fun x => .int (x * (x - 1) / 2)))) st := by
    refine cLcM .int _ (by simp only [iSrc_eq, cVar_eq, List.getElem?_cons_zero, List.getElem?_cons_succ, bind_ok, src_K]) (fun i hi => ⟨_, rfl, fun acc => ?_⟩) (by have := okK_len k2; unfold line; omega)
    have := okK_all k2 i hi
    have m1 : mulI i (i - 1) = true := mulI_small (by omega) (by omega) (by omega) (by omega)
    simp [wipeD, mulG, m1, fdivG, show Nat.log2 2 < 9000 by decide, R.d]
  have e4 : sumTG (L (n + 9)) [.d (.lst ((turn l).map fun x => .int (x * (x - 1) / 2)))] st = .ok (.d (.int (halfI (turn l)))) st := by
    have := sum_lints (F := L (n + 9)) (st := st) (l := (turn l).map fun x => x * (x - 1) / 2)
    rwa [List.map_map] at this
  have e5 : ∀ a b c : Int, eqIG S0 (cmpOwn S0 "__eq__" eqG) (L (n + 9)) (.d (.lst [.int a, .int b, .int c])) (.d (.lst [.int a, .int b, .int c])) st = .ok (.d (.bl true)) st := fun a b c => by
    have := leq (s := S0) (F := L (n + 9)) (st := st) (l := [a, b, c]) (m := [a, b, c])
    rw [decide_eq_true rfl] at this
    exact this
  have sl := at_slant (n := n + 7) (st := st) k1
  simp only [B_law_is_one_right, sSeq_eq, sSet_eq, e1, lift_ok, seq_nx, List.set_cons_succ, List.set_cons_zero, cAtt_eq, cVar_eq, List.getElem?_cons_zero, List.getElem?_cons_succ, bind_ok, t1, sIf_eq, cOr_eq, c2_eq, at_numbers (n := n + 7), cCall_eq, aCons_eq, aNil_eq, lt, q1, t2, q2, at_size (n := n + 7), c3, neIG_int, ne_int, ne_int', decide_true, Bool.not_true, sSkip_eq, sRet_eq, cLst_eq, at_rank (n := n + 7), at_height (n := n + 7), sl, cB_eq, e3, e4, plainD, Option.map_some, List.length_cons, List.length_nil, show 0 + 1 + 1 + 1 ≤ line by decide, if_true, R.d, c4, c5, ← c6, e5]
end
end PyI.Law
namespace PyI.Law
open PySem PySem.Spec PyProof.Rows L2 PyI
def nilChk (l : List Int) : Bool := decide (addI l [] = l) && decide (overI l [] = l)
section
variable {n : Nat} {st : Store} {l m : List Int}
theorem att_over : att0 0 "over" = some (.meth 14) := by kernel_rfl
theorem a0 {x y : D} : atI [x, y] 0 = some x := rfl
theorem a1 {x y : D} : atI [x, y] 1 = some y := rfl
theorem getD_ok {l : List Int} (h : okK l = true) (i : Nat) : 0 ≤ l.getD i 0 ∧ l.getD i 0 ≤ 12 := by
  rw [List.getD_eq_getElem?_getD]
  cases e : l[i]? with
  | none => exact ⟨by decide, by decide⟩
  | some x =>
    have := okK_all h x (List.mem_of_getElem? e)
    simp only [Option.getD_some]
    omega
theorem join_ok (kl : okK l = true) (km : okK m = true) (tl : okK (turn l) = true) (tm : okK (turn m) = true) (nl : nilChk l = true) (hs : l.sum + m.sum ≤ 12) (h : joinChk l m = true) : (L (n + 12)).a 35 [.d (T l), .d (T m)] st = .ok (.d (.bl true)) st := by
  simp only [joinChk, nilChk, Bool.and_eq_true, decide_eq_true_iff] at h nl
  obtain ⟨k1, k2, k3, k4, c1, c2', c3, c4, c5, c6, c7, c8⟩ := h
  obtain ⟨z1, z2⟩ := nl
  have ll := okK_len kl
  have lm := okK_len km
  have ltl := okK_len tl
  have ltm := okK_len tm
  let e0 : DEnv := [some (.d (T l)), some (.d (T m)), none, none, none, none, none, none, none]
  let e1 : DEnv := [some (.d (T l)), some (.d (T m)), none, none, some (.d (K l)), some (.d (K m)), some (.d (.lst [T (addI l m), T (overI l m)])), none, none]
  let bo : D := .lst [K (addI l m), K (overI l m)]
  let e2 : DEnv := [some (.d (T l)), some (.d (T m)), some (.d bo), none, some (.d (K l)), some (.d (K m)), some (.d (.lst [T (addI l m), T (overI l m)])), none, none]
  let e3 : DEnv := [some (.d (T l)), some (.d (T m)), some (.d bo), some (.d (.lst ((List.range 13).map fun i => .int ((turn l).getD i 0 * (turn m).getD i 0)))), some (.d (K l)), some (.d (K m)), some (.d (.lst [T (addI l m), T (overI l m)])), none, none]
  refine run_d0 rfl rfl (env := e3) ?_
  show B_law_joined_right (L (n + 11)) e0 st = _
  have mk0 : cMake 0 5 (aCons (cVar 0) aNil) (L (n + 11)) e0 st = .ok (.d (K l)) st := make_K (n := n + 6) rfl kl
  have mk1 : cMake 0 5 (aCons (cVar 1) aNil) (L (n + 11)) e0 st = .ok (.d (K m)) st := make_K (n := n + 6) rfl km
  have p1 := s_put_together (n := n + 10) (st := st) ll lm
  have p2 := s_added_up (n := n + 10) (st := st) ll lm
  rw [c1] at p2
  have hs2 : m.sum + l.sum ≤ 12 := by omega
  have ov : ∀ st, (L (n + 11)).a 14 [.d (K l), .d (K m)] st = .ok (.d (K (overI l m))) st := fun st => s_over (n := n + 5) ll lm hs k2
  have ov' : ∀ st, (L (n + 11)).a 14 [.d (K m), .d (K l)] st = .ok (.d (K (overI l m))) st := fun st => by
    have := s_over (n := n + 5) (st := st) lm ll hs2 (by rw [← c3]; exact k2)
    rwa [← c3] at this
  have ad : ∀ st, binOwn S0 .Add addG (L (n + 11)) (.d (K l)) (.d (K m)) st = .ok (.d (K (addI l m))) st := fun st => add_K (n := n + 5) ll lm hs k1
  have ad' : ∀ st, binOwn S0 .Add addG (L (n + 11)) (.d (K m)) (.d (K l)) st = .ok (.d (K (addI l m))) st := fun st => by
    have := add_K (n := n + 5) (st := st) lm ll hs2 (by rw [← c2']; exact k1)
    rwa [← c2'] at this
  have s1 : sAsg (cTup (aCons (cMake 0 5 (aCons (cVar 0) aNil)) (aCons (cMake 0 5 (aCons (cVar 1) aNil)) (aCons (cLst (aCons (cCall 33 (aCons (cVar 0) (aCons (cVar 1) aNil))) (aCons (cCall 34 (aCons (cVar 0) (aCons (cVar 1) aNil))) aNil))) aNil)))) (gTup 3 (gsCons (gName 4) (gsCons (gName 5) (gsCons (gName 6) gsNil)))) (L (n + 11)) e0 st = .ok .nx e1 st := by
    have x0 : e0[0]? = some (some (.d (T l))) := rfl
    have x1 : e0[1]? = some (some (.d (T m))) := rfl
    simp only [sAsg_eq, cTup_eq, aCons_eq, mk0, mk1, cLst_eq, cCall_eq, cVar_eq, x0, x1, bind_ok, aNil_eq, p1, p2, plainD, Option.map_some, List.length_cons, List.length_nil, show 0 + 1 + 1 ≤ line by decide, show 0 + 1 + 1 + 1 ≤ line by decide, if_true, R.d, lift_ok]
    rfl
  have s2 : sSet 2 (cLst (aCons (c2 (binOwn S0 .Add addG) (cVar 4) (cVar 5)) (aCons (cMeth att0 "over" (cVar 4) (aCons (cVar 5) aNil)) aNil))) (L (n + 11)) e1 st = .ok .nx e2 st := by
    have x4 : cVar 4 (L (n + 11)) e1 st = .ok (.d (K l)) st := rfl
    have x5 : cVar 5 (L (n + 11)) e1 st = .ok (.d (K m)) st := rfl
    have q := meth_K (r := aCons (cVar 5) aNil) att_over x4
    simp only [sSet_eq, cLst_eq, aCons_eq, c2_eq, x4, x5, bind_ok, ad, q, aNil_eq, ov, plainD, Option.map_some, List.length_cons, List.length_nil, show 0 + 1 + 1 ≤ line by decide, if_true, R.d, lift_ok]
    rfl
  have x2 : ∀ st, cVar 2 (L (n + 11)) e2 st = .ok (.d bo) st := fun _ => rfl
  have x4 : ∀ st, cVar 4 (L (n + 11)) e2 st = .ok (.d (K l)) st := fun _ => rfl
  have x5 : ∀ st, cVar 5 (L (n + 11)) e2 st = .ok (.d (K m)) st := fun _ => rfl
  have x6 : ∀ st, cVar 6 (L (n + 11)) e2 st = .ok (.d (.lst [T (addI l m), T (overI l m)])) st := fun _ => rfl
  have i0 : ∀ st, idxOwn S0 (L (n + 11)) (.d bo) (.d (.int 0)) st = .ok (.d (K (addI l m))) st := fun st => by
    rw [show (DV.d bo) = .d (.lst [K (addI l m), K (overI l m)]) from rfl, idx_lst, a0]
  have i1 : ∀ st, idxOwn S0 (L (n + 11)) (.d bo) (.d (.int 1)) st = .ok (.d (K (overI l m))) st := fun st => by
    rw [show (DV.d bo) = .d (.lst [K (addI l m), K (overI l m)]) from rfl, idx_lst, a1]
  have s3 : sIf (cOr (c2 (neIG S0 (neOwn S0 neG)) (cLc false [8] (iSrc itr0 (cVar 2)) (wName 8) (cCon (.bl true)) (cAtt att0 "numbers" (cVar 8))) (cVar 6)) (c2 (neIG S0 (neOwn S0 neG)) (cVar 2) (cLst (aCons (c2 (binOwn S0 .Add addG) (cVar 5) (cVar 4)) (aCons (cMeth att0 "over" (cVar 5) (aCons (cVar 4) aNil)) aNil))))) (sRet (cCon (.bl false))) sSkip (L (n + 11)) e2 st = .ok .nx e2 st := by
    have w : cLc false [8] (iSrc itr0 (cVar 2)) (wName 8) (cCon (.bl true)) (cAtt att0 "numbers" (cVar 8)) (L (n + 11)) e2 st = .ok (.d (.lst ([addI l m, overI l m].map T))) st :=
      cLcM K T (by simp only [iSrc_eq, x2, bind_ok]; rfl) (fun k hk => ⟨_, rfl, fun acc => by
        simp only [cAtt_eq]
        show (R.ok (DV.d (K k)) _).bind _ = _
        rw [bind_ok]
        exact at_numbers (n := n + 9)⟩) (by simp [line])
    have q1 : neIG S0 (neOwn S0 neG) (L (n + 11)) (.d (.lst ([addI l m, overI l m].map T))) (.d (.lst [T (addI l m), T (overI l m)])) st = .ok (.d (.bl false)) st := by
      have := ne_rows (F := L (n + 11)) (st := st) (ls := [addI l m, overI l m]) (ms := [addI l m, overI l m])
      rw [decide_eq_true rfl] at this
      exact this
    have q2 : neIG S0 (neOwn S0 neG) (L (n + 11)) (.d bo) (.d (.lst [K (addI l m), K (overI l m)])) st = .ok (.d (.bl false)) st := neI_lst (n := n + 9) (k := addI l m) (ks := [overI l m])
    have q3 := meth_K (r := aCons (cVar 4) aNil) att_over (x5 st)
    simp only [sIf_eq, cOr_eq, c2_eq, w, bind_ok, x6, q1, x2, x4, x5, cLst_eq, aCons_eq, ad', q3, aNil_eq, ov', plainD, Option.map_some, List.length_cons, List.length_nil, show 0 + 1 + 1 ≤ line by decide, if_true, R.d, q2, lift_ok, sSkip_eq]
  have tn4 : ∀ st, attG att0 "turned" (L (n + 11)) (.d (K l)) st = .ok (.d (K (turn l))) st := fun st => at_turned (n := n + 4) kl tl
  have tn5 : ∀ st, attG att0 "turned" (L (n + 11)) (.d (K m)) st = .ok (.d (K (turn m))) st := fun st => at_turned (n := n + 4) km tm
  have tna : ∀ st, attG att0 "turned" (L (n + 11)) (.d (K (addI l m))) st = .ok (.d (K (turn (addI l m)))) st := fun st => at_turned (n := n + 4) k1 k3
  have tno : ∀ st, attG att0 "turned" (L (n + 11)) (.d (K (overI l m))) st = .ok (.d (K (turn (overI l m)))) st := fun st => at_turned (n := n + 4) k2 k4
  have sl4 : ∀ st, attG att0 "slant" (L (n + 11)) (.d (K l)) st = .ok (.d (.int (slantI l))) st := fun st => at_slant (n := n + 9) kl
  have sl5 : ∀ st, attG att0 "slant" (L (n + 11)) (.d (K m)) st = .ok (.d (.int (slantI m))) st := fun st => at_slant (n := n + 9) km
  have sla : ∀ st, attG att0 "slant" (L (n + 11)) (.d (K (addI l m))) st = .ok (.d (.int (slantI (addI l m)))) st := fun st => at_slant (n := n + 9) k1
  have slo : ∀ st, attG att0 "slant" (L (n + 11)) (.d (K (overI l m))) st = .ok (.d (.int (slantI (overI l m)))) st := fun st => at_slant (n := n + 9) k2
  have ovt : ∀ st, (L (n + 11)).a 14 [.d (K (turn l)), .d (K (turn m))] st = .ok (.d (K (turn (addI l m)))) st := fun st => by
    have := s_over (n := n + 5) (st := st) ltl ltm c6 (by rw [← c4]; exact k3)
    rwa [← c4] at this
  have adt : ∀ st, binOwn S0 .Add addG (L (n + 11)) (.d (K (turn l))) (.d (K (turn m))) st = .ok (.d (K (turn (overI l m)))) st := fun st => by
    have := add_K (n := n + 5) (st := st) ltl ltm c6 (by rw [← c5]; exact k4)
    rwa [← c5] at this
  have nk : ∀ (k : List Int) st, neIG S0 (neOwn S0 neG) (L (n + 11)) (.d (K k)) (.d (K k)) st = .ok (.d (.bl false)) st := fun k st => by
    rw [ne_K (n := n + 9)]; simp
  have s4 : sIf (cOr (c2 (neIG S0 (neOwn S0 neG)) (cAtt att0 "turned" (c2 (idxOwn S0) (cVar 2) (cCon (.int (0))))) (cMeth att0 "over" (cAtt att0 "turned" (cVar 4)) (aCons (cAtt att0 "turned" (cVar 5)) aNil))) (c2 (neIG S0 (neOwn S0 neG)) (cAtt att0 "turned" (c2 (idxOwn S0) (cVar 2) (cCon (.int (1))))) (c2 (binOwn S0 .Add addG) (cAtt att0 "turned" (cVar 4)) (cAtt att0 "turned" (cVar 5))))) (sRet (cCon (.bl false))) sSkip (L (n + 11)) e2 st = .ok .nx e2 st := by
    have y4 : cAtt att0 "turned" (cVar 4) (L (n + 11)) e2 st = .ok (.d (K (turn l))) st := by rw [cAtt_eq, x4, bind_ok, tn4]
    have q := meth_K (r := aCons (cAtt att0 "turned" (cVar 5)) aNil) att_over y4
    simp only [sIf_eq, cOr_eq, c2_eq, cAtt_eq, x2, x4, x5, cCon_eq, bind_ok, i0, i1, tna, tno, q, aCons_eq, aNil_eq, tn4, tn5, ovt, adt, nk, lift_ok, sSkip_eq]
  have s5 : sIf (cOr (c2 (neIG S0 (neOwn S0 neG)) (cAtt att0 "slant" (c2 (idxOwn S0) (cVar 2) (cCon (.int (1))))) (c2 (binOwn S0 .Add addG) (cAtt att0 "slant" (cVar 4)) (cAtt att0 "slant" (cVar 5)))) (c2 (neIG S0 (neOwn S0 neG)) (cTup (aCons (c2 (binOwn S0 .Add addG) (cVar 4) (cMake 0 5 aNil)) (aCons (cMeth att0 "over" (cVar 4) (aCons (cMake 0 5 aNil) aNil)) aNil))) (cTup (aCons (cVar 4) (aCons (cVar 4) aNil))))) (sRet (cCon (.bl false))) sSkip (L (n + 11)) e2 st = .ok .nx e2 st := by
    have mk : cMake 0 5 aNil (L (n + 11)) e2 st = .ok (.d (K [])) st := make_K0 (n := n + 6)
    have sl0 : l.sum + ([] : List Int).sum ≤ 12 := by have := okK_sum kl; simpa using this
    have ov0 : ∀ st, (L (n + 11)).a 14 [.d (K l), .d (K [])] st = .ok (.d (K l)) st := fun st => by
      have := s_over (n := n + 5) (st := st) (m := []) ll (by decide) sl0 (by rw [z2]; exact kl)
      rwa [z2] at this
    have ad0 : ∀ st, binOwn S0 .Add addG (L (n + 11)) (.d (K l)) (.d (K [])) st = .ok (.d (K l)) st := fun st => by
      have := add_K (n := n + 5) (st := st) (m := []) ll (by decide) sl0 (by rw [z1]; exact kl)
      rwa [z1] at this
    have q := meth_K (r := aCons (cMake 0 5 aNil) aNil) att_over (x4 st)
    have q2 : neIG S0 (neOwn S0 neG) (L (n + 11)) (.d (.tup [K l, K l])) (.d (.tup [K l, K l])) st = .ok (.d (.bl false)) st := neI_tup (n := n + 9) (k := l) (ks := [l])
    simp only [sIf_eq, cOr_eq, c2_eq, cAtt_eq, x2, x4, x5, cCon_eq, bind_ok, i1, slo, sl4, sl5, bin_int, add_int, neIG_int, ne_int, ne_int', c7, decide_true, Bool.not_true, cTup_eq, aCons_eq, aNil_eq, mk, ad0, q, ov0, plainD, Option.map_some, List.length_cons, List.length_nil, show 0 + 1 + 1 ≤ line by decide, if_true, R.d, q2, lift_ok, sSkip_eq]
  have s6 : sSet 3 (cLc false [7] (iRng rng1 (aCons (cCon (.int (13))) aNil)) (wName 7) (cCon (.bl true)) (c2 (binOwn S0 .Mult mulG) (c2 (idxOwn S0) (cAtt att0 "turned" (cVar 4)) (cVar 7)) (c2 (idxOwn S0) (cAtt att0 "turned" (cVar 5)) (cVar 7)))) (L (n + 11)) e2 st = .ok .nx e3 st := by
    have w : cLc false [7] (iRng rng1 (aCons (cCon (.int (13))) aNil)) (wName 7) (cCon (.bl true)) (c2 (binOwn S0 .Mult mulG) (c2 (idxOwn S0) (cAtt att0 "turned" (cVar 4)) (cVar 7)) (c2 (idxOwn S0) (cAtt att0 "turned" (cVar 5)) (cVar 7))) (L (n + 11)) e2 st = .ok (.d (.lst ((List.range 13).map fun i => .int ((turn l).getD i 0 * (turn m).getD i 0)))) st := by
      refine cLcM (fun i : Nat => .int i) _ (by rw [← upTo0_map]; rfl) (fun i hi => ⟨_, rfl, fun acc => ?_⟩) (by decide)
      have hi' := List.mem_range.mp hi
      have g1 := getD_ok tl i
      have g2 := getD_ok tm i
      have m1 : mulI ((turn l).getD i 0) ((turn m).getD i 0) = true := mulI_small (by omega) (by omega) (by omega) (by omega)
      have j1 := idx_K (n := n + 7) (st := st ++ [.lst acc]) (l := turn l) (i := i) (by omega)
      have j2 := idx_K (n := n + 7) (st := st ++ [.lst acc]) (l := turn m) (i := i) (by omega)
      have y4 : ∀ st, cVar 4 (L (n + 11)) ((wipeD e2 [7]).set 7 (some (.d (.int i)))) st = .ok (.d (K l)) st := fun _ => rfl
      have y5 : ∀ st, cVar 5 (L (n + 11)) ((wipeD e2 [7]).set 7 (some (.d (.int i)))) st = .ok (.d (K m)) st := fun _ => rfl
      have y7 : ∀ st, cVar 7 (L (n + 11)) ((wipeD e2 [7]).set 7 (some (.d (.int i)))) st = .ok (.d (.int i)) st := fun _ => rfl
      have mm : mulG (L (n + 11)) (.d (.int ((turn l).getD i 0))) (.d (.int ((turn m).getD i 0))) (st ++ [.lst acc]) = .ok (.d (.int ((turn l).getD i 0 * (turn m).getD i 0))) (st ++ [.lst acc]) := if_pos m1
      simp only [c2_eq, cAtt_eq, y4, y5, y7, bind_ok, tn4, tn5, j1, j2, bin_int, mm]
    rw [sSet_eq, w, lift_ok]
    rfl
  have x2' : ∀ st, cVar 2 (L (n + 11)) e3 st = .ok (.d bo) st := fun _ => rfl
  have x3' : ∀ st, cVar 3 (L (n + 11)) e3 st = .ok (.d (.lst ((List.range 13).map fun i => .int ((turn l).getD i 0 * (turn m).getD i 0)))) st := fun _ => rfl
  have x4' : ∀ st, cVar 4 (L (n + 11)) e3 st = .ok (.d (K l)) st := fun _ => rfl
  have x5' : ∀ st, cVar 5 (L (n + 11)) e3 st = .ok (.d (K m)) st := fun _ => rfl
  have sm : sumTG (L (n + 11)) [.d (.lst ((List.range 13).map fun i => .int ((turn l).getD i 0 * (turn m).getD i 0)))] st = .ok (.d (.int (rowsI l m))) st := by
    have := sum_lints (F := L (n + 11)) (st := st) (l := (List.range 13).map fun i => (turn l).getD i 0 * (turn m).getD i 0)
    rwa [List.map_map] at this
  unfold B_law_joined_right
  rw [seq1 s1, seq1 s2, seq1 s3, seq1 s4, seq1 s5, seq1 s6]
  simp only [sRet_eq, c2_eq, cAtt_eq, x2', x3', x4', x5', cCon_eq, bind_ok, i0, sla, sl4, sl5, bin_int, add_int, cB_eq, aCons_eq, aNil_eq, sm, eqIG_int, cmp_int, eq_int', c8, decide_true, lift_ok]
end
end PyI.Law
namespace PyI.Law
open PySem PySem.Spec PyProof.Rows L2 PyI
theorem all_filter : ∀ z : List (Int × Int), z.all (fun p => decide (p.1 ≤ p.2)) = decide (z.filter (fun p => decide (p.2 < p.1)) = [])
  | [] => rfl
  | (a, b) :: z => by
    have ih := all_filter z
    by_cases c : a ≤ b
    · simp only [List.all_cons, c, decide_true, Bool.true_and, List.filter_cons, show ¬ b < a by omega, decide_false]
      exact ih
    · simp [List.all_cons, c, List.filter_cons, show b < a by omega]
theorem holdsB_holdI (l m : List Int) : holdsB l m = holdI l m := by
  unfold holdsB holdI
  rw [all_filter]
theorem holdsB_iff {l m : List Int} : holdsB l m = true ↔ m.length ≤ l.length ∧ ∀ p ∈ m.zip l, p.1 ≤ p.2 := by
  simp only [holdsB, Bool.and_eq_true, decide_eq_true_iff, List.all_eq_true]
theorem cnt_le (a : Int) : ∀ {m l : List Int}, m.length ≤ l.length → (∀ p ∈ m.zip l, p.1 ≤ p.2) → (m.filter fun x => decide (a < x)).length ≤ (l.filter fun x => decide (a < x)).length
  | [], l, _, _ => Nat.zero_le _
  | x :: m, [], h, _ => by simp at h
  | x :: m, y :: l, h, hp => by
    have ih := cnt_le a (m := m) (l := l) (by simpa using h) fun p q => hp p (List.mem_cons_of_mem _ q)
    have hxy : x ≤ y := hp (x, y) List.mem_cons_self
    simp only [List.filter_cons]
    by_cases c : a < x
    · rw [decide_eq_true c, decide_eq_true (show a < y by omega)]
      simpa using ih
    · rw [decide_eq_false c]
      by_cases d : a < y
      · rw [decide_eq_true d]
        simp only [Bool.false_eq_true, if_false, if_true, List.length_cons]
        omega
      · rw [decide_eq_false d]
        simpa using ih
theorem fold_ge : ∀ (l : List Int) (i : Int), i ≤ l.foldl max i
  | [], i => Int.le_refl _
  | a :: l, i => by
    have := fold_ge l (max i a)
    simp only [List.foldl_cons]
    omega
theorem fold_le : ∀ {m l : List Int} {i j : Int}, i ≤ j → m.length ≤ l.length → (∀ p ∈ m.zip l, p.1 ≤ p.2) → m.foldl max i ≤ l.foldl max j
  | [], l, i, j, h, _, _ => Int.le_trans h (fold_ge l j)
  | x :: m, [], _, _, _, h, _ => by simp at h
  | x :: m, y :: l, i, j, h, hl, hp => by
    have hxy : x ≤ y := hp (x, y) List.mem_cons_self
    exact fold_le (m := m) (l := l) (by omega) (by simpa using hl) fun p q => hp p (List.mem_cons_of_mem _ q)
theorem maxI_le {m l : List Int} (hl : 0 ≤ maxI l) (h : m.length ≤ l.length) (hp : ∀ p ∈ m.zip l, p.1 ≤ p.2) : maxI m ≤ maxI l := by
  cases m with
  | nil => exact hl
  | cons x m =>
    cases l with
    | nil => simp at h
    | cons y l =>
      have hxy : x ≤ y := hp (x, y) List.mem_cons_self
      exact fold_le hxy (by simpa using h) fun p q => hp p (List.mem_cons_of_mem _ q)
theorem zip_range {f g : Nat → Int} (h : ∀ a, f a ≤ g a) {k j : Nat} : ∀ p ∈ ((List.range k).map f).zip ((List.range j).map g), p.1 ≤ p.2 := by
  intro p hp
  obtain ⟨i, hi, e⟩ := List.getElem_of_mem hp
  rw [← e]
  simp only [List.getElem_zip, List.getElem_map, List.getElem_range]
  exact h i
theorem holds_turn {l m : List Int} (hl : 0 ≤ maxI l) (h : holdsB l m = true) : holdsB (turn l) (turn m) = true := by
  obtain ⟨h1, h2⟩ := holdsB_iff.mp h
  refine holdsB_iff.mpr ⟨?_, ?_⟩
  · have := maxI_le hl h1 h2
    simp only [turn, List.length_map, List.length_range]
    omega
  · unfold turn
    exact zip_range fun a => by exact_mod_cast cnt_le (a : Int) h1 h2
theorem holds_turned {l m : List Int} (hl : 0 ≤ maxI l) (htl : 0 ≤ maxI (turn l)) (e1 : turn (turn l) = l) (e2 : turn (turn m) = m) : holdsB (turn l) (turn m) = holdI l m := by
  rw [← holdsB_holdI]
  cases h : holdsB l m with
  | true => exact holds_turn hl h
  | false =>
    cases h2 : holdsB (turn l) (turn m) with
    | false => rfl
    | true =>
      have := holds_turn htl h2
      rw [e1, e2, h] at this
      cases this
end PyI.Law
namespace PyI.Law
open PySem PySem.Spec PyProof.Rows L2 PyI
def topsChk (l m : List Int) : Bool := decide (topsB l m = topI l m) && (decide (topsB (turn m) (turn l) = topI l m) && (decide ((turn l).sum = (turn m).sum) && (!(topI l m && (decide (slantI m < slantI l) || ltK m l)) && decide (holdsB l m = decide (l = m)))))
section
variable {n : Nat} {st : Store} {l m : List Int} {F : FTs}
theorem ne_bls {a b : Bool} : neIG S0 (neOwn S0 neG) F (.d (.bl a)) (.d (.bl b)) st = .ok (.d (.bl (!decide (a = b)))) st := by
  cases a <;> cases b <;> rfl
theorem att_tops : att0 0 "tops" = some (.meth 13) := by kernel_rfl
theorem att_holds : att0 0 "holds" = some (.meth 12) := by kernel_rfl
/-- a loop over rows whose turns leave the store alone -/
theorem for_rows {j : Nat} {b : SF} {Q : DEnv → Prop} : ∀ (rows : List (List Int)), (∀ l ∈ rows, ∀ env, Q env → ∃ env2, b F (env.set j (some (.d (T l)))) st = .ok .nx env2 st ∧ Q env2) → ∀ env, Q env → ∃ env', forL (gName j) b (rows.map T) F env st = .ok .nx env' st ∧ Q env'
  | [], _, env, q => ⟨env, rfl, q⟩
  | l :: rows, hs, env, q => by
    obtain ⟨env2, e, q2⟩ := hs l List.mem_cons_self env q
    obtain ⟨env3, e3, q3⟩ := for_rows rows (fun k hk => hs k (List.mem_cons_of_mem _ hk)) env2 q2
    refine ⟨env3, ?_, q3⟩
    rw [List.map_cons, forL_cons, gName_eq, only_nx, seq_nx, e, loop_nx, e3]
def inner1 : SF := sSeq (sPar 4 5 (aCons (cMake 0 5 (aCons (cVar 1) aNil)) (aCons (cMake 0 5 (aCons (cVar 2) aNil)) aNil))) (sSeq (sSet 3 (cCall 32 (aCons (cVar 1) (aCons (cVar 2) aNil)))) (sSeq (sIf (cOr (c2 (neIG S0 (neOwn S0 neG)) (cMeth att0 "tops" (cVar 4) (aCons (cVar 5) aNil)) (cVar 3)) (c2 (neIG S0 (neOwn S0 neG)) (cMeth att0 "tops" (cAtt att0 "turned" (cVar 5)) (aCons (cAtt att0 "turned" (cVar 4)) aNil)) (cVar 3))) (sRet (cCon (.bl false))) sSkip) (sIf (cOr (cAnd (cTru S0 (cVar 3)) (cOr (c2 (cmpOwn S0 "__gt__" (tupT .gt (cmpI fun i j => decide (j < i)))) (cAtt att0 "slant" (cVar 4)) (cAtt att0 "slant" (cVar 5))) (c2 (cmpOwn S0 "__lt__" (tupT .lt (cmpI fun i j => decide (i < j)))) (cVar 5) (cVar 4)))) (c2 (neIG S0 (neOwn S0 neG)) (cMeth att0 "holds" (cVar 4) (aCons (cVar 5) aNil)) (c2 (eqIG S0 (cmpOwn S0 "__eq__" eqG)) (cVar 1) (cVar 2)))) (sRet (cCon (.bl false))) sSkip)))
def inner2 : SF := sIf (cOr (c2 (neIG S0 (neOwn S0 neG)) (cMeth att0 "holds" (cMake 0 5 (aCons (cVar 1) aNil)) (aCons (cMake 0 5 (aCons (cVar 2) aNil)) aNil)) (cCall 31 (aCons (cVar 1) (aCons (cVar 2) aNil)))) (cTru S0 (cMeth att0 "holds" (cMake 0 5 (aCons (cVar 2) aNil)) (aCons (cMake 0 5 (aCons (cVar 1) aNil)) aNil)))) (sRet (cCon (.bl false))) sSkip
theorem inner1_ok {x0 e3 e4 e5 : Option DV} (kl : okK l = true) (km : okK m = true) (tl : okK (turn l) = true) (tm : okK (turn m) = true) (hs : l.sum = m.sum) (h : topsChk l m = true) :
    ∃ e3' e4' e5', inner1 (L (n + 9)) [x0, some (.d (T l)), some (.d (T m)), e3, e4, e5] st = .ok .nx [x0, some (.d (T l)), some (.d (T m)), e3', e4', e5'] st := by
  simp only [topsChk, Bool.and_eq_true, decide_eq_true_iff, Bool.not_eq_true'] at h
  obtain ⟨c1, c2', c3, c4, c5⟩ := h
  refine ⟨some (.d (.bl (topI l m))), some (.d (K l)), some (.d (K m)), ?_⟩
  let E0 : DEnv := [x0, some (.d (T l)), some (.d (T m)), e3, e4, e5]
  let E1 : DEnv := [x0, some (.d (T l)), some (.d (T m)), e3, some (.d (K l)), some (.d (K m))]
  let E2 : DEnv := [x0, some (.d (T l)), some (.d (T m)), some (.d (.bl (topI l m))), some (.d (K l)), some (.d (K m))]
  have m1 : cMake 0 5 (aCons (cVar 1) aNil) (L (n + 9)) E0 st = .ok (.d (K l)) st := make_K (n := n + 4) rfl kl
  have m2 : cMake 0 5 (aCons (cVar 2) aNil) (L (n + 9)) E0 st = .ok (.d (K m)) st := make_K (n := n + 4) rfl km
  have s1 : sPar 4 5 (aCons (cMake 0 5 (aCons (cVar 1) aNil)) (aCons (cMake 0 5 (aCons (cVar 2) aNil)) aNil)) (L (n + 9)) E0 st = .ok .nx E1 st := by
    simp only [sPar_eq, aCons_eq, m1, m2, bind_ok, aNil_eq, lift_ok]
    rfl
  have dt := s_does_top (n := n + 8) (st := st) (l := l) (m := m)
  have s2 : sSet 3 (cCall 32 (aCons (cVar 1) (aCons (cVar 2) aNil))) (L (n + 9)) E1 st = .ok .nx E2 st := by
    have y1 : cVar 1 (L (n + 9)) E1 st = .ok (.d (T l)) st := rfl
    have y2 : cVar 2 (L (n + 9)) E1 st = .ok (.d (T m)) st := rfl
    simp only [sSet_eq, cCall_eq, aCons_eq, y1, y2, bind_ok, aNil_eq, dt, lift_ok]
    rfl
  have x1 : cVar 1 (L (n + 9)) E2 st = .ok (.d (T l)) st := rfl
  have x2 : cVar 2 (L (n + 9)) E2 st = .ok (.d (T m)) st := rfl
  have x3 : cVar 3 (L (n + 9)) E2 st = .ok (.d (.bl (topI l m))) st := rfl
  have x4 : cVar 4 (L (n + 9)) E2 st = .ok (.d (K l)) st := rfl
  have x5 : cVar 5 (L (n + 9)) E2 st = .ok (.d (K m)) st := rfl
  have tn4 : attG att0 "turned" (L (n + 9)) (.d (K l)) st = .ok (.d (K (turn l))) st := at_turned (n := n + 2) kl tl
  have tn5 : attG att0 "turned" (L (n + 9)) (.d (K m)) st = .ok (.d (K (turn m))) st := at_turned (n := n + 2) km tm
  have y5 : cAtt att0 "turned" (cVar 5) (L (n + 9)) E2 st = .ok (.d (K (turn m))) st := by rw [cAtt_eq, x5, bind_ok, tn5]
  have q1 := meth_K (r := aCons (cVar 5) aNil) att_tops x4
  have q2 := meth_K (r := aCons (cAtt att0 "turned" (cVar 4)) aNil) att_tops y5
  have q3 := meth_K (r := aCons (cVar 5) aNil) att_holds x4
  have t1 := s_tops (n := n + 7) (st := st) (l := l) (m := m) hs.symm
  have t2 := s_tops (n := n + 7) (st := st) (l := turn m) (m := turn l) c3
  have hd := s_holds (n := n + 7) (st := st) (l := l) (m := m) km
  rw [c1] at t1
  rw [c2'] at t2
  rw [c5] at hd
  have s3 : sIf (cOr (c2 (neIG S0 (neOwn S0 neG)) (cMeth att0 "tops" (cVar 4) (aCons (cVar 5) aNil)) (cVar 3)) (c2 (neIG S0 (neOwn S0 neG)) (cMeth att0 "tops" (cAtt att0 "turned" (cVar 5)) (aCons (cAtt att0 "turned" (cVar 4)) aNil)) (cVar 3))) (sRet (cCon (.bl false))) sSkip (L (n + 9)) E2 st = .ok .nx E2 st := by
    simp only [sIf_eq, cOr_eq, c2_eq, q1, q2, aCons_eq, aNil_eq, cAtt_eq, x3, x4, x5, bind_ok, tn4, t1, t2, ne_bls, decide_true, Bool.not_true, lift_ok, sSkip_eq]
  have sl4 := at_slant (n := n + 7) (st := st) kl
  have sl5 := at_slant (n := n + 7) (st := st) km
  have lt := lt_K (n := n + 8) (st := st) (l := m) (m := l)
  have s4 : sIf (cOr (cAnd (cTru S0 (cVar 3)) (cOr (c2 (cmpOwn S0 "__gt__" (tupT .gt (cmpI fun i j => decide (j < i)))) (cAtt att0 "slant" (cVar 4)) (cAtt att0 "slant" (cVar 5))) (c2 (cmpOwn S0 "__lt__" (tupT .lt (cmpI fun i j => decide (i < j)))) (cVar 5) (cVar 4)))) (c2 (neIG S0 (neOwn S0 neG)) (cMeth att0 "holds" (cVar 4) (aCons (cVar 5) aNil)) (c2 (eqIG S0 (cmpOwn S0 "__eq__" eqG)) (cVar 1) (cVar 2)))) (sRet (cCon (.bl false))) sSkip (L (n + 9)) E2 st = .ok .nx E2 st := by
    have g : (cAnd (cTru S0 (cVar 3)) (cOr (c2 (cmpOwn S0 "__gt__" (tupT .gt (cmpI fun i j => decide (j < i)))) (cAtt att0 "slant" (cVar 4)) (cAtt att0 "slant" (cVar 5))) (c2 (cmpOwn S0 "__lt__" (tupT .lt (cmpI fun i j => decide (i < j)))) (cVar 5) (cVar 4)))) (L (n + 9)) E2 st = .ok (.d (.bl false)) st := by
      cases ht : topI l m with
      | false =>
        rw [ht] at x3
        simp only [cAnd_eq, cTru_eq, x3, bind_ok, truG_bl]
      | true =>
        rw [ht] at x3 c4
        simp only [Bool.true_and, Bool.or_eq_false_iff, decide_eq_false_iff_not] at c4
        simp only [cAnd_eq, cTru_eq, x3, bind_ok, truG_bl, cOr_eq, c2_eq, cAtt_eq, x4, x5, sl4, sl5, cmp_int, tupT_int, cmpI_int, c4.1, decide_false, lt, c4.2]
    simp only [sIf_eq, cOr_eq, g, bind_ok, c2_eq, q3, aCons_eq, aNil_eq, x1, x2, x5, hd, teq, ne_bls, decide_true, Bool.not_true, lift_ok, sSkip_eq]
  show inner1 (L (n + 9)) E0 st = .ok .nx E2 st
  unfold inner1
  rw [seq1 s1, seq1 s2, seq1 s3, s4]
theorem inner2_ok {x0 e3 e4 e5 : Option DV} (kl : okK l = true) (km : okK m = true) (h : holdsB m l = false) :
    inner2 (L (n + 9)) [x0, some (.d (T l)), some (.d (T m)), e3, e4, e5] st = .ok .nx [x0, some (.d (T l)), some (.d (T m)), e3, e4, e5] st := by
  let E0 : DEnv := [x0, some (.d (T l)), some (.d (T m)), e3, e4, e5]
  show inner2 (L (n + 9)) E0 st = .ok .nx E0 st
  have m1 : cMake 0 5 (aCons (cVar 1) aNil) (L (n + 9)) E0 st = .ok (.d (K l)) st := make_K (n := n + 4) rfl kl
  have m2 : cMake 0 5 (aCons (cVar 2) aNil) (L (n + 9)) E0 st = .ok (.d (K m)) st := make_K (n := n + 4) rfl km
  have x1 : cVar 1 (L (n + 9)) E0 st = .ok (.d (T l)) st := rfl
  have x2 : cVar 2 (L (n + 9)) E0 st = .ok (.d (T m)) st := rfl
  have q1 := meth_K (r := aCons (cMake 0 5 (aCons (cVar 2) aNil)) aNil) att_holds m1
  have q2 := meth_K (r := aCons (cMake 0 5 (aCons (cVar 1) aNil)) aNil) att_holds m2
  have h1 := s_holds (n := n + 7) (st := st) (l := l) (m := m) km
  have h2 := s_holds (n := n + 7) (st := st) (l := m) (m := l) kl
  have h3 := s_does_hold (n := n + 8) (st := st) (l := l) (m := m) (okK_len km)
  rw [holdsB_holdI] at h1
  rw [h] at h2
  simp only [inner2, sIf_eq, cOr_eq, c2_eq, q1, q2, aCons_eq, aNil_eq, m1, m2, bind_ok, h1, h2, h3, cCall_eq, x1, x2, ne_bls, decide_true, Bool.not_true, cTru_eq, truG_bl, lift_ok, sSkip_eq]
end
end PyI.Law
namespace PyI.Law
open PySem PySem.Spec PyProof.Rows L2 PyI
section
variable {n : Nat} {st : Store} {l m : List Int} {F : FTs}
/-- what the tables of kinds say, plainly -/
structure Facts : Prop where
  one : ∀ r, r ≤ 12 → ∀ l ∈ kinds (r : Nat), oneChk l = true ∧ nilChk l = true
  tops : ∀ r, r ≤ 7 → ∀ l ∈ kinds (r : Nat), ∀ m ∈ kinds (r : Nat), topsChk l m = true
  hold : ∀ r, r + 1 ≤ 7 → ∀ l ∈ kinds ((r + 1 : Nat) : Int), ∀ m ∈ kinds (r : Nat), holdsB m l = false
  join : ∀ a b, a + b ≤ 12 → ∀ l ∈ kinds (a : Nat), ∀ m ∈ kinds (b : Nat), joinChk l m = true
theorem src_lst {l : List D} : srcX itr0 st (.d (.lst l)) = some (.l l) := by simp [srcX, srcOf]
theorem tops_right_ok (f : Facts) {r : Nat} (hr : r ≤ 7) : (L (n + 10)).a 37 [.d (.int r)] st = .ok (.d (.bl true)) st := by
  have ks : ∀ st, (L (n + 9)).a 28 [.d (.int r)] st = .ok (.d (.lst ((kinds r).map T))) st := fun st => kinds_ok (n := n + 8) (by omega)
  have outer := for_rows (j := 1) (F := L (n + 9)) (st := st) (b := sSeq (sFor (iSrc itr0 (cCall 28 (aCons (cVar 0) aNil))) (gName 2) inner1) (sFor (iSrc itr0 (cIf (c2 (cmpOwn S0 "__gt__" (tupT .gt (cmpI fun i j => decide (j < i)))) (cVar 0) (cCon (.int (0)))) (cCall 28 (aCons (c2 (binOwn S0 .Sub subG) (cVar 0) (cCon (.int (1)))) aNil)) (cLst aNil))) (gName 2) inner2))
    (Q := fun env => ∃ e1 e2 e3 e4 e5, env = [some (.d (.int r)), e1, e2, e3, e4, e5]) (kinds r) (fun l hl env ⟨e1, e2, e3, e4, e5, q⟩ => by
      subst q
      obtain ⟨kl, sl, tl⟩ := kind_chk (r := r) (by omega) hl
      obtain ⟨env', a1, e2', e3', e4', e5', q1⟩ := for_rows (j := 2) (F := L (n + 9)) (st := st) (b := inner1) (Q := fun env => ∃ e2 e3 e4 e5, env = [some (.d (.int r)), some (.d (T l)), e2, e3, e4, e5]) (kinds r) (fun m hm env ⟨e2, e3, e4, e5, q⟩ => by
        subst q
        obtain ⟨km, sm, tm⟩ := kind_chk (r := r) (by omega) hm
        obtain ⟨e3', e4', e5', q⟩ := inner1_ok (n := n) (st := st) (x0 := some (.d (.int r))) (e3 := e3) (e4 := e4) (e5 := e5) kl km tl tm (by rw [sl, sm]) (f.tops r hr l hl m hm)
        exact ⟨_, q, _, _, _, _, rfl⟩) [some (.d (.int r)), some (.d (T l)), e2, e3, e4, e5] ⟨_, _, _, _, rfl⟩
      subst q1
      have b1 : sFor (iSrc itr0 (cCall 28 (aCons (cVar 0) aNil))) (gName 2) inner1 (L (n + 9)) [some (.d (.int r)), some (.d (T l)), e2, e3, e4, e5] st = .ok .nx [some (.d (.int r)), some (.d (T l)), e2', e3', e4', e5'] st := by
        unfold sFor
        simp only [iSrc_eq, cCall_eq, aCons_eq, cVar_eq, List.getElem?_cons_zero, bind_ok, aNil_eq, ks, src_lst, lift_ok, a1]
      have below : ∃ rows : List (List Int), (cIf (c2 (cmpOwn S0 "__gt__" (tupT .gt (cmpI fun i j => decide (j < i)))) (cVar 0) (cCon (.int (0)))) (cCall 28 (aCons (c2 (binOwn S0 .Sub subG) (cVar 0) (cCon (.int (1)))) aNil)) (cLst aNil)) (L (n + 9)) [some (.d (.int r)), some (.d (T l)), e2', e3', e4', e5'] st = .ok (.d (.lst (rows.map T))) st ∧ ∀ m ∈ rows, okK m = true ∧ holdsB m l = false := by
        cases r with
        | zero =>
          refine ⟨[], ?_, fun m hm => absurd hm (by simp)⟩
          simp [plainD, R.d]
        | succ k =>
          refine ⟨kinds (k : Nat), ?_, fun m hm => ⟨(kind_chk (r := k) (by omega) hm).1, f.hold k (by omega) l hl m hm⟩⟩
          have ks' := kinds_ok (n := n + 8) (r := k) (st := st) (by omega)
          simp only [cIf_eq, c2_eq, cVar_eq, cCon_eq, List.getElem?_cons_zero, bind_ok, cmp_int, tupT_int, cmpI_int, show (0 : Int) < ((k + 1 : Nat) : Int) by omega, decide_true, cCall_eq, aCons_eq, bin_int, sub_int, show ((k + 1 : Nat) : Int) - 1 = (k : Nat) by omega, aNil_eq, ks']
      obtain ⟨rows, r1, r2⟩ := below
      obtain ⟨env'', a2, e2'', e3'', e4'', e5'', q2⟩ := for_rows (j := 2) (F := L (n + 9)) (st := st) (b := inner2) (Q := fun env => ∃ e2 e3 e4 e5, env = [some (.d (.int r)), some (.d (T l)), e2, e3, e4, e5]) rows (fun m hm env ⟨e2, e3, e4, e5, q⟩ => by
        subst q
        exact ⟨_, inner2_ok (n := n) (st := st) (x0 := some (.d (.int r))) (e3 := e3) (e4 := e4) (e5 := e5) kl (r2 m hm).1 (r2 m hm).2, _, _, _, _, rfl⟩) [some (.d (.int r)), some (.d (T l)), e2', e3', e4', e5'] ⟨_, _, _, _, rfl⟩
      subst q2
      refine ⟨[some (.d (.int r)), some (.d (T l)), e2'', e3'', e4'', e5''], ?_, _, _, _, _, _, rfl⟩
      show sSeq _ _ (L (n + 9)) [some (.d (.int r)), some (.d (T l)), e2, e3, e4, e5] st = _
      rw [seq1 b1]
      unfold sFor
      simp only [iSrc_eq, r1, bind_ok, src_lst, lift_ok]
      exact a2) [some (.d (.int r)), none, none, none, none, none] ⟨_, _, _, _, _, rfl⟩
  obtain ⟨env', o1, e1, e2, e3, e4, e5, rfl⟩ := outer
  refine run_d0 rfl rfl (env := [some (.d (.int r)), e1, e2, e3, e4, e5]) ?_
  show B_law_are_tops_right (L (n + 9)) [some (.d (.int r)), none, none, none, none, none] st = _
  unfold B_law_are_tops_right
  have s : sFor (iSrc itr0 (cCall 28 (aCons (cVar 0) aNil))) (gName 1) (sSeq (sFor (iSrc itr0 (cCall 28 (aCons (cVar 0) aNil))) (gName 2) inner1) (sFor (iSrc itr0 (cIf (c2 (cmpOwn S0 "__gt__" (tupT .gt (cmpI fun i j => decide (j < i)))) (cVar 0) (cCon (.int (0)))) (cCall 28 (aCons (c2 (binOwn S0 .Sub subG) (cVar 0) (cCon (.int (1)))) aNil)) (cLst aNil))) (gName 2) inner2)) (L (n + 9)) [some (.d (.int r)), none, none, none, none, none] st = .ok .nx [some (.d (.int r)), e1, e2, e3, e4, e5] st := by
    rw [show sFor (iSrc itr0 (cCall 28 (aCons (cVar 0) aNil))) (gName 1) (sSeq (sFor (iSrc itr0 (cCall 28 (aCons (cVar 0) aNil))) (gName 2) inner1) (sFor (iSrc itr0 (cIf (c2 (cmpOwn S0 "__gt__" (tupT .gt (cmpI fun i j => decide (j < i)))) (cVar 0) (cCon (.int (0)))) (cCall 28 (aCons (c2 (binOwn S0 .Sub subG) (cVar 0) (cCon (.int (1)))) aNil)) (cLst aNil))) (gName 2) inner2)) (L (n + 9)) [some (.d (.int r)), none, none, none, none, none] st = liftE (iSrc itr0 (cCall 28 (aCons (cVar 0) aNil)) (L (n + 9)) [some (.d (.int r)), none, none, none, none, none] st) [some (.d (.int r)), none, none, none, none, none] (fun s st => match s with
        | .l l => forL (gName 1) (sSeq (sFor (iSrc itr0 (cCall 28 (aCons (cVar 0) aNil))) (gName 2) inner1) (sFor (iSrc itr0 (cIf (c2 (cmpOwn S0 "__gt__" (tupT .gt (cmpI fun i j => decide (j < i)))) (cVar 0) (cCon (.int (0)))) (cCall 28 (aCons (c2 (binOwn S0 .Sub subG) (cVar 0) (cCon (.int (1)))) aNil)) (cLst aNil))) (gName 2) inner2)) l (L (n + 9)) [some (.d (.int r)), none, none, none, none, none] st
        | .p m => forP m (gName 1) (sSeq (sFor (iSrc itr0 (cCall 28 (aCons (cVar 0) aNil))) (gName 2) inner1) (sFor (iSrc itr0 (cIf (c2 (cmpOwn S0 "__gt__" (tupT .gt (cmpI fun i j => decide (j < i)))) (cVar 0) (cCon (.int (0)))) (cCall 28 (aCons (c2 (binOwn S0 .Sub subG) (cVar 0) (cCon (.int (1)))) aNil)) (cLst aNil))) (gName 2) inner2)) turns 0 (L (n + 9)) [some (.d (.int r)), none, none, none, none, none] st) from rfl]
    rw [iSrc_eq, cCall_eq, aCons_eq, cVar_eq]
    simp only [List.getElem?_cons_zero, bind_ok, aNil_eq, ks, src_lst, lift_ok, o1]
  exact (seq1 (c := sRet (cCon (.bl true))) s).trans rfl
end
end PyI.Law
namespace PyI.Law
open PySem PySem.Spec PyProof.Rows L2 PyI
section
variable {n : Nat} {st : Store} {l m : List Int} {F : FTs}
theorem mul_bl {a : Bool} : binOwn S0 .Mult mulG F (.d (.lst [.bl a])) (.d (.int 2)) st = .ok (.d (.lst [.bl a, .bl a])) st := by kernel_rfl
theorem eq_bl2 {a : Bool} : eqIG S0 (cmpOwn S0 "__eq__" eqG) F (.d (.lst [.bl a, .bl a])) (.d (.lst [.bl a, .bl a])) st = .ok (.d (.bl true)) st := by cases a <;> kernel_rfl
theorem one_facts {l : List Int} (h : oneChk l = true) : okK l = true ∧ okK (turn l) = true ∧ turn (turn l) = l := by
  simp only [oneChk, Bool.and_eq_true, decide_eq_true_iff] at h
  exact ⟨h.1, h.2.1, h.2.2.2.1⟩
theorem right_ok (f : Facts) {p k : Nat} {S : Store} (hS : Dst p S (k + 6)) : ∃ S', (L (n + 13)).a 38 [.loc p] S = .ok (.d (.bl true)) S' ∧ Dst p S' k ∧ But p S S' := by
  obtain ⟨l, r, S1, e1, hr, hl, D1, B1⟩ := kind_ok (n := n + 9) (Z := []) (most := 12) (by omega) hS
  obtain ⟨kl, sl, tl⟩ := kind_chk (r := r) (by omega) hl
  obtain ⟨m, r2, S2, e2, hr2, hm, D2, B2⟩ := kind_ok (n := n + 9) (Z := []) (most := 12 - r) (by omega) (D1.less (m' := k + 4) (by omega))
  obtain ⟨km, sm, tm⟩ := kind_chk (r := r2) (by omega) hm
  obtain ⟨t, r3, S3, e3, hr3, ht, D3, B3⟩ := kind_ok (n := n + 9) (Z := []) (most := 12) (by omega) (D2.less (m' := k + 2) (by omega))
  obtain ⟨kt, st', tt⟩ := kind_chk (r := r3) (by omega) ht
  simp only [List.append_nil] at e1 e2 e3
  obtain ⟨ol, nl⟩ := f.one r (by omega) l hl
  obtain ⟨ot, _⟩ := f.one r3 (by omega) t ht
  have j := join_ok (n := n) (st := S3) kl km tl tm nl (by rw [sl, sm]; omega) (f.join r r2 (by omega) l hl m hm)
  have o1 := one_ok (n := n + 2) (st := S3) ol
  have o2 := one_ok (n := n + 2) (st := S3) ot
  have h1 := s_holds (n := n + 10) (st := S3) (l := l) (m := t) kt
  have h2 := s_holds (n := n + 10) (st := S3) (l := turn l) (m := turn t) tt
  rw [holdsB_holdI] at h1
  rw [holds_turned (okK_max kl).1 (okK_max tl).1 (one_facts ol).2.2 (one_facts ot).2.2] at h2
  have dh := s_does_hold (n := n + 11) (st := S3) (l := l) (m := t) (okK_len kt)
  let E : DEnv := [some (.loc p), some (.d (T l)), none, some (.d (T m)), some (.d (T t))]
  let E' : DEnv := [some (.loc p), some (.d (T l)), some (.d (.lst [.bl (holdI l t), .bl (holdI l t)])), some (.d (T m)), some (.d (T t))]
  refine ⟨S3, ?_, D3.less (by omega), (B1.trans B2).trans B3⟩
  refine run_d (st' := S3) (ex := []) rfl rfl (env := E') ?_ ((B1.trans B2).trans B3).1
  rw [List.append_nil]
  show B_law_right (L (n + 12)) [some (.loc p), none, none, none, none] S = _
  have s1 : sSet 1 (cCall 29 (aCons (cVar 0) (aCons (cCon (.int (12))) aNil))) (L (n + 12)) [some (.loc p), none, none, none, none] S = .ok .nx [some (.loc p), some (.d (T l)), none, none, none] S1 := by
    have e1' : (L (n + 12)).a 29 [.loc p, .d (.int 12)] S = .ok (.d (T l)) S1 := e1
    simp only [sSet_eq, cCall_eq, aCons_eq, cVar_eq, cCon_eq, List.getElem?_cons_zero, bind_ok, aNil_eq, e1', lift_ok, List.set_cons_succ, List.set_cons_zero]
  have s2 : sPar 3 4 (aCons (cCall 29 (aCons (cVar 0) (aCons (c2 (binOwn S0 .Sub subG) (cCon (.int (12))) (cB sumTG (aCons (cVar 1) aNil))) aNil))) (aCons (cCall 29 (aCons (cVar 0) (aCons (cCon (.int (12))) aNil))) aNil)) (L (n + 12)) [some (.loc p), some (.d (T l)), none, none, none] S1 = .ok .nx E S3 := by
    have e2' : (L (n + 12)).a 29 [.loc p, .d (.int (12 - l.sum))] S1 = .ok (.d (T m)) S2 := by
      rw [sl, show (12 : Int) - (r : Nat) = ((12 - r : Nat) : Int) by omega]; exact e2
    have e3' : (L (n + 12)).a 29 [.loc p, .d (.int 12)] S2 = .ok (.d (T t)) S3 := e3
    have sm1 := sum_tints (F := L (n + 12)) (st := S1) (l := l)
    simp only [sPar_eq, cCall_eq, aCons_eq, cVar_eq, cCon_eq, c2_eq, cB_eq, List.getElem?_cons_zero, List.getElem?_cons_succ, bind_ok, aNil_eq, sm1, bin_int, sub_int, e2', e3', lift_ok, List.set_cons_succ, List.set_cons_zero]
    rfl
  have x1 : ∀ st, cVar 1 (L (n + 12)) E st = .ok (.d (T l)) st := fun _ => rfl
  have x3 : ∀ st, cVar 3 (L (n + 12)) E st = .ok (.d (T m)) st := fun _ => rfl
  have x4 : ∀ st, cVar 4 (L (n + 12)) E st = .ok (.d (T t)) st := fun _ => rfl
  have s3 : sIf (cOr (cNot (cTru S0 (cCall 35 (aCons (cVar 1) (aCons (cVar 3) aNil))))) (cOr (cNot (cTru S0 (cCall 36 (aCons (cVar 1) aNil)))) (cNot (cTru S0 (cCall 36 (aCons (cVar 4) aNil)))))) (sRet (cCon (.bl false))) sSkip (L (n + 12)) E S3 = .ok .nx E S3 := by
    simp only [sIf_eq, cOr_eq, cNot_eq, cTru_eq, cCall_eq, aCons_eq, x1, x3, x4, bind_ok, aNil_eq, j, o1, o2, truG_bl, Bool.not_true, lift_ok, sSkip_eq]
  have m1 : cMake 0 5 (aCons (cVar 1) aNil) (L (n + 12)) E S3 = .ok (.d (K l)) S3 := make_K (n := n + 7) (x1 S3) kl
  have m4 : cMake 0 5 (aCons (cVar 4) aNil) (L (n + 12)) E S3 = .ok (.d (K t)) S3 := make_K (n := n + 7) (x4 S3) kt
  have tnl : attG att0 "turned" (L (n + 12)) (.d (K l)) S3 = .ok (.d (K (turn l))) S3 := at_turned (n := n + 5) kl tl
  have tnt : attG att0 "turned" (L (n + 12)) (.d (K t)) S3 = .ok (.d (K (turn t))) S3 := at_turned (n := n + 5) kt tt
  have y1 : cAtt att0 "turned" (cMake 0 5 (aCons (cVar 1) aNil)) (L (n + 12)) E S3 = .ok (.d (K (turn l))) S3 := by rw [cAtt_eq, m1, bind_ok, tnl]
  have q1 := meth_K (r := aCons (cMake 0 5 (aCons (cVar 4) aNil)) aNil) att_holds m1
  have q2 := meth_K (r := aCons (cAtt att0 "turned" (cMake 0 5 (aCons (cVar 4) aNil))) aNil) att_holds y1
  have s4 : sSet 2 (cLst (aCons (cMeth att0 "holds" (cMake 0 5 (aCons (cVar 1) aNil)) (aCons (cMake 0 5 (aCons (cVar 4) aNil)) aNil)) (aCons (cMeth att0 "holds" (cAtt att0 "turned" (cMake 0 5 (aCons (cVar 1) aNil))) (aCons (cAtt att0 "turned" (cMake 0 5 (aCons (cVar 4) aNil))) aNil)) aNil))) (L (n + 12)) E S3 = .ok .nx E' S3 := by
    simp only [sSet_eq, cLst_eq, aCons_eq, q1, q2, cAtt_eq, m4, bind_ok, aNil_eq, tnt, h1, h2, plainD, Option.map_some, List.length_cons, List.length_nil, show 0 + 1 + 1 ≤ line by decide, if_true, R.d, lift_ok]
    rfl
  have z1 : cVar 1 (L (n + 12)) E' S3 = .ok (.d (T l)) S3 := rfl
  have z2 : cVar 2 (L (n + 12)) E' S3 = .ok (.d (.lst [.bl (holdI l t), .bl (holdI l t)])) S3 := rfl
  have z4 : cVar 4 (L (n + 12)) E' S3 = .ok (.d (T t)) S3 := rfl
  unfold B_law_right
  rw [seq1 s1, seq1 s2, seq1 s3, seq1 s4]
  simp only [sRet_eq, c2_eq, z2, bind_ok, cLst_eq, cCall_eq, aCons_eq, z1, z4, aNil_eq, dh, plainD, Option.map_some, List.length_cons, List.length_nil, show 0 + 1 ≤ line by decide, if_true, R.d, cCon_eq, mul_bl, eq_bl2, lift_ok]
theorem lim_x (h : 12 < l.sum + m.sum) {i : Nat} (hi : i < 2) : (L (n + 8)).a 39 [.d (K l), .d (K m), .d (.int i)] st = .ok (.d (.int 12)) st := by
  refine run_d0 rfl rfl (env := [some (.d (K l)), some (.d (K m)), some (.d (.int i)), none]) ?_
  show B_law_limit (L (n + 7)) [some (.d (K l)), some (.d (K m)), some (.d (.int i)), none] st = _
  let E : DEnv := [some (.d (K l)), some (.d (K m)), some (.d (.int i)), none]
  have x0 : cVar 0 (L (n + 7)) E st = .ok (.d (K l)) st := rfl
  have x1 : cVar 1 (L (n + 7)) E st = .ok (.d (K m)) st := rfl
  have x2 : cVar 2 (L (n + 7)) E st = .ok (.d (.int i)) st := rfl
  have y1 : T0.exm 3 (.own 3) = some true := by kernel_rfl
  have y2 : T0.exn 3 = some true ∧ T0.xf 3 = "limit" := ⟨by kernel_rfl, by kernel_rfl⟩
  have y3 : xFld T0 "limit" 3 (some (.int 12)) = some (.int 12) := by
    unfold xFld
    simp only [y2, and_self, if_true]
  have ad := add_K_x (n := n + 5) (st := st) h
  have ov := s_over_x (n := n + 5) (st := st) h
  have q := meth_K (r := aCons (cVar 1) aNil) att_over x0
  have b : sRet (c2 (binOwn S0 .Mult mulG) (cAtt att0 "size" (cIf (c2 (eqIG S0 (cmpOwn S0 "__eq__" eqG)) (cVar 2) (cCon (.int (0)))) (c2 (binOwn S0 .Add addG) (cVar 0) (cVar 1)) (cMeth att0 "over" (cVar 0) (aCons (cVar 1) aNil)))) (cCon (.int (0)))) (L (n + 7)) E st = .ex 3 (some (.int 12)) E st := by
    by_cases c : (i : Int) = 0
    · simp only [sRet_eq, c2_eq, cAtt_eq, cIf_eq, x0, x1, x2, bind_ok, cCon_eq, eqIG_int, cmp_int, eq_int', c, decide_true, ad, bind_ex, lift_ex]
    · simp only [sRet_eq, c2_eq, cAtt_eq, cIf_eq, x0, x1, x2, bind_ok, cCon_eq, eqIG_int, cmp_int, eq_int', c, decide_false, q, aCons_eq, aNil_eq, ov, bind_ex, lift_ex]
  show B_law_limit (L (n + 7)) E st = _
  unfold B_law_limit sTry
  simp only [b, y1, y3]
  rfl
theorem lim_0 (hl : l.length ≤ 12) (hm : m.length ≤ 12) (h : l.sum + m.sum ≤ 12) (ka : okK (addI l m) = true) (ko : okK (overI l m) = true) (ma : mulI (addI l m).sum 0 = true) (mo : mulI (overI l m).sum 0 = true) {i : Nat} (hi : i < 2) : (L (n + 8)).a 39 [.d (K l), .d (K m), .d (.int i)] st = .ok (.d (.int 0)) st := by
  refine run_d0 rfl rfl (env := [some (.d (K l)), some (.d (K m)), some (.d (.int i)), none]) ?_
  let E : DEnv := [some (.d (K l)), some (.d (K m)), some (.d (.int i)), none]
  have x0 : cVar 0 (L (n + 7)) E st = .ok (.d (K l)) st := rfl
  have x1 : cVar 1 (L (n + 7)) E st = .ok (.d (K m)) st := rfl
  have x2 : cVar 2 (L (n + 7)) E st = .ok (.d (.int i)) st := rfl
  have ad := add_K (n := n + 1) (st := st) hl hm h ka
  have ov := s_over (n := n + 1) (st := st) hl hm h ko
  have q := meth_K (r := aCons (cVar 1) aNil) att_over x0
  have s1 := at_size (n := n + 5) (st := st) (l := addI l m)
  have s2 := at_size (n := n + 5) (st := st) (l := overI l m)
  have b : sRet (c2 (binOwn S0 .Mult mulG) (cAtt att0 "size" (cIf (c2 (eqIG S0 (cmpOwn S0 "__eq__" eqG)) (cVar 2) (cCon (.int (0)))) (c2 (binOwn S0 .Add addG) (cVar 0) (cVar 1)) (cMeth att0 "over" (cVar 0) (aCons (cVar 1) aNil)))) (cCon (.int (0)))) (L (n + 7)) E st = .ok (.rt (.d (.int 0))) E st := by
    by_cases c : (i : Int) = 0
    · simp only [sRet_eq, c2_eq, cAtt_eq, cIf_eq, x0, x1, x2, bind_ok, cCon_eq, eqIG_int, cmp_int, eq_int', c, decide_true, ad, s1, bin_int, mulG, ma, if_true, Int.mul_zero, R.d, lift_ok]
    · simp only [sRet_eq, c2_eq, cAtt_eq, cIf_eq, x0, x1, x2, bind_ok, cCon_eq, eqIG_int, cmp_int, eq_int', c, decide_false, q, aCons_eq, aNil_eq, ov, s2, bin_int, mulG, mo, if_true, Int.mul_zero, R.d, lift_ok]
  show B_law_limit (L (n + 7)) E st = _
  unfold B_law_limit sTry
  simp only [b]
  rfl
end
end PyI.Law
namespace PyI.Law
open PySem PySem.Spec PyProof.Rows L2 PyI
section
variable {n : Nat} {F : FTs}
def turnB : SF := sIf (cNot (cTru S0 (cCall 38 (aCons (cVar 3) aNil)))) (sRet (cCon (.bl false))) sSkip
def spotB : SF := sSeq (sSet 3 (cCall 25 (aCons (cVar 0) (aCons (cVar 1) aNil)))) (sSeq (sFor (iRng rng1 (aCons (cCon (.int (4))) aNil)) (gName 4) turnB) (sIf (cNot (cTru S0 (cCall 37 (aCons (cCall 26 (aCons (cVar 3) (aCons (cCon (.int (8))) aNil))) aNil)))) (sRet (cCon (.bl false))) sSkip))
theorem turns_ok (f : Facts) {p : Nat} {S : Store} {x0 x1 x2 x4 x5 : Option DV} (hS : Dst p S 1000000000) : ∃ e4 S', sFor (iRng rng1 (aCons (cCon (.int (4))) aNil)) (gName 4) turnB (L (n + 13)) [x0, x1, x2, some (.loc p), x4, x5] S = .ok .nx [x0, x1, x2, some (.loc p), e4, x5] S' ∧ Dst p S' 999999000 := by
  obtain ⟨env1, S1, e1, _, D1, e4, rfl⟩ := forL_inv (g := gName 4) (b := turnB) (F := L (n + 13)) (l := upTo 0 1 4) (k := 0)
    (Q := fun k env st => k ≤ 4 ∧ Dst p st (1000000000 - 6 * k) ∧ ∃ e4, env = [x0, x1, x2, some (.loc p), e4, x5]) (env := [x0, x1, x2, some (.loc p), x4, x5]) (st := S)
    (fun i d env st hd ⟨q1, q2, e4, q3⟩ => by
      subst q3
      obtain ⟨rfl, hi⟩ := upTo_at hd
      obtain ⟨S', g1, g2, g3⟩ := right_ok (n := n) f (k := 1000000000 - 6 * (i + 1)) (q2.less (by omega))
      refine ⟨[x0, x1, x2, some (.loc p), some (.d (.int i)), x5], S', ?_, by omega, g2.less (by omega), _, rfl⟩
      simp only [Int.zero_add, gName_eq, only_nx, seq_nx, List.set_cons_succ, List.set_cons_zero, turnB, sIf_eq, cNot_eq, cTru_eq, cCall_eq, aCons_eq, aNil_eq, cVar_eq, List.getElem?_cons_succ, List.getElem?_cons_zero, bind_ok, g1, truG_bl, Bool.not_true, lift_ok, sSkip_eq])
    ⟨by omega, hS.less (by omega), _, rfl⟩
  refine ⟨e4, S1, ?_, D1.less (by simp [upTo])⟩
  unfold sFor
  have sm : smallI 4 = true := by decide
  simp only [iRng_eq, aCons_eq, aNil_eq, cCon_eq, bind_ok, rng1, sm, if_true, lift_ok]
  exact e1
theorem spot_ok (f : Facts) {ns : List Int} {i : Nat} {st : Store} {x2 x3 x4 x5 : Option DV} (hi : i < 1000) : ∃ e3 e4 S', spotB (L (n + 13)) [some (.d (.scr (ns.map .int))), some (.d (.int i)), x2, x3, x4, x5] st = .ok .nx [some (.d (.scr (ns.map .int))), some (.d (.int i)), x2, e3, e4, x5] S' := by
  obtain ⟨o, f1, f2⟩ := diceL (n + 12) ns i st hi
  obtain ⟨e4, S1, g1, D1⟩ := turns_ok (n := n) f (x0 := some (.d (.scr (ns.map .int)))) (x1 := some (.d (.int i))) (x2 := x2) (x4 := x4) (x5 := x5) f2
  obtain ⟨r, S2, h1, r0, r1, D2, B2⟩ := rollL (n + 12) st.length 999998999 8 S1 [] D1 (by decide) (by decide +kernel)
  simp only [List.append_nil] at h1
  obtain ⟨k, rfl⟩ : ∃ k : Nat, r = k := ⟨r.toNat, by omega⟩
  have t := tops_right_ok (n := n + 3) (st := S2) f (r := k) (by omega)
  refine ⟨some (.loc st.length), e4, S2, ?_⟩
  have s1 : sSet 3 (cCall 25 (aCons (cVar 0) (aCons (cVar 1) aNil))) (L (n + 13)) [some (.d (.scr (ns.map .int))), some (.d (.int i)), x2, x3, x4, x5] st = .ok .nx [some (.d (.scr (ns.map .int))), some (.d (.int i)), x2, some (.loc st.length), x4, x5] (st ++ [o]) := by
    simp only [sSet_eq, cCall_eq, aCons_eq, aNil_eq, cVar_eq, List.getElem?_cons_succ, List.getElem?_cons_zero, bind_ok, f1, lift_ok, List.set_cons_succ, List.set_cons_zero]
  unfold spotB
  rw [seq1 s1, seq1 g1]
  simp only [sIf_eq, cNot_eq, cTru_eq, cCall_eq, aCons_eq, aNil_eq, cVar_eq, cCon_eq, List.getElem?_cons_succ, List.getElem?_cons_zero, bind_ok, h1, t, truG_bl, Bool.not_true, lift_ok, sSkip_eq]
theorem law_ok (f : Facts) (ns : List Int) (hn : ns.length ≤ 63) : ∃ st, (L (n + 14)).a 40 [.d (.scr (ns.map .int))] [] = .ok (.d (.bl true)) st := by
  obtain ⟨k, hk⟩ : ∃ k : Nat, (max 1 (min 3 (ns.length : Int))) = k := ⟨(max 1 (min 3 (ns.length : Int))).toNat, by omega⟩
  have k3 : k ≤ 3 := by omega
  have sm : smallI (k : Int) = true := by
    unfold smallI
    rw [Bool.and_eq_true, decide_eq_true_iff, decide_eq_true_iff]
    omega
  obtain ⟨env1, st1, e1, _, y1, y2, y3, y4, y5, rfl⟩ := forL_inv (g := gName 1) (b := spotB) (F := L (n + 13)) (l := upTo 0 1 k) (k := 0)
    (Q := fun i env st => i ≤ 3 ∧ ∃ e1 e2 e3 e4 e5, env = [some (.d (.scr (ns.map .int))), e1, e2, e3, e4, e5]) (env := [some (.d (.scr (ns.map .int))), none, none, none, none, none]) (st := [])
    (fun i d env st hd ⟨q1, e1, e2, e3, e4, e5, q2⟩ => by
      subst q2
      obtain ⟨rfl, hi⟩ := upTo_at hd
      obtain ⟨e3', e4', S', g⟩ := spot_ok (n := n) f (ns := ns) (i := i) (st := st) (x2 := e2) (x3 := e3) (x4 := e4) (x5 := e5) (by omega)
      refine ⟨[some (.d (.scr (ns.map .int))), some (.d (.int i)), e2, e3', e4', e5], S', ?_, by omega, _, _, _, _, _, rfl⟩
      simp only [Int.zero_add, gName_eq, only_nx, seq_nx, List.set_cons_succ, List.set_cons_zero, g])
    ⟨by omega, _, _, _, _, _, rfl⟩
  let E : DEnv := [some (.d (.scr (ns.map .int))), y1, y2, y3, y4, y5]
  let E' : DEnv := [some (.d (.scr (ns.map .int))), y1, some (.d (.lst [.int 12, .int 12, .int 0, .int 0])), y3, y4, y5]
  have s1 : sFor (iRng rng1 (aCons (cB (mxTG true maxG) (aCons (cCon (.int (1))) (aCons (cB (mxTG false minG) (aCons (cCon (.int (3))) (aCons (cB (lenOwn S0) (aCons (cVar 0) aNil)) aNil))) aNil))) aNil)) (gName 1) spotB (L (n + 13)) [some (.d (.scr (ns.map .int))), none, none, none, none, none] [] = .ok .nx E st1 := by
    unfold sFor
    simp only [iRng_eq, aCons_eq, aNil_eq, cB_eq, cCon_eq, cVar_eq, List.getElem?_cons_zero, bind_ok, len_scr, List.length_map, mxT_min, mxT_max, min_int, max_int, hk, rng1, sm, if_true, lift_ok, Int.toNat_natCast, e1]
    rfl
  have mk : ∀ (a b : Int) (i : Nat) (st : Store), okK [a, b] = true → cMake 0 5 (aCons (cTup (aCons (cCon (.int a)) (aCons (cCon (.int b)) aNil))) aNil) (L (n + 13)) ((wipeD E [5]).set 5 (some (.d (.int i)))) st = .ok (.d (K [a, b])) st := fun a b i st h =>
    make_K (n := n + 8) (l := [a, b]) (by
      simp only [cTup_eq, aCons_eq, aNil_eq, cCon_eq, bind_ok, plainD, Option.map_some, List.length_cons, List.length_nil, show 0 + 1 + 1 ≤ line by decide, if_true, R.d]
      rfl) h
  have x5 : ∀ (i : Nat) st, cVar 5 (L (n + 13)) ((wipeD E [5]).set 5 (some (.d (.int i)))) st = .ok (.d (.int i)) st := fun _ _ => rfl
  have two : iRng rng1 (aCons (cCon (.int (2))) aNil) (L (n + 13)) E st1 = .ok (.l ((List.range 2).map fun i : Nat => .int i)) st1 := by
    rw [← upTo0_map]; rfl
  have w1 : cLc false [5] (iRng rng1 (aCons (cCon (.int (2))) aNil)) (wName 5) (cCon (.bl true)) (cCall 39 (aCons (cMake 0 5 (aCons (cTup (aCons (cCon (.int (6))) (aCons (cCon (.int (2))) aNil))) aNil)) (aCons (cMake 0 5 (aCons (cTup (aCons (cCon (.int (3))) (aCons (cCon (.int (2))) aNil))) aNil)) (aCons (cVar 5) aNil)))) (L (n + 13)) E st1 = .ok (.d (.lst ((List.range 2).map fun _ => .int 12))) st1 :=
    cLcM (fun i : Nat => .int i) _ two (fun i hi => ⟨_, rfl, fun acc => by
      have lx := lim_x (n := n + 5) (st := st1 ++ [.lst acc]) (l := [6, 2]) (m := [3, 2]) (by decide) (List.mem_range.mp hi)
      simp only [cCall_eq, aCons_eq, mk 6 2 i _ (by decide), mk 3 2 i _ (by decide), x5, bind_ok, aNil_eq, lx]⟩) (by decide)
  have w2 : cLc false [5] (iRng rng1 (aCons (cCon (.int (2))) aNil)) (wName 5) (cCon (.bl true)) (cCall 39 (aCons (cMake 0 5 (aCons (cTup (aCons (cCon (.int (6))) (aCons (cCon (.int (2))) aNil))) aNil)) (aCons (cMake 0 5 (aCons (cTup (aCons (cCon (.int (3))) (aCons (cCon (.int (1))) aNil))) aNil)) (aCons (cVar 5) aNil)))) (L (n + 13)) E st1 = .ok (.d (.lst ((List.range 2).map fun _ => .int 0))) st1 :=
    cLcM (fun i : Nat => .int i) _ two (fun i hi => ⟨_, rfl, fun acc => by
      have lx := lim_0 (n := n + 5) (st := st1 ++ [.lst acc]) (l := [6, 2]) (m := [3, 1]) (by decide) (by decide) (by decide) (by decide) (by decide) (by decide +kernel) (by decide +kernel) (List.mem_range.mp hi)
      simp only [cCall_eq, aCons_eq, mk 6 2 i _ (by decide), mk 3 1 i _ (by decide), x5, bind_ok, aNil_eq, lx]⟩) (by decide)
  have ad : binOwn S0 .Add addG (L (n + 13)) (.d (.lst ((List.range 2).map fun _ => .int 12))) (.d (.lst ((List.range 2).map fun _ => .int 0))) st1 = .ok (.d (.lst [.int 12, .int 12, .int 0, .int 0])) st1 := by kernel_rfl
  have s2 : sSet 2 (c2 (binOwn S0 .Add addG) (cLc false [5] (iRng rng1 (aCons (cCon (.int (2))) aNil)) (wName 5) (cCon (.bl true)) (cCall 39 (aCons (cMake 0 5 (aCons (cTup (aCons (cCon (.int (6))) (aCons (cCon (.int (2))) aNil))) aNil)) (aCons (cMake 0 5 (aCons (cTup (aCons (cCon (.int (3))) (aCons (cCon (.int (2))) aNil))) aNil)) (aCons (cVar 5) aNil))))) (cLc false [5] (iRng rng1 (aCons (cCon (.int (2))) aNil)) (wName 5) (cCon (.bl true)) (cCall 39 (aCons (cMake 0 5 (aCons (cTup (aCons (cCon (.int (6))) (aCons (cCon (.int (2))) aNil))) aNil)) (aCons (cMake 0 5 (aCons (cTup (aCons (cCon (.int (3))) (aCons (cCon (.int (1))) aNil))) aNil)) (aCons (cVar 5) aNil)))))) (L (n + 13)) E st1 = .ok .nx E' st1 := by
    rw [sSet_eq, c2_eq, w1, bind_ok, w2, bind_ok, ad, lift_ok]
    rfl
  have eq4 : eqIG S0 (cmpOwn S0 "__eq__" eqG) (L (n + 13)) (.d (.lst [.int 12, .int 12, .int 0, .int 0])) (.d (.lst [.int 12, .int 12, .int 0, .int 0])) st1 = .ok (.d (.bl true)) st1 := by
    have := leq (s := S0) (F := L (n + 13)) (st := st1) (l := [12, 12, 0, 0]) (m := [12, 12, 0, 0])
    rw [decide_eq_true rfl] at this
    exact this
  have body : B_law (L (n + 13)) [some (.d (.scr (ns.map .int))), none, none, none, none, none] [] = .ok (.rt (.d (.bl true))) E' st1 := by
    have z2 : cVar 2 (L (n + 13)) E' st1 = .ok (.d (.lst [.int 12, .int 12, .int 0, .int 0])) st1 := rfl
    unfold B_law
    refine (seq1 s1).trans ?_
    rw [seq1 s2]
    simp only [sRet_eq, c2_eq, z2, bind_ok, cLst_eq, aCons_eq, aNil_eq, cCon_eq, plainD, Option.map_some, List.length_cons, List.length_nil, show 0 + 1 + 1 + 1 + 1 ≤ line by decide, if_true, R.d, eq4, lift_ok]
  refine ⟨[], ?_⟩
  exact run_d (st' := []) (ex := st1) rfl rfl (env := E') (by rw [List.nil_append]; exact body) rfl
end
end PyI.Law
namespace PyI.Law
open PySem PySem.Spec PyProof.Rows L2 PyI
def onesOk (r : Nat) : Bool := (kinds r).all fun l => oneChk l && nilChk l
def topsOk (r : Nat) : Bool := (kinds r).all fun l => (kinds r).all fun m => topsChk l m
def hold2Ok (r : Nat) : Bool := (kinds ((r + 1 : Nat) : Int)).all fun l => (kinds r).all fun m => !holdsB m l
theorem one_0 : onesOk 0 = true := by decide +kernel
theorem one_1 : onesOk 1 = true := by decide +kernel
theorem one_2 : onesOk 2 = true := by decide +kernel
theorem one_3 : onesOk 3 = true := by decide +kernel
theorem one_4 : onesOk 4 = true := by decide +kernel
theorem one_5 : onesOk 5 = true := by decide +kernel
theorem one_6 : onesOk 6 = true := by decide +kernel
theorem one_7 : onesOk 7 = true := by decide +kernel
theorem one_8 : onesOk 8 = true := by decide +kernel
theorem one_9 : onesOk 9 = true := by decide +kernel
theorem one_10 : onesOk 10 = true := by decide +kernel
theorem one_11 : onesOk 11 = true := by decide +kernel
theorem one_12 : onesOk 12 = true := by decide +kernel
theorem top_0 : topsOk 0 = true := by decide +kernel
theorem top_1 : topsOk 1 = true := by decide +kernel
theorem top_2 : topsOk 2 = true := by decide +kernel
theorem top_3 : topsOk 3 = true := by decide +kernel
theorem top_4 : topsOk 4 = true := by decide +kernel
theorem top_5 : topsOk 5 = true := by decide +kernel
theorem top_6 : topsOk 6 = true := by decide +kernel
theorem top_7 : topsOk 7 = true := by decide +kernel
theorem hold_0 : hold2Ok 0 = true := by decide +kernel
theorem hold_1 : hold2Ok 1 = true := by decide +kernel
theorem hold_2 : hold2Ok 2 = true := by decide +kernel
theorem hold_3 : hold2Ok 3 = true := by decide +kernel
theorem hold_4 : hold2Ok 4 = true := by decide +kernel
theorem hold_5 : hold2Ok 5 = true := by decide +kernel
theorem hold_6 : hold2Ok 6 = true := by decide +kernel
theorem j_0_0 : joinsOk 0 0 = true := by decide +kernel
theorem j_0_1 : joinsOk 0 1 = true := by decide +kernel
theorem j_0_2 : joinsOk 0 2 = true := by decide +kernel
theorem j_0_3 : joinsOk 0 3 = true := by decide +kernel
theorem j_0_4 : joinsOk 0 4 = true := by decide +kernel
theorem j_0_5 : joinsOk 0 5 = true := by decide +kernel
theorem j_0_6 : joinsOk 0 6 = true := by decide +kernel
theorem j_0_7 : joinsOk 0 7 = true := by decide +kernel
theorem j_0_8 : joinsOk 0 8 = true := by decide +kernel
theorem j_0_9 : joinsOk 0 9 = true := by decide +kernel
theorem j_0_10 : joinsOk 0 10 = true := by decide +kernel
theorem j_0_11 : joinsOk 0 11 = true := by decide +kernel
theorem j_0_12 : joinsOk 0 12 = true := by decide +kernel
theorem j_1_0 : joinsOk 1 0 = true := by decide +kernel
theorem j_1_1 : joinsOk 1 1 = true := by decide +kernel
theorem j_1_2 : joinsOk 1 2 = true := by decide +kernel
theorem j_1_3 : joinsOk 1 3 = true := by decide +kernel
theorem j_1_4 : joinsOk 1 4 = true := by decide +kernel
theorem j_1_5 : joinsOk 1 5 = true := by decide +kernel
theorem j_1_6 : joinsOk 1 6 = true := by decide +kernel
theorem j_1_7 : joinsOk 1 7 = true := by decide +kernel
theorem j_1_8 : joinsOk 1 8 = true := by decide +kernel
theorem j_1_9 : joinsOk 1 9 = true := by decide +kernel
theorem j_1_10 : joinsOk 1 10 = true := by decide +kernel
theorem j_1_11 : joinsOk 1 11 = true := by decide +kernel
theorem j_2_0 : joinsOk 2 0 = true := by decide +kernel
theorem j_2_1 : joinsOk 2 1 = true := by decide +kernel
theorem j_2_2 : joinsOk 2 2 = true := by decide +kernel
theorem j_2_3 : joinsOk 2 3 = true := by decide +kernel
theorem j_2_4 : joinsOk 2 4 = true := by decide +kernel
theorem j_2_5 : joinsOk 2 5 = true := by decide +kernel
theorem j_2_6 : joinsOk 2 6 = true := by decide +kernel
theorem j_2_7 : joinsOk 2 7 = true := by decide +kernel
theorem j_2_8 : joinsOk 2 8 = true := by decide +kernel
theorem j_2_9 : joinsOk 2 9 = true := by decide +kernel
theorem j_2_10 : joinsOk 2 10 = true := by decide +kernel
theorem j_3_0 : joinsOk 3 0 = true := by decide +kernel
theorem j_3_1 : joinsOk 3 1 = true := by decide +kernel
theorem j_3_2 : joinsOk 3 2 = true := by decide +kernel
theorem j_3_3 : joinsOk 3 3 = true := by decide +kernel
theorem j_3_4 : joinsOk 3 4 = true := by decide +kernel
theorem j_3_5 : joinsOk 3 5 = true := by decide +kernel
theorem j_3_6 : joinsOk 3 6 = true := by decide +kernel
theorem j_3_7 : joinsOk 3 7 = true := by decide +kernel
theorem j_3_8 : joinsOk 3 8 = true := by decide +kernel
theorem j_3_9 : joinsOk 3 9 = true := by decide +kernel
theorem j_4_0 : joinsOk 4 0 = true := by decide +kernel
theorem j_4_1 : joinsOk 4 1 = true := by decide +kernel
theorem j_4_2 : joinsOk 4 2 = true := by decide +kernel
theorem j_4_3 : joinsOk 4 3 = true := by decide +kernel
theorem j_4_4 : joinsOk 4 4 = true := by decide +kernel
theorem j_4_5 : joinsOk 4 5 = true := by decide +kernel
theorem j_4_6 : joinsOk 4 6 = true := by decide +kernel
theorem j_4_7 : joinsOk 4 7 = true := by decide +kernel
theorem j_4_8 : joinsOk 4 8 = true := by decide +kernel
theorem j_5_0 : joinsOk 5 0 = true := by decide +kernel
theorem j_5_1 : joinsOk 5 1 = true := by decide +kernel
theorem j_5_2 : joinsOk 5 2 = true := by decide +kernel
theorem j_5_3 : joinsOk 5 3 = true := by decide +kernel
theorem j_5_4 : joinsOk 5 4 = true := by decide +kernel
theorem j_5_5 : joinsOk 5 5 = true := by decide +kernel
theorem j_5_6 : joinsOk 5 6 = true := by decide +kernel
theorem j_5_7 : joinsOk 5 7 = true := by decide +kernel
theorem j_6_0 : joinsOk 6 0 = true := by decide +kernel
theorem j_6_1 : joinsOk 6 1 = true := by decide +kernel
theorem j_6_2 : joinsOk 6 2 = true := by decide +kernel
theorem j_6_3 : joinsOk 6 3 = true := by decide +kernel
theorem j_6_4 : joinsOk 6 4 = true := by decide +kernel
theorem j_6_5 : joinsOk 6 5 = true := by decide +kernel
theorem j_6_6 : joinsOk 6 6 = true := by decide +kernel
theorem j_7_0 : joinsOk 7 0 = true := by decide +kernel
theorem j_7_1 : joinsOk 7 1 = true := by decide +kernel
theorem j_7_2 : joinsOk 7 2 = true := by decide +kernel
theorem j_7_3 : joinsOk 7 3 = true := by decide +kernel
theorem j_7_4 : joinsOk 7 4 = true := by decide +kernel
theorem j_7_5 : joinsOk 7 5 = true := by decide +kernel
theorem j_8_0 : joinsOk 8 0 = true := by decide +kernel
theorem j_8_1 : joinsOk 8 1 = true := by decide +kernel
theorem j_8_2 : joinsOk 8 2 = true := by decide +kernel
theorem j_8_3 : joinsOk 8 3 = true := by decide +kernel
theorem j_8_4 : joinsOk 8 4 = true := by decide +kernel
theorem j_9_0 : joinsOk 9 0 = true := by decide +kernel
theorem j_9_1 : joinsOk 9 1 = true := by decide +kernel
theorem j_9_2 : joinsOk 9 2 = true := by decide +kernel
theorem j_9_3 : joinsOk 9 3 = true := by decide +kernel
theorem j_10_0 : joinsOk 10 0 = true := by decide +kernel
theorem j_10_1 : joinsOk 10 1 = true := by decide +kernel
theorem j_10_2 : joinsOk 10 2 = true := by decide +kernel
theorem j_11_0 : joinsOk 11 0 = true := by decide +kernel
theorem j_11_1 : joinsOk 11 1 = true := by decide +kernel
theorem j_12_0 : joinsOk 12 0 = true := by decide +kernel
theorem ones_all : ∀ r, r ≤ 12 → onesOk r = true
  | 0, _ => one_0
  | 1, _ => one_1
  | 2, _ => one_2
  | 3, _ => one_3
  | 4, _ => one_4
  | 5, _ => one_5
  | 6, _ => one_6
  | 7, _ => one_7
  | 8, _ => one_8
  | 9, _ => one_9
  | 10, _ => one_10
  | 11, _ => one_11
  | 12, _ => one_12
  | k + 13, h => absurd h (by omega)
theorem tops_all : ∀ r, r ≤ 7 → topsOk r = true
  | 0, _ => top_0
  | 1, _ => top_1
  | 2, _ => top_2
  | 3, _ => top_3
  | 4, _ => top_4
  | 5, _ => top_5
  | 6, _ => top_6
  | 7, _ => top_7
  | k + 8, h => absurd h (by omega)
theorem hold_all : ∀ r, r + 1 ≤ 7 → hold2Ok r = true
  | 0, _ => hold_0
  | 1, _ => hold_1
  | 2, _ => hold_2
  | 3, _ => hold_3
  | 4, _ => hold_4
  | 5, _ => hold_5
  | 6, _ => hold_6
  | k + 7, h => absurd h (by omega)
theorem ja_0 : ∀ b, 0 + b ≤ 12 → joinsOk 0 b = true
  | 0, _ => j_0_0
  | 1, _ => j_0_1
  | 2, _ => j_0_2
  | 3, _ => j_0_3
  | 4, _ => j_0_4
  | 5, _ => j_0_5
  | 6, _ => j_0_6
  | 7, _ => j_0_7
  | 8, _ => j_0_8
  | 9, _ => j_0_9
  | 10, _ => j_0_10
  | 11, _ => j_0_11
  | 12, _ => j_0_12
  | k + 13, h => absurd h (by omega)
theorem ja_1 : ∀ b, 1 + b ≤ 12 → joinsOk 1 b = true
  | 0, _ => j_1_0
  | 1, _ => j_1_1
  | 2, _ => j_1_2
  | 3, _ => j_1_3
  | 4, _ => j_1_4
  | 5, _ => j_1_5
  | 6, _ => j_1_6
  | 7, _ => j_1_7
  | 8, _ => j_1_8
  | 9, _ => j_1_9
  | 10, _ => j_1_10
  | 11, _ => j_1_11
  | k + 12, h => absurd h (by omega)
theorem ja_2 : ∀ b, 2 + b ≤ 12 → joinsOk 2 b = true
  | 0, _ => j_2_0
  | 1, _ => j_2_1
  | 2, _ => j_2_2
  | 3, _ => j_2_3
  | 4, _ => j_2_4
  | 5, _ => j_2_5
  | 6, _ => j_2_6
  | 7, _ => j_2_7
  | 8, _ => j_2_8
  | 9, _ => j_2_9
  | 10, _ => j_2_10
  | k + 11, h => absurd h (by omega)
theorem ja_3 : ∀ b, 3 + b ≤ 12 → joinsOk 3 b = true
  | 0, _ => j_3_0
  | 1, _ => j_3_1
  | 2, _ => j_3_2
  | 3, _ => j_3_3
  | 4, _ => j_3_4
  | 5, _ => j_3_5
  | 6, _ => j_3_6
  | 7, _ => j_3_7
  | 8, _ => j_3_8
  | 9, _ => j_3_9
  | k + 10, h => absurd h (by omega)
theorem ja_4 : ∀ b, 4 + b ≤ 12 → joinsOk 4 b = true
  | 0, _ => j_4_0
  | 1, _ => j_4_1
  | 2, _ => j_4_2
  | 3, _ => j_4_3
  | 4, _ => j_4_4
  | 5, _ => j_4_5
  | 6, _ => j_4_6
  | 7, _ => j_4_7
  | 8, _ => j_4_8
  | k + 9, h => absurd h (by omega)
theorem ja_5 : ∀ b, 5 + b ≤ 12 → joinsOk 5 b = true
  | 0, _ => j_5_0
  | 1, _ => j_5_1
  | 2, _ => j_5_2
  | 3, _ => j_5_3
  | 4, _ => j_5_4
  | 5, _ => j_5_5
  | 6, _ => j_5_6
  | 7, _ => j_5_7
  | k + 8, h => absurd h (by omega)
theorem ja_6 : ∀ b, 6 + b ≤ 12 → joinsOk 6 b = true
  | 0, _ => j_6_0
  | 1, _ => j_6_1
  | 2, _ => j_6_2
  | 3, _ => j_6_3
  | 4, _ => j_6_4
  | 5, _ => j_6_5
  | 6, _ => j_6_6
  | k + 7, h => absurd h (by omega)
theorem ja_7 : ∀ b, 7 + b ≤ 12 → joinsOk 7 b = true
  | 0, _ => j_7_0
  | 1, _ => j_7_1
  | 2, _ => j_7_2
  | 3, _ => j_7_3
  | 4, _ => j_7_4
  | 5, _ => j_7_5
  | k + 6, h => absurd h (by omega)
theorem ja_8 : ∀ b, 8 + b ≤ 12 → joinsOk 8 b = true
  | 0, _ => j_8_0
  | 1, _ => j_8_1
  | 2, _ => j_8_2
  | 3, _ => j_8_3
  | 4, _ => j_8_4
  | k + 5, h => absurd h (by omega)
theorem ja_9 : ∀ b, 9 + b ≤ 12 → joinsOk 9 b = true
  | 0, _ => j_9_0
  | 1, _ => j_9_1
  | 2, _ => j_9_2
  | 3, _ => j_9_3
  | k + 4, h => absurd h (by omega)
theorem ja_10 : ∀ b, 10 + b ≤ 12 → joinsOk 10 b = true
  | 0, _ => j_10_0
  | 1, _ => j_10_1
  | 2, _ => j_10_2
  | k + 3, h => absurd h (by omega)
theorem ja_11 : ∀ b, 11 + b ≤ 12 → joinsOk 11 b = true
  | 0, _ => j_11_0
  | 1, _ => j_11_1
  | k + 2, h => absurd h (by omega)
theorem ja_12 : ∀ b, 12 + b ≤ 12 → joinsOk 12 b = true
  | 0, _ => j_12_0
  | k + 1, h => absurd h (by omega)
theorem joins_all : ∀ a b, a + b ≤ 12 → joinsOk a b = true
  | 0, b, h => ja_0 b h
  | 1, b, h => ja_1 b h
  | 2, b, h => ja_2 b h
  | 3, b, h => ja_3 b h
  | 4, b, h => ja_4 b h
  | 5, b, h => ja_5 b h
  | 6, b, h => ja_6 b h
  | 7, b, h => ja_7 b h
  | 8, b, h => ja_8 b h
  | 9, b, h => ja_9 b h
  | 10, b, h => ja_10 b h
  | 11, b, h => ja_11 b h
  | 12, b, h => ja_12 b h
  | k + 13, b, h => absurd h (by omega)
theorem facts : Facts where
  one r hr l hl := by
    have := List.all_eq_true.mp (ones_all r hr) l hl
    rwa [Bool.and_eq_true] at this
  tops r hr l hl m hm := List.all_eq_true.mp (List.all_eq_true.mp (tops_all r hr) l hl) m hm
  hold r hr l hl m hm := by
    have := List.all_eq_true.mp (List.all_eq_true.mp (hold_all r hr) l hl) m hm
    rwa [Bool.not_eq_true'] at this
  join a b h l hl m hm := List.all_eq_true.mp (List.all_eq_true.mp (joins_all a b h) l hl) m hm
end PyI.Law
namespace PyI.Law
open PySem PySem.Spec PyProof.Rows L2 PyI
def depth : Nat := 20
theorem plain (K : PySem.W.Frag) (ns : List Int) (h : ns.length ≤ 63) : ∃ st, (levs (td.fds (mkTx td K)) depth).a 40 [.d (.scr (ns.map .int))] [] = .ok (.d (.bl true)) st := by
  rw [fds_eq K]
  exact law_ok (n := 6) facts ns h
end PyI.Law
open PySem PySem.W PySem.Calls PyProof.Rows
theorem PySem.Challenge.cw_primekinds_k07_whole_turned_and_joined_k_holds : PySem.Challenge.rw_primekinds_k07_whole_turned_and_joined_k.Holds := by
  w_on; o_law
  refine HandSHeadRun.head_any (r := PyI.Law.row) (q := PyI.Law.vw) (H := PyI.Law.td.hook 6) (ob := PyI.Law.ob) (M := 6000) (loose := PyI.Law.loose) (d := HandSHeadRun.topDef PyI.Law.prg 45) (kwd := []) PyI.Law.ob_eq
    (by kernel_rfl) (fun s => by kernel_rfl) PyI.Law.run (by kernel_rfl) (by kernel_rfl) (by kernel_rfl) (by rfl) (by first | assumption | decide +kernel) (by decide +kernel) ⟨rfl, rfl, rfl, rfl, rfl, by decide +kernel⟩ ?hw ?hc
  case hw => w_witness2
  case hc =>
    refine PyI.walk_lev (l := PySem.Challenge.rw_primekinds_k07_whole_turned_and_joined_k) (n := 63) (k := PyI.Law.depth) rfl (by decide) (by kernel_rfl) ⟨rfl, by decide, by decide⟩ ?_
    intro w mg fa h Y G hmg
    obtain ⟨K, KX, c⟩ := Y
    have c1 : PyI.Law.td.chk K = true := congrArg (fun z : PyI.AlT => z.1) c
    have tx := PyI.TD.ok KX G c1
    have hl := (tx.fn "law" 40 rfl).1
    have hn : (HandSHeadRun.topDef PyI.Law.prg 45).name = ("law" : PySem.Str) := by kernel_rfl
    rw [hn] at hmg
    have e := hl.symm.trans hmg
    injection e with e
    injection e with e
    exact ⟨PyI.mkTx PyI.Law.td K, PyI.Law.td.fds (PyI.mkTx PyI.Law.td K), 40, KX, e, tx, PyI.TD.facts c PyI.Law.bds, PyI.TD.itrs c PyI.Law.bds, PyI.TD.exfs KX G c PyI.Law.exsBd (fun _ => ⟨by kernel_rfl, by kernel_rfl⟩), fun ns hns => PyI.Law.plain K ns hns⟩
