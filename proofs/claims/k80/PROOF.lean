import PyProof.Rows.All
import Wide.All
import OpenK.AllK
import Wide.FinOn
import HandS.TupMul
import HandS.ForMost
import HandS.ForExc
import HandS.TupAny
import HandS.Deep
import HandS.Small
import HandS.Style
import HandS.More
import HandS.IsInst
import HandS.RaiseMore
import HandS.TupLen
import HandS.HeadWalk
import HandS.CallSlots
import HandS.Iter
import HandS.Zip
import HandS.WordsExc
import HandS.Head0
import HandS.Head1
import HandS.Head2
import HandS.HeadEnd
import HandS.HeadHook1
import HandS.HeadHook2
import HandS.HeadHook3
import HandS.Text
import PySem.Challenge.RW_cutstand_k80_deeds_written
set_option Elab.async false
set_option linter.all false
set_option maxRecDepth 100000
set_option maxHeartbeats 4000000
section
namespace L2
open PySem PySem.Spec PyProof.Rows
theorem tuple_mul1 (l : Addr) (items : Array Value) (n : Nat) (dd : Option Addr) (sl : Array (Option Value)) (u : Tok) :
    Meets (Builtin.«tuple.__mul__» ⟨[.ref l, .int 1 u], []⟩) (fun _ R s => s.heap.get? l = some { cls := .type "tuple", dict := dd, data := .seq items n, slots := sl } ∧ R (.ok (.ret (Value.ref l))) s) :=
  .of_wp fun prog w A R s h => by
    obtain ⟨hp, g, d, tk, os⟩ := s
    obtain ⟨hl, h⟩ := h
    have f1 := AutoSeq1.idx_int
    have c0 : (decide ((1 : Int) < -(2 ^ 63)) || decide ((1 : Int) ≥ 2 ^ 63)) = false := by decide
    have c1 : (items.isEmpty || (1 : Int) == 1) = true := by simp
    wp_walk using wpAny_loadPart' hl
    repeat (first
      | (refine wpAny_ite_false (decide_eq_false (by rw [c0]; exact Bool.false_ne_true)) ?_; wp_walk using wpAny_loadPart' hl)
      | (refine wpAny_ite_true (decide_eq_true c1) ?_; wp_walk using wpAny_loadPart' hl))
    exact ⟨_, rfl, h⟩
theorem tuple_mul0 (l : Addr) (items : Array Value) (n : Nat) (dd : Option Addr) (sl : Array (Option Value)) (u : Tok) (c1 : items.isEmpty = false) :
    Meets (Builtin.«tuple.__mul__» ⟨[.ref l, .int 0 u], []⟩) (fun _ R s => s.heap.get? l = some { cls := .type "tuple", dict := dd, data := .seq items n, slots := sl } ∧
      R (.ok (.ret (Value.ref s.heap.objs.size))) { s with heap := s.heap.push { cls := Value.type "tuple", data := Data.seq #[] }, toks := s.toks }) :=
  .of_wp fun prog w A R s h => by
    obtain ⟨hp, g, d, tk, os⟩ := s
    obtain ⟨hl, h⟩ := h
    have f1 := AutoSeq1.idx_int
    have c0 : (decide ((0 : Int) < -(2 ^ 63)) || decide ((0 : Int) ≥ 2 ^ 63)) = false := by decide
    have c1 : (items.isEmpty || (0 : Int) == 1) = false := by simp [c1]
    have c2 : (decide ((0 : Int) ≤ 0) || items.isEmpty) = true := by simp
    wp_walk using wpAny_loadPart' hl
    repeat (first
      | (refine wpAny_ite_false (decide_eq_false (by rw [c0]; exact Bool.false_ne_true)) ?_; wp_walk using wpAny_loadPart' hl)
      | (refine wpAny_ite_false (decide_eq_false (by rw [c1]; exact Bool.false_ne_true)) ?_; wp_walk using wpAny_loadPart' hl)
      | (refine wpAny_ite_true (decide_eq_true c2) ?_; wp_walk using wpAny_loadPart' hl))
    exact ⟨_, rfl, h⟩
section
variable {X : Cx}
def rRep01 (K : PySem.W.Frag) : R2 := fun x y H Q => ∃ l k xs, x = .ref l ∧ y = .int k ∧ SqT K H l xs ∧ xs ≠ [] ∧ ((k = 1 ∧ Q (.ref l) H) ∨ (k = 0 ∧ ∀ p, H p = none → Q (.ref p) (upd H p (.tup []))))
theorem op_rep01 : OpR X (binaryOp .Mult) (rRep01 X.K) := by
  intro pins s σ H x y v u Q I rx ry h
  obtain ⟨l, k, xs, rfl, rfl, hT, hne, hq⟩ := h
  cases rx
  obtain ⟨t, rfl⟩ := ry
  obtain ⟨its, r, ⟨⟨cls, dd, data, sl⟩, ho, hc, n, hd⟩, hs⟩ := I.tuple hT
  simp only at hc hd
  subst hc hd
  have hle : its.length = xs.length := r.length.symm
  have hn : its ≠ [] := fun e => hne (by
    rw [e] at hle
    exact List.eq_nil_of_length_eq_zero hle.symm)
  have hi : its.toArray.isEmpty = false := by
    cases its with
    | nil => exact absurd rfl hn
    | cons a b => rfl
  rcases hq with ⟨rfl, q⟩ | ⟨rfl, q⟩
  · refine wpAny_binaryOp_repeat_ref (T := "tuple") (U := "int") (by decide) ⟨_, ho, rfl⟩ (fun s' => typeIs_int s' 1 t) noFill_tuple_mul F.fills_int_mul F.slot_int_rmul repeat_tuple F.slot_int_index.lookup
      (call_meets F.slot_int_rmul (typeIs_int s 1 t) F.entry_int_rmul (F.args_int_rmul_2 _ _) (int_rmul_tuple 1 t l its.toArray n dd sl)
        ⟨ho, rfl, ⟨_, ho, rfl⟩, call_meets F.slot_tuple_mul ⟨_, ho, rfl⟩ F.entry_tuple_mul (F.args_tuple_mul_2 _ _) (tuple_mul1 l its.toArray n dd sl t) ⟨ho, ?_⟩⟩)
    exact ⟨.ref l, H, I, rfl, q⟩
  · refine wpAny_binaryOp_repeat_ref (T := "tuple") (U := "int") (by decide) ⟨_, ho, rfl⟩ (fun s' => typeIs_int s' 0 t) noFill_tuple_mul F.fills_int_mul F.slot_int_rmul repeat_tuple F.slot_int_index.lookup
      (call_meets F.slot_int_rmul (typeIs_int s 0 t) F.entry_int_rmul (F.args_int_rmul_2 _ _) (int_rmul_tuple 0 t l its.toArray n dd sl)
        ⟨ho, rfl, ⟨_, ho, rfl⟩, call_meets F.slot_tuple_mul ⟨_, ho, rfl⟩ F.entry_tuple_mul (F.args_tuple_mul_2 _ _) (tuple_mul0 l its.toArray n dd sl t hi) ⟨ho, ?_⟩⟩)
    refine ⟨.ref s.heap.objs.size, _, I.laid (t' := s.toks) (o := .tup []) (fun b ob q => Heap.get?_push_of_some _ q) (Nat.le_refl _) ?_, rfl, q _ (I.hok.fresh (Nat.le_refl _))⟩
    exact ⟨Nat.zero_le _, [], .nil, IsTup.new _ _⟩
end
end L2
end
section
namespace Pi
open PySem PySem.Spec PyProof.Rows L2

/-- a value: tuples by value, mutable objects by number -/
inductive PV where
  | non | bl (b : Bool) | int (i : Int) | str (x : Str) | ref (n : Nat) | fn (x : Str) | cls (x : Str) | ty (T : String) | ct (l : List PV) | tup (l : List PV) | scr (l : List PV)
  deriving Inhabited
/-- a mutable object -/
inductive MO where
  | lst (l : List PV) | dct (l : List (PV × PV)) | ins (C : Str) (fs : List (Str × PV))
  deriving Inhabited
abbrev Mh := List MO
inductive Res (α : Type) where
  | ok (a : α) (M : Mh) | exc (C : Str) (fs : List (Str × PV)) (M : Mh) | stuck
/-- the written part, the addresses of its names -/
structure Sy where
  K : PySem.W.Frag
  gA : Str → Addr

/-- a tuple of the written part -/
def KT (K : PySem.W.Frag) (a : Addr) (xs : List V) : Prop := ∃ (o : Obj) (its : Array Value) (n : Nat), K.lookup a = some o ∧ o.cls = .type "tuple" ∧ o.data = .seq its n ∧ its.size ≤ sizeLine ∧ Vals xs its.toList
/-- a list that stays as it is: the law's script -/
def SR (K : PySem.W.Frag) (H : Hp) (a : Addr) (vs : List V) : Prop := (∃ o, H a = some (.frz o (.lst vs))) ∨
  ∃ (o : Obj) (its : Array Value) (n : Nat), K.lookup a = some o ∧ o.cls = .type "list" ∧ o.dict = none ∧ o.data = .seq its n ∧ its.size ≤ sizeLine ∧ Vals vs its.toList
theorem SR.sq {K : PySem.W.Frag} {H : Hp} {a : Addr} {vs : List V} (h : SR K H a vs) : SqL K H a vs := h.elim (fun ⟨o, e⟩ => .inl (.inr ⟨o, e⟩)) .inr
mutual
def Rep (S : Sy) (u : List Addr) (H : Hp) : PV → V → Prop
  | .non, v => v = .non
  | .bl b, v => v = .bl b
  | .int i, v => v = .int i
  | .str x, v => v = .str x
  | .ref n, v => ∃ a, u[n]? = some a ∧ v = .ref a
  | .fn x, v => v = .ref (S.gA x)
  | .cls x, v => v = .ref (S.gA x)
  | .ty T, v => v = .ty T
  | .ct l, v => ∃ a vs, v = .ref a ∧ KT S.K a vs ∧ Reps S u H l vs
  | .tup l, v => ∃ a vs, v = .ref a ∧ H a = some (.tup vs) ∧ Reps S u H l vs
  | .scr l, v => ∃ a vs, v = .ref a ∧ SR S.K H a vs ∧ Reps S u H l vs
def Reps (S : Sy) (u : List Addr) (H : Hp) : List PV → List V → Prop
  | [], vs => vs = []
  | p :: ps, vs => ∃ v r, vs = v :: r ∧ Rep S u H p v ∧ Reps S u H ps r
end
def kPV : Key → PV
  | .inl i => .int i
  | .inr x => .str x
def RepF (S : Sy) (u : List Addr) (H : Hp) (fs : List (Str × PV)) (gs : List (Str × V)) : Prop := Paired (fun p q => p.1 = q.1 ∧ Rep S u H p.2 q.2) fs gs
def RepO (S : Sy) (u : List Addr) (H : Hp) (a : Addr) : MO → Prop
  | .lst l => ∃ vs, H a = some (.lst vs) ∧ Reps S u H l vs
  | .dct l => (∃ kvs : List (Key × V), H a = some (.dK kvs) ∧ (kvs.map (·.1)).Nodup ∧ Paired (fun p q => p.1 = kPV q.1 ∧ Rep S u H p.2 q.2) l kvs) ∨
      (∃ kvs : List (List Key × V), H a = some (.dT kvs) ∧ (kvs.map (·.1)).Nodup ∧ Paired (fun p q => p.1 = PV.tup (q.1.map kPV) ∧ Rep S u H p.2 q.2) l kvs)
  | .ins C fs => ∃ dx gs, H a = some (.ins (S.gA C) dx gs) ∧ H dx = some (.own a) ∧ (fs.map (·.1)).Nodup ∧ RepF S u H fs gs
structure Sim (S : Sy) (u : List Addr) (M : Mh) (H : Hp) : Prop where
  len : u.length = M.length
  nd : u.Nodup
  at_ : ∀ (n : Nat) (a : Addr) (o : MO), u[n]? = some a → M[n]? = some o → RepO S u H a o
/-- what a computation may do: objects of its own made, those of M changed, all else kept -/
structure Fr (u : List Addr) (H : Hp) (u' : List Addr) (H' : Hp) : Prop where
  pre : u <+: u'
  keep : ∀ a o, H a = some o → a ∉ u → H' a = some o
  new : ∀ a ∈ u', a ∈ u ∨ H a = none
theorem Fr.refl {u : List Addr} {H : Hp} : Fr u H u H := ⟨List.prefix_refl _, fun _ _ h _ => h, fun _ h => .inl h⟩
theorem Fr.trans {u u1 u2 : List Addr} {H H1 H2 : Hp} (f : Fr u H u1 H1) (g : Fr u1 H1 u2 H2) : Fr u H u2 H2 := by
  refine ⟨f.pre.trans g.pre, fun a o h n => g.keep a o (f.keep a o h n) fun m => ?_, fun a m => ?_⟩
  · rcases f.new a m with z | z
    · exact n z
    · rw [h] at z; cases z
  · rcases g.new a m with z | z
    · exact f.new a z
    · by_cases q : a ∈ u
      · exact .inl q
      · right
        cases e : H a with
        | none => rfl
        | some o => rw [f.keep a o e q] at z; cases z

section
variable {S : Sy} {u u' : List Addr} {M M' : Mh} {H H' : Hp}
/-- an address that bears a tuple bears no object of M -/
theorem Sim.tup_out (s : Sim S u M H) {a : Addr} {vs : List V} (h : Rd H a (.tup vs)) : a ∉ u := by
  intro m
  obtain ⟨n, hn, e⟩ := List.getElem_of_mem m
  have hM : n < M.length := by rw [← s.len]; exact hn
  have q := s.at_ n a M[n] (by rw [List.getElem?_eq_getElem hn, e]) (List.getElem?_eq_getElem hM)
  cases o : M[n] with
  | lst l =>
    rw [o] at q
    obtain ⟨xs, q, _⟩ := q
    rcases h with h | ⟨_, h⟩ <;> (rw [q] at h; cases h)
  | dct l =>
    rw [o] at q
    rcases q with ⟨xs, q, _⟩ | ⟨xs, q, _⟩ <;> (rcases h with h | ⟨_, h⟩ <;> (rw [q] at h; cases h))
  | ins C fs =>
    rw [o] at q
    obtain ⟨dx, gs, q, _⟩ := q
    rcases h with h | ⟨_, h⟩ <;> (rw [q] at h; cases h)
theorem Sim.frz_out (s : Sim S u M H) {a : Addr} {ob : Obj} {x : HO} (h : H a = some (.frz ob x)) : a ∉ u := by
  intro m
  obtain ⟨n, hn, e⟩ := List.getElem_of_mem m
  have hM : n < M.length := by rw [← s.len]; exact hn
  have q := s.at_ n a M[n] (by rw [List.getElem?_eq_getElem hn, e]) (List.getElem?_eq_getElem hM)
  cases o : M[n] with
  | lst l =>
    rw [o] at q
    obtain ⟨xs, q, _⟩ := q
    rw [q] at h; cases h
  | dct l =>
    rw [o] at q
    rcases q with ⟨xs, q, _⟩ | ⟨xs, q, _⟩ <;> (rw [q] at h; cases h)
  | ins C fs =>
    rw [o] at q
    obtain ⟨dx, gs, q, _⟩ := q
    rw [q] at h; cases h
theorem SR.fr (s : Sim S u M H) (f : Fr u H u' H') {K : PySem.W.Frag} {a : Addr} {vs : List V} (h : SR K H a vs) : SR K H' a vs := h.elim (fun ⟨o, e⟩ => .inl ⟨o, f.keep _ _ e (s.frz_out e)⟩) .inr
theorem tup_fr (s : Sim S u M H) (f : Fr u H u' H') {a : Addr} {vs : List V} (h : H a = some (.tup vs)) : H' a = some (.tup vs) := f.keep _ _ h (s.tup_out (.inl h))
theorem get_pre {u u' : List Addr} (h : u <+: u') {n : Nat} {a : Addr} (e : u[n]? = some a) : u'[n]? = some a := by
  obtain ⟨t, rfl⟩ := h
  rw [List.getElem?_append_left (List.getElem?_eq_some_iff.mp e).1]
  exact e
mutual
theorem Rep.fr (s : Sim S u M H) (f : Fr u H u' H') : ∀ {p : PV} {v : V}, Rep S u H p v → Rep S u' H' p v
  | .non, _, h => h
  | .bl _, _, h => h
  | .int _, _, h => h
  | .str _, _, h => h
  | .ref _, _, ⟨a, e, h⟩ => ⟨a, get_pre f.pre e, h⟩
  | .fn _, _, h => h
  | .cls _, _, h => h
  | .ty _, _, h => h
  | .ct l, _, ⟨a, vs, e, q, r⟩ => ⟨a, vs, e, q, Reps.fr s f r⟩
  | .tup l, _, ⟨a, vs, e, q, r⟩ => ⟨a, vs, e, tup_fr s f q, Reps.fr s f r⟩
  | .scr l, _, ⟨a, vs, e, q, r⟩ => ⟨a, vs, e, q.fr s f, Reps.fr s f r⟩
theorem Reps.fr (s : Sim S u M H) (f : Fr u H u' H') : ∀ {p : List PV} {v : List V}, Reps S u H p v → Reps S u' H' p v
  | [], _, h => h
  | _ :: _, _, ⟨v, r, e, h, t⟩ => ⟨v, r, e, Rep.fr s f h, Reps.fr s f t⟩
end
theorem Reps.length : ∀ {p : List PV} {v : List V}, Reps S u H p v → v.length = p.length
  | [], _, h => by cases h; rfl
  | _ :: _, _, ⟨v, r, e, _, t⟩ => by rw [e, List.length_cons, List.length_cons, Reps.length t]
theorem Reps.get : ∀ {p : List PV} {v : List V} {i : Nat} {x : PV}, Reps S u H p v → p[i]? = some x → ∃ y, v[i]? = some y ∧ Rep S u H x y
  | [], _, _, _, _, e => by simp at e
  | _ :: _, _, 0, _, ⟨v, r, e, h, t⟩, q => by
    rw [e]
    simp at q
    subst q
    exact ⟨v, rfl, h⟩
  | _ :: _, _, i + 1, _, ⟨v, r, e, h, t⟩, q => by
    obtain ⟨y, h1, h2⟩ := Reps.get (i := i) t (by simpa using q)
    exact ⟨y, by rw [e]; simpa using h1, h2⟩
theorem Reps.get' : ∀ {p : List PV} {v : List V} {i : Nat} {y : V}, Reps S u H p v → v[i]? = some y → ∃ x, p[i]? = some x ∧ Rep S u H x y := fun {p v i y} r e => by
  have l := r.length
  have hi : i < p.length := by rw [← l]; exact (List.getElem?_eq_some_iff.mp e).1
  obtain ⟨y', h1, h2⟩ := r.get (List.getElem?_eq_getElem hi)
  rw [e] at h1
  cases h1
  exact ⟨_, List.getElem?_eq_getElem hi, h2⟩
theorem Reps.append : ∀ {p q : List PV} {v w : List V}, Reps S u H p v → Reps S u H q w → Reps S u H (p ++ q) (v ++ w)
  | [], _, _, _, h, t => by cases h; exact t
  | _ :: _, _, _, w, ⟨v, r, e, h, t⟩, t' => ⟨v, r ++ w, by rw [e]; rfl, h, Reps.append t t'⟩
theorem Reps.take : ∀ {p : List PV} {v : List V} (n : Nat), Reps S u H p v → Reps S u H (p.take n) (v.take n)
  | _, _, 0, _ => by simp [Reps]
  | [], _, n + 1, h => by cases h; simp [Reps]
  | _ :: _, _, n + 1, ⟨v, r, e, h, t⟩ => ⟨v, r.take n, by rw [e]; rfl, h, Reps.take n t⟩
theorem Reps.drop : ∀ {p : List PV} {v : List V} (n : Nat), Reps S u H p v → Reps S u H (p.drop n) (v.drop n)
  | _, _, 0, h => by simpa using h
  | [], _, n + 1, h => by cases h; simp [Reps]
  | _ :: _, _, n + 1, ⟨v, r, e, h, t⟩ => by rw [e]; simpa using Reps.drop n t
theorem Reps.set : ∀ {p : List PV} {v : List V} (n : Nat) {x : PV} {y : V}, Rep S u H x y → Reps S u H p v → Reps S u H (p.set n x) (v.set n y)
  | [], _, n, _, _, _, h => by cases h; simp [Reps]
  | _ :: _, _, 0, _, y, q, ⟨v, r, e, h, t⟩ => ⟨y, r, by rw [e]; rfl, q, t⟩
  | _ :: _, _, n + 1, _, y, q, ⟨v, r, e, h, t⟩ => ⟨v, r.set n y, by rw [e]; rfl, h, Reps.set n q t⟩
theorem Reps.one {p : PV} {v : V} (h : Rep S u H p v) : Reps S u H [p] [v] := ⟨v, [], rfl, h, rfl⟩
theorem Paired.fr {α β : Type} {F G : α → β → Prop} : ∀ {l : List α} {m : List β}, Paired F l m → (∀ a b, F a b → G a b) → Paired G l m
  | _, _, .nil, _ => .nil
  | _, _, .cons h t, g => .cons (g _ _ h) (Paired.fr t g)
theorem RepF.fr (s : Sim S u M H) (f : Fr u H u' H') {fs : List (Str × PV)} {gs : List (Str × V)} (r : RepF S u H fs gs) : RepF S u' H' fs gs :=
  Paired.fr r fun _ _ h => ⟨h.1, h.2.fr s f⟩
/-- an object's own description does not lean on other objects of M -/
theorem RepO.fr (s : Sim S u M H) (f : Fr u H u' H') {a : Addr} {o : MO} (h : RepO S u H a o) (e : H' a = H a) (hd : ∀ d, H d = some (.own a) → H' d = some (.own a)) : RepO S u' H' a o := by
  cases o with
  | lst l =>
    obtain ⟨vs, h1, h2⟩ := h
    exact ⟨vs, e.trans h1, h2.fr s f⟩
  | dct l =>
    rcases h with ⟨k, h1, n, h2⟩ | ⟨k, h1, n, h2⟩
    · exact .inl ⟨k, e.trans h1, n, Paired.fr h2 fun _ _ z => ⟨z.1, z.2.fr s f⟩⟩
    · exact .inr ⟨k, e.trans h1, n, Paired.fr h2 fun _ _ z => ⟨z.1, z.2.fr s f⟩⟩
  | ins C fs =>
    obtain ⟨dx, gs, h1, h3, h4, h2⟩ := h
    exact ⟨dx, gs, e.trans h1, hd _ h3, h4, h2.fr s f⟩
/-- an object of M is none of these -/
theorem Sim.own_out (s : Sim S u M H) {a x : Addr} (h : H a = some (.own x)) : a ∉ u := by
  intro m
  obtain ⟨n, hn, e⟩ := List.getElem_of_mem m
  have hM : n < M.length := by rw [← s.len]; exact hn
  have q := s.at_ n a M[n] (by rw [List.getElem?_eq_getElem hn, e]) (List.getElem?_eq_getElem hM)
  cases o : M[n] with
  | lst l =>
    rw [o] at q
    obtain ⟨xs, q, _⟩ := q
    rw [q] at h; cases h
  | dct l =>
    rw [o] at q
    rcases q with ⟨xs, q, _⟩ | ⟨xs, q, _⟩ <;> (rw [q] at h; cases h)
  | ins C fs =>
    rw [o] at q
    obtain ⟨dx, gs, q, _⟩ := q
    rw [q] at h; cases h
theorem Sim.there (s : Sim S u M H) {a : Addr} (m : a ∈ u) : ∃ o, H a = some o := by
  obtain ⟨n, hn, e⟩ := List.getElem_of_mem m
  have hM : n < M.length := by rw [← s.len]; exact hn
  have q := s.at_ n a M[n] (by rw [List.getElem?_eq_getElem hn, e]) (List.getElem?_eq_getElem hM)
  cases o : M[n] with
  | lst l => rw [o] at q; obtain ⟨xs, q, _⟩ := q; exact ⟨_, q⟩
  | dct l => rw [o] at q; rcases q with ⟨xs, q, _⟩ | ⟨xs, q, _⟩ <;> exact ⟨_, q⟩
  | ins C fs => rw [o] at q; obtain ⟨dx, gs, q, _⟩ := q; exact ⟨_, q⟩
/-- something new that is not of M -/
theorem Sim.alloc (s : Sim S u M H) {a : Addr} {o : HO} (n : H a = none) : Sim S u M (upd H a o) ∧ Fr u H u (upd H a o) := by
  have f : Fr u H u (upd H a o) := ⟨List.prefix_refl _, fun b o' h _ => by rw [upd_ne (ne_of_none h n)]; exact h, fun _ h => .inl h⟩
  refine ⟨⟨s.len, s.nd, fun k b ob h1 h2 => ?_⟩, f⟩
  obtain ⟨ho, e⟩ := s.there (List.mem_of_getElem? h1)
  exact RepO.fr s f (s.at_ k b ob h1 h2) (upd_ne (ne_of_none e n)) fun d hd => by rw [upd_ne (ne_of_none hd n)]; exact hd
/-- a new object of M -/
theorem Sim.new (s : Sim S u M H) {a : Addr} {o : HO} {m : MO} (n : H a = none) (r : Fr u H (u ++ [a]) (upd H a o) → RepO S (u ++ [a]) (upd H a o) a m) : Sim S (u ++ [a]) (M ++ [m]) (upd H a o) ∧ Fr u H (u ++ [a]) (upd H a o) := by
  have au : a ∉ u := fun z => by
    obtain ⟨o', e⟩ := s.there z
    rw [n] at e; cases e
  have f : Fr u H (u ++ [a]) (upd H a o) := ⟨List.prefix_append _ _, fun b o' h _ => by rw [upd_ne (ne_of_none h n)]; exact h, fun b h => by
    rcases List.mem_append.mp h with h | h
    · exact .inl h
    · right
      have e : b = a := by simpa using h
      rw [e]; exact n⟩
  refine ⟨⟨by simp [s.len], List.nodup_append.mpr ⟨s.nd, by simp, fun x hx y hy e => au (by
    have : y = a := by simpa using hy
    rw [← this, ← e]; exact hx)⟩, fun k b ob h1 h2 => ?_⟩, f⟩
  by_cases hk : k < u.length
  · rw [List.getElem?_append_left hk] at h1
    rw [List.getElem?_append_left (by rw [← s.len]; exact hk)] at h2
    obtain ⟨ho, e⟩ := s.there (List.mem_of_getElem? h1)
    exact RepO.fr s f (s.at_ k b ob h1 h2) (upd_ne (ne_of_none e n)) fun d hd => by rw [upd_ne (ne_of_none hd n)]; exact hd
  · have e1 : k = u.length := by
      have := (List.getElem?_eq_some_iff.mp h1).1
      simp at this
      omega
    subst e1
    rw [List.getElem?_append_right (Nat.le_refl _)] at h1
    rw [s.len, List.getElem?_append_right (Nat.le_refl _)] at h2
    simp at h1 h2
    subst h1 h2
    exact r f
/-- an object of M is changed -/
theorem Sim.put (s : Sim S u M H) {k : Nat} {a : Addr} {o : HO} {m : MO} (hk : u[k]? = some a) (r : Fr u H u (upd H a o) → RepO S u (upd H a o) a m) : Sim S u (M.set k m) (upd H a o) ∧ Fr u H u (upd H a o) := by
  have am := List.mem_of_getElem? hk
  have f : Fr u H u (upd H a o) := ⟨List.prefix_refl _, fun b o' h n => by
    have ne : b ≠ a := fun e => n (by rw [e]; exact am)
    rw [upd_ne ne]; exact h, fun _ h => .inl h⟩
  refine ⟨⟨by simp [s.len], s.nd, fun j b ob h1 h2 => ?_⟩, f⟩
  by_cases e : j = k
  · subst e
    rw [hk] at h1
    cases h1
    have hj : j < M.length := by rw [← s.len]; exact (List.getElem?_eq_some_iff.mp hk).1
    rw [List.getElem?_set_self hj] at h2
    cases h2
    exact r f
  · rw [List.getElem?_set_ne (Ne.symm e)] at h2
    have ne : b ≠ a := fun q => by
      rw [q] at h1
      obtain ⟨l1, e1⟩ := List.getElem?_eq_some_iff.mp h1
      obtain ⟨l2, e2⟩ := List.getElem?_eq_some_iff.mp hk
      exact e ((List.getElem_inj s.nd).mp (e1.trans e2.symm))
    exact RepO.fr s f (s.at_ j b ob h1 h2) (upd_ne ne) fun d hd => by
      have nd : d ≠ a := fun q => s.own_out hd (by rw [q]; exact am)
      rw [upd_ne nd]; exact hd
end

mutual
def PV.low (n : Nat) : PV → Bool
  | .ref k => Nat.blt k n
  | .ct l => lows n l
  | .tup l => lows n l
  | .scr l => lows n l
  | _ => true
def lows (n : Nat) : List PV → Bool
  | [] => true
  | p :: r => p.low n && lows n r
end
def MO.low (n : Nat) : MO → Bool
  | .lst l => lows n l
  | .dct l => lows n (l.map (·.1)) && lows n (l.map (·.2))
  | .ins _ fs => lows n (fs.map (·.2))
section
variable {S : Sy} {u : List Addr} {M : Mh} {H : Hp} {n : Nat}
mutual
theorem Rep.low : ∀ {p : PV} {v : V}, p.low n = true → Rep S u H p v → Rep S (u.take n) H p v
  | .non, _, _, h => h
  | .bl _, _, _, h => h
  | .int _, _, _, h => h
  | .str _, _, _, h => h
  | .ref k, _, l, ⟨a, e, h⟩ => ⟨a, by
      rw [List.getElem?_take_of_lt (by simpa [PV.low] using l)]; exact e, h⟩
  | .fn _, _, _, h => h
  | .cls _, _, _, h => h
  | .ty _, _, _, h => h
  | .ct l, _, q, ⟨a, vs, e, s, r⟩ => ⟨a, vs, e, s, Reps.low (by simpa [PV.low] using q) r⟩
  | .tup l, _, q, ⟨a, vs, e, s, r⟩ => ⟨a, vs, e, s, Reps.low (by simpa [PV.low] using q) r⟩
  | .scr l, _, q, ⟨a, vs, e, s, r⟩ => ⟨a, vs, e, s, Reps.low (by simpa [PV.low] using q) r⟩
theorem Reps.low : ∀ {p : List PV} {v : List V}, lows n p = true → Reps S u H p v → Reps S (u.take n) H p v
  | [], _, _, h => h
  | p :: r, _, l, ⟨v, w, e, h, t⟩ => by
    have l' : (p.low n && lows n r) = true := by simpa only [lows] using l
    exact ⟨v, w, e, Rep.low (Bool.and_eq_true_iff.mp l').1 h, Reps.low (Bool.and_eq_true_iff.mp l').2 t⟩
end
theorem Paired.low {α : Type} {g : α → PV} : ∀ {l : List (PV × PV)} {m : List (α × V)}, lows n (l.map (·.2)) = true → Paired (fun p q => p.1 = g q.1 ∧ Rep S u H p.2 q.2) l m → Paired (fun p q => p.1 = g q.1 ∧ Rep S (u.take n) H p.2 q.2) l m
  | _, _, _, .nil => .nil
  | _, _, q, .cons h t => by
    have q' := Bool.and_eq_true_iff.mp (show (PV.low n _ && lows n _) = true by simpa only [List.map_cons, lows] using q)
    exact .cons ⟨h.1, h.2.low q'.1⟩ (Paired.low q'.2 t)
theorem RepF.low : ∀ {l : List (Str × PV)} {m : List (Str × V)}, lows n (l.map (·.2)) = true → RepF S u H l m → RepF S (u.take n) H l m
  | _, _, _, .nil => .nil
  | _, _, q, .cons h t => by
    have q' := Bool.and_eq_true_iff.mp (show (PV.low n _ && lows n _) = true by simpa only [List.map_cons, lows] using q)
    exact .cons ⟨h.1, h.2.low q'.1⟩ (RepF.low q'.2 t)
theorem RepO.low {a : Addr} {o : MO} (q : o.low n = true) (h : RepO S u H a o) : RepO S (u.take n) H a o := by
  cases o with
  | lst l =>
    obtain ⟨vs, h1, h2⟩ := h
    exact ⟨vs, h1, h2.low q⟩
  | dct l =>
    have q' := Bool.and_eq_true_iff.mp (show (lows n _ && lows n _) = true from q)
    rcases h with ⟨k, h1, nd, h2⟩ | ⟨k, h1, nd, h2⟩
    · exact .inl ⟨k, h1, nd, Paired.low (g := kPV) q'.2 h2⟩
    · exact .inr ⟨k, h1, nd, Paired.low (g := fun q : List Key => PV.tup (q.map kPV)) q'.2 h2⟩
  | ins C fs =>
    obtain ⟨dx, gs, h1, h3, h4, h2⟩ := h
    exact ⟨dx, gs, h1, h3, h4, h2.low q⟩
/-- M's later objects forgotten, where nothing refers to them -/
def gcOk (n : Nat) (M : Mh) : Bool := (M.take n).all (MO.low n)
theorem Sim.gc (s : Sim S u M H) (q : gcOk n M = true) : Sim S (u.take n) (M.take n) H := by
  refine ⟨by simp [s.len], s.nd.sublist (List.take_sublist _ _), fun k a o h1 h2 => ?_⟩
  by_cases hk : k < n
  · rw [List.getElem?_take_of_lt hk] at h1
    have h2' : M[k]? = some o := by rw [List.getElem?_take_of_lt hk] at h2; exact h2
    exact (s.at_ k a o h1 h2').low (List.all_eq_true.mp q o (List.mem_of_getElem? h2))
  · have e := (List.getElem?_eq_some_iff.mp h1).1
    rw [List.length_take] at e
    omega
/-- the frame of a call whose objects are forgotten -/
theorem Fr.gc {u u' : List Addr} {H H' : Hp} (f : Fr u H u' H') (h : u.length ≤ n) : Fr u H (u'.take n) H' :=
  ⟨by
    obtain ⟨t, rfl⟩ := f.pre
    rw [List.take_append]
    exact ⟨t.take (n - u.length), by rw [List.take_of_length_le h]⟩, f.keep, fun a m => f.new a (List.mem_of_mem_take m)⟩
end
end Pi
end
section
namespace Pi
open PySem PySem.Spec PyProof.Rows L2

def Res.bind {α β : Type} (r : Res α) (f : α → Mh → Res β) : Res β :=
  match r with
  | .ok a M => f a M
  | .exc C fs M => .exc C fs M
  | .stuck => .stuck
theorem bind_ok {α β : Type} (a : α) (M : Mh) (f : α → Mh → Res β) : (Res.ok a M).bind f = f a M := rfl
theorem bind_exc {α β : Type} (C : Str) (fs : List (Str × PV)) (M : Mh) (f : α → Mh → Res β) : (Res.exc C fs M).bind f = .exc C fs M := rfl
theorem bind_stuck {α β : Type} (f : α → Mh → Res β) : (Res.stuck : Res α).bind f = .stuck := rfl

abbrev Lv := List (Option PV)
abbrev Mf := List PV → Mh → Res PV
/-- what code leans on: the defs that it calls, the own classes that it looks into -/
structure Fs where
  fns : List Mf
  cls : List Str := []
  sup : List (Str × List Str) := []
  ex : Option (Str × List (Str × PV)) := none

inductive BOp where | add | sub | mul | fdiv | mod | pow
inductive COp where | eq | ne | lt | le | gt | ge | is | isnt | inn | nin
inductive Bi where | len | tuple | list | str | int | isi | all | any | max | min | minN | sorted | lrng | trng | sset
inductive Bm where | append | extend | insert | index | count | clear | join | split | startswith | get | update | pop | remove
inductive Tg where | one (i : Nat) | tup (is : List Nat)
inductive Ct where | range | enum | zip | rev | values | items

mutual
inductive CE where
  | var (i : Nat) | lit (p : PV) | bin (o : BOp) (a b : CE) | neg (a : CE) | cmp (o : COp) (a b : CE) | chain (o p : COp) (a b c : CE)
  | and (a b : CE) | or (a b : CE) | not (a : CE) | ife (c : CT) (a b : CE) | tup (es : CEs) | lst (es : CEs) | dct (ks : List PV) (vs : CEs)
  | ix (a b : CE) | slc (a : CE) (lo hi : CO) | fld (a : CE) (f : Str) | call (k : Nat) (es : CEs) | callv (i : Nat) (ns : List (Str × Nat)) (es : CEs)
  | make (C : Str) (k : Nat) (es : CEs) | meth (ms : List (Str × Nat)) (name : Str) (o : CE) (es : CEs) | bi (b : Bi) (es : CEs) | bm (b : Bm) (o : CE) (es : CEs)
  | lc (own : List Nat) (elt : CE) (tg : Tg) (it : CI) (tst : CT) | kin (neg : Bool) (d : List (PV × PV)) (e : CE) | kix (d : List (PV × PV)) (e : CE)
  | efld (f : Str) | eisi (ns : List Str) | stuck
inductive CEs where
  | nil | cons (e : CE) (es : CEs)
inductive CO where
  | none | some (e : CE)
inductive CT where
  | val (e : CE) | and (a b : CT) | or (a b : CT) | not (a : CT)
inductive CI where
  | val (e : CE) | rng (a : CO) (b : CE) | enum (e : CE) | zip (a b : CE) | rev (e : CE) | values (e : CE) | items (e : CE)
end

mutual
def PV.beq : PV → PV → Bool
  | .non, .non => true
  | .bl a, .bl b => a == b
  | .int a, .int b => a == b
  | .str a, .str b => a == b
  | .ref a, .ref b => a == b
  | .fn a, .fn b => a == b
  | .cls a, .cls b => a == b
  | .ty a, .ty b => a == b
  | .ct a, .ct b => PV.beqs a b
  | .tup a, .tup b => PV.beqs a b
  | .scr a, .scr b => PV.beqs a b
  | _, _ => false
def PV.beqs : List PV → List PV → Bool
  | [], [] => true
  | a :: r, b :: t => PV.beq a b && PV.beqs r t
  | _, _ => false
end
mutual
theorem PV.beq_eq : ∀ (a b : PV), PV.beq a b = true ↔ a = b := fun a b => by
  cases a <;> cases b <;> simp only [PV.beq, beq_iff_eq, reduceCtorEq, PV.bl.injEq, PV.int.injEq, PV.str.injEq, PV.ref.injEq, PV.fn.injEq, PV.cls.injEq, PV.ty.injEq, PV.ct.injEq, PV.tup.injEq, PV.scr.injEq, Bool.false_eq_true]
  all_goals exact PV.beqs_eq _ _
theorem PV.beqs_eq : ∀ (a b : List PV), PV.beqs a b = true ↔ a = b
  | [], [] => by simp only [PV.beqs]
  | [], _ :: _ => by simp only [PV.beqs, Bool.false_eq_true, reduceCtorEq]
  | _ :: _, [] => by simp only [PV.beqs, Bool.false_eq_true, reduceCtorEq]
  | a :: r, b :: t => by simp only [PV.beqs, Bool.and_eq_true, List.cons.injEq, PV.beq_eq a b, PV.beqs_eq r t]
end
instance : DecidableEq PV := fun a b => if h : PV.beq a b = true then .isTrue ((PV.beq_eq a b).mp h) else .isFalse fun e => h ((PV.beq_eq a b).mpr e)

def pvD : Nat → Mh → PV → Option PyData
  | _, _, .non => some .none
  | _, _, .bl b => some (.bool b)
  | _, _, .int i => some (.int i)
  | _, _, .str x => some (.str x)
  | n + 1, M, .ct l => (l.mapM (pvD n M)).map .tuple
  | n + 1, M, .tup l => (l.mapM (pvD n M)).map .tuple
  | n + 1, M, .ref k => match M[k]? with
    | some (.lst l) => (l.mapM (pvD n M)).map .list
    | _ => none
  | _, _, _ => none
/-- a == b -/
def eqPV (M : Mh) (p q : PV) : Option Bool :=
  match pvD 64 M p, pvD 64 M q with
  | some d, some e => if SeqAt.shaped d && SeqAt.shaped e then some (PyData.eqv d e) else none
  | _, _ => none
/-- x in l -/
def inPV (M : Mh) (x : PV) (l : List PV) : Option Bool :=
  match pvD 64 M x, l.mapM (pvD 63 M) with
  | some d, some ds => if SeqAt.shaped d && SeqAt.shaped (.list ds) then some (ds.any fun z => PyData.eqv z d) else none
  | _, _ => none
def truth (M : Mh) : PV → Option Bool
  | .non => some false
  | .bl b => some b
  | .int i => some (i != 0)
  | .str y => if y.length ≤ sizeLine then some ((y.length : Int) != 0) else none
  | .tup l => some (!l.isEmpty)
  | .ref k => match M[k]? with
    | some (.lst l) => some (!l.isEmpty)
    | _ => none
  | _ => none
/-- a key of a dict -/
def keyOk : PV → Bool
  | .int _ => true
  | .str _ => true
  | .tup l => l.all fun p => match p with
    | .int _ => true
    | .str _ => true
    | _ => false
  | _ => false
/-- a key as it may be written -/
def isKC : PV → Bool
  | .int _ => true
  | .str _ => true
  | _ => false
def isT : PV → Bool
  | .tup _ => true
  | _ => false
/-- the key's kind fits the dict's -/
def keyFits (d : List (PV × PV)) (k : PV) : Bool := keyOk k && match d with
  | [] => true
  | (k', _) :: _ => isT k == isT k'
def dGet (d : List (PV × PV)) (k : PV) : Option PV := (d.find? fun e => decide (e.1 = k)).map (·.2)
def dPut (d : List (PV × PV)) (k v : PV) : List (PV × PV) := if (d.any fun e => decide (e.1 = k)) = true then d.map (fun e => if e.1 = k then (e.1, v) else e) else d ++ [(k, v)]
def oB (o : Option Bool) (M : Mh) : Res PV := match o with
  | some b => .ok (.bl b) M
  | none => .stuck
def oP (o : Option PV) (M : Mh) : Res PV := match o with
  | some b => .ok b M
  | none => .stuck
def cut {α : Type} (xs : List α) (lo hi : Option Int) : List α := (xs.drop (HT.sIx xs.length 0 lo)).take (HT.sIx xs.length xs.length hi - HT.sIx xs.length 0 lo)

def binop : BOp → PV → PV → Mh → Res PV
  | .add, .int i, .int j, M => .ok (.int (i + j)) M
  | .add, .str x, .str y, M => if x.length + y.length ≤ sizeLine then .ok (.str (x ++ y)) M else .stuck
  | .add, .tup l, .tup k, M => if l.length + k.length ≤ sizeLine then .ok (.tup (l ++ k)) M else .stuck
  | .add, .ref m, .ref n, M => match M[m]?, M[n]? with
    | some (.lst l), some (.lst k) => if l.length + k.length ≤ sizeLine then .ok (.ref M.length) (M ++ [.lst (l ++ k)]) else .stuck
    | _, _ => .stuck
  | .sub, .int i, .int j, M => .ok (.int (i - j)) M
  | .mul, .int i, .int j, M => if (-(2 ^ 64) < i ∧ i < 2 ^ 64) ∨ (-(2 ^ 64) < j ∧ j < 2 ^ 64) then .ok (.int (i * j)) M else .stuck
  | .mul, .ref m, .int k, M => match M[m]? with
    | some (.lst l) => if 0 ≤ k ∧ k < 2 ^ 20 ∧ l.length * k.toNat ≤ sizeLine then .ok (.ref M.length) (M ++ [.lst (List.replicate k.toNat l).flatten]) else .stuck
    | _ => .stuck
  | .mul, .tup l, .int k, M => if l ≠ [] ∧ 0 ≤ k ∧ k ≤ 1000 ∧ l.length ≤ 1000 then .ok (.tup (List.replicate k.toNat l).flatten) M else .stuck
  | .fdiv, .int i, .int j, M => if 0 < j ∧ j < 1073741824 then .ok (.int (i / j)) M else .stuck
  | .mod, .int i, .int j, M => if 0 < j then .ok (.int (i % j)) M else .stuck
  | .pow, .int i, .int j, M => if 0 ≤ j ∧ j ≤ 1000 ∧ i.natAbs < 2 ^ 64 then .ok (.int (i ^ j.toNat)) M else .stuck
  | _, _, _, _ => .stuck

def inR (neg : Bool) : PV → PV → Mh → Res PV
  | .str x, .str y, M => match x.cps.toList with
    | [c] => .ok (.bl (xor neg (decide (c ∈ y.cps.toList)))) M
    | _ => .stuck
  | x, .tup l, M => oB ((inPV M x l).map (xor neg)) M
  | x, .ct l, M => oB ((inPV M x l).map (xor neg)) M
  | x, .ref n, M => match M[n]? with
    | some (.lst l) => oB ((inPV M x l).map (xor neg)) M
    | some (.dct d) => if keyFits d x then .ok (.bl (xor neg (dGet d x).isSome)) M else .stuck
    | _ => .stuck
  | _, _, _ => .stuck
def cmpop : COp → PV → PV → Mh → Res PV
  | .eq, p, q, M => oB (eqPV M p q) M
  | .ne, p, q, M => oB ((eqPV M p q).map (!·)) M
  | .lt, .int i, .int j, M => .ok (.bl (decide (i < j))) M
  | .le, .int i, .int j, M => .ok (.bl (decide (i ≤ j))) M
  | .gt, .int i, .int j, M => .ok (.bl (decide (j < i))) M
  | .ge, .int i, .int j, M => .ok (.bl (decide (j ≤ i))) M
  | .is, p, .non, M => .ok (.bl (decide (p = .non))) M
  | .isnt, p, .non, M => .ok (.bl (!decide (p = .non))) M
  | .inn, p, q, M => inR false p q M
  | .nin, p, q, M => inR true p q M
  | _, _, _, _ => .stuck

def newL (l : List PV) (M : Mh) : Res PV := .ok (.ref M.length) (M ++ [.lst l])
def ixop (M : Mh) : PV → PV → Res PV
  | .tup l, .int i => oP (atI l i) M
  | .ct l, .int i => oP (atI l i) M
  | .scr l, .int i => oP (atI l i) M
  | .str z, .int i => if z.length ≤ sizeLine then match atI z.cps.toList i with
    | some c => .ok (.str ⟨#[c]⟩) M
    | none => .stuck else .stuck
  | .ref n, k => match M[n]? with
    | some (.lst l) => match k with
      | .int i => oP (atI l i) M
      | _ => .stuck
    | some (.dct d) => if keyFits d k then oP (dGet d k) M else .stuck
    | _ => .stuck
  | _, _ => .stuck
def slop (M : Mh) (p : PV) (lo hi : Option Int) : Res PV := match p with
  | .tup l => .ok (.tup (cut l lo hi)) M
  | .scr l => newL (cut l lo hi) M
  | .str z => if z.length ≤ sizeLine then .ok (.str (cutS z lo hi)) M else .stuck
  | .ref n => match M[n]? with
    | some (.lst l) => .ok (.ref M.length) (M ++ [.lst (cut l lo hi)])
    | _ => .stuck
  | _ => .stuck

def tyOf (M : Mh) : PV → Option String
  | .non => some "NoneType"
  | .bl _ => some "bool"
  | .int _ => some "int"
  | .str _ => some "str"
  | .tup _ => some "tuple"
  | .ct _ => some "tuple"
  | .ref n => match M[n]? with
    | some (.lst _) => some "list"
    | some (.dct _) => some "dict"
    | _ => none
  | _ => none
def isiTy (a b : String) : Option Bool :=
  if (["NoneType", "bool", "int", "str", "tuple", "list", "dict"].contains a && ["bool", "int", "str", "tuple", "list", "dict"].contains b) = true then some (a == b || (a == "bool" && b == "int")) else none
def isiAny (a : String) : List PV → Option Bool
  | [] => some false
  | .ty b :: r => match isiTy a b, isiAny a r with
    | some x, some y => some (x || y)
    | _, _ => none
  | _ :: _ => none
def intsOf : List PV → Option (List Int)
  | [] => some []
  | .int i :: r => (intsOf r).map (i :: ·)
  | _ :: _ => none
def blsOf : List PV → Option (List Bool)
  | [] => some []
  | .bl i :: r => (blsOf r).map (i :: ·)
  | _ :: _ => none
def strsOf : List PV → Option (List Str)
  | [] => some []
  | .str i :: r => (strsOf r).map (i :: ·)
  | _ :: _ => none
/-- the items of a list or a tuple -/
def seqOf (M : Mh) : PV → Option (List PV)
  | .tup l => some l
  | .ct l => some l
  | .ref n => match M[n]? with
    | some (.lst l) => some l
    | _ => none
  | _ => none
def lstOf (M : Mh) : PV → Option (List PV)
  | .ref n => match M[n]? with
    | some (.lst l) => some l
    | _ => none
  | _ => none
def maxI : List Int → Option Int
  | [] => none
  | a :: r => some (r.foldl max a)
def minI : List Int → Option Int
  | [] => none
  | a :: r => some (r.foldl min a)
def rngL (a b : Int) : List PV := (List.range (b - a).toNat).map fun k : Nat => PV.int (a + (k : Int))
def biF : Bi → List PV → Mh → Res PV
  | .len, [.str z], M => if z.length ≤ sizeLine then .ok (.int z.length) M else .stuck
  | .len, [.ref n], M => match M[n]? with
    | some (.lst l) => .ok (.int l.length) M
    | some (.dct d) => .ok (.int d.length) M
    | _ => .stuck
  | .len, [.tup l], M => .ok (.int l.length) M
  | .len, [.ct l], M => .ok (.int l.length) M
  | .len, [.scr l], M => .ok (.int l.length) M
  | .tuple, [.ct l], M => .ok (.ct l) M
  | .tuple, [p], M => match seqOf M p with
    | some l => .ok (.tup l) M
    | none => .stuck
  | .list, [p], M => match seqOf M p with
    | some l => newL l M
    | none => .stuck
  | .str, [.int i], M => if i.natAbs.log2 < 1920 then .ok (.str (toString i)) M else .stuck
  | .str, [.str x], M => .ok (.str x) M
  | .int, [.int i], M => .ok (.int i) M
  | .int, [.bl b], M => .ok (.int (if b then 1 else 0)) M
  | .int, [.str x], M => if x.length ≤ 640 then match PySem.intText? x with
    | some n => .ok (.int n) M
    | none => .stuck else .stuck
  | .isi, [p, .ty t], M => match tyOf M p with
    | some a => oB (isiTy a t) M
    | none => .stuck
  | .isi, [p, .tup ts], M => match tyOf M p with
    | some a => oB (isiAny a ts) M
    | none => .stuck
  | .all, [p], M => match (lstOf M p).bind blsOf with
    | some bs => .ok (.bl (bs.all id)) M
    | none => .stuck
  | .any, [p], M => match (lstOf M p).bind blsOf with
    | some bs => .ok (.bl (bs.any id)) M
    | none => .stuck
  | .max, [.int i, .int j], M => .ok (.int (if j > i then j else i)) M
  | .min, [.int i, .int j], M => .ok (.int (if j < i then j else i)) M
  | .max, [p], M => oP ((((lstOf M p).bind intsOf).bind maxI).map .int) M
  | .min, [p], M => oP ((((lstOf M p).bind intsOf).bind minI).map .int) M
  | _, _, _ => .stuck
/-- what a method does to the object behind it -/
def setO (M : Mh) (n : Nat) (o : MO) : Res PV := .ok .non (M.set n o)
def bmf : Bm → PV → List PV → Mh → Res PV
  | .append, .ref n, [p], M => match M[n]? with
    | some (.lst l) => if l.length < sizeLine then setO M n (.lst (l ++ [p])) else .stuck
    | _ => .stuck
  | .extend, .ref n, [.ref k], M => match M[n]?, M[k]? with
    | some (.lst l), some (.lst m) => if l.length + m.length ≤ sizeLine then setO M n (.lst (l ++ m)) else .stuck
    | _, _ => .stuck
  | .insert, .ref n, [.int i, p], M => match M[n]? with
    | some (.lst l) => if l.length < sizeLine ∧ 0 ≤ i ∧ i < 2 ^ 63 then setO M n (.lst (l.take i.toNat ++ [p] ++ l.drop i.toNat)) else .stuck
    | _ => .stuck
  | .clear, .ref n, [], M => match M[n]? with
    | some (.lst _) => setO M n (.lst [])
    | _ => .stuck
  | .join, .str a, [p], M => match (seqOf M p).bind strsOf with
    | some ys => if (ys.map (·.length)).sum + ys.length * a.length ≤ 16777216 then .ok (.str (Txt.join a ys)) M else .stuck
    | none => .stuck
  | .split, .str a, [.str b], M => if (b.length == 0) = false ∧ a.length + 2 ≤ sizeLine then newL ((Txt.split a b).map .str) M else .stuck
  | .startswith, .str a, [.str b], M => .ok (.bl (Txt.startswith a b)) M
  | .get, .ref n, [k], M => match M[n]? with
    | some (.dct d) => if keyFits d k then .ok ((dGet d k).getD .non) M else .stuck
    | _ => .stuck
  | .get, .ref n, [k, v], M => match M[n]? with
    | some (.dct d) => if keyFits d k then .ok ((dGet d k).getD v) M else .stuck
    | _ => .stuck
  | _, _, _, _ => .stuck

/-- the kind of thing that has the method -/
def bmOk (b : Bm) (p : PV) (M : Mh) : Bool := match b with
  | .join => match p with
    | .str _ => true
    | _ => false
  | .split => match p with
    | .str _ => true
    | _ => false
  | .startswith => match p with
    | .str _ => true
    | _ => false
  | .get => match p with
    | .ref n => match M[n]? with
      | some (.dct _) => true
      | _ => false
    | _ => false
  | _ => match p with
    | .ref n => match M[n]? with
      | some (.lst _) => true
      | _ => false
    | _ => false
def gcE (n : Nat) (r : Res PV) : Res PV := match r with
  | .ok p M => if M.length ≤ n then .ok p M else if p.low n && gcOk n M then .ok p (M.take n) else .ok p M
  | r => r
def gcB (n : Nat) (r : Res Bool) : Res Bool := match r with
  | .ok p M => if M.length ≤ n then .ok p M else if gcOk n M then .ok p (M.take n) else .ok p M
  | r => r
def gcX (n : Nat) (r : Res PV) : Res PV := match r with
  | .exc C fs M => if M.length ≤ n then .exc C fs M else if lows n (fs.map (·.2)) && gcOk n M then .exc C fs (M.take n) else .exc C fs M
  | r => gcE n r

def setMany : List Nat → List PV → Lv → Option Lv
  | [], [], r => some r
  | i :: is, p :: ps, r => setMany is ps (r.set i (some p))
  | _, _, _ => none
def setT : Tg → PV → Lv → Option Lv
  | .one i, p, r => some (r.set i (some p))
  | .tup is, .tup ps, r => setMany is ps r
  | _, _, _ => none
def wipeL (r : Lv) : List Nat → Lv
  | [] => r
  | v :: vs => (wipeL r vs).set v none
/-- what a for walks: its items, and the object that must stay as it is -/
structure Walk where
  items : List PV
  src : Option (Nat × MO)
  src2 : Option (Nat × MO) := none
def Walk.same (w : Walk) (M : Mh) : Prop := (match w.src with
  | none => True
  | some (n, o) => M[n]? = some o) ∧ match w.src2 with
  | none => True
  | some (n, o) => M[n]? = some o
/-- the end of a statement -/
inductive Rs where
  | nx (r : Lv) (M : Mh) | rt (p : PV) (M : Mh) | ex (C : Str) (fs : List (Str × PV)) (r : Lv) (M : Mh) | stuck
def Res.sb {α : Type} (t : Res α) (r : Lv) (k : α → Mh → Rs) : Rs := match t with
  | .ok a M => k a M
  | .exc C fs M => .ex C fs r M
  | .stuck => .stuck
def Rs.sb (t : Rs) (k : Lv → Mh → Rs) : Rs := match t with
  | .nx r M => k r M
  | t => t
open Classical in
noncomputable def forGo (tg : Tg) (body : Lv → Mh → Rs) (g : Mh → Prop) : List PV → Lv → Mh → Rs
  | [], r, M => if g M then .nx r M else .stuck
  | x :: xs, r, M => if g M then (match setT tg x r with
    | none => .stuck
    | some r1 => (body r1 M).sb fun r2 M1 => forGo tg body g xs r2 M1) else .stuck
open Classical in
noncomputable def lcGo (f : PV → Mh → Res (Option PV)) (g : Mh → Prop) : List PV → Mh → Res (List PV)
  | [], M => if g M then .ok [] M else .stuck
  | x :: xs, M => if g M then (f x M).bind fun o M1 => (lcGo f g xs M1).bind fun r M2 => .ok (match o with
    | some y => y :: r
    | none => r) M2 else .stuck
def whileGo (c : Lv → Mh → Res Bool) (body : Lv → Mh → Rs) : Nat → Lv → Mh → Rs
  | 0, _, _ => .stuck
  | n + 1, r, M => (c r M).sb r fun b M1 => match b with
    | true => (body r M1).sb fun r2 M2 => whileGo c body n r2 M2
    | false => .nx r M1
/-- an exception out of a comprehension is not carried -/
def noX {α : Type} (r : Res α) : Res α := match r with
  | .exc _ _ _ => .stuck
  | r => r
def zipPV : List PV → List PV → List PV
  | a :: r, b :: t => .tup [a, b] :: zipPV r t
  | _, _ => []
def enumPV : Nat → List PV → List PV
  | _, [] => []
  | n, a :: r => .tup [.int (n : Int), a] :: enumPV (n + 1) r
/-- the walk over a value: fresh things (made behind n) need no look -/
def walkOf (M : Mh) : PV → Option Walk
  | .tup l => some ⟨l, none, none⟩
  | .ct l => some ⟨l, none, none⟩
  | .str x => some ⟨x.cps.toList.map fun c => .str ⟨#[c]⟩, none, none⟩
  | .ref n => match M[n]? with
    | some (.lst l) => some ⟨l, some (n, .lst l), none⟩
    | _ => none
  | _ => none
def zipOf (M : Mh) : PV → PV → Option Walk
  | .tup l, .tup k => some ⟨zipPV l k, none, none⟩
  | .ref m, .ref n => match M[m]?, M[n]? with
    | some (.lst l), some (.lst k) => some ⟨zipPV l k, some (m, .lst l), some (n, .lst k)⟩
    | _, _ => none
  | _, _ => none
def enumOf (M : Mh) : PV → Option Walk
  | .ref m => match M[m]? with
    | some (.lst l) => some ⟨enumPV 0 l, some (m, .lst l), none⟩
    | _ => none
  | _ => none
def oW {α : Type} (o : Option α) (M : Mh) : Res α := match o with
  | some b => .ok b M
  | none => .stuck
def Fs.at_ (F : Fs) (k : Nat) : Mf := match F.fns[k]? with
  | some m => m
  | none => fun _ _ => .stuck
def insOf (M : Mh) : PV → Option (Str × List (Str × PV))
  | .ref n => match M[n]? with
    | some (.ins C fs) => some (C, fs)
    | _ => none
  | _ => none

mutual
noncomputable def evE (F : Fs) : CE → Lv → Mh → Res PV
  | .var i, r, M => match r[i]? with
    | some (some p) => .ok p M
    | _ => .stuck
  | .lit p, _, M => .ok p M
  | .bin o a b, r, M => (evE F a r M).bind fun p M1 => (evE F b r M1).bind fun q M2 => binop o p q M2
  | .neg a, r, M => (evE F a r M).bind fun p M1 => match p with
    | .int i => .ok (.int (-i)) M1
    | _ => .stuck
  | .cmp o a b, r, M => gcE M.length ((evE F a r M).bind fun p M1 => (evE F b r M1).bind fun q M2 => cmpop o p q M2)
  | .chain o o' a b c, r, M => (evE F a r M).bind fun p M1 => (evE F b r M1).bind fun q M2 => (cmpop o p q M2).bind fun t M3 => match t with
    | .bl true => (evE F c r M3).bind fun s M4 => cmpop o' q s M4
    | .bl false => .ok (.bl false) M3
    | _ => .stuck
  | .and a b, r, M => (evE F a r M).bind fun p M1 => match p with
    | .bl true => evE F b r M1
    | .bl false => .ok (.bl false) M1
    | _ => .stuck
  | .or a b, r, M => (evE F a r M).bind fun p M1 => match p with
    | .bl true => .ok (.bl true) M1
    | .bl false => evE F b r M1
    | _ => .stuck
  | .not a, r, M => (evE F a r M).bind fun p M1 => match p with
    | .bl b => .ok (.bl (!b)) M1
    | _ => .stuck
  | .ife c a b, r, M => (evT F c r M).bind fun t M1 => match t with
    | true => evE F a r M1
    | false => evE F b r M1
  | .tup es, r, M => (evL F es r M).bind fun l M1 => if l.length ≤ sizeLine then .ok (.tup l) M1 else .stuck
  | .lst es, r, M => (evL F es r M).bind fun l M1 => if l.length ≤ sizeLine then newL l M1 else .stuck
  | .dct ks vs, r, M => (evL F vs r M).bind fun l M1 => if l.length = ks.length ∧ ks.length ≤ 15 ∧ ks.Nodup ∧ (ks.all isKC) = true then .ok (.ref M1.length) (M1 ++ [.dct (ks.zip l)]) else .stuck
  | .stuck, _, _ => .stuck
  | .ix a b, r, M => (evE F a r M).bind fun p M1 => (evE F b r M1).bind fun q M2 => ixop M2 p q
  | .slc a lo hi, r, M => (evE F a r M).bind fun p M1 => (evO F lo r M1).bind fun i M2 => (evO F hi r M2).bind fun j M3 => slop M3 p i j
  | .fld a f, r, M => (evE F a r M).bind fun p M1 => match insOf M1 p with
    | some (C, fs) => if F.cls.contains C then oP (fs.lookup f) M1 else .stuck
    | none => .stuck
  | .call k es, r, M => (evL F es r M).bind fun l M1 => F.at_ k l M1
  | .callv i ns es, r, M => match r[i]? with
    | some (some (.fn x)) => match ns.lookup x with
      | some k => (evL F es r M).bind fun l M1 => F.at_ k l M1
      | none => .stuck
    | _ => .stuck
  | .make C k es, r, M => (evL F es r M).bind fun l M1 => (F.at_ k (.ref M1.length :: l) (M1 ++ [.ins C []])).bind fun p M2 => match p with
    | .non => .ok (.ref M1.length) M2
    | _ => .stuck
  | .meth ms name o es, r, M => (evE F o r M).bind fun p M1 => match insOf M1 p with
    | some (C, fs) => if (fs.lookup name).isSome then .stuck else match ms.lookup C with
      | some k => (evL F es r M1).bind fun l M2 => F.at_ k (p :: l) M2
      | none => .stuck
    | none => .stuck
  | .bi b es, r, M => gcE M.length ((evL F es r M).bind fun l M1 => biF b l M1)
  | .bm b o es, r, M => gcE M.length ((evE F o r M).bind fun p M1 => if bmOk b p M1 then (evL F es r M1).bind fun l M2 => bmf b p l M2 else .stuck)
  | .lc own elt tg it tst, r, M => (evI F it r M).bind fun w M1 => (noX (lcGo (fun x M2 => match setT tg x (wipeL r own) with
      | none => .stuck
      | some r1 => (evT F tst r1 M2).bind fun t M3 => match t with
        | true => (evE F elt r1 M3).bind fun y M4 => .ok (some y) M4
        | false => .ok none M3) w.same w.items M1)).bind fun l M2 => if l.length ≤ sizeLine then newL l M2 else .stuck
  | .kin neg d e, r, M => (evE F e r M).bind fun p M1 => match p with
    | .str x => .ok (.bl (xor neg (dGet d (.str x)).isSome)) M1
    | _ => .stuck
  | .kix d e, r, M => (evE F e r M).bind fun p M1 => match p with
    | .str x => oP (dGet d (.str x)) M1
    | _ => .stuck
  | .efld f, _, M => match F.ex with
    | some (_, fs) => oP (fs.lookup f) M
    | none => .stuck
  | .eisi ns, _, M => match F.ex with
    | some (C, _) => match F.sup.lookup C with
      | some l => .ok (.bl (ns.any fun x => l.contains x)) M
      | none => .stuck
    | none => .stuck
noncomputable def evL (F : Fs) : CEs → Lv → Mh → Res (List PV)
  | .nil, _, M => .ok [] M
  | .cons e es, r, M => (evE F e r M).bind fun p M1 => (evL F es r M1).bind fun l M2 => .ok (p :: l) M2
noncomputable def evO (F : Fs) : CO → Lv → Mh → Res (Option Int)
  | .none, _, M => .ok none M
  | .some e, r, M => (evE F e r M).bind fun p M1 => match p with
    | .int i => .ok (some i) M1
    | _ => .stuck
noncomputable def evT (F : Fs) : CT → Lv → Mh → Res Bool
  | .val e, r, M => gcB M.length ((evE F e r M).bind fun p M1 => oW (truth M1 p) M1)
  | .and a b, r, M => (evT F a r M).bind fun t M1 => match t with
    | true => evT F b r M1
    | false => .ok false M1
  | .or a b, r, M => (evT F a r M).bind fun t M1 => match t with
    | true => .ok true M1
    | false => evT F b r M1
  | .not a, r, M => (evT F a r M).bind fun t M1 => .ok (!t) M1
noncomputable def evI (F : Fs) : CI → Lv → Mh → Res Walk
  | .val e, r, M => (evE F e r M).bind fun p M1 => oW (walkOf M1 p) M1
  | .rng .none b, r, M => (evE F b r M).bind fun q M2 => match q with
    | .int j => if -(2 ^ 62) ≤ j ∧ j < 2 ^ 62 then .ok ⟨rngL 0 j, none, none⟩ M2 else .stuck
    | _ => .stuck
  | .rng (.some a) b, r, M => (evE F a r M).bind fun p M1 => (evE F b r M1).bind fun q M2 => match p, q with
    | .int i, .int j => if -(2 ^ 62) ≤ i ∧ i < 2 ^ 62 ∧ -(2 ^ 62) ≤ j ∧ j < 2 ^ 62 then .ok ⟨rngL i j, none, none⟩ M2 else .stuck
    | _, _ => .stuck
  | .zip a b, r, M => (evE F a r M).bind fun p M1 => (evE F b r M1).bind fun q M2 => oW (zipOf M2 p q) M2
  | .enum a, r, M => (evE F a r M).bind fun p M1 => oW (enumOf M1 p) M1
  | _, _, _ => .stuck
end

mutual
inductive CS where
  | asg (i : Nat) (e : CE) | asgt (is : List Nat) (e : CE) | sets (o i e : CE) | setf (o : CE) (f : Str) (e : CE) | expr (e : CE) | iff (c : CT) (a b : CSs)
  | ret (e : CE) | retn | pass | forr (tg : Tg) (it : CI) (body : CSs) | whl (c : CT) (body : CSs) | raise (C : Str) (fs : List Str) (es : CEs) | tr (body : CSs) (hs : CHs) | stuck
inductive CSs where
  | nil | cons (s : CS) (r : CSs)
inductive CHs where
  | nil | cons (C : Str) (v : Option Nat) (suite : CSs) (r : CHs)
end
def setIx (M : Mh) (o i v : PV) : Option Mh := match o with
  | .ref n => match M[n]? with
    | some (.lst l) => match i with
      | .int k => (ixN l.length k).map fun j => M.set n (.lst (l.set j v))
      | _ => none
    | some (.dct d) => if keyFits d i && decide (d.length < sizeLine) then some (M.set n (.dct (dPut d i v))) else none
    | _ => none
  | _ => none
def putFl (f : Str) (v : PV) : List (Str × PV) → List (Str × PV)
  | [] => [(f, v)]
  | (g, w) :: r => if g = f then (g, v) :: r else (g, w) :: putFl f v r
def setFl (cls : List Str) (M : Mh) (o : PV) (f : Str) (v : PV) : Option Mh := match o with
  | .ref n => match M[n]? with
    | some (.ins C fs) => if fs.length < 900 ∧ cls.contains C then some (M.set n (.ins C (putFl f v fs))) else none
    | _ => none
  | _ => none
mutual
noncomputable def evS (n : Nat) : Fs → CS → Lv → Mh → Rs
  | F, .asg i e, r, M => (evE F e r M).sb r fun p M1 => .nx (r.set i (some p)) M1
  | F, .asgt is e, r, M => (evE F e r M).sb r fun p M1 => match p with
    | .tup ps => match setMany is ps r with
      | some r1 => .nx r1 M1
      | none => .stuck
    | _ => .stuck
  | F, .sets o i e, r, M => (evE F e r M).sb r fun v M1 => (evE F o r M1).sb r fun p M2 => (evE F i r M2).sb r fun q M3 => match setIx M3 p q v with
    | some M4 => .nx r M4
    | none => .stuck
  | F, .setf o f e, r, M => (evE F e r M).sb r fun v M1 => (evE F o r M1).sb r fun p M2 => match setFl F.cls M2 p f v with
    | some M3 => .nx r M3
    | none => .stuck
  | F, .expr e, r, M => (evE F e r M).sb r fun _ M1 => .nx r M1
  | F, .iff c a b, r, M => (evT F c r M).sb r fun t M1 => match t with
    | true => evSs n F a r M1
    | false => evSs n F b r M1
  | F, .ret e, r, M => (evE F e r M).sb r fun p M1 => .rt p M1
  | _, .retn, _, M => .rt .non M
  | _, .pass, r, M => .nx r M
  | F, .forr tg it body, r, M => (evI F it r M).sb r fun w M1 => forGo tg (evSs n F body) w.same w.items r M1
  | F, .whl c body, r, M => whileGo (evT F c) (evSs n F body) n r M
  | F, .raise C fs es, r, M => (evL F es r M).sb r fun l M1 => if l.length = fs.length then .ex C (fs.zip l) r M1 else .stuck
  | _, .stuck, _, _ => .stuck
  | F, .tr body hs, r, M => match evSs n F body r M with
    | .ex C fs r1 M1 => evH n F C fs hs r1 M1
    | t => t
noncomputable def evSs (n : Nat) : Fs → CSs → Lv → Mh → Rs
  | _, .nil, r, M => .nx r M
  | F, .cons s t, r, M => (evS n F s r M).sb fun r1 M1 => evSs n F t r1 M1
noncomputable def evH (n : Nat) : Fs → Str → List (Str × PV) → CHs → Lv → Mh → Rs
  | _, C, fs, .nil, r, M => .ex C fs r M
  | F, C, fs, .cons D v suite rest, r, M => match F.sup.lookup C with
    | some l => if l.contains D then (evSs n { F with ex := some (C, fs) } suite (match v with
        | some i => r.set i none
        | none => r) M).sb fun r1 M1 => .nx (match v with
        | some i => r1.set i none
        | none => r1) M1 else evH n F C fs rest r M
    | none => .stuck
end
def Rs.res (t : Rs) : Res PV := match t with
  | .nx _ M => .ok .non M
  | .rt p M => .ok p M
  | .ex C fs _ M => .exc C fs M
  | .stuck => .stuck
/-- a def: its body at its arguments, k slots beyond them -/
noncomputable def runF (F : Fs) (n : Nat) (np k : Nat) (body : CSs) : Mf := fun ps M =>
  if ps.length = np then gcX M.length (evSs n F body (ps.map some ++ List.replicate k none) M).res else .stuck
end Pi
end
section
namespace Pi
open PySem PySem.Spec PyProof.Rows L2

abbrev St := L2.St
def ExcRep (S : Sy) (u : List Addr) (H : Hp) (fs : List (Str × PV)) (d : Option Addr) : Prop :=
  (fs = [] ∧ d = none) ∨ ∃ a gs, d = some a ∧ H a = some (.xd gs) ∧ ∀ f p, fs.lookup f = some p → ∃ v, gs.lookup f = some v ∧ Rep S u H p v
def REnv (S : Sy) (u : List Addr) (H : Hp) (σ : St) (r : Lv) : Prop := σ.length = r.length ∧ ∀ (i : Nat) (p : PV), r[i]? = some (some p) → ∃ v, σ[i]? = some (some v) ∧ Rep S u H p v
def Post {α β : Type} (S : Sy) (W : WX) (σ : St) (R : List Addr → Hp → α → β → Prop) (u : List Addr) (H : Hp) (r : Res α) (Q : β → Hp → Prop) : Prop :=
  match r with
  | .ok a M' => ∀ u' H' b, Sim S u' M' H' → Fr u H u' H' → R u' H' a b → Q b H'
  | .exc C fs M' => ∀ u' H' d, Sim S u' M' H' → Fr u H u' H' → ExcRep S u' H' fs d → W (.ref (S.gA C)) d σ H'
  | .stuck => False
def LX {α β : Type} (S : Sy) (W : WX) (R : List Addr → Hp → α → β → Prop) (m : Lv → Mh → Res α) : St → Hp → (β → Hp → Prop) → Prop := fun σ H Q =>
  ∃ u M r, Sim S u M H ∧ REnv S u H σ r ∧ Post S W σ R u H (m r M) Q
abbrev RB : List Addr → Hp → Bool → Bool → Prop := fun _ _ a b => b = a
abbrev RI : List Addr → Hp → Option Int → Option Int → Prop := fun _ _ a b => b = a

section
variable {S : Sy} {W : WX} {σ : St} {u u1 : List Addr} {H H1 : Hp} {M M1 : Mh} {r : Lv} {α β γ δ : Type} {R : List Addr → Hp → α → β → Prop} {R2 : List Addr → Hp → γ → δ → Prop}
theorem REnv.fr (e : REnv S u H σ r) (s : Sim S u M H) (f : Fr u H u1 H1) : REnv S u1 H1 σ r := ⟨e.1, fun i p h => by
  obtain ⟨v, h1, h2⟩ := e.2 i p h
  exact ⟨v, h1, h2.fr s f⟩⟩
theorem REnv.set (e : REnv S u H σ r) {i : Nat} {p : PV} {v : V} (h : Rep S u H p v) : REnv S u H (σ.set i (some v)) (r.set i (some p)) := by
  refine ⟨by rw [List.length_set, List.length_set]; exact e.1, fun j q hj => ?_⟩
  by_cases hi : i = j
  · subst hi
    by_cases hl : i < r.length
    · rw [List.getElem?_set_self hl] at hj
      cases hj
      exact ⟨v, by rw [List.getElem?_set_self (by rw [e.1]; exact hl)], h⟩
    · rw [List.getElem?_eq_none (by simpa using hl)] at hj
      cases hj
  · rw [List.getElem?_set_ne hi] at hj
    obtain ⟨w, h1, h2⟩ := e.2 j q hj
    exact ⟨w, by rw [List.getElem?_set_ne hi]; exact h1, h2⟩
theorem REnv.wipe (e : REnv S u H σ r) : ∀ own : List Nat, REnv S u H (wipe σ own) (wipeL r own)
  | [] => e
  | v :: vs => by
    have k := REnv.wipe e vs
    refine ⟨by unfold L2.wipe wipeL; rw [List.length_set, List.length_set]; exact k.1, fun j q hj => ?_⟩
    unfold wipeL at hj
    unfold L2.wipe
    by_cases hi : v = j
    · subst hi
      by_cases hl : v < (wipeL r vs).length
      · rw [List.getElem?_set_self hl] at hj
        cases hj
      · rw [List.getElem?_eq_none (by simpa using hl)] at hj
        cases hj
    · rw [List.getElem?_set_ne hi] at hj
      obtain ⟨w, h1, h2⟩ := k.2 j q hj
      exact ⟨w, by rw [List.getElem?_set_ne hi]; exact h1, h2⟩
/-- what is wanted from u, H on is wanted from later on -/
theorem Post.after {r : Res α} {Q : β → Hp → Prop} (f : Fr u H u1 H1) (h : Post S W σ R u H r Q) : Post S W σ R u1 H1 r Q := by
  cases r with
  | ok a M' => exact fun u' H' b s g k => h u' H' b s (f.trans g) k
  | exc C fs M' => exact fun u' H' d s g k => h u' H' d s (f.trans g) k
  | stuck => exact h
theorem Post.bind {r : Res α} {k : α → Mh → Res γ} {Q : δ → Hp → Prop} {Q1 : β → Hp → Prop} (h : Post S W σ R2 u H (r.bind k) Q)
    (hk : ∀ p M1, r = .ok p M1 → ∀ u1 H1 v, Sim S u1 M1 H1 → Fr u H u1 H1 → R u1 H1 p v → Post S W σ R2 u1 H1 (k p M1) Q → Q1 v H1) : Post S W σ R u H r Q1 := by
  cases r with
  | ok a M' => exact fun u' H' b s g q => hk a M' rfl u' H' b s g q (Post.after g h)
  | exc C fs M' => exact h
  | stuck => exact h
/-- an end that has come -/
theorem Post.now {a : α} {b : β} {Q : β → Hp → Prop} (h : Post S W σ R u H (.ok a M) Q) (s : Sim S u M H) (k : R u H a b) : Q b H := h u H b s Fr.refl k
theorem LX.mk {m : Lv → Mh → Res α} {Q : β → Hp → Prop} (s : Sim S u M H) (e : REnv S u H σ r) (h : Post S W σ R u H (m r M) Q) : LX S W R m σ H Q := ⟨u, M, r, s, e, h⟩
end

theorem PE.imp {X : Cx} {e : Expr} {t t' : TE} (h : PE X e t) (k : ∀ σ H Q, t' σ H Q → t σ H Q) : PE X e t' := ⟨fun pins s σ H Q I q => h.run pins s σ H Q I (k _ _ _ q)⟩
theorem PT.imp {X : Cx} {e : Expr} {t t' : TT} (h : PT X e t) (k : ∀ σ H Q, t' σ H Q → t σ H Q) : PT X e t' := ⟨fun pins s σ H Q I q => h.run pins s σ H Q I (k _ _ _ q)⟩
theorem PA.imp {X : Cx} {e : List Expr} {t t' : TA} (h : PA X e t) (k : ∀ σ H Q, t' σ H Q → t σ H Q) : PA X e t' := ⟨fun pos pins s σ H Q I q => h.run pos pins s σ H Q I (k _ _ _ q)⟩
theorem PS.imp {X : Cx} {e : Stmt} {t t' : TS} (h : PS X e t) (k : ∀ D σ H, t' D σ H → t D σ H) : PS X e t' := ⟨fun pins s σ H D I q => h.run pins s σ H D I (k _ _ _ q)⟩
theorem PSs.imp {X : Cx} {e : List Stmt} {t t' : TS} (h : PSs X e t) (k : ∀ D σ H, t' D σ H → t D σ H) : PSs X e t' := ⟨fun pins s σ H D I q => h.run pins s σ H D I (k _ _ _ q)⟩
theorem OpR.imp {X : Cx} {f : Value → Value → Sem Value} {r r' : R2} (h : OpR X f r) (k : ∀ x y H Q, r' x y H Q → r x y H Q) : OpR X f r' := fun pins s σ H x y v u Q I rx ry q => h pins s σ H x y v u Q I rx ry (k _ _ _ _ q)
theorem CallR.imp {X : Cx} {f : Value} {r r' : List V → Hp → VK → Prop} (h : CallR X f r) (k : ∀ x H Q, r' x H Q → r x H Q) : CallR X f r' := fun pins s σ H x v Q I rx q => h pins s σ H x v Q I rx (k _ _ _ q)
theorem MtR.imp {X : Cx} {f : String} {r r' : V → List V → Hp → VK → Prop} (h : MtR X f r) (k : ∀ x y H Q, r' x y H Q → r x y H Q) : MtR X f r' := fun pins s σ H x y v u Q I rx ry q => h pins s σ H x y v u Q I rx ry (k _ _ _ _ q)
theorem IxR.imp {X : Cx} {r r' : R2} (h : IxR X r) (k : ∀ x y H Q, r' x y H Q → r x y H Q) : IxR X r' := fun a b pins s σ H x y v u Q I rx ry q => h a b pins s σ H x y v u Q I rx ry (k _ _ _ _ q)
theorem SlR.imp {X : Cx} {r r' : V → Option Int → Option Int → Hp → VK → Prop} (h : SlR X r) (k : ∀ x y z H Q, r' x y z H Q → r x y z H Q) : SlR X r' := fun pins s σ H x v vl vu lo hi sl Q I rx a b c q => h pins s σ H x v vl vu lo hi sl Q I rx a b c (k _ _ _ _ _ q)

/-- two values in, a computation: its reading -/
def G2 (S : Sy) (W : WX) (σ : St) (g : PV → PV → Mh → Res PV) : R2 := fun x y H Q => ∃ u M p q, Sim S u M H ∧ Rep S u H p x ∧ Rep S u H q y ∧ Post S W σ (Rep S) u H (g p q M) Q
section
variable {S : Sy} {W : WX} {σ : St} {u : List Addr} {H : Hp} {M : Mh}
theorem Rep.int {i : Int} {x : V} (h : Rep S u H (.int i) x) : x = .int i := h
theorem Rep.str {i : Str} {x : V} (h : Rep S u H (.str i) x) : x = .str i := h
theorem Rep.bl {i : Bool} {x : V} (h : Rep S u H (.bl i) x) : x = .bl i := h
/-- the object of M at n -/
theorem Sim.obj (s : Sim S u M H) {n : Nat} {o : MO} {x : V} (e : M[n]? = some o) (h : Rep S u H (.ref n) x) : ∃ a, u[n]? = some a ∧ x = .ref a ∧ RepO S u H a o := by
  obtain ⟨a, h1, h2⟩ := h
  exact ⟨a, h1, h2, s.at_ n a o h1 e⟩
theorem Sim.lst (s : Sim S u M H) {n : Nat} {l : List PV} {x : V} (e : M[n]? = some (.lst l)) (h : Rep S u H (.ref n) x) : ∃ a vs, u[n]? = some a ∧ x = .ref a ∧ H a = some (.lst vs) ∧ Reps S u H l vs := by
  obtain ⟨a, h1, h2, vs, h3, h4⟩ := s.obj e h
  exact ⟨a, vs, h1, h2, h3, h4⟩
/-- a new list of M -/
theorem post_newL {l : List PV} {vs : List V} {Q : V → Hp → Prop} (s : Sim S u M H) (h : Reps S u H l vs) (q : Post S W σ (Rep S) u H (newL l M) Q) {p : Addr} (hp : H p = none) : Q (.ref p) (upd H p (.lst vs)) := by
  obtain ⟨s1, f1⟩ := s.new (m := .lst l) (o := .lst vs) hp fun f => ⟨vs, upd_same, h.fr s f⟩
  refine q _ _ _ s1 f1 ⟨p, ?_, rfl⟩
  rw [← s.len, List.getElem?_append_right (Nat.le_refl _)]
  simp
/-- a new tuple -/
theorem post_tup {l : List PV} {vs : List V} {Q : V → Hp → Prop} (s : Sim S u M H) (h : Reps S u H l vs) (q : Post S W σ (Rep S) u H (.ok (.tup l) M) Q) {p : Addr} (hp : H p = none) : Q (.ref p) (upd H p (.tup vs)) := by
  obtain ⟨s1, f1⟩ := s.alloc (o := .tup vs) hp
  exact q _ _ _ s1 f1 ⟨p, vs, rfl, upd_same, h.fr s f1⟩
/-- a list of M is changed -/
theorem post_setL {n : Nat} {a : Addr} {l : List PV} {vs : List V} {p : PV} {v : V} {Q : V → Hp → Prop} (s : Sim S u M H) (ha : u[n]? = some a) (h : Reps S u H l vs) (hv : ∀ u' H', Rep S u' H' p v) (q : Post S W σ (Rep S) u H (.ok p (M.set n (.lst l))) Q) : Q v (upd H a (.lst vs)) := by
  obtain ⟨s1, f1⟩ := s.put (m := .lst l) (o := .lst vs) ha fun f => ⟨vs, upd_same, h.fr s f⟩
  exact q _ _ _ s1 f1 (hv _ _)
theorem Reps.flat (k : Nat) {l : List PV} {vs : List V} (h : Reps S u H l vs) : Reps S u H (List.replicate k l).flatten (List.replicate k vs).flatten := by
  induction k with
  | zero => simp [Reps]
  | succ k ih =>
    rw [List.replicate_succ, List.replicate_succ, List.flatten_cons, List.flatten_cons]
    exact h.append ih
theorem Reps.cut {l : List PV} {vs : List V} (h : Reps S u H l vs) (lo hi : Option Int) : Reps S u H (cut l lo hi) (cutV vs lo hi) := by
  unfold Pi.cut cutV
  rw [h.length]
  exact Reps.take _ (Reps.drop _ h)
theorem Reps.nil_iff {l : List PV} {vs : List V} (h : Reps S u H l vs) : vs = [] ↔ l = [] := by
  have e := h.length
  constructor
  · rintro rfl
    exact List.length_eq_zero_iff.mp e.symm
  · rintro rfl
    exact List.length_eq_zero_iff.mp e
theorem atI_rep {l : List PV} {vs : List V} {i : Int} {p : PV} (h : Reps S u H l vs) (e : atI l i = some p) : ∃ v, atI vs i = some v ∧ Rep S u H p v := by
  unfold atI at *
  rw [h.length]
  cases q : ixN l.length i with
  | none => rw [q] at e; cases e
  | some j =>
    rw [q] at e
    exact h.get e
variable {X : Cx}
theorem g_add (hK : X.K = S.K) : OpR X (binaryOp .Add) (G2 S W σ (binop .add)) := by
  refine OpR.imp (OpR.or op_add (OpR.or op_add_str (OpR.or op_catA op_cat))) fun x y H Q ⟨u, M, p, q, s, hp, hq, h⟩ => ?_
  unfold binop at h
  split at h <;> (first | contradiction | skip)
  · cases hp
    cases hq
    exact .inl ⟨_, _, rfl, rfl, Post.now h s rfl⟩
  · cases hp
    cases hq
    split at h
    · rename_i hl
      exact .inr (.inl ⟨_, _, rfl, rfl, hl, Post.now h s rfl⟩)
    · exact h.elim
  · obtain ⟨a, vs, rfl, ha, ra⟩ := hp
    obtain ⟨b, ws, rfl, hb, rb⟩ := hq
    split at h
    · rename_i hl
      refine .inr (.inr (.inl ⟨a, b, vs, ws, rfl, rfl, .of ha, .of hb, by rw [ra.length, rb.length]; exact hl, fun e => ?_, fun e1 e => ?_, fun e1 e2 p hp => ?_⟩))
      · have e' := ra.nil_iff.mp e
        subst e'
        exact Post.now h s ⟨b, ws, rfl, hb, rb⟩
      · have e' := rb.nil_iff.mp e
        subst e'
        rw [List.append_nil] at h
        exact Post.now h s ⟨a, vs, rfl, ha, ra⟩
      · exact post_tup s (ra.append rb) h hp
    · exact h.elim
  · split at h <;> (first | contradiction | skip)
    rename_i e1 e2
    obtain ⟨a, vs, ha, rfl, h1, r1⟩ := s.lst e1 hp
    obtain ⟨b, ws, hb, rfl, h2, r2⟩ := s.lst e2 hq
    split at h
    · rename_i hl
      exact .inr (.inr (.inr ⟨a, b, vs, ws, rfl, rfl, h1, h2, by rw [r1.length, r2.length]; exact hl, fun p hp => post_newL s (r1.append r2) h hp⟩))
    · exact h.elim
  all_goals exact h.elim
theorem g_sub : OpR X (binaryOp .Sub) (G2 S W σ (binop .sub)) := by
  refine OpR.imp op_sub fun x y H Q ⟨u, M, p, q, s, hp, hq, h⟩ => ?_
  unfold binop at h
  split at h <;> (first | contradiction | skip)
  · cases hp
    cases hq
    exact ⟨_, _, rfl, rfl, Post.now h s rfl⟩
  all_goals exact h.elim
theorem g_fdiv : OpR X (binaryOp .FloorDiv) (G2 S W σ (binop .fdiv)) := by
  refine OpR.imp op_fdiv fun x y H Q ⟨u, M, p, q, s, hp, hq, h⟩ => ?_
  unfold binop at h
  split at h <;> (first | contradiction | skip)
  · cases hp
    cases hq
    split at h
    · rename_i hc
      exact ⟨_, _, rfl, rfl, hc, Post.now h s rfl⟩
    · exact h.elim
  all_goals exact h.elim
theorem g_mod : OpR X (binaryOp .Mod) (G2 S W σ (binop .mod)) := by
  refine OpR.imp op_mod fun x y H Q ⟨u, M, p, q, s, hp, hq, h⟩ => ?_
  unfold binop at h
  split at h <;> (first | contradiction | skip)
  · cases hp
    cases hq
    split at h
    · rename_i hc
      exact ⟨_, _, rfl, rfl, hc, Post.now h s rfl⟩
    · exact h.elim
  all_goals exact h.elim
theorem g_pow : OpR X (binaryOp .Pow) (G2 S W σ (binop .pow)) := by
  refine OpR.imp op_pow fun x y H Q ⟨u, M, p, q, s, hp, hq, h⟩ => ?_
  unfold binop at h
  split at h <;> (first | contradiction | skip)
  · cases hp
    cases hq
    split at h
    · rename_i hc
      exact ⟨_, _, rfl, rfl, ⟨hc.1, by omega, hc.2.2⟩, Post.now h s rfl⟩
    · exact h.elim
  all_goals exact h.elim
theorem g_mul (hK : X.K = S.K) : OpR X (binaryOp .Mult) (G2 S W σ (binop .mul)) := by
  refine OpR.imp (OpR.or op_mul (OpR.or op_rep (OpR.or op_repT op_rep01))) fun x y H Q ⟨u, M, p, q, s, hp, hq, h⟩ => ?_
  unfold binop at h
  split at h <;> (first | contradiction | skip)
  · cases hp
    cases hq
    split at h
    · rename_i hc
      exact .inl ⟨_, _, rfl, rfl, hc, Post.now h s rfl⟩
    · exact h.elim
  · split at h <;> (first | contradiction | skip)
    · rename_i e1
      obtain ⟨a, vs, ha, rfl, h1, r1⟩ := s.lst e1 hp
      cases hq
      split at h
      · rename_i hc
        obtain ⟨c1, c2, c3⟩ := hc
        exact .inr (.inl ⟨a, _, vs, rfl, rfl, h1, by omega, by omega, by rw [r1.length]; exact c3, fun p hp => post_newL s (r1.flat _) h hp⟩)
      · exact h.elim
  · obtain ⟨a, vs, rfl, ha, ra⟩ := hp
    cases hq
    split at h
    · rename_i k _ _ hc
      obtain ⟨c1, c2, c3, c4⟩ := hc
      by_cases k2 : 2 ≤ k
      · exact .inr (.inr (.inl ⟨a, _, vs, rfl, rfl, .of ha, fun e => c1 (ra.nil_iff.mp e), k2, c3, by rw [ra.length]; exact c4, fun p hp => post_tup s (ra.flat _) h hp⟩))
      · refine .inr (.inr (.inr ⟨a, _, vs, rfl, rfl, .of ha, fun e => c1 (ra.nil_iff.mp e), ?_⟩))
        by_cases k1 : k = 1
        · subst k1
          exact .inl ⟨rfl, Post.now h s ⟨a, vs, rfl, ha, by simpa using ra⟩⟩
        · have k0 : k = 0 := by omega
          subst k0
          exact .inr ⟨rfl, fun p hp => post_tup (vs := []) s (by simp [Reps]) h hp⟩
    · exact h.elim
  all_goals exact h.elim

theorem dp_all {n : Nat} (ih : ∀ {p : PV} {x : V} {d : PyData}, pvD n M p = some d → Rep S u H p x → Dp S.K H x d) : ∀ {l : List PV} {vs : List V} {ds : List PyData}, l.mapM (pvD n M) = some ds → Reps S u H l vs → DpAll S.K H vs ds
  | [], _, _, e, h => by
    cases h
    simp at e
    subst e
    exact .nil
  | p :: l, _, _, e, ⟨v, r, e2, h, t⟩ => by
    subst e2
    simp only [List.mapM_cons, Option.bind_eq_bind, Option.bind_eq_some_iff, Option.pure_def, Option.some.injEq] at e
    obtain ⟨d, h1, ds, h2, rfl⟩ := e
    exact .cons (ih h1 h) (dp_all ih h2 t)
theorem lst_sq {a : Addr} {l : List PV} (h : RepO S u H a (.lst l)) : ∃ vs, SqL S.K H a vs ∧ Reps S u H l vs := by
  obtain ⟨vs, h1, h2⟩ := h
  exact ⟨vs, .inl (.inl h1), h2⟩
theorem dp_of (s : Sim S u M H) : ∀ {n : Nat} {p : PV} {x : V} {d : PyData}, pvD n M p = some d → Rep S u H p x → Dp S.K H x d := by
  intro n
  induction n with
  | zero =>
    intro p x d e h
    unfold pvD at e
    split at e <;> (first | contradiction | (cases e; cases h; constructor))
  | succ n ih =>
    intro p x d e h
    cases p with
    | non => cases e; cases h; constructor
    | bl b => cases e; cases h; constructor
    | int b => cases e; cases h; constructor
    | str b => cases e; cases h; constructor
    | fn b => cases e
    | cls b => cases e
    | ty b => cases e
    | scr b => cases e
    | tup l =>
      have e' : (l.mapM (pvD n M)).map PyData.tuple = some d := e
      obtain ⟨ds, h1, rfl⟩ := Option.map_eq_some_iff.mp e'
      obtain ⟨a, vs, rfl, ha, ra⟩ := h
      exact .tup (.of ha) (dp_all ih h1 ra)
    | ct l =>
      have e' : (l.mapM (pvD n M)).map PyData.tuple = some d := e
      obtain ⟨ds, h1, rfl⟩ := Option.map_eq_some_iff.mp e'
      obtain ⟨a, vs, rfl, ha, ra⟩ := h
      exact .tup (.inr ha) (dp_all ih h1 ra)
    | ref k =>
      cases q : M[k]? with
      | none =>
        have e' : (match M[k]? with
          | some (.lst l) => (l.mapM (pvD n M)).map PyData.list
          | _ => none) = some d := e
        rw [q] at e'
        cases e'
      | some o =>
        have e' : (match M[k]? with
          | some (.lst l) => (l.mapM (pvD n M)).map PyData.list
          | _ => none) = some d := e
        rw [q] at e'
        obtain ⟨a, h1, rfl, ro⟩ := s.obj q h
        cases o with
        | lst l =>
          obtain ⟨ds, h2, rfl⟩ := Option.map_eq_some_iff.mp e'
          obtain ⟨vs, h3, h4⟩ := lst_sq ro
          exact .lst h3 (dp_all ih h2 h4)
        | dct l => cases e'
        | ins C fs => cases e'
theorem eqPV_some {p q : PV} {b : Bool} (h : eqPV M p q = some b) : ∃ d e, pvD 64 M p = some d ∧ pvD 64 M q = some e ∧ SeqAt.shaped d = true ∧ SeqAt.shaped e = true ∧ b = PyData.eqv d e := by
  unfold eqPV at h
  split at h
  · rename_i d e h1 h2
    split at h
    · rename_i hs
      obtain ⟨s1, s2⟩ := Bool.and_eq_true_iff.mp hs
      cases h
      exact ⟨d, e, h1, h2, s1, s2, rfl⟩
    · cases h
  · cases h
theorem oB_post {o : Option Bool} {Q : V → Hp → Prop} (s : Sim S u M H) (h : Post S W σ (Rep S) u H (oB o M) Q) : ∃ b, o = some b ∧ Q (.bl b) H := by
  cases o with
  | none => exact h.elim
  | some b => exact ⟨b, rfl, Post.now h s rfl⟩
theorem oP_post {o : Option PV} {Q : V → Hp → Prop} (s : Sim S u M H) (h : Post S W σ (Rep S) u H (oP o M) Q) : ∃ p, o = some p ∧ ∀ v, Rep S u H p v → Q v H := by
  cases o with
  | none => exact h.elim
  | some b => exact ⟨b, rfl, fun v k => Post.now h s k⟩
theorem g_eq (hK : X.K = S.K) (hu : X.A.units + 64 < cLine) : OpR X (compareOp .Eq) (G2 S W σ (cmpop .eq)) := by
  refine OpR.imp (op_eqD hu) fun x y H Q ⟨u, M, p, q, s, hp, hq, h⟩ => ?_
  obtain ⟨b, e, h⟩ := oB_post s (show Post S W σ (Rep S) u H (oB (eqPV M p q) M) Q from h)
  obtain ⟨d1, d2, h1, h2, h3, h4, rfl⟩ := eqPV_some e
  exact ⟨d1, d2, by rw [hK]; exact dp_of s h1 hp, by rw [hK]; exact dp_of s h2 hq, h3, h4, h⟩
theorem g_ne (hK : X.K = S.K) (hu : X.A.units + 64 < cLine) : OpR X (compareOp .NotEq) (G2 S W σ (cmpop .ne)) := by
  refine OpR.imp (op_neD hu) fun x y H Q ⟨u, M, p, q, s, hp, hq, h⟩ => ?_
  obtain ⟨b, e, h⟩ := oB_post s (show Post S W σ (Rep S) u H (oB ((eqPV M p q).map (!·)) M) Q from h)
  obtain ⟨b', e', rfl⟩ := Option.map_eq_some_iff.mp e
  obtain ⟨d1, d2, h1, h2, h3, h4, rfl⟩ := eqPV_some e'
  exact ⟨d1, d2, by rw [hK]; exact dp_of s h1 hp, by rw [hK]; exact dp_of s h2 hq, h3, h4, h⟩
theorem g_lt : OpR X (compareOp .Lt) (G2 S W σ (cmpop .lt)) := by
  refine OpR.imp op_lt fun x y H Q ⟨u, M, p, q, s, hp, hq, h⟩ => ?_
  unfold cmpop at h
  split at h <;> (first | contradiction | skip)
  · cases hp
    cases hq
    exact ⟨_, _, rfl, rfl, Post.now h s rfl⟩
  all_goals exact h.elim
theorem g_le : OpR X (compareOp .LtE) (G2 S W σ (cmpop .le)) := by
  refine OpR.imp op_le fun x y H Q ⟨u, M, p, q, s, hp, hq, h⟩ => ?_
  unfold cmpop at h
  split at h <;> (first | contradiction | skip)
  · cases hp
    cases hq
    exact ⟨_, _, rfl, rfl, Post.now h s rfl⟩
  all_goals exact h.elim
theorem g_gt : OpR X (compareOp .Gt) (G2 S W σ (cmpop .gt)) := by
  refine OpR.imp op_gt fun x y H Q ⟨u, M, p, q, s, hp, hq, h⟩ => ?_
  unfold cmpop at h
  split at h <;> (first | contradiction | skip)
  · cases hp
    cases hq
    exact ⟨_, _, rfl, rfl, Post.now h s rfl⟩
  all_goals exact h.elim
theorem g_ge : OpR X (compareOp .GtE) (G2 S W σ (cmpop .ge)) := by
  refine OpR.imp op_ge fun x y H Q ⟨u, M, p, q, s, hp, hq, h⟩ => ?_
  unfold cmpop at h
  split at h <;> (first | contradiction | skip)
  · cases hp
    cases hq
    exact ⟨_, _, rfl, rfl, Post.now h s rfl⟩
  all_goals exact h.elim
theorem rep_non {p : PV} {x : V} (h : Rep S u H p x) : decide (x = .non) = decide (p = .non) := by
  cases p with
  | non => cases h; simp
  | bl b => cases h; simp
  | int b => cases h; simp
  | str b => cases h; simp
  | fn b => cases h; simp
  | cls b => cases h; simp
  | ty b => cases h; simp
  | ref k => obtain ⟨a, _, rfl⟩ := h; simp
  | tup l => obtain ⟨a, _, rfl, _⟩ := h; simp
  | ct l => obtain ⟨a, _, rfl, _⟩ := h; simp
  | scr l => obtain ⟨a, _, rfl, _⟩ := h; simp
theorem g_is : OpR X (compareOp .Is) (G2 S W σ (cmpop .is)) := by
  refine OpR.imp op_isN fun x y H Q ⟨u, M, p, q, s, hp, hq, h⟩ => ?_
  unfold cmpop at h
  split at h <;> (first | contradiction | skip)
  · cases hq
    exact ⟨rfl, by rw [rep_non hp]; exact Post.now h s rfl⟩
  all_goals exact h.elim
theorem g_isnt : OpR X (compareOp .IsNot) (G2 S W σ (cmpop .isnt)) := by
  refine OpR.imp op_notN fun x y H Q ⟨u, M, p, q, s, hp, hq, h⟩ => ?_
  unfold cmpop at h
  split at h <;> (first | contradiction | skip)
  · cases hq
    exact ⟨rfl, by rw [rep_non hp]; exact Post.now h s rfl⟩
  all_goals exact h.elim
end
end Pi
end
section
namespace L2
open PySem PySem.Spec PyProof.Rows
section
variable {X : Cx} {pins : List (Addr × Obj)} {σ : L2.St} {H : Hp} {s : Shared} {a : Addr}
/-- an empty dict is of both kinds -/
theorem Inv.asT (I : Inv X pins σ H s) (e : H a = some (.dK [])) : Inv X pins σ (upd H a (.dT [])) s := by
  obtain ⟨z, hd, vs, r, ob, es, ep, e1, e2, e3, e4, e5, e6⟩ := (show ObjOk X.prog X.w H s.heap a (.dK []) from I.hok a _ e)
  cases r
  refine I.write (h' := s.heap) (t' := s.toks) (x := a) (e := a) (o := .dT []) (by rw [e]; trivial) (.inl rfl) (fun _ _ _ q => q) ⟨_, e1⟩ ⟨z, hd, [], .nil, ob, es, ep, e1, e2, e3, ?_, List.nodup_nil⟩
  cases hl : es.toList with
  | nil => rfl
  | cons x t => rw [hl] at e5; cases e5
theorem Inv.asK (I : Inv X pins σ H s) (e : H a = some (.dT [])) : Inv X pins σ (upd H a (.dK [])) s := by
  obtain ⟨z, hd, vs, r, ob, es, ep, e1, e2, e3, e4, e5⟩ := (show ObjOk X.prog X.w H s.heap a (.dT []) from I.hok a _ e)
  cases r
  have e4' : es.toList = [] := e4
  refine I.write (h' := s.heap) (t' := s.toks) (x := a) (e := a) (o := .dK []) (by rw [e]; trivial) (.inl rfl) (fun _ _ _ q => q) ⟨_, e1⟩ ⟨z, hd, [], .nil, ob, es, ep, e1, e2, e3, ?_, ?_, List.nodup_nil⟩
  · intro x hx
    have hx' : x ∈ es.toList := by simpa using hx
    rw [e4'] at hx'
    cases hx'
  · rw [e4']
    exact .nil
end
end L2
namespace Pi
open PySem PySem.Spec PyProof.Rows L2
section
variable {S : Sy} {W : WX} {σ : St} {u : List Addr} {H : Hp} {M : Mh} {X : Cx}
theorem kPV_inj {a b : Key} (h : kPV a = kPV b) : a = b := by
  cases a <;> cases b <;> simp only [kPV, PV.int.injEq, PV.str.injEq, reduceCtorEq] at h
  · rw [h]
  · rw [h]
theorem kPVs_inj : ∀ {a b : List Key}, a.map kPV = b.map kPV → a = b
  | [], [], _ => rfl
  | [], _ :: _, h => by cases h
  | _ :: _, [], h => by cases h
  | a :: r, b :: t, h => by
    rw [List.map_cons, List.map_cons, List.cons.injEq] at h
    rw [kPV_inj h.1, kPVs_inj h.2]
theorem rep_key {k : Key} {x : V} (h : Rep S u H (kPV k) x) : x = kV k := by
  cases k with
  | inl i => exact h
  | inr i => exact h
theorem reps_keys : ∀ {k : List Key} {x : List V}, Reps S u H (k.map kPV) x → x = k.map kV
  | [], _, h => h
  | _ :: _, _, ⟨v, r, e, h, t⟩ => by rw [e, rep_key h, reps_keys t]; rfl
/-- what a key may be -/
theorem key_cases {p : PV} (h : keyOk p = true) : (∃ k : Key, p = kPV k) ∨ ∃ k : List Key, p = .tup (k.map kPV) := by
  cases p with
  | int i => exact .inl ⟨.inl i, rfl⟩
  | str i => exact .inl ⟨.inr i, rfl⟩
  | tup l =>
    right
    have h' : (l.all fun p => match p with
      | .int _ => true
      | .str _ => true
      | _ => false) = true := h
    clear h
    suffices hs : ∃ k : List Key, l = k.map kPV from by
      obtain ⟨k, e⟩ := hs
      exact ⟨k, by rw [e]⟩
    induction l with
    | nil => exact ⟨[], rfl⟩
    | cons p r ih =>
      rw [List.all_cons, Bool.and_eq_true] at h'
      obtain ⟨k, e⟩ := ih h'.2
      have h1 := h'.1
      cases p with
      | int i => exact ⟨.inl i :: k, by rw [e]; rfl⟩
      | str i => exact ⟨.inr i :: k, by rw [e]; rfl⟩
      | _ => cases h1
  | _ => cases h
theorem dGet_K {d : List (PV × PV)} {kvs : List (Key × V)} (r : Paired (fun p q => p.1 = kPV q.1 ∧ Rep S u H p.2 q.2) d kvs) (k : Key) :
    (dGet d (kPV k) = none ∧ valV kvs k = none) ∨ ∃ p v, dGet d (kPV k) = some p ∧ valV kvs k = some v ∧ Rep S u H p v := by
  induction r with
  | nil => exact .inl ⟨rfl, rfl⟩
  | @cons a b l m h t ih =>
    by_cases e : b.1 = k
    · right
      refine ⟨a.2, b.2, ?_, valV_pos e, h.2⟩
      unfold dGet
      rw [List.find?_cons, h.1, e]
      simp
    · have e' : ¬ kPV b.1 = kPV k := fun z => e (kPV_inj z)
      have q : dGet (a :: l) (kPV k) = dGet l (kPV k) := by
        unfold dGet
        rw [List.find?_cons, h.1]
        simp [e']
      rw [q, valV_neg e]
      exact ih
theorem dGet_T {d : List (PV × PV)} {kvs : List (List Key × V)} (r : Paired (fun p q => p.1 = PV.tup (q.1.map kPV) ∧ Rep S u H p.2 q.2) d kvs) (k : List Key) :
    (dGet d (.tup (k.map kPV)) = none ∧ valV kvs k = none) ∨ ∃ p v, dGet d (.tup (k.map kPV)) = some p ∧ valV kvs k = some v ∧ Rep S u H p v := by
  induction r with
  | nil => exact .inl ⟨rfl, rfl⟩
  | @cons a b l m h t ih =>
    by_cases e : b.1 = k
    · right
      refine ⟨a.2, b.2, ?_, valV_pos e, h.2⟩
      unfold dGet
      rw [List.find?_cons, h.1, e]
      simp
    · have e' : ¬ PV.tup (b.1.map kPV) = PV.tup (k.map kPV) := fun z => e (kPVs_inj (PV.tup.inj z))
      have q : dGet (a :: l) (.tup (k.map kPV)) = dGet l (.tup (k.map kPV)) := by
        unfold dGet
        rw [List.find?_cons, h.1]
        simp [e']
      rw [q, valV_neg e]
      exact ih
/-- a look into a dict of M: as it stands, or as an empty one of the other kind -/
theorem dct_get (s : Sim S u M H) {n : Nat} {d : List (PV × PV)} {k : PV} {x y : V} (e : M[n]? = some (.dct d)) (hx : Rep S u H (.ref n) x) (hy : Rep S u H k y) (hf : keyFits d k = true) :
    ∃ a, u[n]? = some a ∧ x = .ref a ∧ ∃ H1, (H1 = H ∨ (H a = some (.dK []) ∧ H1 = upd H a (.dT [])) ∨ (H a = some (.dT []) ∧ H1 = upd H a (.dK []))) ∧ Sim S u M H1 ∧ Fr u H u H1 ∧
      ∃ o, DGet H1 a y o ∧ ((dGet d k = none ∧ o = none) ∨ ∃ p v, dGet d k = some p ∧ o = some v ∧ Rep S u H1 p v) := by
  obtain ⟨a, h1, rfl, ro⟩ := s.obj e hx
  refine ⟨a, h1, rfl, ?_⟩
  obtain ⟨hk, hfit⟩ := Bool.and_eq_true_iff.mp (show (keyOk k && _) = true from hf)
  rcases ro with ⟨kvs, h2, nd, r⟩ | ⟨kvs, h2, nd, r⟩
  · rcases key_cases hk with ⟨kk, rfl⟩ | ⟨kk, rfl⟩
    · refine ⟨H, .inl rfl, s, Fr.refl, valV kvs kk, by rw [rep_key hy]; exact DGet.k h2, ?_⟩
      exact dGet_K r kk
    · cases r with
      | nil =>
        obtain ⟨b, vs, rfl, hb, rb⟩ := hy
        have hab : b ≠ a := ne_of hb h2 (by intro z; cases z)
        obtain ⟨s1, f1⟩ := s.put (m := .dct []) (o := .dT []) h1 fun f => .inr ⟨[], upd_same, List.nodup_nil, .nil⟩
        have eM : M.set n (.dct []) = M := by
          obtain ⟨hn, q⟩ := List.getElem?_eq_some_iff.mp e
          rw [← q]
          exact List.set_getElem_self hn
        rw [eM] at s1
        refine ⟨upd H a (.dT []), .inr (.inl ⟨h2, rfl⟩), s1, f1, none, .inr ⟨[], kk, b, .inl upd_same, rfl, ?_, rfl⟩, .inl ⟨rfl, rfl⟩⟩
        rw [upd_ne hab, hb, reps_keys rb]
      | cons h t =>
        rename_i p0 q0 l0 m0
        obtain ⟨z1, z2⟩ := h
        have hfit' : (isT (PV.tup (kk.map kPV)) == isT p0.1) = true := hfit
        rw [z1] at hfit'
        cases hq0 : q0.1 <;> (rw [hq0] at hfit'; exact absurd hfit' (by simp [isT, kPV]))
  · rcases key_cases hk with ⟨kk, rfl⟩ | ⟨kk, rfl⟩
    · cases r with
      | nil =>
        obtain ⟨s1, f1⟩ := s.put (m := .dct []) (o := .dK []) h1 fun f => .inl ⟨[], upd_same, List.nodup_nil, .nil⟩
        have eM : M.set n (.dct []) = M := by
          obtain ⟨hn, q⟩ := List.getElem?_eq_some_iff.mp e
          rw [← q]
          exact List.set_getElem_self hn
        rw [eM] at s1
        exact ⟨upd H a (.dK []), .inr (.inr ⟨h2, rfl⟩), s1, f1, none, .inl ⟨[], kk, .inl upd_same, rep_key hy, rfl⟩, .inl ⟨rfl, rfl⟩⟩
      | cons h t =>
        rename_i p0 q0 l0 m0
        obtain ⟨z1, z2⟩ := h
        have hfit' : (isT (kPV kk) == isT p0.1) = true := hfit
        rw [z1] at hfit'
        cases kk <;> exact absurd hfit' (by simp [isT, kPV])
    · obtain ⟨b, vs, rfl, hb, rb⟩ := hy
      refine ⟨H, .inl rfl, s, Fr.refl, valV kvs kk, DGet.t h2 (by rw [hb, reps_keys rb]), ?_⟩
      exact dGet_T r kk
theorem inv_as {pins : List (Addr × Obj)} {sh : Shared} {a : Addr} {H1 : Hp} (I : Inv X pins σ H sh) (h : H1 = H ∨ (H a = some (.dK []) ∧ H1 = upd H a (.dT [])) ∨ (H a = some (.dT []) ∧ H1 = upd H a (.dK []))) : Inv X pins σ H1 sh := by
  rcases h with rfl | ⟨h, rfl⟩ | ⟨h, rfl⟩
  · exact I
  · exact I.asT h
  · exact I.asK h
theorem OpR.exf {f : Value → Value → Sem Value} : OpR X f (fun _ _ _ _ => False) := fun _ _ _ _ _ _ _ _ _ _ _ _ h => h.elim

def rInT (K : PySem.W.Frag) : R2 := fun x y H Q => ∃ d ds, Dp K H x d ∧ Dp K H y (.tuple ds) ∧ SeqAt.shaped d = true ∧ SeqAt.shaped (.list ds) = true ∧ Q (.bl (ds.any fun z => PyData.eqv z d)) H
def rNotInT (K : PySem.W.Frag) : R2 := fun x y H Q => ∃ d ds, Dp K H x d ∧ Dp K H y (.tuple ds) ∧ SeqAt.shaped d = true ∧ SeqAt.shaped (.list ds) = true ∧ Q (.bl (!ds.any fun z => PyData.eqv z d)) H
theorem op_inT (hu : X.A.units + 65 < cLine) : OpR X (compareOp .In) (rInT X.K) := by
  intro pins s σ H x y v u Q I rx ry h
  obtain ⟨d, ds, hd, he, sd, se, q⟩ := h
  obtain ⟨as, r1⟩ := Dp.reads I d x v hd rx
  obtain ⟨bs, r2⟩ := Dp.reads I (.tuple ds) y u he ry
  exact SeqAt.in_tuple_reads r2 r1 (SeqAt.canLay_of_shaped se) (SeqAt.canLay_of_shaped sd) (room_in_shaped sd hu) ⟨.bl _, H, I, rfl, q⟩
theorem op_notInT (hu : X.A.units + 65 < cLine) : OpR X (compareOp .NotIn) (rNotInT X.K) := by
  intro pins s σ H x y v u Q I rx ry h
  obtain ⟨d, ds, hd, he, sd, se, q⟩ := h
  obtain ⟨as, r1⟩ := Dp.reads I d x v hd rx
  obtain ⟨bs, r2⟩ := Dp.reads I (.tuple ds) y u he ry
  exact SeqAt.notIn_tuple_reads r2 r1 (SeqAt.canLay_of_shaped se) (SeqAt.canLay_of_shaped sd) (room_in_shaped sd hu) ⟨.bl _, H, I, rfl, q⟩
def rDG (neg : Bool) : R2 := fun x y H Q => ∃ a H1 o, y = .ref a ∧ (H1 = H ∨ (H a = some (.dK []) ∧ H1 = upd H a (.dT [])) ∨ (H a = some (.dT []) ∧ H1 = upd H a (.dK []))) ∧ DGet H1 a x o ∧ Q (.bl (xor neg o.isSome)) H1
theorem op_inDct (hu : X.A.units + 1 < cLine) : OpR X (compareOp .In) (rDG false) := by
  intro pins s σ H x y v u Q I rx ry h
  obtain ⟨a, H1, o, rfl, h1, g, q⟩ := h
  cases ry
  exact d_in hu (inv_as I h1) g rx fun s' I' => ⟨.bl o.isSome, H1, I', rfl, by simpa using q⟩
theorem op_ninDct (hu : X.A.units + 1 < cLine) : OpR X (compareOp .NotIn) (rDG true) := by
  intro pins s σ H x y v u Q I rx ry h
  obtain ⟨a, H1, o, rfl, h1, g, q⟩ := h
  cases ry
  exact d_notIn hu (inv_as I h1) g rx fun s' I' => ⟨.bl (!o.isSome), H1, I', rfl, by simpa using q⟩
theorem inPV_some {x : PV} {l : List PV} {b : Bool} (h : inPV M x l = some b) : ∃ d ds, pvD 64 M x = some d ∧ l.mapM (pvD 63 M) = some ds ∧ SeqAt.shaped d = true ∧ SeqAt.shaped (.list ds) = true ∧ b = ds.any fun z => PyData.eqv z d := by
  unfold inPV at h
  split at h
  · rename_i d e h1 h2
    split at h
    · rename_i hs
      obtain ⟨s1, s2⟩ := Bool.and_eq_true_iff.mp hs
      cases h
      exact ⟨d, e, h1, h2, s1, s2, rfl⟩
    · cases h
  · cases h
theorem g_in_gen {neg : Bool} {x y : V} {Q : VK} (hK : X.K = S.K) (h : G2 S W σ (inR neg) x y H Q) :
    (∃ (c : Nat) (z : Str), x = .str ⟨#[c]⟩ ∧ y = .str z ∧ Q (.bl (xor neg (decide (c ∈ z.cps.toList)))) H) ∨
    (∃ d ds, Dp X.K H x d ∧ Dp X.K H y (.tuple ds) ∧ SeqAt.shaped d = true ∧ SeqAt.shaped (.list ds) = true ∧ Q (.bl (xor neg (ds.any fun z => PyData.eqv z d))) H) ∨
    (∃ d ds, Dp X.K H x d ∧ Dp X.K H y (.list ds) ∧ SeqAt.shaped d = true ∧ SeqAt.shaped (.list ds) = true ∧ Q (.bl (xor neg (ds.any fun z => PyData.eqv z d))) H) ∨ rDG neg x y H Q := by
  obtain ⟨u, M, p, q, s, hp, hq, h⟩ := h
  unfold inR at h
  split at h
  · split at h
    · rename_i c hc
      cases hp
      cases hq
      refine .inl ⟨c, _, ?_, rfl, Post.now h s rfl⟩
      rename_i x' y' _
      have e : x'.cps = #[c] := by
        apply Array.toList_inj.mp
        rw [hc]
      obtain ⟨cps⟩ := x'
      cases e
      rfl
    · exact h.elim
  · obtain ⟨b, e, h⟩ := oB_post s h
    obtain ⟨b', e', rfl⟩ := Option.map_eq_some_iff.mp e
    obtain ⟨d, ds, h1, h2, s1, s2, rfl⟩ := inPV_some e'
    obtain ⟨a, vs, rfl, ha, ra⟩ := hq
    exact .inr (.inl ⟨d, ds, by rw [hK]; exact dp_of s h1 hp, by rw [hK]; exact .tup (.of ha) (dp_all (dp_of s) h2 ra), s1, s2, h⟩)
  · obtain ⟨b, e, h⟩ := oB_post s h
    obtain ⟨b', e', rfl⟩ := Option.map_eq_some_iff.mp e
    obtain ⟨d, ds, h1, h2, s1, s2, rfl⟩ := inPV_some e'
    obtain ⟨a, vs, rfl, ha, ra⟩ := hq
    exact .inr (.inl ⟨d, ds, by rw [hK]; exact dp_of s h1 hp, by rw [hK]; exact .tup (.inr ha) (dp_all (dp_of s) h2 ra), s1, s2, h⟩)
  · split at h
    · rename_i l hM
      obtain ⟨b, e, h⟩ := oB_post s h
      obtain ⟨b', e', rfl⟩ := Option.map_eq_some_iff.mp e
      obtain ⟨d, ds, h1, h2, s1, s2, rfl⟩ := inPV_some e'
      obtain ⟨a, vs, ha, rfl, h3, ra⟩ := s.lst hM hq
      exact .inr (.inr (.inl ⟨d, ds, by rw [hK]; exact dp_of s h1 hp, by rw [hK]; exact .lst (.of h3) (dp_all (dp_of s) h2 ra), s1, s2, h⟩))
    · rename_i d hM
      split at h
      · rename_i hf
        obtain ⟨a, ha, rfl, H1, hh, s1, f1, o, g, hd⟩ := dct_get s hM hq hp hf
        refine .inr (.inr (.inr ⟨a, H1, o, rfl, hh, g, ?_⟩))
        have e : (dGet d p).isSome = o.isSome := by
          rcases hd with ⟨e1, e2⟩ | ⟨p', v, e1, e2, _⟩ <;> rw [e1, e2] <;> rfl
        rw [← e]
        exact h _ _ _ s1 f1 rfl
      · exact h.elim
    · exact h.elim
  · exact h.elim
theorem g_in (hK : X.K = S.K) (hu : X.A.units + 65 < cLine) : OpR X (compareOp .In) (G2 S W σ (cmpop .inn)) := by
  refine OpR.imp (OpR.or op_in_sign (OpR.or (op_inT hu) (OpR.or (op_inD hu) (op_inDct (by omega))))) fun x y H Q h => ?_
  rcases g_in_gen (neg := false) hK h with ⟨c, z, h1, h2, h3⟩ | ⟨d, ds, h1, h2, h3, h4, h5⟩ | ⟨d, ds, h1, h2, h3, h4, h5⟩ | h
  · exact .inl ⟨c, z, h1, h2, by simpa using h3⟩
  · exact .inr (.inl ⟨d, ds, h1, h2, h3, h4, by simpa using h5⟩)
  · exact .inr (.inr (.inl ⟨d, ds, h1, h2, h3, h4, by simpa using h5⟩))
  · exact .inr (.inr (.inr h))
theorem g_nin (hK : X.K = S.K) (hu : X.A.units + 65 < cLine) : OpR X (compareOp .NotIn) (G2 S W σ (cmpop .nin)) := by
  refine OpR.imp (OpR.or op_notIn_sign (OpR.or (op_notInT hu) (OpR.or (op_notInD hu) (op_ninDct (by omega))))) fun x y H Q h => ?_
  rcases g_in_gen (neg := true) hK h with ⟨c, z, h1, h2, h3⟩ | ⟨d, ds, h1, h2, h3, h4, h5⟩ | ⟨d, ds, h1, h2, h3, h4, h5⟩ | h
  · exact .inl ⟨c, z, h1, h2, by simpa using h3⟩
  · exact .inr (.inl ⟨d, ds, h1, h2, h3, h4, by simpa using h5⟩)
  · exact .inr (.inr (.inl ⟨d, ds, h1, h2, h3, h4, by simpa using h5⟩))
  · exact .inr (.inr (.inr h))
end
end Pi
end
section
namespace Pi
open PySem PySem.Spec PyProof.Rows L2
section
variable {S : Sy} {W : WX} {σ : St} {u : List Addr} {H : Hp} {M : Mh} {X : Cx}
def rIxDct : R2 := fun x y H Q => ∃ a H1 v, x = .ref a ∧ (H1 = H ∨ (H a = some (.dK []) ∧ H1 = upd H a (.dT [])) ∨ (H a = some (.dT []) ∧ H1 = upd H a (.dK []))) ∧ DGet H1 a y (some v) ∧ Q v H1
theorem ix_dct (hu : X.A.units + 1 < cLine) : IxR X rIxDct := by
  intro value slice pins s σ H x y v u Q I rx ry h hs
  obtain ⟨a, H1, w, rfl, h1, g, q⟩ := h
  obtain rfl : v = Value.ref a := rx
  have I1 := inv_as I h1
  exact tail_any (dict_typeIs I1 g) PySem.F.slot_dict_getitem.lookup (d_getItem hu I1 g ry fun w' s' I' rw' => ⟨w, H1, I', rw', q⟩) hs
theorem g_ix (hK : X.K = S.K) (hu : X.A.units + 1 < cLine) : IxR X (G2 S W σ (fun p q M => ixop M p q)) := by
  refine IxR.imp (IxR.or ix_tup (IxR.or ix_list (IxR.or ix_str (ix_dct hu)))) fun x y H Q ⟨u, M, p, q, s, hp, hq, h⟩ => ?_
  have h : Post S W σ (Rep S) u H (ixop M p q) Q := h
  unfold ixop at h
  split at h
  · obtain ⟨z, e, h⟩ := oP_post s h
    obtain ⟨a, vs, rfl, ha, ra⟩ := hp
    cases hq
    obtain ⟨v, e2, rv⟩ := atI_rep ra e
    exact .inl ⟨a, vs, _, v, rfl, rfl, .of ha, e2, h v rv⟩
  · obtain ⟨z, e, h⟩ := oP_post s h
    obtain ⟨a, vs, rfl, ha, ra⟩ := hp
    cases hq
    obtain ⟨v, e2, rv⟩ := atI_rep ra e
    exact .inl ⟨a, vs, _, v, rfl, rfl, by rw [hK]; exact .inr ha, e2, h v rv⟩
  · obtain ⟨z, e, h⟩ := oP_post s h
    obtain ⟨a, vs, rfl, ha, ra⟩ := hp
    cases hq
    obtain ⟨v, e2, rv⟩ := atI_rep ra e
    exact .inr (.inl ⟨a, vs, _, v, rfl, rfl, by rw [hK]; exact ha.sq, e2, h v rv⟩)
  · cases hp
    cases hq
    split at h
    · rename_i hl
      split at h
      · rename_i c hc
        exact .inr (.inr (.inl ⟨_, _, c, rfl, rfl, hl, hc, Post.now h s rfl⟩))
      · exact h.elim
    · exact h.elim
  · split at h
    · rename_i l hM
      split at h
      · obtain ⟨a, vs, ha, rfl, h3, ra⟩ := s.lst hM hp
        cases hq
        obtain ⟨z, e, h⟩ := oP_post s h
        obtain ⟨v, e2, rv⟩ := atI_rep ra e
        exact .inr (.inl ⟨a, vs, _, v, rfl, rfl, .of h3, e2, h v rv⟩)
      · exact h.elim
    · rename_i d hM
      split at h
      · rename_i hf
        obtain ⟨a, ha, rfl, H1, hh, s1, f1, o, g, hd⟩ := dct_get s hM hp hq hf
        rcases hd with ⟨e1, e2⟩ | ⟨p', v, e1, e2, rv⟩
        · rw [e1] at h
          exact h.elim
        · rw [e1] at h
          rw [e2] at g
          exact .inr (.inr (.inr ⟨a, H1, v, rfl, hh, g, h _ _ _ s1 f1 rv⟩))
      · exact h.elim
    · exact h.elim
  · exact h.elim
def GS (S : Sy) (W : WX) (σ : St) : V → Option Int → Option Int → Hp → VK → Prop := fun x lo hi H Q => ∃ u M p, Sim S u M H ∧ Rep S u H p x ∧ Post S W σ (Rep S) u H (slop M p lo hi) Q
theorem cut_whole {α : Type} {l : List α} {lo hi : Option Int} (h : HT.sIx l.length 0 lo = 0 ∧ HT.sIx l.length l.length hi = l.length) : cut l lo hi = l := by
  unfold cut
  rw [h.1, h.2]
  simp
theorem g_sl (hK : X.K = S.K) : SlR X (GS S W σ) := by
  refine SlR.imp (SlR.or sl_tupA (SlR.or sl_list L2.sl_str)) fun x lo hi H Q ⟨u, M, p, s, hp, h⟩ => ?_
  unfold slop at h
  split at h
  · obtain ⟨a, vs, rfl, ha, ra⟩ := hp
    refine .inl ⟨a, vs, rfl, .of ha, fun hw => ?_, fun hw q hq => post_tup s (ra.cut _ _) h hq⟩
    rw [ra.length] at hw
    rw [cut_whole hw] at h
    exact Post.now h s ⟨a, vs, rfl, ha, ra⟩
  · obtain ⟨a, vs, rfl, ha, ra⟩ := hp
    exact .inr (.inl ⟨a, vs, rfl, by rw [hK]; exact ha.sq, fun q hq => post_newL s (ra.cut _ _) h hq⟩)
  · cases hp
    split at h
    · rename_i hl
      exact .inr (.inr ⟨_, rfl, hl, Post.now h s rfl⟩)
    · exact h.elim
  · split at h
    · rename_i l hM
      obtain ⟨a, vs, ha, rfl, h3, ra⟩ := s.lst hM hp
      exact .inr (.inl ⟨a, vs, rfl, .of h3, fun q hq => post_newL s (ra.cut _ _) h hq⟩)
    · exact h.elim
  · exact h.elim
theorem empty_iff {l : List PV} {vs : List V} (h : Reps S u H l vs) : vs.isEmpty = l.isEmpty := by
  cases l with
  | nil => cases h; rfl
  | cons p r => obtain ⟨v, w, rfl, _⟩ := h; rfl
theorem tru_rep (s : Sim S u M H) {p : PV} {x : V} {b : Bool} (h : Rep S u H p x) (e : truth M p = some b) : TruV S.K x H b := by
  cases p with
  | non => cases h; cases e; rfl
  | bl c => cases h; cases e; rfl
  | int i => cases h; cases e; rfl
  | str y =>
    cases h
    have e' : (if y.length ≤ sizeLine then some ((y.length : Int) != 0) else none) = some b := e
    split at e'
    · rename_i hl
      cases e'
      exact ⟨hl, rfl⟩
    · cases e'
  | fn x => cases e
  | cls x => cases e
  | ty x => cases e
  | ct l => cases e
  | scr l => cases e
  | tup l =>
    obtain ⟨a, vs, rfl, ha, ra⟩ := h
    cases e
    exact .inr (.inl ⟨vs, .of ha, by rw [empty_iff ra]⟩)
  | ref k =>
    have e' : (match M[k]? with
      | some (.lst l) => some (!l.isEmpty)
      | _ => none) = some b := e
    split at e'
    · rename_i l hM
      obtain ⟨a, vs, ha, rfl, h3, ra⟩ := s.lst hM h
      cases e'
      exact .inl ⟨vs, .of h3, by rw [empty_iff ra]⟩
    · cases e'
def GL (S : Sy) (W : WX) (σ : St) (g : List PV → Mh → Res PV) : List V → Hp → VK → Prop := fun xs H Q => ∃ u M ps, Sim S u M H ∧ Reps S u H ps xs ∧ Post S W σ (Rep S) u H (g ps M) Q
theorem reps1 {p : PV} {xs : List V} (h : Reps S u H [p] xs) : ∃ x, xs = [x] ∧ Rep S u H p x := by
  obtain ⟨v, r, rfl, h, t⟩ := h
  cases t
  exact ⟨v, rfl, h⟩
theorem reps2 {p q : PV} {xs : List V} (h : Reps S u H [p, q] xs) : ∃ x y, xs = [x, y] ∧ Rep S u H p x ∧ Rep S u H q y := by
  obtain ⟨v, r, rfl, h, t⟩ := h
  obtain ⟨y, rfl, t2⟩ := reps1 t
  exact ⟨v, y, rfl, h, t2⟩
theorem seq_rep (s : Sim S u M H) {p : PV} {l : List PV} {x : V} (e : seqOf M p = some l) (h : Rep S u H p x) : ∃ a vs, x = .ref a ∧ (SqL S.K H a vs ∨ SqT S.K H a vs) ∧ Reps S u H l vs := by
  unfold seqOf at e
  split at e
  · cases e
    obtain ⟨a, vs, rfl, ha, ra⟩ := h
    exact ⟨a, vs, rfl, .inr (.of ha), ra⟩
  · cases e
    obtain ⟨a, vs, rfl, ha, ra⟩ := h
    exact ⟨a, vs, rfl, .inr (.inr ha), ra⟩
  · split at e
    · rename_i l' hM
      cases e
      obtain ⟨a, vs, ha, rfl, h3, ra⟩ := s.lst hM h
      exact ⟨a, vs, rfl, .inl (.of h3), ra⟩
    · cases e
  · cases e
theorem lst_rep (s : Sim S u M H) {p : PV} {l : List PV} {x : V} (e : lstOf M p = some l) (h : Rep S u H p x) : ∃ a vs, x = .ref a ∧ SqL S.K H a vs ∧ Reps S u H l vs := by
  unfold lstOf at e
  split at e
  · split at e
    · rename_i l' hM
      cases e
      obtain ⟨a, vs, ha, rfl, h3, ra⟩ := s.lst hM h
      exact ⟨a, vs, rfl, .of h3, ra⟩
    · cases e
  · cases e
theorem ints_rep : ∀ {l : List PV} {ns : List Int} {vs : List V}, intsOf l = some ns → Reps S u H l vs → vs = ns.map V.int
  | [], _, _, e, h => by cases e; exact h
  | p :: r, _, _, e, ⟨v, w, e2, h, t⟩ => by
    cases p with
    | int i =>
      have e' : (intsOf r).map (i :: ·) = some _ := e
      obtain ⟨m, h1, rfl⟩ := Option.map_eq_some_iff.mp e'
      rw [e2, ints_rep h1 t]
      cases h
      rfl
    | _ => cases e
theorem bls_rep : ∀ {l : List PV} {ns : List Bool} {vs : List V}, blsOf l = some ns → Reps S u H l vs → vs = ns.map V.bl
  | [], _, _, e, h => by cases e; exact h
  | p :: r, _, _, e, ⟨v, w, e2, h, t⟩ => by
    cases p with
    | bl i =>
      have e' : (blsOf r).map (i :: ·) = some _ := e
      obtain ⟨m, h1, rfl⟩ := Option.map_eq_some_iff.mp e'
      rw [e2, bls_rep h1 t]
      cases h
      rfl
    | _ => cases e
theorem strs_rep : ∀ {l : List PV} {ns : List Str} {vs : List V}, strsOf l = some ns → Reps S u H l vs → vs = ns.map V.str
  | [], _, _, e, h => by cases e; exact h
  | p :: r, _, _, e, ⟨v, w, e2, h, t⟩ => by
    cases p with
    | str i =>
      have e' : (strsOf r).map (i :: ·) = some _ := e
      obtain ⟨m, h1, rfl⟩ := Option.map_eq_some_iff.mp e'
      rw [e2, strs_rep h1 t]
      cases h
      rfl
    | _ => cases e
theorem reps_strs : ∀ (l : List Str), Reps S u H (l.map PV.str) (l.map V.str)
  | [] => rfl
  | x :: r => ⟨_, _, rfl, rfl, reps_strs r⟩
theorem paired_len {α β : Type} {F : α → β → Prop} : ∀ {l : List α} {m : List β}, Paired F l m → m.length = l.length
  | _, _, .nil => rfl
  | _, _, .cons _ t => by rw [List.length_cons, List.length_cons, paired_len t]
theorem g_len (hK : X.K = S.K) : CallR X (.builtin "len") (GL S W σ (biF .len)) := by
  refine CallR.imp (CallR.or call_len_str (CallR.or call_len_seq (CallR.or call_lenD call_len_dT))) fun xs H Q ⟨u, M, ps, s, hp, h⟩ => ?_
  unfold biF at h
  split at h <;> (first | contradiction | skip)
  · obtain ⟨x, rfl, hx⟩ := reps1 hp
    cases hx
    split at h
    · rename_i hl
      exact .inl ⟨_, rfl, hl, Post.now h s rfl⟩
    · exact h.elim
  · obtain ⟨x, rfl, hx⟩ := reps1 hp
    split at h
    · rename_i l hM
      obtain ⟨a, vs, ha, rfl, h3, ra⟩ := s.lst hM hx
      exact .inr (.inl ⟨a, vs, rfl, .inl (.of h3), by rw [ra.length]; exact Post.now h s rfl⟩)
    · rename_i l hM
      obtain ⟨a, ha, rfl, ro⟩ := s.obj hM hx
      rcases ro with ⟨kvs, h3, nd, r⟩ | ⟨kvs, h3, nd, r⟩
      · exact .inr (.inr (.inl ⟨a, kvs, rfl, h3, by rw [paired_len r]; exact Post.now h s rfl⟩))
      · exact .inr (.inr (.inr ⟨a, kvs, rfl, h3, by rw [paired_len r]; exact Post.now h s rfl⟩))
    · exact h.elim
  · obtain ⟨x, rfl, hx⟩ := reps1 hp
    obtain ⟨a, vs, rfl, ha, ra⟩ := hx
    exact .inr (.inl ⟨a, vs, rfl, .inr (.of ha), by rw [ra.length]; exact Post.now h s rfl⟩)
  · obtain ⟨x, rfl, hx⟩ := reps1 hp
    obtain ⟨a, vs, rfl, ha, ra⟩ := hx
    exact .inr (.inl ⟨a, vs, rfl, .inr (by rw [hK]; exact .inr ha), by rw [ra.length]; exact Post.now h s rfl⟩)
  · obtain ⟨x, rfl, hx⟩ := reps1 hp
    obtain ⟨a, vs, rfl, ha, ra⟩ := hx
    exact .inr (.inl ⟨a, vs, rfl, .inl (by rw [hK]; exact ha.sq), by rw [ra.length]; exact Post.now h s rfl⟩)
  all_goals exact h.elim
theorem g_tuple (hK : X.K = S.K) : CallR X (.type "tuple") (GL S W σ (biF .tuple)) := by
  refine CallR.imp call_tuple_of fun xs H Q ⟨u, M, ps, s, hp, h⟩ => ?_
  cases ps with
  | nil => exact h.elim
  | cons p r =>
    cases r with
    | cons q t => cases p <;> exact h.elim
    | nil =>
      obtain ⟨x, rfl, hx⟩ := reps1 hp
      cases p with
      | ct l =>
        obtain ⟨a, vs, rfl, ha, ra⟩ := hx
        exact ⟨a, vs, rfl, .inr ⟨by rw [hK]; exact .inr ha, Post.now h s ⟨a, vs, rfl, ha, ra⟩⟩⟩
      | tup l =>
        obtain ⟨a, vs, rfl, ha, ra⟩ := hx
        exact ⟨a, vs, rfl, .inr ⟨.of ha, Post.now (M := M) (a := PV.tup l) h s ⟨a, vs, rfl, ha, ra⟩⟩⟩
      | ref n =>
        have h : Post S W σ (Rep S) u H (match seqOf M (.ref n) with
          | some l => .ok (.tup l) M
          | none => .stuck) Q := h
        split at h
        · rename_i l e
          have e' : (match M[n]? with
            | some (.lst l) => some l
            | _ => none) = some l := e
          split at e'
          · rename_i l' hM
            cases e'
            obtain ⟨a, vs, ha, rfl, h3, ra⟩ := s.lst hM hx
            exact ⟨a, vs, rfl, .inl ⟨.of h3, fun q hq => post_tup s ra h hq⟩⟩
          · cases e'
        · exact h.elim
      | _ => exact h.elim
theorem g_list (hK : X.K = S.K) : CallR X (.type "list") (GL S W σ (biF .list)) := by
  refine CallR.imp call_list_of fun xs H Q ⟨u, M, ps, s, hp, h⟩ => ?_
  unfold biF at h
  split at h <;> (first | contradiction | skip)
  · obtain ⟨x, rfl, hx⟩ := reps1 hp
    split at h
    · rename_i l e
      obtain ⟨a, vs, rfl, ha, ra⟩ := seq_rep s e hx
      exact ⟨a, vs, rfl, by rw [hK]; exact ha, fun q hq => post_newL s ra h hq⟩
    · exact h.elim
  all_goals exact h.elim
theorem g_str : CallR X (.type "str") (GL S W σ (biF .str)) := by
  refine CallR.imp (CallR.or call_str_int SkE.call_str_str) fun xs H Q ⟨u, M, ps, s, hp, h⟩ => ?_
  unfold biF at h
  split at h <;> (first | contradiction | skip)
  · obtain ⟨x, rfl, hx⟩ := reps1 hp
    cases hx
    split at h
    · rename_i hl
      exact .inl ⟨_, rfl, hl, Post.now h s rfl⟩
    · exact h.elim
  · obtain ⟨x, rfl, hx⟩ := reps1 hp
    cases hx
    exact .inr ⟨_, rfl, Post.now h s rfl⟩
  all_goals exact h.elim
theorem g_int : CallR X (.type "int") (GL S W σ (biF .int)) := by
  refine CallR.imp (CallR.or call_int1 call_int_str) fun xs H Q ⟨u, M, ps, s, hp, h⟩ => ?_
  unfold biF at h
  split at h <;> (first | contradiction | skip)
  · obtain ⟨x, rfl, hx⟩ := reps1 hp
    cases hx
    exact .inl (.inl ⟨_, rfl, Post.now h s rfl⟩)
  · obtain ⟨x, rfl, hx⟩ := reps1 hp
    cases hx
    exact .inl (.inr ⟨_, rfl, Post.now h s rfl⟩)
  · obtain ⟨x, rfl, hx⟩ := reps1 hp
    cases hx
    split at h
    · rename_i hl
      split at h
      · rename_i n e
        exact .inr ⟨_, n, rfl, e, hl, Post.now h s rfl⟩
      · exact h.elim
    · exact h.elim
  all_goals exact h.elim
theorem g_all (hK : X.K = S.K) (hc : X.calm = true) : CallR X (.builtin "all") (GL S W σ (biF .all)) := by
  refine CallR.imp (cr_all hc) fun xs H Q ⟨u, M, ps, s, hp, h⟩ => ?_
  unfold biF at h
  split at h <;> (first | contradiction | skip)
  · obtain ⟨x, rfl, hx⟩ := reps1 hp
    split at h
    · rename_i bs e
      obtain ⟨l, e1, e2⟩ := Option.bind_eq_some_iff.mp e
      obtain ⟨a, vs, rfl, ha, ra⟩ := lst_rep s e1 hx
      rw [bls_rep e2 ra] at ha
      exact ⟨a, bs, rfl, by rw [hK]; exact ha, Post.now h s rfl⟩
    · exact h.elim
  all_goals exact h.elim
theorem g_any (hK : X.K = S.K) (hc : X.calm = true) : CallR X (.builtin "any") (GL S W σ (biF .any)) := by
  refine CallR.imp (cr_any hc) fun xs H Q ⟨u, M, ps, s, hp, h⟩ => ?_
  unfold biF at h
  split at h <;> (first | contradiction | skip)
  · obtain ⟨x, rfl, hx⟩ := reps1 hp
    split at h
    · rename_i bs e
      obtain ⟨l, e1, e2⟩ := Option.bind_eq_some_iff.mp e
      obtain ⟨a, vs, rfl, ha, ra⟩ := lst_rep s e1 hx
      rw [bls_rep e2 ra] at ha
      exact ⟨a, bs, rfl, by rw [hK]; exact ha, Post.now h s rfl⟩
    · exact h.elim
  all_goals exact h.elim
theorem maxI_eq : ∀ {ns : List Int} {m m' : Int}, maxI ns = some m' → m ∈ ns → (∀ y, y ∈ ns → y ≤ m) → m = m' := fun {ns m m'} e hm hle => by
  cases ns with
  | nil => cases e
  | cons a r =>
    cases e
    have h1 : ∀ (r : List Int) (a : Int), a ≤ r.foldl max a ∧ (∀ y ∈ r, y ≤ r.foldl max a) ∧ r.foldl max a ∈ a :: r := by
      intro r
      induction r with
      | nil => intro a; simp
      | cons b t ih =>
        intro a
        obtain ⟨i1, i2, i3⟩ := ih (max a b)
        refine ⟨by rw [List.foldl_cons]; omega, fun y hy => ?_, ?_⟩
        · rw [List.foldl_cons]
          rcases List.mem_cons.mp hy with rfl | hy
          · omega
          · exact i2 y hy
        · rw [List.foldl_cons]
          rcases List.mem_cons.mp i3 with e | e
          · rw [e]
            by_cases q : a ≤ b
            · rw [Int.max_eq_right q]; simp
            · rw [Int.max_eq_left (by omega)]; simp
          · exact List.mem_cons_of_mem _ (List.mem_cons_of_mem _ e)
    obtain ⟨i1, i2, i3⟩ := h1 r a
    have j1 := hle _ i3
    have j2 : m ≤ r.foldl max a := by
      rcases List.mem_cons.mp hm with rfl | hm
      · exact i1
      · exact i2 m hm
    omega
theorem minI_eq : ∀ {ns : List Int} {m m' : Int}, minI ns = some m' → m ∈ ns → (∀ y, y ∈ ns → m ≤ y) → m = m' := fun {ns m m'} e hm hle => by
  cases ns with
  | nil => cases e
  | cons a r =>
    cases e
    have h1 : ∀ (r : List Int) (a : Int), r.foldl min a ≤ a ∧ (∀ y ∈ r, r.foldl min a ≤ y) ∧ r.foldl min a ∈ a :: r := by
      intro r
      induction r with
      | nil => intro a; simp
      | cons b t ih =>
        intro a
        obtain ⟨i1, i2, i3⟩ := ih (min a b)
        refine ⟨by rw [List.foldl_cons]; omega, fun y hy => ?_, ?_⟩
        · rw [List.foldl_cons]
          rcases List.mem_cons.mp hy with rfl | hy
          · omega
          · exact i2 y hy
        · rw [List.foldl_cons]
          rcases List.mem_cons.mp i3 with e | e
          · rw [e]
            by_cases q : a ≤ b
            · rw [Int.min_eq_left q]; simp
            · rw [Int.min_eq_right (by omega)]; simp
          · exact List.mem_cons_of_mem _ (List.mem_cons_of_mem _ e)
    obtain ⟨i1, i2, i3⟩ := h1 r a
    have j1 := hle _ i3
    have j2 : r.foldl min a ≤ m := by
      rcases List.mem_cons.mp hm with rfl | hm
      · exact i1
      · exact i2 m hm
    omega
theorem oPI_post {o : Option Int} {Q : V → Hp → Prop} (s : Sim S u M H) (h : Post S W σ (Rep S) u H (oP (o.map PV.int) M) Q) : ∃ m, o = some m ∧ Q (.int m) H := by
  cases o with
  | none => exact h.elim
  | some b => exact ⟨b, rfl, Post.now h s rfl⟩
theorem g_max (hK : X.K = S.K) (hc : X.calm = true) : CallR X (.builtin "max") (GL S W σ (biF .max)) := by
  refine CallR.imp (CallR.or (call_max2 hc) (cr_max hc)) fun xs H Q ⟨u, M, ps, s, hp, h⟩ => ?_
  unfold biF at h
  split at h <;> (first | contradiction | skip)
  · obtain ⟨x, y, rfl, hx, hy⟩ := reps2 hp
    cases hx
    cases hy
    exact .inl ⟨_, _, rfl, Post.now h s rfl⟩
  · obtain ⟨x, rfl, hx⟩ := reps1 hp
    obtain ⟨m, e, h⟩ := oPI_post s h
    obtain ⟨ns, e0, e3⟩ := Option.bind_eq_some_iff.mp e
    obtain ⟨l, e1, e2⟩ := Option.bind_eq_some_iff.mp e0
    obtain ⟨a, vs, rfl, ha, ra⟩ := lst_rep s e1 hx
    rw [ints_rep e2 ra] at ha
    refine .inr ⟨a, ns, rfl, by rw [hK]; exact ha, ?_, fun m' h1 h2 => ?_⟩
    · cases ns with
      | nil => cases e3
      | cons b t => simp
    · rw [maxI_eq e3 h1 h2]
      exact h
  all_goals exact h.elim
theorem g_min (hK : X.K = S.K) (hc : X.calm = true) : CallR X (.builtin "min") (GL S W σ (biF .min)) := by
  refine CallR.imp (CallR.or (call_min2 hc) (cr_min hc)) fun xs H Q ⟨u, M, ps, s, hp, h⟩ => ?_
  unfold biF at h
  split at h <;> (first | contradiction | skip)
  · obtain ⟨x, y, rfl, hx, hy⟩ := reps2 hp
    cases hx
    cases hy
    exact .inl ⟨_, _, rfl, Post.now h s rfl⟩
  · obtain ⟨x, rfl, hx⟩ := reps1 hp
    obtain ⟨m, e, h⟩ := oPI_post s h
    obtain ⟨ns, e0, e3⟩ := Option.bind_eq_some_iff.mp e
    obtain ⟨l, e1, e2⟩ := Option.bind_eq_some_iff.mp e0
    obtain ⟨a, vs, rfl, ha, ra⟩ := lst_rep s e1 hx
    rw [ints_rep e2 ra] at ha
    refine .inr ⟨a, ns, rfl, by rw [hK]; exact ha, ?_, fun m' h1 h2 => ?_⟩
    · cases ns with
      | nil => cases e3
      | cons b t => simp
    · rw [minI_eq e3 h1 h2]
      exact h
  all_goals exact h.elim
theorem ty_rep (hK : X.K = S.K) (s : Sim S u M H) {p : PV} {x : V} {a : String} (h : Rep S u H p x) (e : tyOf M p = some a) : TyX X.K H x (.type a) := by
  cases p with
  | non => cases h; cases e; exact .base .non
  | bl c => cases h; cases e; exact .base (.bl _)
  | int i => cases h; cases e; exact .base (.int _)
  | str y => cases h; cases e; exact .base (.str _)
  | fn x => cases e
  | cls x => cases e
  | ty x => cases e
  | scr x => cases e
  | ct l =>
    cases e
    obtain ⟨a, vs, rfl, ⟨o, its, n, h1, h2, _⟩, ra⟩ := h
    exact .kTuple (by rw [hK]; exact h1) h2
  | tup l =>
    cases e
    obtain ⟨a, vs, rfl, ha, ra⟩ := h
    exact .base (.tup ha)
  | ref k =>
    have e' : (match M[k]? with
      | some (.lst _) => some "list"
      | some (.dct _) => some "dict"
      | _ => none) = some a := e
    split at e'
    · rename_i l hM
      cases e'
      obtain ⟨a, vs, ha, rfl, h3, ra⟩ := s.lst hM h
      exact .base (.lst h3)
    · rename_i l hM
      cases e'
      obtain ⟨a, ha, rfl, ro⟩ := s.obj hM h
      rcases ro with ⟨kvs, h3, nd, r⟩ | ⟨kvs, h3, nd, r⟩
      · exact .base (.dK h3)
      · exact .base (.dT h3)
    · cases e'
theorem kit_tab : ∀ a ∈ ["NoneType", "bool", "int", "str", "tuple", "list", "dict"], ∀ b ∈ ["bool", "int", "str", "tuple", "list", "dict"], kitB a b = some (a == b || (a == "bool" && b == "int")) := by decide +kernel
theorem isi_ok {K : PySem.W.Frag} {a b : String} {r : Bool} (h : isiTy a b = some r) : PySem.W.kitOne K (.type a) (.type b) = some r := by
  unfold isiTy at h
  split at h
  · rename_i hc
    obtain ⟨h1, h2⟩ := Bool.and_eq_true_iff.mp hc
    refine kit_ty ?_
    rw [kit_tab a (by simpa using h1) b (by simpa using h2)]
    exact h
  · cases h
theorem isiAny_ok {K : PySem.W.Frag} {a : String} : ∀ {ts : List PV} {r : Bool} {vs : List V}, isiAny a ts = some r → Reps S u H ts vs → ∃ us, Paired ClsV vs us ∧ PySem.W.kitAny K (.type a) us = some r
  | [], _, _, e, h => by
    cases e
    cases h
    exact ⟨[], .nil, kitAny_nil⟩
  | t :: ts, r, _, e, ⟨v, w, e2, h, tt⟩ => by
    subst e2
    cases t with
    | ty b =>
      cases h
      have e' : (match isiTy a b, isiAny a ts with
        | some x, some y => some (x || y)
        | _, _ => none) = some r := e
      split at e'
      · rename_i x y h1 h2
        cases e'
        obtain ⟨us, h3, h4⟩ := isiAny_ok h2 tt
        refine ⟨.type b :: us, .cons (.ty b) h3, kitAny_cons (isi_ok h1) (fun hx => ?_) fun hx => ?_⟩
        · rw [h4, hx]; rfl
        · rw [hx]; rfl
      · cases e'
    | _ => cases e
theorem g_isi (hK : X.K = S.K) : CallR X (.builtin "isinstance") (GL S W σ (biF .isi)) := by
  refine CallR.imp (CallR.or call_isi call_isiT) fun xs H Q ⟨u, M, ps, s, hp, h⟩ => ?_
  unfold biF at h
  split at h <;> (first | contradiction | skip)
  · obtain ⟨x, y, rfl, hx, hy⟩ := reps2 hp
    cases hy
    split at h
    · rename_i a e
      obtain ⟨b, e2, h⟩ := oB_post s h
      exact .inl ⟨x, _, .type a, _, b, rfl, .ty _, ty_rep hK s hx e, isi_ok e2, h⟩
    · exact h.elim
  · obtain ⟨x, y, rfl, hx, hy⟩ := reps2 hp
    obtain ⟨t, vs, rfl, ht, rt⟩ := hy
    split at h
    · rename_i a e
      obtain ⟨b, e2, h⟩ := oB_post s h
      obtain ⟨us, h3, h4⟩ := isiAny_ok (K := X.K) e2 rt
      exact .inr ⟨x, t, vs, .type a, us, b, rfl, ht, h3, ty_rep hK s hx e, h4, h⟩
    · exact h.elim
  all_goals exact h.elim
def GM (S : Sy) (W : WX) (σ : St) (g : PV → List PV → Mh → Res PV) : V → List V → Hp → VK → Prop := fun x xs H Q => ∃ u M p ps, Sim S u M H ∧ Rep S u H p x ∧ Reps S u H ps xs ∧ Post S W σ (Rep S) u H (g p ps M) Q
theorem reps0 {xs : List V} (h : Reps S u H [] xs) : xs = [] := h
theorem g_append : MtR X "list.append" (GM S W σ (bmf .append)) := by
  refine MtR.imp mt_append fun x xs H Q ⟨u, M, p, ps, s, hp, hps, h⟩ => ?_
  unfold bmf at h
  split at h <;> (first | contradiction | skip)
  · split at h
    · rename_i l hM
      split at h
      · rename_i hl
        obtain ⟨a, vs, ha, rfl, h3, ra⟩ := s.lst hM hp
        obtain ⟨y, rfl, hy⟩ := reps1 hps
        exact ⟨a, vs, y, rfl, rfl, h3, by rw [ra.length]; exact hl, post_setL s ha (ra.append (.one hy)) (p := .non) (v := .non) (fun _ _ => rfl) h⟩
      · exact h.elim
    · exact h.elim
  all_goals exact h.elim
theorem g_extend : MtR X "list.extend" (GM S W σ (bmf .extend)) := by
  refine MtR.imp mt_extend fun x xs H Q ⟨u, M, p, ps, s, hp, hps, h⟩ => ?_
  unfold bmf at h
  split at h <;> (first | contradiction | skip)
  · split at h
    · rename_i l m hM hM2
      split at h
      · rename_i hl
        obtain ⟨a, vs, ha, rfl, h3, ra⟩ := s.lst hM hp
        obtain ⟨y, rfl, hy⟩ := reps1 hps
        obtain ⟨b, ws, hb, rfl, h4, rb⟩ := s.lst hM2 hy
        exact ⟨a, b, vs, ws, rfl, rfl, h3, h4, by rw [ra.length, rb.length]; exact hl, post_setL s ha (ra.append rb) (p := .non) (v := .non) (fun _ _ => rfl) h⟩
      · exact h.elim
    · exact h.elim
  all_goals exact h.elim
theorem g_insert : MtR X "list.insert" (GM S W σ (bmf .insert)) := by
  refine MtR.imp mt_insert fun x xs H Q ⟨u, M, p, ps, s, hp, hps, h⟩ => ?_
  unfold bmf at h
  split at h <;> (first | contradiction | skip)
  · split at h
    · rename_i l hM
      split at h
      · rename_i hl
        obtain ⟨a, vs, ha, rfl, h3, ra⟩ := s.lst hM hp
        obtain ⟨z, y, rfl, hz, hy⟩ := reps2 hps
        cases hz
        exact ⟨a, vs, _, y, rfl, rfl, h3, by rw [ra.length]; exact hl.1, hl.2.1, hl.2.2, post_setL s ha (((ra.take _).append (.one hy)).append (ra.drop _)) (p := .non) (v := .non) (fun _ _ => rfl) h⟩
      · exact h.elim
    · exact h.elim
  all_goals exact h.elim
theorem g_clear : MtR X "list.clear" (GM S W σ (bmf .clear)) := by
  refine MtR.imp mt_clear fun x xs H Q ⟨u, M, p, ps, s, hp, hps, h⟩ => ?_
  unfold bmf at h
  split at h <;> (first | contradiction | skip)
  · split at h
    · rename_i l hM
      obtain ⟨a, vs, ha, rfl, h3, ra⟩ := s.lst hM hp
      cases hps
      exact ⟨a, vs, rfl, rfl, h3, post_setL s ha (l := []) (vs := []) rfl (p := .non) (v := .non) (fun _ _ => rfl) h⟩
    · exact h.elim
  all_goals exact h.elim
theorem g_join (hK : X.K = S.K) : MtR X "str.join" (GM S W σ (bmf .join)) := by
  refine MtR.imp mt_join fun x xs H Q ⟨u, M, p, ps, s, hp, hps, h⟩ => ?_
  unfold bmf at h
  split at h <;> (first | contradiction | skip)
  · cases hp
    obtain ⟨y, rfl, hy⟩ := reps1 hps
    split at h
    · rename_i ys e
      obtain ⟨l, e1, e2⟩ := Option.bind_eq_some_iff.mp e
      obtain ⟨a, vs, rfl, ha, ra⟩ := seq_rep s e1 hy
      rw [strs_rep e2 ra] at ha
      split at h
      · rename_i hl
        exact ⟨_, a, ys, rfl, rfl, by rw [hK]; exact ha, hl, Post.now h s rfl⟩
      · exact h.elim
    · exact h.elim
  all_goals exact h.elim
theorem g_split : MtR X "str.split" (GM S W σ (bmf .split)) := by
  refine MtR.imp mt_split fun x xs H Q ⟨u, M, p, ps, s, hp, hps, h⟩ => ?_
  unfold bmf at h
  split at h <;> (first | contradiction | skip)
  · cases hp
    obtain ⟨y, rfl, hy⟩ := reps1 hps
    cases hy
    split at h
    · rename_i hl
      exact ⟨_, _, rfl, rfl, hl.1, hl.2, fun q hq => post_newL s (reps_strs _) h hq⟩
    · exact h.elim
  all_goals exact h.elim
theorem g_startswith : MtR X "str.startswith" (GM S W σ (bmf .startswith)) := by
  refine MtR.imp mt_startswith fun x xs H Q ⟨u, M, p, ps, s, hp, hps, h⟩ => ?_
  unfold bmf at h
  split at h <;> (first | contradiction | skip)
  · cases hp
    obtain ⟨y, rfl, hy⟩ := reps1 hps
    cases hy
    exact ⟨_, _, rfl, rfl, Post.now h s rfl⟩
  all_goals exact h.elim
def rDGt : V → List V → Hp → VK → Prop := fun x xs H Q => ∃ a y H1 o, x = .ref a ∧ (H1 = H ∨ (H a = some (.dK []) ∧ H1 = upd H a (.dT [])) ∨ (H a = some (.dT []) ∧ H1 = upd H a (.dK []))) ∧ DGet H1 a y o ∧
  ((xs = [y] ∧ Q (o.getD .non) H1) ∨ ∃ z, xs = [y, z] ∧ Q (o.getD z) H1)
theorem mt_dget (hu : X.A.units + 1 < cLine) : MtR X "dict.get" rDGt := by
  intro pins s σ H x xs v us Q I rx rxs h
  obtain ⟨a, y, H1, o, rfl, h1, g, h2⟩ := h
  obtain rfl : v = Value.ref a := rx
  have I1 := inv_as I h1
  rcases h2 with ⟨rfl, q⟩ | ⟨z, rfl, q⟩
  · obtain ⟨u1, rfl, r1⟩ := vals1 rxs
    exact d_get1 hu I1 g r1 fun w' s' I' rw' => ⟨_, H1, I', rw', q⟩
  · obtain ⟨u1, u2, rfl, r1, r2⟩ := vals2 rxs
    exact d_get2 hu I1 g r1 r2 fun w' s' I' rw' => ⟨_, H1, I', rw', q⟩
theorem g_get (hu : X.A.units + 1 < cLine) : MtR X "dict.get" (GM S W σ (bmf .get)) := by
  refine MtR.imp (mt_dget hu) fun x xs H Q ⟨u, M, p, ps, s, hp, hps, h⟩ => ?_
  unfold bmf at h
  split at h <;> (first | contradiction | skip)
  · split at h
    · rename_i d hM
      split at h
      · rename_i hf
        obtain ⟨y, rfl, hy⟩ := reps1 hps
        obtain ⟨a, ha, rfl, H1, hh, s1, f1, o, g, hd⟩ := dct_get s hM hp hy hf
        refine ⟨a, y, H1, o, rfl, hh, g, .inl ⟨rfl, ?_⟩⟩
        rcases hd with ⟨e1, e2⟩ | ⟨p', v, e1, e2, rv⟩
        · rw [e1] at h
          rw [e2]
          exact h _ _ _ s1 f1 rfl
        · rw [e1] at h
          rw [e2]
          exact h _ _ _ s1 f1 rv
      · exact h.elim
    · exact h.elim
  · split at h
    · rename_i d hM
      split at h
      · rename_i hf
        obtain ⟨y, z, rfl, hy, hz⟩ := reps2 hps
        obtain ⟨a, ha, rfl, H1, hh, s1, f1, o, g, hd⟩ := dct_get s hM hp hy hf
        refine ⟨a, y, H1, o, rfl, hh, g, .inr ⟨z, rfl, ?_⟩⟩
        rcases hd with ⟨e1, e2⟩ | ⟨p', v, e1, e2, rv⟩
        · rw [e1] at h
          rw [e2]
          exact h _ _ _ s1 f1 (hz.fr s f1)
        · rw [e1] at h
          rw [e2]
          exact h _ _ _ s1 f1 rv
      · exact h.elim
    · exact h.elim
  all_goals exact h.elim
end
end Pi
end
section
namespace Pi
open PySem PySem.Spec PyProof.Rows L2

/-- a def's promise by its meaning -/
def spM (S : Sy) (m : Mf) : Sp := fun vs H Q E => ∃ u M ps, Sim S u M H ∧ Reps S u H ps vs ∧ Post S (fun cls d _ H' => E cls d H') [] (Rep S) u H (m ps M) Q
/-- the def at f means m -/
structure FnA (P : Program) (w : World) (S : Sy) (mg : Str → Option Value) (base : Heap) (n : Nat) (f : Addr) (m : Mf) : Prop where
  ex : ∃ (fd : FuncData) (ps : List Str), FnOk P w S.K mg base (L2.CX P w) n f fd ps (spM S m) ∧ Binds S.K fd ps []
  kp : PySem.W.keepIn S.K (.ref f) = true
/-- the name x of the module is such a def -/
structure FnG (P : Program) (w : World) (S : Sy) (mg : Str → Option Value) (base : Heap) (n : Nat) (x : Str) (m : Mf) : Prop where
  fn : FnA P w S mg base n (S.gA x) m
  mg : mg x = some (.ref (S.gA x))
/-- where code runs -/
structure Cg (X : Cx) (S : Sy) (W : WX) (n : Nat) : Prop where
  K : X.K = S.K
  calm : X.calm = true
  nd : X.N.Nodup
  tk : Takes X W
  room : Room n X.A
theorem Cg.u0 {X : Cx} {S : Sy} {W : WX} {n : Nat} (g : Cg X S W n) : X.A.units + 65 < cLine := by have := g.room.un; omega
theorem Cg.u1 {X : Cx} {S : Sy} {W : WX} {n : Nat} (g : Cg X S W n) : X.A.units + 1 < cLine := by have := g.room.un; omega

section
variable {S : Sy} {W : WX} {σ : St} {u : List Addr} {H : Hp} {M : Mh} {r : Lv} {X : Cx} {F : Fs} {n : Nat}
theorem Post.gcE {t : Res PV} {Q : V → Hp → Prop} {k : Nat} (hk : u.length ≤ k) (h : Post S W σ (Rep S) u H (gcE k t) Q) : Post S W σ (Rep S) u H t Q := by
  cases t with
  | ok p M' =>
    unfold Pi.gcE at h
    dsimp only at h
    split at h
    · exact h
    · split at h
      · rename_i hc
        obtain ⟨h1, h2⟩ := Bool.and_eq_true_iff.mp hc
        exact fun u' H' v s f rp => h _ _ v (s.gc h2) (f.gc hk) (rp.low h1)
      · exact h
  | exc C fs M' => exact h
  | stuck => exact h
theorem Post.gcB {t : Res Bool} {Q : Bool → Hp → Prop} {k : Nat} (hk : u.length ≤ k) (h : Post S W σ RB u H (gcB k t) Q) : Post S W σ RB u H t Q := by
  cases t with
  | ok p M' =>
    unfold Pi.gcB at h
    dsimp only at h
    split at h
    · exact h
    · split at h
      · rename_i hc
        exact fun u' H' v s f rp => h _ _ v (s.gc hc) (f.gc hk) rp
      · exact h
  | exc C fs M' => exact h
  | stuck => exact h
theorem lookup_low : ∀ {fs : List (Str × PV)} {f : Str} {p : PV} {k : Nat}, lows k (fs.map (·.2)) = true → fs.lookup f = some p → p.low k = true
  | [], _, _, _, _, h => by cases h
  | (g, q) :: t, f, p, k, l, h => by
    have l' : (q.low k && lows k (t.map (·.2))) = true := by simpa only [List.map_cons, lows] using l
    obtain ⟨l1, l2⟩ := Bool.and_eq_true_iff.mp l'
    rw [List.lookup_cons] at h
    split at h
    · cases h; exact l1
    · exact lookup_low l2 h
theorem ExcRep.low {u' : List Addr} {H' : Hp} {fs : List (Str × PV)} {d : Option Addr} {k : Nat} (hl : lows k (fs.map (·.2)) = true) (h : ExcRep S u' H' fs d) : ExcRep S (u'.take k) H' fs d := by
  rcases h with h | ⟨a, gs, h1, h2, h3⟩
  · exact .inl h
  · exact .inr ⟨a, gs, h1, h2, fun f p e => by
      obtain ⟨v, q1, q2⟩ := h3 f p e
      exact ⟨v, q1, q2.low (lookup_low hl e)⟩⟩
theorem Post.gcX {t : Res PV} {Q : V → Hp → Prop} {k : Nat} (hk : u.length ≤ k) (h : Post S W σ (Rep S) u H (gcX k t) Q) : Post S W σ (Rep S) u H t Q := by
  cases t with
  | ok p M' => exact Post.gcE hk h
  | exc C fs M' =>
    unfold Pi.gcX at h
    dsimp only at h
    split at h
    · exact h
    · split at h
      · rename_i hc
        obtain ⟨h1, h2⟩ := Bool.and_eq_true_iff.mp hc
        exact fun u' H' d s f rp => h _ _ d (s.gc h2) (f.gc hk) (rp.low h1)
      · exact h
  | stuck => exact h
abbrev LE (S : Sy) (W : WX) (m : Lv → Mh → Res PV) : TE := LX S W (Rep S) m
theorem LX.then {α β γ δ : Type} {R : List Addr → Hp → α → β → Prop} {R2 : List Addr → Hp → γ → δ → Prop} {ma : Lv → Mh → Res α} {k : α → Mh → Res γ} {Q : δ → Hp → Prop} {Q1 : β → Hp → Prop}
    (s : Sim S u M H) (e : REnv S u H σ r) (h : Post S W σ R2 u H ((ma r M).bind k) Q)
    (hk : ∀ p M1 u1 H1 v, Sim S u1 M1 H1 → Fr u H u1 H1 → REnv S u1 H1 σ r → R u1 H1 p v → Post S W σ R2 u1 H1 (k p M1) Q → Q1 v H1) : LX S W R ma σ H Q1 :=
  ⟨u, M, r, s, e, Post.bind h fun p M1 _ u1 H1 v s1 f1 r1 h1 => hk p M1 u1 H1 v s1 f1 (e.fr s f1) r1 h1⟩
theorem LX.two {γ δ : Type} {R2 : List Addr → Hp → γ → δ → Prop} {ma mb : Lv → Mh → Res PV} {k : PV → PV → Mh → Res γ} {Q : δ → Hp → Prop} {Q1 : V → V → Hp → Prop} (s : Sim S u M H) (e : REnv S u H σ r)
    (h : Post S W σ R2 u H ((ma r M).bind fun p M1 => (mb r M1).bind fun q M2 => k p q M2) Q)
    (hk : ∀ p q M1 u1 H1 x y, Sim S u1 M1 H1 → Fr u H u1 H1 → REnv S u1 H1 σ r → Rep S u1 H1 p x → Rep S u1 H1 q y → Post S W σ R2 u1 H1 (k p q M1) Q → Q1 x y H1) :
    LE S W ma σ H fun x H1 => LE S W mb σ H1 fun y H2 => Q1 x y H2 :=
  LX.then s e h fun p M1 u1 H1 x s1 f1 e1 r1 h1 => LX.then s1 e1 h1 fun q M2 u2 H2 y s2 f2 e2 r2 h2 => hk p q M2 u2 H2 x y s2 (f1.trans f2) e2 (r1.fr s1 f2) r2 h2
theorem e_var {i : Nat} {x : Str} {pos : Pos} (hN : X.N[i]? = some x) (hv : Vis X.env.scope x) (hd : (x == ("__debug__" : Str)) = false) (hcd : (x == ("__classdict__" : Str)) = false) : PE X (.Name x pos) (LE S W (evE F (.var i))) := by
  refine PE.imp (pe_var hN hv hd hcd) fun σ H Q ⟨u, M, r, s, e, h⟩ => ?_
  have h : Post S W σ (Rep S) u H (match r[i]? with
    | some (some p) => .ok p M
    | _ => .stuck) Q := by
    unfold evE at h
    exact h
  split at h
  · rename_i p hp
    obtain ⟨v, h1, h2⟩ := e.2 i p hp
    exact ⟨v, h1, Post.now h s h2⟩
  · exact h.elim
theorem e_lit {e : Expr} {v : V} {p : PV} (h : PE X e (tC v)) (hr : ∀ u H, Rep S u H p v) : PE X e (LE S W (evE F (.lit p))) := by
  refine PE.imp h fun σ H Q ⟨u, M, r, s, e, h⟩ => ?_
  unfold evE at h
  exact Post.now h s (hr _ _)
theorem OpR.ex {f : Value → Value → Sem Value} {g : PV → PV → Mh → Res PV} (h : ∀ σ, OpR X f (G2 S W σ g)) : OpR X f (fun x y H Q => ∃ σ, G2 S W σ g x y H Q) := fun pins s σ' H x y v u Q I rx ry ⟨σ, q⟩ => h σ pins s σ' H x y v u Q I rx ry q
theorem e_bin {a b : Expr} {op : Operator} {pos : Pos} {o : BOp} {ca cb : CE} (ho : ∀ σ, OpR X (binaryOp op) (G2 S W σ (binop o))) (ha : PE X a (LE S W (evE F ca))) (hb : PE X b (LE S W (evE F cb))) :
    PE X (.BinOp a op b pos) (LE S W (evE F (.bin o ca cb))) := by
  refine PE.imp (pe_op (OpR.ex ho) ha hb) fun σ H Q ⟨u, M, r, s, e, h⟩ => ?_
  unfold evE at h
  exact LX.two s e h fun p q M1 u1 H1 x y s1 f1 e1 r1 r2 h1 => ⟨σ, u1, M1, p, q, s1, r1, r2, h1⟩
theorem e_neg {a : Expr} {pos : Pos} {ca : CE} (ha : PE X a (LE S W (evE F ca))) : PE X (.UnaryOp .USub a pos) (LE S W (evE F (.neg ca))) := by
  refine PE.imp (pe_un un_neg ha) fun σ H Q ⟨u, M, r, s, e, h⟩ => ?_
  unfold evE at h
  refine LX.then s e h fun p M1 u1 H1 x s1 f1 e1 r1 h1 => ?_
  cases p with
  | int i =>
    cases r1
    exact ⟨i, rfl, Post.now h1 s1 rfl⟩
  | _ => exact h1.elim
theorem e_cmp {a b : Expr} {op : CmpOp} {pos : Pos} {o : COp} {ca cb : CE} (ho : ∀ σ, OpR X (compareOp op) (G2 S W σ (cmpop o))) (hm : behindInMarks op b = false) (ha : PE X a (LE S W (evE F ca))) (hb : PE X b (LE S W (evE F cb))) :
    PE X (.Compare a [op] [b] pos) (LE S W (evE F (.cmp o ca cb))) := by
  refine PE.imp (pe_cmpR (OpR.ex ho) ha hb hm) fun σ H Q ⟨u, M, r, s, e, h⟩ => ?_
  unfold evE at h
  exact LX.two s e (Post.gcE (Nat.le_of_eq s.len) h) fun p q M1 u1 H1 x y s1 f1 e1 r1 r2 h1 => ⟨σ, u1, M1, p, q, s1, r1, r2, h1⟩
theorem e_chain {a b c : Expr} {op op' : CmpOp} {pos : Pos} {o o' : COp} {ca cb cc : CE} (ho : ∀ σ, OpR X (compareOp op) (G2 S W σ (cmpop o))) (ho' : ∀ σ, OpR X (compareOp op') (G2 S W σ (cmpop o')))
    (hm : behindInMarks op' c = false) (ha : PE X a (LE S W (evE F ca))) (hb : PE X b (LE S W (evE F cb))) (hc : PE X c (LE S W (evE F cc)))
    (pe : ∀ {r r' : R2} {ta tb tc : TE}, OpR X (compareOp op) r → OpR X (compareOp op') r' → PE X a ta → PE X b tb → PE X c tc → PE X (.Compare a [op, op'] [b, c] pos) (tChain r r' ta tb tc)) :
    PE X (.Compare a [op, op'] [b, c] pos) (LE S W (evE F (.chain o o' ca cb cc))) := by
  refine PE.imp (pe (OpR.ex ho) (OpR.ex ho') ha hb hc) fun σ H Q ⟨u, M, r, s, e, h⟩ => ?_
  unfold evE at h
  refine LX.two s e h fun p q M1 u1 H1 x y s1 f1 e1 r1 r2 h1 => ⟨σ, u1, M1, p, q, s1, r1, r2, ?_⟩
  refine Post.bind h1 fun t M3 _ u3 H3 z s3 f3 r3 h3 => ?_
  cases t with
  | bl k =>
    cases r3
    refine ⟨k, rfl, ?_⟩
    cases k with
    | true =>
      rw [if_pos rfl]
      exact LX.then s3 (e1.fr s1 f3) h3 fun w M4 u4 H4 w' s4 f4 e4 r4 h4 => ⟨σ, u4, M4, q, w, s4, (r2.fr s1 f3).fr s3 f4, r4, h4⟩
    | false =>
      rw [if_neg Bool.false_ne_true]
      exact Post.now h3 s3 rfl
  | _ => exact h3.elim
theorem e_and {a b : Expr} {pos : Pos} {ca cb : CE} (ha : PE X a (LE S W (evE F ca))) (hb : PE X (.BoolOp .And [b] pos) (LE S W (evE F cb))) : PE X (.BoolOp .And [a, b] pos) (LE S W (evE F (.and ca cb))) := by
  refine PE.imp (pe_and ha hb) fun σ H Q ⟨u, M, r, s, e, h⟩ => ?_
  unfold evE at h
  refine LX.then s e h fun p M1 u1 H1 x s1 f1 e1 r1 h1 => ?_
  cases p with
  | bl k =>
    cases r1
    refine ⟨k, rfl, ?_⟩
    cases k with
    | true =>
      rw [if_pos rfl]
      exact ⟨u1, M1, r, s1, e1, h1⟩
    | false =>
      rw [if_neg Bool.false_ne_true]
      exact Post.now h1 s1 rfl
  | _ => exact h1.elim
theorem e_andn {a b : Expr} {bs : List Expr} {pos : Pos} {ca cb : CE} (ha : PE X a (LE S W (evE F ca))) (hb : PE X (.BoolOp .And (b :: bs) pos) (LE S W (evE F cb))) : PE X (.BoolOp .And (a :: b :: bs) pos) (LE S W (evE F (.and ca cb))) := by
  refine PE.imp (pe_and ha hb) fun σ H Q ⟨u, M, r, s, e, h⟩ => ?_
  unfold evE at h
  refine LX.then s e h fun p M1 u1 H1 x s1 f1 e1 r1 h1 => ?_
  cases p with
  | bl k =>
    cases r1
    refine ⟨k, rfl, ?_⟩
    cases k with
    | true =>
      rw [if_pos rfl]
      exact ⟨u1, M1, r, s1, e1, h1⟩
    | false =>
      rw [if_neg Bool.false_ne_true]
      exact Post.now h1 s1 rfl
  | _ => exact h1.elim
theorem e_orn {a b : Expr} {bs : List Expr} {pos : Pos} {ca cb : CE} (ha : PE X a (LE S W (evE F ca))) (hb : PE X (.BoolOp .Or (b :: bs) pos) (LE S W (evE F cb))) : PE X (.BoolOp .Or (a :: b :: bs) pos) (LE S W (evE F (.or ca cb))) := by
  refine PE.imp (pe_or ha hb) fun σ H Q ⟨u, M, r, s, e, h⟩ => ?_
  unfold evE at h
  refine LX.then s e h fun p M1 u1 H1 x s1 f1 e1 r1 h1 => ?_
  cases p with
  | bl k =>
    cases r1
    refine ⟨k, rfl, ?_⟩
    cases k with
    | true =>
      rw [if_pos rfl]
      exact Post.now h1 s1 rfl
    | false =>
      rw [if_neg Bool.false_ne_true]
      exact ⟨u1, M1, r, s1, e1, h1⟩
  | _ => exact h1.elim
theorem e_not {a : Expr} {pos : Pos} {ca : CE} (ha : PE X a (LE S W (evE F ca))) : PE X (.UnaryOp .Not a pos) (LE S W (evE F (.not ca))) := by
  refine PE.imp (pe_not ha) fun σ H Q ⟨u, M, r, s, e, h⟩ => ?_
  unfold evE at h
  refine LX.then s e h fun p M1 u1 H1 x s1 f1 e1 r1 h1 => ?_
  cases p with
  | bl k =>
    cases r1
    exact ⟨k, rfl, Post.now h1 s1 rfl⟩
  | _ => exact h1.elim
abbrev LT' (S : Sy) (W : WX) (m : Lv → Mh → Res Bool) : TT := LX S W RB m
theorem oW_post {α β : Type} {R : List Addr → Hp → α → β → Prop} {o : Option α} {Q : β → Hp → Prop} (s : Sim S u M H) (h : Post S W σ R u H (oW o M) Q) : ∃ p, o = some p ∧ ∀ v, R u H p v → Q v H := by
  cases o with
  | none => exact h.elim
  | some b => exact ⟨b, rfl, fun v k => Post.now h s k⟩
theorem t_val {a : Expr} {ca : CE} (hK : X.K = S.K) (ha : PE X a (LE S W (evE F ca))) (he : ∀ whole, isTrue a X.env whole = (do let v ← whole; standAt a.pos; holding [v] (truthy v))) : PT X a (LT' S W (evT F (.val ca))) := by
  refine PT.imp (pt_truth ha he) fun σ H Q ⟨u, M, r, s, e, h⟩ => ?_
  unfold evT at h
  refine LX.then s e (Post.gcB (Nat.le_of_eq s.len) h) fun p M1 u1 H1 x s1 f1 e1 r1 h1 => ?_
  obtain ⟨b, e2, h2⟩ := oW_post s1 h1
  exact ⟨b, by rw [hK]; exact tru_rep s1 r1 e2, h2 b rfl⟩
theorem oB_bl {o : Option Bool} {z : PV} {M' : Mh} (h : oB o M = .ok z M') : ∃ b, z = .bl b := by
  cases o with
  | none => cases h
  | some b => cases h; exact ⟨b, rfl⟩
theorem inR_bl {neg : Bool} {p q z : PV} {M' : Mh} (h : inR neg p q M = .ok z M') : ∃ b, z = .bl b := by
  unfold inR at h
  split at h
  · split at h
    · cases h; exact ⟨_, rfl⟩
    · cases h
  · exact oB_bl h
  · exact oB_bl h
  · split at h
    · exact oB_bl h
    · split at h
      · cases h; exact ⟨_, rfl⟩
      · cases h
    · cases h
  · cases h
theorem cmpop_bl {o : COp} {p q z : PV} {M' : Mh} (h : cmpop o p q M = .ok z M') : ∃ b, z = .bl b := by
  unfold cmpop at h
  split at h
  · exact oB_bl h
  · exact oB_bl h
  · cases h; exact ⟨_, rfl⟩
  · cases h; exact ⟨_, rfl⟩
  · cases h; exact ⟨_, rfl⟩
  · cases h; exact ⟨_, rfl⟩
  · cases h; exact ⟨_, rfl⟩
  · cases h; exact ⟨_, rfl⟩
  · exact inR_bl h
  · exact inR_bl h
  · cases h
theorem gcE_val {k : Nat} {t : Res PV} {z : PV} {M' : Mh} (h : gcE k t = .ok z M') : ∃ M2, t = .ok z M2 := by
  cases t with
  | ok p M2 =>
    unfold Pi.gcE at h
    dsimp only at h
    split at h
    · cases h; exact ⟨_, rfl⟩
    · split at h <;> (cases h; exact ⟨_, rfl⟩)
  | exc C fs M2 => cases h
  | stuck => cases h
theorem bind_val {α β : Type} {t : Res α} {k : α → Mh → Res β} {z : β} {M' : Mh} (h : t.bind k = .ok z M') : ∃ p M1, t = .ok p M1 ∧ k p M1 = .ok z M' := by
  cases t with
  | ok p M1 => exact ⟨p, M1, rfl, h⟩
  | exc C fs M2 => cases h
  | stuck => cases h
theorem cmp_bl {o : COp} {ca cb : CE} {z : PV} {M' : Mh} (h : evE F (.cmp o ca cb) r M = .ok z M') : ∃ b, z = .bl b := by
  unfold evE at h
  obtain ⟨M2, h⟩ := gcE_val h
  obtain ⟨p, M3, _, h⟩ := bind_val h
  obtain ⟨q, M4, _, h⟩ := bind_val h
  exact cmpop_bl h
theorem chain_bl {o o' : COp} {ca cb cc : CE} {z : PV} {M' : Mh} (h : evE F (.chain o o' ca cb cc) r M = .ok z M') : ∃ b, z = .bl b := by
  unfold evE at h
  obtain ⟨p, M3, _, h⟩ := bind_val h
  obtain ⟨q, M4, _, h⟩ := bind_val h
  obtain ⟨t, M5, _, h⟩ := bind_val h
  split at h
  · obtain ⟨w, M6, _, h⟩ := bind_val h
    exact cmpop_bl h
  · cases h; exact ⟨_, rfl⟩
  · cases h
/-- a test whose value is a bool -/
theorem t_bool {a : Expr} {ca : CE} (hb : ∀ r M z M', evE F ca r M = .ok z M' → ∃ b, z = .bl b) (ht : PT X a (tTest (LE S W (evE F ca)))) : PT X a (LT' S W (evT F (.val ca))) := by
  refine PT.imp ht fun σ H Q ⟨u, M, r, s, e, h⟩ => ?_
  unfold evT at h
  have h := Post.gcB (Nat.le_of_eq s.len) h
  refine ⟨u, M, r, s, e, ?_⟩
  refine Post.bind h fun p M1 hp u1 H1 x s1 f1 r1 h1 => ?_
  obtain ⟨k, rfl⟩ := hb _ _ _ _ hp
  cases r1
  obtain ⟨b, e2, h2⟩ := oW_post s1 h1
  cases e2
  exact ⟨k, rfl, h2 k rfl⟩
theorem t_cmp {a b : Expr} {op : CmpOp} {pos : Pos} {o : COp} {ca cb : CE} (ho : ∀ σ, OpR X (compareOp op) (G2 S W σ (cmpop o))) (hm : behindInMarks op b = false) (ha : PE X a (LE S W (evE F ca))) (hb : PE X b (LE S W (evE F cb))) :
    PT X (.Compare a [op] [b] pos) (LT' S W (evT F (.val (.cmp o ca cb)))) := by
  refine t_bool (fun r M z M' => cmp_bl) (PT.imp (pt_cmpR (OpR.ex ho) ha hb hm) fun σ H Q ⟨u, M, r, s, e, h⟩ => ?_)
  unfold evE at h
  exact LX.two s e (Post.gcE (Nat.le_of_eq s.len) h) fun p q M1 u1 H1 x y s1 f1 e1 r1 r2 h1 => ⟨σ, u1, M1, p, q, s1, r1, r2, h1⟩
theorem t_chain {a b c : Expr} {op op' : CmpOp} {pos : Pos} {o o' : COp} {ca cb cc : CE} (ho : ∀ σ, OpR X (compareOp op) (G2 S W σ (cmpop o))) (ho' : ∀ σ, OpR X (compareOp op') (G2 S W σ (cmpop o')))
    (ha : PE X a (LE S W (evE F ca))) (hb : PE X b (LE S W (evE F cb))) (hc : PE X c (LE S W (evE F cc)))
    (pt : ∀ {r r' : R2} {ta tb tc : TE}, OpR X (compareOp op) r → OpR X (compareOp op') r' → PE X a ta → PE X b tb → PE X c tc → PT X (.Compare a [op, op'] [b, c] pos) (tTest (tChain r r' ta tb tc))) :
    PT X (.Compare a [op, op'] [b, c] pos) (LT' S W (evT F (.val (.chain o o' ca cb cc)))) := by
  refine t_bool (fun r M z M' => chain_bl) (PT.imp (pt (OpR.ex ho) (OpR.ex ho') ha hb hc) fun σ H Q ⟨u, M, r, s, e, h⟩ => ?_)
  unfold evE at h
  refine LX.two s e h fun p q M1 u1 H1 x y s1 f1 e1 r1 r2 h1 => ⟨σ, u1, M1, p, q, s1, r1, r2, ?_⟩
  refine Post.bind h1 fun t M3 _ u3 H3 z s3 f3 r3 h3 => ?_
  cases t with
  | bl k =>
    cases r3
    refine ⟨k, rfl, ?_⟩
    cases k with
    | true =>
      rw [if_pos rfl]
      exact LX.then s3 (e1.fr s1 f3) h3 fun w M4 u4 H4 w' s4 f4 e4 r4 h4 => ⟨σ, u4, M4, q, w, s4, (r2.fr s1 f3).fr s3 f4, r4, h4⟩
    | false =>
      rw [if_neg Bool.false_ne_true]
      exact Post.now h3 s3 rfl
  | _ => exact h3.elim
theorem t_and {a b : Expr} {bs : List Expr} {pos : Pos} {ca cb : CT} (ha : PT X a (LT' S W (evT F ca))) (hb : PW X (.BoolOp .And (b :: bs) pos) (LT' S W (evT F cb))) : PW X (.BoolOp .And (a :: b :: bs) pos) (LT' S W (evT F (.and ca cb))) := by
  refine ⟨fun whole pins s σ H Q I q => (pw_and ha hb).run whole pins s σ H Q I ?_⟩
  obtain ⟨u, M, r, s, e, h⟩ := q
  unfold evT at h
  refine LX.then s e h fun p M1 u1 H1 x s1 f1 e1 r1 h1 => ?_
  cases r1
  cases p with
  | true =>
    rw [if_pos rfl]
    exact ⟨u1, M1, r, s1, e1, h1⟩
  | false =>
    rw [if_neg Bool.false_ne_true]
    exact Post.now h1 s1 rfl
theorem t_or {a b : Expr} {bs : List Expr} {pos : Pos} {ca cb : CT} (ha : PT X a (LT' S W (evT F ca))) (hb : PW X (.BoolOp .Or (b :: bs) pos) (LT' S W (evT F cb))) : PW X (.BoolOp .Or (a :: b :: bs) pos) (LT' S W (evT F (.or ca cb))) := by
  refine ⟨fun whole pins s σ H Q I q => (pw_or ha hb).run whole pins s σ H Q I ?_⟩
  obtain ⟨u, M, r, s, e, h⟩ := q
  unfold evT at h
  refine LX.then s e h fun p M1 u1 H1 x s1 f1 e1 r1 h1 => ?_
  cases r1
  cases p with
  | true =>
    rw [if_pos rfl]
    exact Post.now h1 s1 rfl
  | false =>
    rw [if_neg Bool.false_ne_true]
    exact ⟨u1, M1, r, s1, e1, h1⟩
theorem t_not {a : Expr} {pos : Pos} {ca : CT} (ha : PT X a (LT' S W (evT F ca))) : PT X (.UnaryOp .Not a pos) (LT' S W (evT F (.not ca))) := by
  refine PT.imp (pt_not ha) fun σ H Q ⟨u, M, r, s, e, h⟩ => ?_
  unfold evT at h
  refine LX.then s e h fun p M1 u1 H1 x s1 f1 e1 r1 h1 => ?_
  cases r1
  exact Post.now h1 s1 rfl
theorem e_ife {c a b : Expr} {pos : Pos} {cc : CT} {ca cb : CE} (hc : PT X c (LT' S W (evT F cc))) (ha : PE X a (LE S W (evE F ca))) (hb : PE X b (LE S W (evE F cb))) : PE X (.IfExp c a b pos) (LE S W (evE F (.ife cc ca cb))) := by
  refine PE.imp (pe_ifExp hc ha hb) fun σ H Q ⟨u, M, r, s, e, h⟩ => ?_
  unfold evE at h
  refine LX.then s e h fun p M1 u1 H1 x s1 f1 e1 r1 h1 => ?_
  cases r1
  cases p with
  | true =>
    rw [if_pos rfl]
    exact ⟨u1, M1, r, s1, e1, h1⟩
  | false =>
    rw [if_neg Bool.false_ne_true]
    exact ⟨u1, M1, r, s1, e1, h1⟩
abbrev LA (S : Sy) (W : WX) (m : Lv → Mh → Res (List PV)) : TA := LX S W (Reps S) m
theorem a_nil : PA X [] (LA S W (evL F .nil)) := by
  refine PA.imp pa_nil fun σ H Q ⟨u, M, r, s, e, h⟩ => ?_
  unfold evL at h
  exact Post.now h s rfl
theorem a_cons {e : Expr} {es : List Expr} {c : CE} {cs : CEs} (ha : PE X e (LE S W (evE F c))) (hr : PA X es (LA S W (evL F cs))) (hs : starEach (e :: es) X.env = (false, eval e X.env) :: starEach es X.env) : PA X (e :: es) (LA S W (evL F (.cons c cs))) := by
  refine PA.imp (pa_cons ha hr hs) fun σ H Q ⟨u, M, r, s, e, h⟩ => ?_
  unfold evL at h
  refine LX.then s e h fun p M1 u1 H1 x s1 f1 e1 r1 h1 => ?_
  exact LX.then s1 e1 h1 fun l M2 u2 H2 xs s2 f2 e2 r2 h2 => Post.now h2 s2 ⟨x, xs, rfl, r1.fr s1 f2, r2⟩
theorem e_tup {es : List Expr} {k : Nat} {pos : Pos} {cs : CEs} (h : PA X es (LA S W (evL F cs))) : PE X (.Tuple es k pos) (LE S W (evE F (.tup cs))) := by
  refine PE.imp (pe_tup h) fun σ H Q ⟨u, M, r, s, e, h⟩ => ?_
  unfold evE at h
  refine LX.then s e h fun l M1 u1 H1 xs s1 f1 e1 r1 h1 => ?_
  split at h1
  · rename_i hl
    exact ⟨by rw [r1.length]; exact hl, fun p hp => post_tup s1 r1 h1 hp⟩
  · exact h1.elim
theorem e_lst {es : List Expr} {pos : Pos} {cs : CEs} (h : PA X es (LA S W (evL F cs))) : PE X (.List es pos) (LE S W (evE F (.lst cs))) := by
  refine PE.imp (pe_lst h) fun σ H Q ⟨u, M, r, s, e, h⟩ => ?_
  unfold evE at h
  refine LX.then s e h fun l M1 u1 H1 xs s1 f1 e1 r1 h1 => ?_
  split at h1
  · rename_i hl
    exact ⟨by rw [r1.length]; exact hl, fun p hp => post_newL s1 r1 h1 hp⟩
  · exact h1.elim
theorem IxR.ex {g : PV → PV → Mh → Res PV} (h : ∀ σ, IxR X (G2 S W σ g)) : IxR X (fun x y H Q => ∃ σ, G2 S W σ g x y H Q) := fun a b pins s σ' H x y v u Q I rx ry ⟨σ, q⟩ => h σ a b pins s σ' H x y v u Q I rx ry q
theorem e_ix {a b : Expr} {pos : Pos} {ca cb : CE} (hK : X.K = S.K) (hu : X.A.units + 1 < cLine) (hs : PlainIx b) (ha : PE X a (LE S W (evE F ca))) (hb : PE X b (LE S W (evE F cb))) : PE X (.Subscript a b pos) (LE S W (evE F (.ix ca cb))) := by
  refine PE.imp (pe_ix (IxR.ex (W := W) fun σ => g_ix (σ := σ) hK hu) ha hb hs) fun σ H Q ⟨u, M, r, s, e, h⟩ => ?_
  unfold evE at h
  exact LX.two s e h fun p q M1 u1 H1 x y s1 f1 e1 r1 r2 h1 => ⟨σ, u1, M1, p, q, s1, r1, r2, h1⟩
abbrev LO (S : Sy) (W : WX) (m : Lv → Mh → Res (Option Int)) : TO := LX S W RI m
theorem o_none : PO X none (LO S W (evO F .none)) := by
  refine ⟨fun pins s σ H Q I q => (po_none (X := X)).run pins s σ H Q I ?_⟩
  obtain ⟨u, M, r, s, e, h⟩ := q
  unfold evO at h
  exact Post.now h s rfl
theorem o_some {e : Expr} {c : CE} (he : PE X e (LE S W (evE F c))) : PO X (some e) (LO S W (evO F (.some c))) := by
  refine ⟨fun pins s σ H Q I q => (po_some he).run pins s σ H Q I ?_⟩
  obtain ⟨u, M, r, s, e, h⟩ := q
  unfold evO at h
  refine LX.then s e h fun p M1 u1 H1 x s1 f1 e1 r1 h1 => ?_
  cases p with
  | int i =>
    cases r1
    exact ⟨i, rfl, Post.now h1 s1 rfl⟩
  | _ => exact h1.elim
theorem SlR.ex (h : ∀ σ, SlR X (GS S W σ)) : SlR X (fun x lo hi H Q => ∃ σ, GS S W σ x lo hi H Q) := fun pins s σ' H x v vl vu lo hi sl Q I rx a b c ⟨σ, q⟩ => h σ pins s σ' H x v vl vu lo hi sl Q I rx a b c q
theorem e_slc {a : Expr} {lo hi : Option Expr} {p2 pos : Pos} {ca : CE} {cl ch : CO} (hK : X.K = S.K) (ha : PE X a (LE S W (evE F ca))) (hl : PO X lo (LO S W (evO F cl))) (hh : PO X hi (LO S W (evO F ch))) :
    PE X (.Subscript a (.Slice lo hi none p2) pos) (LE S W (evE F (.slc ca cl ch))) := by
  refine PE.imp (pe_slice (SlR.ex (W := W) fun σ => g_sl (σ := σ) hK) ha hl hh) fun σ H Q ⟨u, M, r, s, e, h⟩ => ?_
  unfold evE at h
  refine LX.then s e h fun p M1 u1 H1 x s1 f1 e1 r1 h1 => ?_
  refine LX.then s1 e1 h1 fun i M2 u2 H2 x2 s2 f2 e2 r2 h2 => ?_
  refine LX.then s2 e2 h2 fun j M3 u3 H3 x3 s3 f3 e3 r3 h3 => ?_
  have r2' : x2 = i := r2
  have r3' : x3 = j := r3
  subst r2' r3'
  exact ⟨σ, u3, M3, p, s3, (r1.fr s1 f2).fr s2 f3, h3⟩
theorem CallR.ex {f : Value} {g : List PV → Mh → Res PV} (h : ∀ σ, CallR X f (GL S W σ g)) : CallR X f (fun xs H Q => ∃ σ, GL S W σ g xs H Q) := fun pins s σ' H xs us Q I rx ⟨σ, q⟩ => h σ pins s σ' H xs us Q I rx q
theorem e_bi {x : Str} {p pos : Pos} {e : Expr} {es : List Expr} {b : Bi} {c : CE} {cs : CEs} {id : String} (hc : ∀ σ, CallR X (.builtin id) (GL S W σ (biF b))) (hg : Gl X x) (hm : X.mg x = none) (hv : bootBuiltins x = some (.builtin id)) (hn : x ≠ "__name__") (hdb : (x == ("__debug__" : Str)) = false)
    (ha : PA X (e :: es) (LA S W (evL F (.cons c cs)))) (he : starEach (e :: es) X.env = (false, eval e X.env) :: starEach es X.env) (hpl : (backTo pos (starEach es X.env)).any (·.1) = false) : PE X (.Call (.Name x p) (e :: es) [] pos) (LE S W (evE F (.bi b (.cons c cs)))) := by
  refine PE.imp (pe_callB (CallR.ex hc) hg hm hv ha (hn := hn) (hdb := hdb) (he := he) (hpl := hpl)) fun σ H Q ⟨u, M, r, s, e, h⟩ => ?_
  unfold evE at h
  exact LX.then s e (Post.gcE (Nat.le_of_eq s.len) h) fun l M1 u1 H1 xs s1 f1 e1 r1 h1 => ⟨σ, u1, M1, l, s1, r1, h1⟩
theorem e_biT {x : Str} {p pos : Pos} {e : Expr} {es : List Expr} {b : Bi} {c : CE} {cs : CEs} {T : String} (hc : ∀ σ, CallR X (.type T) (GL S W σ (biF b))) (hg : Gl X x) (hm : X.mg x = none) (hv : bootBuiltins x = some (.type T)) (hn : x ≠ "__name__") (hdb : (x == ("__debug__" : Str)) = false)
    (ha : PA X (e :: es) (LA S W (evL F (.cons c cs)))) (he : starEach (e :: es) X.env = (false, eval e X.env) :: starEach es X.env) (hpl : (backTo pos (starEach es X.env)).any (·.1) = false) : PE X (.Call (.Name x p) (e :: es) [] pos) (LE S W (evE F (.bi b (.cons c cs)))) := by
  refine PE.imp (pe_callTy (CallR.ex hc) hg hm hv ha (hn := hn) (hdb := hdb) (he := he) (hpl := hpl)) fun σ H Q ⟨u, M, r, s, e, h⟩ => ?_
  unfold evE at h
  exact LX.then s e (Post.gcE (Nat.le_of_eq s.len) h) fun l M1 u1 H1 xs s1 f1 e1 r1 h1 => ⟨σ, u1, M1, l, s1, r1, h1⟩
end
end Pi
end
section
namespace Pi
open PySem PySem.Spec PyProof.Rows L2

def notStar : Expr → Bool
  | .Starred _ _ => false
  | _ => true
theorem star_cons {e : Expr} (h : notStar e = true) (es : List Expr) (env : PySem.Env) : starEach (e :: es) env = (false, eval e env) :: starEach es env := by
  cases e <;> first | rfl | cases h
theorem stars_all {pos : Pos} {env : PySem.Env} : ∀ {es : List Expr}, es.all notStar = true → (backTo pos (starEach es env)).all (fun x => !x.1) = true ∧ (backTo pos (starEach es env)).any (·.1) = false ∧ (backTo pos (starEach es env)).length = es.length
  | [], _ => ⟨rfl, rfl, rfl⟩
  | e :: es, h => by
    rw [List.all_cons, Bool.and_eq_true] at h
    obtain ⟨h1, h2, h3⟩ := stars_all (pos := pos) (env := env) h.2
    rw [star_cons h.1]
    have e1 : backTo pos ((false, eval e env) :: starEach es env) = (false, eval e env) :: backTo pos (starEach es env) := rfl
    rw [e1]
    refine ⟨?_, ?_, ?_⟩
    · rw [List.all_cons, h1]; rfl
    · rw [List.any_cons, h2]; rfl
    · rw [List.length_cons, h3]; rfl
theorem stars_any {pos : Pos} {env : PySem.Env} {es : List Expr} (h : es.all notStar = true) : (backTo pos (starEach es env)).any (·.1) = false := (stars_all h).2.1
theorem stars_few {cpos : Pos} {env : PySem.Env} {es : List Expr} (h : es.all notStar = true) (hl : es.length < 30) :
    ((backTo cpos (starEach es env)).all (fun x => !x.1) && (backToKw cpos (keywordEach [] env)).all (fun x => x.1.isSome) && decide (es.length + ([] : List Keyword).length + (if ([] : List Keyword).isEmpty then 0 else 1) < 30)) = true := by
  rw [(stars_all h).1]
  simpa [keywordEach, backToKw] using hl
/-- o is no C() -/
def notBare : Expr → Bool
  | .Call (.Name _ _) [] [] _ => false
  | _ => true
theorem base_eq {o : Expr} (h : notBare o = true) (f : Str) (env : PySem.Env) (whole : Sem Value) : attributeBase o f env whole = whole := by
  unfold attributeBase
  split
  · cases h
  · rfl
theorem meth_eq {o : Expr} {m : Str} {apos pos : Pos} {es : List Expr} {env : PySem.Env} (hb : notBare o = true) (hs : es.all notStar = true) (hl : es.length < 30) (hp : (apos.endLine == pos.line) = true) :
    eval (.Call (.Attribute o m apos) es [] pos) env = (do
      let ov ← eval o env
      standAt apos.atName
      let (f, first) ← holding [ov] (getMethod ov m (plainOf o env))
      callWith pos f first (backTo pos (starEach es env)) (backToKw pos (keywordEach [] env))) := by
  rw [arm_eval_Call, base_eq hb]
  have hf : methodCallForm (es.length + ([] : List Keyword).length) (backTo pos (starEach es env)) (backToKw pos (keywordEach [] env)) = true := by
    unfold methodCallForm
    have := stars_few (cpos := pos) (env := env) hs hl
    simpa [keywordEach, backToKw] using this
  simp only [mcall_line hf hp]
section
variable {S : Sy} {W : WX} {σ : St} {u : List Addr} {H : Hp} {M : Mh} {r : Lv} {X : Cx} {F : Fs} {n : Nat}
theorem MtR.ex {f : String} {g : PV → List PV → Mh → Res PV} (h : ∀ σ, MtR X f (GM S W σ g)) : MtR X f (fun x xs H Q => ∃ σ, GM S W σ g x xs H Q) := fun pins s σ' H x y v u Q I rx ry ⟨σ, q⟩ => h σ pins s σ' H x y v u Q I rx ry q
def HasTy (S : Sy) (b : Bm) (T : String) : Prop := ∀ (u : List Addr) (M : Mh) (H : Hp) (p : PV) (x : V), Sim S u M H → Rep S u H p x → bmOk b p M = true → tyV S.K T x H
theorem e_bm0 {T id : String} {o : Expr} {name : Str} {apos cpos : Pos} {b : Bm} {c : CE} (hK : X.K = S.K) (hT : HasTy S b T) (pa : PlainAttrs T) (slot : Slot T name id) (hty : typeOf (.builtin id) = pure (.type "method_descriptor")) (hm : ∀ σ, MtR X id (GM S W σ (bmf b)))
    (ho : PE X o (LE S W (evE F c))) (hb : notBare o = true) (hline : (apos.endLine == cpos.line) = true) : PE X (.Call (.Attribute o name apos) [] [] cpos) (LE S W (evE F (.bm b c .nil))) := by
  refine PE.imp (pe_bm0 pa slot hty (MtR.ex hm) ho (base_eq hb _ _ _) hline) fun σ H Q ⟨u, M, r, s, e, h⟩ => ?_
  unfold evE at h
  refine LX.then s e (Post.gcE (Nat.le_of_eq s.len) h) fun p M1 u1 H1 x s1 f1 e1 r1 h1 => ?_
  split at h1
  · rename_i hok
    refine ⟨by rw [hK]; exact hT _ _ _ _ _ s1 r1 hok, σ, u1, M1, p, [], s1, r1, rfl, ?_⟩
    unfold evL at h1
    exact h1
  · exact h1.elim
theorem e_bm {T id : String} {o e : Expr} {es : List Expr} {name : Str} {apos cpos : Pos} {b : Bm} {c d : CE} {cs : CEs} (hK : X.K = S.K) (hT : HasTy S b T) (pa : PlainAttrs T) (slot : Slot T name id) (hty : typeOf (.builtin id) = pure (.type "method_descriptor")) (hm : ∀ σ, MtR X id (GM S W σ (bmf b)))
    (ho : PE X o (LE S W (evE F c))) (ha : PA X (e :: es) (LA S W (evL F (.cons d cs)))) (hb : notBare o = true) (hs : (e :: es).all notStar = true) (hl : (e :: es).length < 30) (hline : (apos.endLine == cpos.line) = true) :
    PE X (.Call (.Attribute o name apos) (e :: es) [] cpos) (LE S W (evE F (.bm b c (.cons d cs)))) := by
  have hs' := Bool.and_eq_true_iff.mp (show (notStar e && es.all notStar) = true from hs)
  refine PE.imp (pe_bm pa slot hty (MtR.ex hm) ho ha (base_eq hb _ _ _) (stars_few hs hl) hline (star_cons hs'.1 _ _) (stars_any hs'.2)) fun σ H Q ⟨u, M, r, s, e, h⟩ => ?_
  unfold evE at h
  refine LX.then s e (Post.gcE (Nat.le_of_eq s.len) h) fun p M1 u1 H1 x s1 f1 e1 r1 h1 => ?_
  split at h1
  · rename_i hok
    refine ⟨by rw [hK]; exact hT _ _ _ _ _ s1 r1 hok, ?_⟩
    exact LX.then s1 e1 h1 fun l M2 u2 H2 xs s2 f2 e2 r2 h2 => ⟨σ, u2, M2, p, l, s2, r1.fr s1 f2, r2, h2⟩
  · exact h1.elim
theorem ty_str {b : Bm} (hb : ∀ p M, bmOk b p M = true → ∃ z, p = .str z) : HasTy S b "str" := fun u M H p x s h ok => by
  obtain ⟨z, rfl⟩ := hb p M ok
  cases h
  rfl
theorem ty_lst {b : Bm} (hb : ∀ p M, bmOk b p M = true → ∃ (n : Nat) (l : List PV), p = .ref n ∧ M[n]? = some (.lst l)) : HasTy S b "list" := fun u M H p x s h ok => by
  obtain ⟨n, l, rfl, hM⟩ := hb p M ok
  obtain ⟨a, vs, ha, rfl, h3, ra⟩ := s.lst hM h
  exact .inl ⟨rfl, vs, .of h3⟩
theorem ty_dct {b : Bm} (hb : ∀ p M, bmOk b p M = true → ∃ (n : Nat) (l : List (PV × PV)), p = .ref n ∧ M[n]? = some (.dct l)) : HasTy S b "dict" := fun u M H p x s h ok => by
  obtain ⟨n, l, rfl, hM⟩ := hb p M ok
  obtain ⟨a, ha, rfl, ro⟩ := s.obj hM h
  rcases ro with ⟨kvs, h3, nd, r⟩ | ⟨kvs, h3, nd, r⟩
  · exact .inr (.inr (.inl ⟨rfl, .inl ⟨kvs, h3⟩⟩))
  · exact .inr (.inr (.inl ⟨rfl, .inr ⟨kvs, h3⟩⟩))
theorem ok_str {b : Bm} (hb : b = .join ∨ b = .split ∨ b = .startswith) : ∀ p M, bmOk b p M = true → ∃ z, p = .str z := fun p M h => by
  rcases hb with rfl | rfl | rfl <;> (cases p <;> first | exact ⟨_, rfl⟩ | cases h)
theorem ok_dct : ∀ p M, bmOk .get p M = true → ∃ (n : Nat) (l : List (PV × PV)), p = .ref n ∧ M[n]? = some (.dct l) := fun p M h => by
  unfold bmOk at h
  dsimp only at h
  split at h
  · split at h
    · rename_i n _ l e
      exact ⟨n, l, rfl, e⟩
    · cases h
  · cases h
theorem ok_lst {b : Bm} (hb : b = .append ∨ b = .extend ∨ b = .insert ∨ b = .clear) : ∀ p M, bmOk b p M = true → ∃ (n : Nat) (l : List PV), p = .ref n ∧ M[n]? = some (.lst l) := fun p M h => by
  rcases hb with rfl | rfl | rfl | rfl <;>
  · unfold bmOk at h
    dsimp only at h
    split at h
    · split at h
      · rename_i n _ l e
        exact ⟨n, l, rfl, e⟩
      · cases h
    · cases h
theorem repF_lookup {fs : List (Str × PV)} {gs : List (Str × V)} (h : RepF S u H fs gs) (f : Str) : (fs.lookup f = none ∧ gs.lookup f = none) ∨ ∃ p v, fs.lookup f = some p ∧ gs.lookup f = some v ∧ Rep S u H p v := by
  induction h with
  | nil => exact .inl ⟨rfl, rfl⟩
  | @cons a b l m hh t ih =>
    obtain ⟨a1, a2⟩ := a
    obtain ⟨b1, b2⟩ := b
    obtain ⟨e1, e2⟩ := hh
    have e1' : a1 = b1 := e1
    subst e1'
    rw [List.lookup_cons, List.lookup_cons]
    cases q : f == a1 with
    | true => exact .inr ⟨a2, b2, rfl, rfl, e2⟩
    | false => exact ih
theorem ins_rep (s : Sim S u M H) {p : PV} {x : V} {C : Str} {fs : List (Str × PV)} (e : insOf M p = some (C, fs)) (h : Rep S u H p x) :
    ∃ (n : Nat) (a dx : Addr) (gs : List (Str × V)), p = .ref n ∧ M[n]? = some (.ins C fs) ∧ u[n]? = some a ∧ x = .ref a ∧ H a = some (.ins (S.gA C) dx gs) ∧ H dx = some (.own a) ∧ (fs.map (·.1)).Nodup ∧ RepF S u H fs gs := by
  unfold insOf at e
  split at e
  · split at e
    · rename_i n _ C' fs' hM
      cases e
      obtain ⟨a, ha, rfl, dx, gs, h1, h2, h3, h4⟩ := s.obj hM h
      exact ⟨n, a, dx, gs, rfl, hM, ha, rfl, h1, h2, h3, h4⟩
    · cases e
  · cases e
/-- f is an attribute that no class of these has itself -/
def FldOk (S : Sy) (cls : List Str) (f : Str) : Prop := ∀ C ∈ cls, Cls S.K (S.gA C) ∧ NoAttr S.K (S.gA C) f
theorem e_fld {o : Expr} {f : Str} {pos : Pos} {c : CE} (hK : X.K = S.K) (hc : FldOk S F.cls f)
    (ho : PE X o (LE S W (evE F c))) (hb : notBare o = true) : PE X (.Attribute o f pos) (LE S W (evE F (.fld c f))) := by
  refine PE.imp (pe_fld ho (base_eq hb _ _ _)) fun σ H Q ⟨u, M, r, s, e, h⟩ => ?_
  unfold evE at h
  refine LX.then s e h fun p M1 u1 H1 x s1 f1 e1 r1 h1 => ?_
  split at h1
  · rename_i C fs hi
    obtain ⟨n, a, dx, gs, rfl, hM, ha, rfl, h2, h3, h4, h5⟩ := ins_rep s1 hi r1
    split at h1
    · rename_i hC
      obtain ⟨q, e2, h6⟩ := oP_post s1 h1
      obtain ⟨k1, k2⟩ := hc C (by simpa using hC)
      rcases repF_lookup h5 f with ⟨z1, z2⟩ | ⟨q', v, z1, z2, z3⟩
      · rw [z1] at e2; cases e2
      · rw [z1] at e2
        cases e2
        exact ⟨a, S.gA C, dx, gs, v, rfl, h2, by rw [hK]; exact k1, by rw [hK]; exact k2, z2, h6 v z3⟩
    · exact h1.elim
  · exact h1.elim
theorem spM_of (s : Sim S u M H) {m : Mf} {ps : List PV} {vs : List V} {Q : VK} (hr : Reps S u H ps vs) (h : Post S W σ (Rep S) u H (m ps M) Q) : spM S m vs H Q (WE W σ) := by
  refine ⟨u, M, ps, s, hr, ?_⟩
  cases e : m ps M with
  | ok p M' => rw [e] at h; exact h
  | exc C fs M' => rw [e] at h; exact h
  | stuck => rw [e] at h; exact h
/-- a call of a def: its reading -/
theorem run_fnA {f : Addr} {m : Mf} {k : Nat} (g : Cg X S W n) (hk : k ≤ n) (A : FnA X.prog X.w S X.mg X.base k f m) {pins : List (Addr × Obj)} {s : Shared} {Q : VK} {us : List Value} {vs : List V} {ps : List PV} (I : Inv X pins σ H s) (rv : Vals vs us)
    (sm : Sim S u M H) (hr : Reps S u H ps vs) (h : Post S W σ (Rep S) u H (m ps M) Q) : wpAny (model X.prog X.w) X.A (call (.ref f) us) (EP X pins σ Q) X.xe s := by
  obtain ⟨fd, pn, F1, b⟩ := A.ex
  rw [← g.K] at F1 b
  exact run_fnSD (E := WE W) F1 (g.room.mono hk) b .nil (passAt g.tk σ) I rv (by rw [List.append_nil]; exact spM_of sm hr h)
theorem e_call {x : Str} {p pos : Pos} {e : Expr} {es : List Expr} {c : CE} {cs : CEs} {i k : Nat} (g : Cg X S W n) (hk : k ≤ n) (A : FnG X.prog X.w S X.mg X.base k x (F.at_ i)) (hg : Gl X x) (hdb : (x == ("__debug__" : Str)) = false)
    (ha : PA X (e :: es) (LA S W (evL F (.cons c cs)))) (hs : (e :: es).all notStar = true) : PE X (.Call (.Name x p) (e :: es) [] pos) (LE S W (evE F (.call i (.cons c cs)))) := by
  have hs' := Bool.and_eq_true_iff.mp (show (notStar e && es.all notStar) = true from hs)
  refine ⟨fun pins s σ H Q I h => ?_⟩
  refine wpAny_Call_Name_kw (ld_glob I hg A.mg ?_ hdb)
  have kp : PySem.W.keepIn X.K (.ref (S.gA x)) = true := by rw [g.K]; exact A.fn.kp
  obtain ⟨u, M, r, sm, e1, h⟩ := h
  unfold evE at h
  refine PySem.W.callWith_K (h₀ := X.base) I.ok.mod.kin kp (thn (ha.run pos pins s σ H _ I (LX.then (Q1 := fun vs H1 => ∃ u1 M1 ps, Sim S u1 M1 H1 ∧ Reps S u1 H1 ps vs ∧ Post S W σ (Rep S) u1 H1 (F.at_ i ps M1) Q) sm e1 h fun l M1 u1 H1 xs s1 f1 e2 r1 h1 => ⟨u1, M1, l, s1, r1, h1⟩))
    fun us s1 ⟨vs, H1, I1, rv, u1, M1, ps, s2, r2, h2⟩ => ⟨I1.kIn, ?_⟩) (star_cons hs'.1 _ _) (stars_any hs'.2)
  exact run_fnA g hk A.fn I1 rv s2 r2 h2
/-- a local that holds a def -/
theorem e_callv {x : Str} {p pos : Pos} {e : Expr} {es : List Expr} {c : CE} {cs : CEs} {i k : Nat} {ns : List (Str × Nat)} (g : Cg X S W n) (hk : k ≤ n) (A : ∀ y j, ns.lookup y = some j → FnA X.prog X.w S X.mg X.base k (S.gA y) (F.at_ j)) (hN : X.N[i]? = some x) (hv : Vis X.env.scope x)
    (hd : (x == ("__debug__" : Str)) = false) (hcd : (x == ("__classdict__" : Str)) = false)
    (ha : PA X (e :: es) (LA S W (evL F (.cons c cs)))) (hs : (e :: es).all notStar = true) : PE X (.Call (.Name x p) (e :: es) [] pos) (LE S W (evE F (.callv i ns (.cons c cs)))) := by
  have hs' := Bool.and_eq_true_iff.mp (show (notStar e && es.all notStar) = true from hs)
  refine ⟨fun pins s σ H Q I h => ?_⟩
  obtain ⟨u, M, r, sm, e1, h⟩ := h
  unfold evE at h
  split at h
  · rename_i y hy
    obtain ⟨v, h1, h2⟩ := e1.2 i _ hy
    cases h2
    split at h
    · rename_i j hj
      have B := A y j hj
      refine wpAny_Call_Name_kw (thn ((pe_var (pos := p) hN hv hd hcd).run pins s σ H (fun v H1 => v = .ref (S.gA y) ∧ H1 = H) I ⟨_, h1, rfl, rfl⟩) fun u0 s0 ⟨v0, H0, I0, r0, q0⟩ => ?_)
      obtain ⟨rfl, rfl⟩ := q0
      cases r0
      have kp : PySem.W.keepIn X.K (.ref (S.gA y)) = true := by rw [g.K]; exact B.kp
      refine PySem.W.callWith_K (h₀ := X.base) I.ok.mod.kin kp (thn (ha.run pos pins s0 σ _ _ I0 (LX.then (Q1 := fun vs H1 => ∃ u1 M1 ps, Sim S u1 M1 H1 ∧ Reps S u1 H1 ps vs ∧ Post S W σ (Rep S) u1 H1 (F.at_ j ps M1) Q) sm e1 h fun l M1 u1 H1 xs s1 f1 e2 r1 h1 => ⟨u1, M1, l, s1, r1, h1⟩))
        fun us s1 ⟨vs, H1, I1, rv, u1, M1, ps, s2, r2, h2⟩ => ⟨I1.kIn, ?_⟩) (star_cons hs'.1 _ _) (stars_any hs'.2)
      exact run_fnA g hk B I1 rv s2 r2 h2
    · exact h.elim
  · exact h.elim
/-- a method of an own class -/
structure MethG (P : Program) (w : World) (S : Sy) (mg : Str → Option Value) (base : Heap) (n : Nat) (C name : Str) (m : Mf) : Prop where
  ex : ∃ f, Cls S.K (S.gA C) ∧ Meth S.K (S.gA C) name f ∧ FnA P w S mg base n f m
/-- the receiver of a method -/
theorem meth_core {o : Expr} {name : Str} {apos pos : Pos} {es : List Expr} {c : CE} {cs : CEs} {k : Nat} {ms : List (Str × Nat)} (g : Cg X S W n) (A : ∀ C j, ms.lookup C = some j → MethG X.prog X.w S X.mg X.base k C name (F.at_ j))
    (ho : PE X o (LE S W (evE F c))) (hb : notBare o = true) (hs : es.all notStar = true) (hl : es.length < 30) (hline : (apos.endLine == pos.line) = true)
    (go : ∀ (pins : List (Addr × Obj)) (s : Shared) (σ : St) (H : Hp) (Q : VK) (u : List Addr) (M : Mh) (r : Lv) (k0 : Nat) (a f : Addr) (j : Nat), Inv X pins σ H s → Sim S u M H → REnv S u H σ r → Rep S u H (.ref k0) (.ref a) → PySem.W.keepIn X.K (.ref f) = true → FnA X.prog X.w S X.mg X.base k f (F.at_ j) →
      Post S W σ (Rep S) u H ((evL F cs r M).bind fun l M2 => F.at_ j (.ref k0 :: l) M2) Q → wpAny (model X.prog X.w) X.A (callWith pos (.ref f) [.ref a] (backTo pos (starEach es X.env)) (backToKw pos (keywordEach [] X.env))) (EP X pins σ Q) X.xe s) :
    PE X (.Call (.Attribute o name apos) es [] pos) (LE S W (evE F (.meth ms name c cs))) := by
  refine ⟨fun pins s σ H Q I h => ?_⟩
  obtain ⟨u, M, r, sm, e1, h⟩ := h
  unfold evE at h
  refine PySem.W.methodCall_KW (pl := plainOf o X.env) (thn (ho.run pins s σ H _ I (LX.then (Q1 := fun x H1 => ∃ u1 M1 p, Sim S u1 M1 H1 ∧ REnv S u1 H1 σ r ∧ Rep S u1 H1 p x ∧ Post S W σ (Rep S) u1 H1 (match insOf M1 p with
    | some (C, fs) => if (fs.lookup name).isSome then .stuck else match ms.lookup C with
      | some k => (evL F cs r M1).bind fun l M2 => F.at_ k (p :: l) M2
      | none => .stuck
    | none => .stuck) Q) sm e1 h fun p M1 u1 H1 x s1 f1 e2 r1 h1 => ⟨u1, M1, p, s1, e2, r1, h1⟩)) fun v s1 ⟨x, H1, I1, rx, u1, M1, p, s2, e2, r2, h2⟩ => ?_) (meth_eq hb hs hl hline)
  split at h2
  · rename_i C fs hi
    obtain ⟨k0, a, dx, gs, rfl, hM, ha1, rfl, h3, h4, h5, h6⟩ := ins_rep s2 hi r2
    split at h2
    · exact h2.elim
    · rename_i hnone
      split at h2
      · rename_i j hj
        obtain ⟨f, c1, m1, B⟩ := A C j hj
        obtain rfl : v = Value.ref a := rx
        have lk : gs.lookup name = none := by
          rcases repF_lookup h6 name with ⟨_, z⟩ | ⟨q, v, z, _⟩
          · exact z
          · rw [z] at hnone; exact absurd rfl hnone
        rw [← g.K] at c1 m1
        refine getmeth_ok I1 h3 c1 m1 lk ?_
        exact go pins s1 σ H1 Q u1 M1 r k0 a f j I1 s2 e2 r2 m1.kp B h2
      · exact h2.elim
  · exact h2.elim
theorem e_meth0 {o : Expr} {name : Str} {apos pos : Pos} {c : CE} {k : Nat} {ms : List (Str × Nat)} (g : Cg X S W n) (hk : k ≤ n) (A : ∀ C j, ms.lookup C = some j → MethG X.prog X.w S X.mg X.base k C name (F.at_ j))
    (ho : PE X o (LE S W (evE F c))) (hb : notBare o = true) (hline : (apos.endLine == pos.line) = true) : PE X (.Call (.Attribute o name apos) [] [] pos) (LE S W (evE F (.meth ms name c .nil))) := by
  refine meth_core g A ho hb rfl (by decide) hline fun pins s σ H Q u M r k0 a f j I sm e1 hr kp B h => ?_
  unfold evL at h
  exact PySem.W.callWith_K0 (first := [.ref a]) I.kIn kp (run_fnA (us := [.ref a]) (vs := [.ref a]) g hk B I (.cons rfl .nil) sm (Reps.one hr) h)
theorem e_meth {o e : Expr} {name : Str} {apos pos : Pos} {es : List Expr} {c d : CE} {cs : CEs} {k : Nat} {ms : List (Str × Nat)} (g : Cg X S W n) (hk : k ≤ n) (A : ∀ C j, ms.lookup C = some j → MethG X.prog X.w S X.mg X.base k C name (F.at_ j))
    (ho : PE X o (LE S W (evE F c))) (ha : PA X (e :: es) (LA S W (evL F (.cons d cs)))) (hb : notBare o = true) (hs : (e :: es).all notStar = true) (hl : (e :: es).length < 30) (hline : (apos.endLine == pos.line) = true) :
    PE X (.Call (.Attribute o name apos) (e :: es) [] pos) (LE S W (evE F (.meth ms name c (.cons d cs)))) := by
  have hs' := Bool.and_eq_true_iff.mp (show (notStar e && es.all notStar) = true from hs)
  refine meth_core g A ho hb hs hl hline fun pins s σ H Q u M r k0 a f j I sm e1 hr kp B h => ?_
  refine PySem.W.callWith_K (first := [.ref a]) (h₀ := X.base) I.ok.mod.kin kp (thn (ha.run pos pins s σ H _ I (LX.then (Q1 := fun vs H1 => ∃ u1 M1 ps, Sim S u1 M1 H1 ∧ Reps S u1 H1 ps vs ∧ Rep S u1 H1 (.ref k0) (.ref a) ∧ Post S W σ (Rep S) u1 H1 (F.at_ j (.ref k0 :: ps) M1) Q) sm e1 h
    fun l M2 u2 H2 xs s3 f3 e3 r3 h7 => ⟨u2, M2, l, s3, r3, hr.fr sm f3, h7⟩)) fun us s3 ⟨vs, H3, I3, rv, u3, M3, ps, s4, r4, r5, h8⟩ => ⟨I3.kIn, ?_⟩) (star_cons hs'.1 _ _) (stars_any hs'.2)
  exact run_fnA (us := .ref a :: us) (vs := .ref a :: vs) (ps := .ref k0 :: ps) g hk B I3 (.cons rfl rv) s4 ⟨_, _, rfl, r5, r4⟩ h8
/-- C(..) of an own class -/
structure MakeG (P : Program) (w : World) (S : Sy) (mg : Str → Option Value) (base : Heap) (n : Nat) (C : Str) (m : Mf) : Prop where
  ex : ∃ f, Mk S.K (S.gA C) f ∧ FnA P w S mg base n f m
  mg : mg C = some (.ref (S.gA C))
theorem run_makeA {C : Str} {m : Mf} {k : Nat} (g : Cg X S W n) (hk : k + 1 ≤ n) (A : MakeG X.prog X.w S X.mg X.base k C m) {pins : List (Addr × Obj)} {s : Shared} {Q : VK} {us : List Value} {vs : List V} {ps : List PV} (I : Inv X pins σ H s) (rv : Vals vs us)
    (sm : Sim S u M H) (hr : Reps S u H ps vs) (h : Post S W σ (Rep S) u H ((m (.ref M.length :: ps) (M ++ [.ins C []])).bind fun p M2 => match p with
      | .non => .ok (.ref M.length) M2
      | _ => .stuck) Q) : wpAny (model X.prog X.w) X.A (call (.ref (S.gA C)) us) (EP X pins σ Q) X.xe s := by
  obtain ⟨f, M0, B⟩ := A.ex
  obtain ⟨fd, pn, F1, b⟩ := B.ex
  rw [← g.K] at F1 b M0
  have room : Room (k + 1) X.A := g.room.mono hk
  -- the new instance
  have hx : H (s.heap.objs.size + 1) = none := I.hok.fresh (Nat.le_succ _)
  have hdx : H s.heap.objs.size = none := I.hok.fresh (Nat.le_refl _)
  have ne : s.heap.objs.size ≠ s.heap.objs.size + 1 := Nat.ne_of_lt (Nat.lt_succ_self _)
  have I2 := Inv.made (C := S.gA C) I
  obtain ⟨s1, f1⟩ := sm.alloc (o := .own (s.heap.objs.size + 1)) hdx
  have hx1 : upd H s.heap.objs.size (.own (s.heap.objs.size + 1)) (s.heap.objs.size + 1) = none := by rw [upd_ne (Ne.symm ne)]; exact hx
  obtain ⟨s2, f2⟩ := s1.new (a := s.heap.objs.size + 1) (o := .ins (S.gA C) s.heap.objs.size []) (m := .ins C []) hx1 fun f => ⟨s.heap.objs.size, [], upd_same, by rw [upd_ne ne, upd_same], List.nodup_nil, .nil⟩
  have f12 := f1.trans f2
  have rself : Rep S (u ++ [s.heap.objs.size + 1]) (upd (upd H s.heap.objs.size (.own (s.heap.objs.size + 1))) (s.heap.objs.size + 1) (.ins (S.gA C) s.heap.objs.size [])) (.ref M.length) (.ref (s.heap.objs.size + 1)) := by
    refine ⟨_, ?_, rfl⟩
    rw [← sm.len, List.getElem?_append_right (Nat.le_refl _)]
    simp
  have h2 := Post.after f12 h
  have hq : spM S m (V.ref (s.heap.objs.size + 1) :: vs) (upd (upd H s.heap.objs.size (.own (s.heap.objs.size + 1))) (s.heap.objs.size + 1) (.ins (S.gA C) s.heap.objs.size [])) (fun v H2 => v = .non ∧ Q (.ref (s.heap.objs.size + 1)) H2) (WE W σ) := by
    refine spM_of s2 (ps := .ref M.length :: ps) ⟨_, _, rfl, rself, hr.fr sm f12⟩ ?_
    refine Post.bind h2 fun p M3 _ u3 H3 v s3 f3 r3 h3 => ?_
    cases p with
    | non => exact ⟨r3, Post.now h3 s3 (rself.fr s2 f3)⟩
    | _ => exact h3.elim
  have r2 : Vals (V.ref (s.heap.objs.size + 1) :: (vs ++ [])) (Value.ref (s.heap.objs.size + 1) :: (us ++ [])) := .cons rfl (rv.append .nil)
  have hq' : spM S m (V.ref (s.heap.objs.size + 1) :: (vs ++ [])) (upd (upd H s.heap.objs.size (.own (s.heap.objs.size + 1))) (s.heap.objs.size + 1) (.ins (S.gA C) s.heap.objs.size [])) (fun v H2 => v = .non ∧ Q (.ref (s.heap.objs.size + 1)) H2) (WE W σ) := by
    rw [List.append_nil]; exact hq
  have hl : (Value.ref (s.heap.objs.size + 1) :: us ++ []).length = pn.length := by
    have e := r2.length
    rw [F1.len _ _ _ _ hq'] at e
    exact e.symm
  have hbt := b _ (Value.ref (s.heap.objs.size + 1) :: us) I2.kIn hl
  rw [List.cons_append] at hbt
  refine wpAny_call (make_map (f := f) I.kIn M0.makes M0.init (beq_iff_eq.mp M0.fn) (codeAny_mono (F1.run _ X.stack _ _ ⟨Value.ref (s.heap.objs.size + 1) :: us, []⟩ (Value.ref (s.heap.objs.size + 1) :: (us ++ [])) _ _ (WE W σ) (room.make (S.gA C) us [])
    (I2.env0.make (S.gA C) us []) hbt r2 hq') fun r s' hq2 => ?_))
  cases r with
  | error e => exact passAt g.tk σ pins _ _ e s' I2 hq2
  | ok fl =>
    cases fl with
    | ret u =>
      obtain ⟨v, H', I3, rv, ev, q3⟩ := I2.after hq2
      subst ev
      exact ⟨rv, ⟨V.ref (s.heap.objs.size + 1), H', I3, rfl, q3⟩⟩
    | next => exact False.elim hq2
    | brk => exact False.elim hq2
    | cont => exact False.elim hq2
theorem e_make {x : Str} {p pos : Pos} {e : Expr} {es : List Expr} {c : CE} {cs : CEs} {i k : Nat} (g : Cg X S W n) (hk : k + 1 ≤ n) (A : MakeG X.prog X.w S X.mg X.base k x (F.at_ i)) (hg : Gl X x) (hdb : (x == ("__debug__" : Str)) = false)
    (ha : PA X (e :: es) (LA S W (evL F (.cons c cs)))) (hs : (e :: es).all notStar = true) : PE X (.Call (.Name x p) (e :: es) [] pos) (LE S W (evE F (.make x i (.cons c cs)))) := by
  have hs' := Bool.and_eq_true_iff.mp (show (notStar e && es.all notStar) = true from hs)
  refine ⟨fun pins s σ H Q I h => ?_⟩
  refine wpAny_Call_Name_kw (ld_glob I hg A.mg ?_ hdb)
  have kp : PySem.W.keepIn X.K (.ref (S.gA x)) = true := by
    obtain ⟨f, M0, _⟩ := A.ex
    rw [g.K]; exact M0.kp
  obtain ⟨u, M, r, sm, e1, h⟩ := h
  unfold evE at h
  refine PySem.W.callWith_K (h₀ := X.base) I.ok.mod.kin kp (thn (ha.run pos pins s σ H _ I (LX.then (Q1 := fun vs H1 => ∃ u1 M1 ps, Sim S u1 M1 H1 ∧ Reps S u1 H1 ps vs ∧ Post S W σ (Rep S) u1 H1 ((F.at_ i (.ref M1.length :: ps) (M1 ++ [.ins x []])).bind fun p M2 => match p with
      | .non => .ok (.ref M1.length) M2
      | _ => .stuck) Q) sm e1 h fun l M1 u1 H1 xs s1 f1 e2 r1 h1 => ⟨u1, M1, l, s1, r1, h1⟩))
    fun us s1 ⟨vs, H1, I1, rv, u1, M1, ps, s2, r2, h2⟩ => ⟨I1.kIn, ?_⟩) (star_cons hs'.1 _ _) (stars_any hs'.2)
  exact run_makeA g hk A I1 rv s2 r2 h2
end
end Pi
end
section
namespace Pi
open PySem PySem.Spec PyProof.Rows L2
section
variable {S : Sy} {W : WX} {σ : St} {u : List Addr} {H : Hp} {M : Mh} {r : Lv} {X : Cx} {F : Fs} {n : Nat}
def setManyV : List Nat → List V → St → Option St
  | [], [], s => some s
  | i :: is, p :: ps, s => setManyV is ps (s.set i (some p))
  | _, _, _ => none
def GTg (K : PySem.W.Frag) : Tg → TG
  | .one i => fun v σ H Q => Q (σ.set i (some v)) H
  | .tup is => fun v σ H Q => ∃ a xs σ', v = .ref a ∧ SqT K H a xs ∧ setManyV is xs σ = some σ' ∧ Q σ' H
theorem REnv.many : ∀ {is : List Nat} {ps : List PV} {vs : List V} {r r' : Lv} {σ : St}, setMany is ps r = some r' → Reps S u H ps vs → REnv S u H σ r → ∃ σ', setManyV is vs σ = some σ' ∧ REnv S u H σ' r'
  | [], [], _, _, _, σ, e, h, k => by
    cases h
    cases e
    exact ⟨σ, rfl, k⟩
  | i :: is, p :: ps, _, _, _, σ, e, ⟨v, w, e2, h, t⟩, k => by
    subst e2
    exact REnv.many (is := is) (ps := ps) e t (k.set h)
  | [], _ :: _, _, _, _, _, e, _, _ => by cases e
  | _ :: _, [], _, _, _, _, e, _, _ => by cases e
theorem setT_ok {tg : Tg} {p : PV} {v : V} {r r' : Lv} {σ : St} {Q : St → Hp → Prop} (h : setT tg p r = some r') (hr : Rep S u H p v) (k : REnv S u H σ r) (q : ∀ σ', REnv S u H σ' r' → Q σ' H) : GTg S.K tg v σ H Q := by
  cases tg with
  | one i =>
    cases h
    exact q _ (k.set hr)
  | tup is =>
    cases p with
    | tup ps =>
      obtain ⟨a, vs, rfl, ha, ra⟩ := hr
      obtain ⟨σ', h1, h2⟩ := REnv.many (show setMany is ps r = some r' from h) ra k
      exact ⟨a, vs, σ', rfl, .of ha, h1, q σ' h2⟩
    | _ => cases h
theorem manyV_len : ∀ {is : List Nat} {xs : List V} {σ σ' : St}, setManyV is xs σ = some σ' → xs.length = is.length
  | [], [], _, _, _ => rfl
  | i :: is, p :: ps, _, _, e => by rw [List.length_cons, List.length_cons, manyV_len (is := is) (xs := ps) e]
  | [], _ :: _, _, _, e => by cases e
  | _ :: _, [], _, _, e => by cases e
/-- plain names as targets -/
def tgNames (co : Bool) (N : List Str) (sc : Scope) : List Expr → Option (List Nat)
  | [] => some []
  | .Name x _ :: r => if (sc.names.lookup x == some .local || (co && sc.names.lookup x == some .cell)) && decide (x ∈ N) then (tgNames co N sc r).map (N.idxOf x :: ·) else none
  | _ :: _ => none
theorem idx_get {N : List Str} {x : Str} (h : x ∈ N) : N[N.idxOf x]? = some x := by
  have hl := List.idxOf_lt_length_iff.mpr h
  rw [List.getElem?_eq_getElem hl, List.getElem_idxOf]
theorem pgs_names (hN : X.N.Nodup) {sc : Scope} {co : Bool} (hsc : X.env.scope = sc) (hf : co = true → ∀ x, X.fn x = true) : ∀ {es : List Expr} {is : List Nat}, tgNames co X.N sc es = some is →
    ∃ t : TGs, PGs X es t ∧ (assignEach es X.env).length = is.length ∧ (assignEach es X.env).findIdx? (·.1) = none ∧ ∀ (xs : List V) (σ : St) (H : Hp) (Q : St → Hp → Prop) (σ' : St), setManyV is xs σ = some σ' → Q σ' H → t xs σ H Q
  | [], is, h => by
    cases h
    refine ⟨gNil, pgs_nil, rfl, rfl, fun xs σ H Q σ' e q => ?_⟩
    cases xs with
    | nil => cases e; exact ⟨rfl, q⟩
    | cons _ _ => cases e
  | .Name x p :: r, is, h => by
    have h' : (if ((sc.names.lookup x == some .local || (co && sc.names.lookup x == some .cell)) && decide (x ∈ X.N)) = true then (tgNames co X.N sc r).map (X.N.idxOf x :: ·) else none) = some is := h
    split at h'
    · rename_i hc
      obtain ⟨h1, h2⟩ := Bool.and_eq_true_iff.mp hc
      obtain ⟨is', h3, rfl⟩ := Option.map_eq_some_iff.mp h'
      obtain ⟨t, k1, k2, k3, k4⟩ := pgs_names hN hsc hf h3
      have hx := idx_get (of_decide_eq_true h2)
      have hl : L2.Loc X.env.scope x := by
        rw [hsc]
        rcases Bool.or_eq_true_iff.mp h1 with z | z
        · exact .inl (by simpa using z)
        · exact .inr (by simpa using (Bool.and_eq_true_iff.mp z).2)
      have hfx : X.fn x = true ∨ X.env.scope.names.lookup x = some .local := by
        rcases Bool.or_eq_true_iff.mp h1 with z | z
        · exact .inr (by rw [hsc]; simpa using z)
        · exact .inl (hf (Bool.and_eq_true_iff.mp z).1 x)
      refine ⟨gCons (gName (X.N.idxOf x)) t, pgs_cons (pg_name hN hx hl hfx) k1, ?_, ?_, fun xs σ H Q σ' e q => ?_⟩
      · show (assignEach r X.env).length + 1 = is'.length + 1
        rw [k2]
      · have e : assignEach (.Name x p :: r) X.env = (false, assign (.Name x p) X.env) :: assignEach r X.env := rfl
        rw [e, List.findIdx?_cons, if_neg Bool.false_ne_true, k3]
        rfl
      · cases xs with
        | nil => cases e
        | cons v w => exact ⟨v, w, rfl, k4 w _ H Q σ' e q⟩
    · cases h'
  | .BoolOp _ _ _ :: _, _, h => by cases h
  | .NamedExpr _ _ _ :: _, _, h => by cases h
  | .BinOp _ _ _ _ :: _, _, h => by cases h
  | .UnaryOp _ _ _ :: _, _, h => by cases h
  | .Lambda _ _ _ _ :: _, _, h => by cases h
  | .IfExp _ _ _ _ :: _, _, h => by cases h
  | .Dict _ _ _ :: _, _, h => by cases h
  | .Set _ _ _ :: _, _, h => by cases h
  | .ListComp _ _ _ _ :: _, _, h => by cases h
  | .SetComp _ _ _ _ :: _, _, h => by cases h
  | .DictComp _ _ _ _ _ :: _, _, h => by cases h
  | .GeneratorExp _ _ _ _ :: _, _, h => by cases h
  | .Await _ _ :: _, _, h => by cases h
  | .Yield _ _ :: _, _, h => by cases h
  | .YieldFrom _ _ :: _, _, h => by cases h
  | .Compare _ _ _ _ :: _, _, h => by cases h
  | .Call _ _ _ _ :: _, _, h => by cases h
  | .FormattedValue _ _ _ _ :: _, _, h => by cases h
  | .JoinedStr _ _ :: _, _, h => by cases h
  | .Constant _ _ _ :: _, _, h => by cases h
  | .Attribute _ _ _ :: _, _, h => by cases h
  | .Subscript _ _ _ :: _, _, h => by cases h
  | .Starred _ _ :: _, _, h => by cases h
  | .List _ _ :: _, _, h => by cases h
  | .Tuple _ _ _ :: _, _, h => by cases h
  | .Slice _ _ _ _ :: _, _, h => by cases h
/-- a target -/
def cTg (co : Bool) (N : List Str) (sc : Scope) : Expr → Option Tg
  | .Name x _ => if ((sc.names.lookup x == some .local || (co && sc.names.lookup x == some .cell)) && decide (x ∈ N)) = true then some (.one (N.idxOf x)) else none
  | .Tuple es _ _ => (tgNames co N sc es).map .tup
  | _ => none
theorem PG.imp {X : Cx} {e : Expr} {t t' : TG} (h : PG X e t) (k : ∀ v σ H Q, t' v σ H Q → t v σ H Q) : PG X e t' := ⟨fun pins s σ H v u Q I r q => h.run pins s σ H v u Q I r (k _ _ _ _ q)⟩
theorem pg_of (hc : X.calm = true) (hN : X.N.Nodup) {sc : Scope} {co : Bool} (hsc : X.env.scope = sc) (hf : co = true → ∀ x, X.fn x = true) {e : Expr} {tg : Tg} (h : cTg co X.N sc e = some tg) : PG X e (GTg X.K tg) := by
  unfold cTg at h
  split at h
  · rename_i x p
    split at h
    · rename_i hc
      cases h
      obtain ⟨k1, k2⟩ := Bool.and_eq_true_iff.mp hc
      have hx := idx_get (of_decide_eq_true k2)
      have hl : L2.Loc X.env.scope x := by
        rw [hsc]
        rcases Bool.or_eq_true_iff.mp k1 with z | z
        · exact .inl (by simpa using z)
        · exact .inr (by simpa using (Bool.and_eq_true_iff.mp z).2)
      have hfx : X.fn x = true ∨ X.env.scope.names.lookup x = some .local := by
        rcases Bool.or_eq_true_iff.mp k1 with z | z
        · exact .inr (by rw [hsc]; simpa using z)
        · exact .inl (hf (Bool.and_eq_true_iff.mp z).1 x)
      exact PG.imp (pg_name hN hx hl hfx) fun v σ H Q q => q
    · cases h
  · obtain ⟨is, h1, rfl⟩ := Option.map_eq_some_iff.mp h
    obtain ⟨t, k1, k2, k3, k4⟩ := pgs_names hN hsc hf h1
    refine PG.imp (pg_tup hc k1 k2 k3) fun v σ H Q q0 => ?_
    obtain ⟨a, xs, σ', rfl, ha, hm, q⟩ := q0
    exact ⟨a, xs, rfl, ha, manyV_len hm, k4 xs σ H Q σ' hm q⟩
  · cases h
/-- the iterator J walks w -/
def WalkRep (S : Sy) (u : List Addr) (H : Hp) (w : Walk) (J : It) : Prop := ∀ u' M' H', Sim S u' M' H' → Fr u H u' H' → w.same M' →
  (∀ i p, w.items[i]? = some p → J.go i H' ∧ ∀ x H'', J.yld i H' x H'' → Sim S u' M' H'' ∧ Fr u' H' u' H'' ∧ Rep S u' H'' p x) ∧ J.stop w.items.length H'
abbrev LI (S : Sy) (W : WX) (m : Lv → Mh → Res Walk) : TI := LX S W (WalkRep S) m
theorem PI.imp {X : Cx} {tg e : Expr} {t t' : TI} (h : PI X tg e t) (k : ∀ σ H R, t' σ H R → t σ H R) : PI X tg e t' := ⟨fun pins s σ H R I q => h.run pins s σ H R I (k _ _ _ q)⟩
theorem PI.or {X : Cx} {tg e : Expr} {t t' : TI} (h : PI X tg e t) (h' : PI X tg e t') : PI X tg e (fun σ H R => t σ H R ∨ t' σ H R) := ⟨fun pins s σ H R I q => q.elim (h.run pins s σ H R I) (h'.run pins s σ H R I)⟩
theorem walk_tup {l : List PV} {a : Addr} {vs : List V} (s : Sim S u M H) (ha : H a = some (.tup vs)) (ra : Reps S u H l vs) : WalkRep S u H ⟨l, none, none⟩ (Itt S.K a) := fun u' M' H' s' f _ => by
  have h1 := tup_fr s f ha
  have h2 := ra.fr s f
  refine ⟨fun i p e => ?_, vs, .of h1, by rw [h2.length]; exact Nat.le_refl _⟩
  obtain ⟨v, h3, h4⟩ := h2.get e
  refine ⟨⟨vs, v, .of h1, h3⟩, fun x H'' ⟨e1, e2⟩ => ?_⟩
  subst e1
  have := e2 vs (.of h1)
  rw [h3] at this
  cases this
  exact ⟨s', Fr.refl, h4⟩
theorem walk_ct {l : List PV} {a : Addr} {vs : List V} (s : Sim S u M H) (ha : KT S.K a vs) (ra : Reps S u H l vs) : WalkRep S u H ⟨l, none, none⟩ (Itt S.K a) := fun u' M' H' s' f _ => by
  have h2 := ra.fr s f
  refine ⟨fun i p e => ?_, vs, .inr ha, by rw [h2.length]; exact Nat.le_refl _⟩
  obtain ⟨v, h3, h4⟩ := h2.get e
  refine ⟨⟨vs, v, .inr ha, h3⟩, fun x H'' ⟨e1, e2⟩ => ?_⟩
  subst e1
  have := e2 vs (.inr ha)
  rw [h3] at this
  cases this
  exact ⟨s', Fr.refl, h4⟩
theorem walk_lst {l : List PV} {n : Nat} {a : Addr} (ha : u[n]? = some a) : WalkRep S u H ⟨l, some (n, .lst l), none⟩ (Itl S.K a) := fun u' M' H' s' f hs => by
  have hM : M'[n]? = some (.lst l) := hs.1
  obtain ⟨vs, h1, h2⟩ := s'.at_ n a _ (get_pre f.pre ha) hM
  refine ⟨fun i p e => ?_, vs, .of h1, by rw [h2.length]; exact Nat.le_refl _⟩
  obtain ⟨v, h3, h4⟩ := h2.get e
  refine ⟨⟨vs, v, .of h1, h3⟩, fun x H'' ⟨e1, e2⟩ => ?_⟩
  subst e1
  have := e2 vs (.of h1)
  rw [h3] at this
  cases this
  exact ⟨s', Fr.refl, h4⟩
theorem walk_str {x : Str} : WalkRep S u H ⟨x.cps.toList.map fun c => .str ⟨#[c]⟩, none, none⟩ (Its x) := fun u' M' H' s' f _ => by
  refine ⟨fun i p e => ?_, by show x.cps.size ≤ (x.cps.toList.map _).length; simp⟩
  rw [List.getElem?_map] at e
  obtain ⟨c, h1, rfl⟩ := Option.map_eq_some_iff.mp e
  have hi : i < x.cps.size := by
    have := (List.getElem?_eq_some_iff.mp h1).1
    simpa using this
  refine ⟨hi, fun y H'' ⟨e1, c', e2, e3⟩ => ?_⟩
  subst e1
  rw [Array.getElem?_toList] at h1
  rw [h1] at e2
  cases e2
  exact ⟨s', Fr.refl, e3⟩
theorem walk_rng {i j : Int} : WalkRep S u H ⟨rngL i j, none, none⟩ (Itr i (j - i).toNat) := fun u' M' H' s' f _ => by
  have hl : (rngL i j).length = (j - i).toNat := by unfold rngL; simp
  refine ⟨fun k p e => ?_, by show (j - i).toNat ≤ (rngL i j).length; omega⟩
  have hk : k < (rngL i j).length := (List.getElem?_eq_some_iff.mp e).1
  replace e : (rngL i j)[k]? = some p := e
  refine ⟨by show k < (j - i).toNat; omega, fun y H'' ⟨e1, e2⟩ => ?_⟩
  subst e1
  subst e2
  refine ⟨s', Fr.refl, ?_⟩
  unfold rngL at e
  rw [List.getElem?_map, List.getElem?_range (by omega)] at e
  cases e
  rfl
theorem zip_get : ∀ {l k : List PV} {i : Nat} {p : PV}, (zipPV l k)[i]? = some p → ∃ a b, l[i]? = some a ∧ k[i]? = some b ∧ p = .tup [a, b]
  | a :: l, b :: k, 0, p, e => by
    have : some (PV.tup [a, b]) = some p := e
    cases this
    exact ⟨a, b, rfl, rfl, rfl⟩
  | a :: l, b :: k, i + 1, p, e => by
    obtain ⟨x, y, h1, h2, h3⟩ := zip_get (l := l) (k := k) (i := i) (p := p) (by simpa [zipPV] using e)
    exact ⟨x, y, by simpa using h1, by simpa using h2, h3⟩
  | [], _, _, _, e => by simp [zipPV] at e
  | _ :: _, [], _, _, e => by simp [zipPV] at e
theorem zip_len : ∀ (l k : List PV), (zipPV l k).length = min l.length k.length
  | [], k => by simp [zipPV]
  | _ :: _, [] => by simp [zipPV]
  | a :: l, b :: k => by simp only [zipPV, List.length_cons, zip_len l k]; omega
theorem pair_new {a b : PV} {x y : V} {T : Addr} (s : Sim S u M H) (hT : H T = none) (ha : Rep S u H a x) (hb : Rep S u H b y) :
    Sim S u M (upd H T (.tup [x, y])) ∧ Fr u H u (upd H T (.tup [x, y])) ∧ Rep S u (upd H T (.tup [x, y])) (.tup [a, b]) (.ref T) := by
  obtain ⟨s1, f1⟩ := s.alloc (o := .tup [x, y]) hT
  exact ⟨s1, f1, T, [x, y], rfl, upd_same, _, _, rfl, ha.fr s f1, _, _, rfl, hb.fr s f1, rfl⟩
theorem walk_zipT {l k : List PV} {a b : Addr} {vs ws : List V} (s : Sim S u M H) (ha : H a = some (.tup vs)) (ra : Reps S u H l vs) (hb : H b = some (.tup ws)) (rb : Reps S u H k ws) : WalkRep S u H ⟨zipPV l k, none, none⟩ (RZ.ItzT S.K a b) := fun u' M' H' s' f _ => by
  have h1 := tup_fr s f ha
  have h2 := ra.fr s f
  have h3 := tup_fr s f hb
  have h4 := rb.fr s f
  refine ⟨fun i p e => ?_, vs, ws, .of h1, .of h3, ?_⟩
  · obtain ⟨p1, p2, e1, e2, rfl⟩ := zip_get e
    obtain ⟨v, g1, g2⟩ := h2.get e1
    obtain ⟨w, g3, g4⟩ := h4.get e2
    refine ⟨⟨vs, ws, v, w, .of h1, .of h3, g1, g3⟩, fun x H'' ⟨T, x1, y1, e3, e4, e5, e6, e7⟩ => ?_⟩
    have q1 := e6 vs (.of h1)
    have q2 := e7 ws (.of h3)
    rw [g1] at q1
    rw [g3] at q2
    cases q1
    cases q2
    subst e3 e5
    exact pair_new s' e4 g2 g4
  · show vs.length ≤ (zipPV l k).length ∨ ws.length ≤ (zipPV l k).length
    rw [zip_len, h2.length, h4.length]
    omega
theorem walk_zipL {l k : List PV} {m n : Nat} {a b : Addr} (ha : u[m]? = some a) (hb : u[n]? = some b) : WalkRep S u H ⟨zipPV l k, some (m, .lst l), some (n, .lst k)⟩ (Itz S.K a b) := fun u' M' H' s' f hs => by
  obtain ⟨vs, h1, h2⟩ := s'.at_ m a _ (get_pre f.pre ha) hs.1
  obtain ⟨ws, h3, h4⟩ := s'.at_ n b _ (get_pre f.pre hb) hs.2
  refine ⟨fun i p e => ?_, vs, ws, .of h1, .of h3, ?_⟩
  · obtain ⟨p1, p2, e1, e2, rfl⟩ := zip_get e
    obtain ⟨v, g1, g2⟩ := h2.get e1
    obtain ⟨w, g3, g4⟩ := h4.get e2
    refine ⟨⟨vs, ws, v, w, .of h1, .of h3, g1, g3⟩, fun x H'' ⟨T, x1, y1, e3, e4, e5, e6, e7⟩ => ?_⟩
    have q1 := e6 vs (.of h1)
    have q2 := e7 ws (.of h3)
    rw [g1] at q1
    rw [g3] at q2
    cases q1
    cases q2
    subst e3 e5
    exact pair_new s' e4 g2 g4
  · show vs.length ≤ (zipPV l k).length ∨ ws.length ≤ (zipPV l k).length
    rw [zip_len, h2.length, h4.length]
    omega
theorem enum_get : ∀ {l : List PV} {j i : Nat} {p : PV}, (enumPV j l)[i]? = some p → ∃ a, l[i]? = some a ∧ p = .tup [.int ((j + i : Nat) : Int), a]
  | a :: l, j, 0, p, e => by
    have : some (PV.tup [.int (j : Int), a]) = some p := e
    cases this
    exact ⟨a, rfl, rfl⟩
  | a :: l, j, i + 1, p, e => by
    obtain ⟨x, h1, h3⟩ := enum_get (l := l) (j := j + 1) (i := i) (p := p) (by simpa [enumPV] using e)
    exact ⟨x, by simpa using h1, by rw [h3]; congr 4; omega⟩
  | [], _, _, _, e => by simp [enumPV] at e
theorem enum_len : ∀ (l : List PV) (j : Nat), (enumPV j l).length = l.length
  | [], _ => rfl
  | a :: l, j => by simp only [enumPV, List.length_cons, enum_len l (j + 1)]
theorem walk_enumL {l : List PV} {m : Nat} {a : Addr} (ha : u[m]? = some a) : WalkRep S u H ⟨enumPV 0 l, some (m, .lst l), none⟩ (Ite S.K a) := fun u' M' H' s' f hs => by
  obtain ⟨vs, h1, h2⟩ := s'.at_ m a _ (get_pre f.pre ha) hs.1
  refine ⟨fun i p e => ?_, vs, .of h1, by rw [enum_len, h2.length]; exact Nat.le_refl _⟩
  obtain ⟨p1, e1, rfl⟩ := enum_get e
  obtain ⟨v, g1, g2⟩ := h2.get e1
  refine ⟨⟨vs, v, .of h1, g1⟩, fun x H'' ⟨T, x1, e3, e4, e5, e6⟩ => ?_⟩
  have q1 := e6 vs (.of h1)
  rw [g1] at q1
  cases q1
  subst e3 e5
  rw [Nat.zero_add]
  exact pair_new s' e4 (a := .int (i : Int)) (x := .int (i : Int)) rfl g2
theorem Post.gets {α β : Type} {R : List Addr → Hp → α → β → Prop} {t : Res α} {Q Q1 : β → Hp → Prop} (h : Post S W σ R u H t Q1) (k : ∀ a M', t = .ok a M' → ∀ u' H' b, Sim S u' M' H' → Fr u H u' H' → R u' H' a b → Q1 b H' → Q b H') : Post S W σ R u H t Q := by
  cases t with
  | ok a M' => exact fun u' H' b s f q => k a M' rfl u' H' b s f q (h u' H' b s f q)
  | exc C fs M' => exact h
  | stuck => exact h
theorem i_val {tg e : Expr} {c : CE} (hK : X.K = S.K) (he : PE X e (LE S W (evE F c))) : PI X tg e (LI S W (evI F (.val c))) := by
  refine PI.imp (PI.or (pi_list he) (PI.or (pi_tup he) (pi_str he))) fun σ H R ⟨u, M, r, s, e, h⟩ => ?_
  unfold evI at h
  cases hc : evE F c r M with
  | stuck => rw [hc] at h; exact h.elim
  | exc C fs M' =>
    rw [hc] at h
    refine .inl ⟨u, M, r, s, e, ?_⟩
    rw [hc]
    exact h
  | ok p M1 =>
    rw [hc] at h
    have h : Post S W σ (WalkRep S) u H (oW (walkOf M1 p) M1) R := h
    cases hw : walkOf M1 p with
    | none => rw [hw] at h; exact h.elim
    | some w =>
      rw [hw] at h
      have h : ∀ u' H' J, Sim S u' M1 H' → Fr u H u' H' → WalkRep S u' H' w J → R J H' := h
      cases p with
      | tup l =>
        cases hw
        refine .inr (.inl ⟨u, M, r, s, e, ?_⟩)
        rw [hc]
        intro u' H' b s' f ⟨a, vs, e1, ha, ra⟩
        exact ⟨a, e1, ⟨vs, .of ha⟩, by rw [hK]; exact h u' H' _ s' f (walk_tup s' ha ra)⟩
      | ct l =>
        cases hw
        refine .inr (.inl ⟨u, M, r, s, e, ?_⟩)
        rw [hc]
        intro u' H' b s' f ⟨a, vs, e1, ha, ra⟩
        exact ⟨a, e1, ⟨vs, by rw [hK]; exact .inr ha⟩, by rw [hK]; exact h u' H' _ s' f (walk_ct s' ha ra)⟩
      | str x =>
        cases hw
        refine .inr (.inr ⟨u, M, r, s, e, ?_⟩)
        rw [hc]
        intro u' H' b s' f e1
        exact ⟨x, e1, h u' H' _ s' f walk_str⟩
      | ref n =>
        have hw' : (match M1[n]? with
          | some (.lst l) => some (⟨l, some (n, .lst l), none⟩ : Walk)
          | _ => none) = some w := hw
        refine .inl ⟨u, M, r, s, e, ?_⟩
        rw [hc]
        intro u' H' b s' f hr
        split at hw'
        · rename_i l hM
          cases hw'
          obtain ⟨a, vs, ha, rfl, h3, ra⟩ := s'.lst hM hr
          exact ⟨a, rfl, ⟨vs, .of h3⟩, by rw [hK]; exact h u' H' _ s' f (walk_lst ha)⟩
        · cases hw'
      | _ => cases hw
/-- a call's two arguments -/
theorem i_rng1 {tg b : Expr} {p pos : Pos} {c : CE} (hg : Gl X "range") (hm : X.mg "range" = none) (hs : notStar b = true) (hb : PE X b (LE S W (evE F c))) : PI X tg (.Call (.Name "range" p) [b] [] pos) (LI S W (evI F (.rng .none c))) := by
  refine PI.imp (pi_range1 hg hm (pa_cons hb pa_nil (star_cons hs _ _)) (star_cons hs _ _)) fun σ H R ⟨u, M, r, s, e, h⟩ => ?_
  unfold evI at h
  refine LX.then s e h fun q M1 u1 H1 x s1 f1 e1 r1 h1 => ?_
  cases q with
  | int j =>
    cases r1
    dsimp only at h1
    split at h1
    · rename_i hc
      refine ⟨j, rfl, hc.1, hc.2, ?_⟩
      have := Post.now h1 s1 walk_rng
      rw [Int.sub_zero] at this
      exact this
    · exact h1.elim
  | _ => exact h1.elim
theorem i_rng2 {tg a b : Expr} {p pos : Pos} {ca cb : CE} (hg : Gl X "range") (hm : X.mg "range" = none) (hs : notStar a = true) (hs2 : notStar b = true) (ha : PE X a (LE S W (evE F ca))) (hb : PE X b (LE S W (evE F cb))) : PI X tg (.Call (.Name "range" p) [a, b] [] pos) (LI S W (evI F (.rng (.some ca) cb))) := by
  refine PI.imp (pi_range2 hg hm (pa_cons ha (pa_cons hb pa_nil (star_cons hs2 _ _)) (star_cons hs _ _)) (by rw [star_cons hs, star_cons hs2]; rfl) (star_cons hs2 _ _)) fun σ H R ⟨u, M, r, s, e, h⟩ => ?_
  unfold evI at h
  refine LX.two s e h fun p q M1 u1 H1 x y s1 f1 e1 r1 r2 h1 => ?_
  split at h1
  · cases r1
    cases r2
    split at h1
    · rename_i hc
      exact ⟨_, _, rfl, hc, Post.now h1 s1 walk_rng⟩
    · exact h1.elim
  · exact h1.elim
theorem i_zip {elts : List Expr} {kk : Nat} {tpos : Pos} {a b : Expr} {p pos : Pos} {ca cb : CE} (hK : X.K = S.K) (hg : Gl X "zip") (hm : X.mg "zip" = none) (hs : notStar a = true) (hs2 : notStar b = true) (ha : PE X a (LE S W (evE F ca))) (hb : PE X b (LE S W (evE F cb))) : PI X (.Tuple elts kk tpos) (.Call (.Name "zip" p) [a, b] [] pos) (LI S W (evI F (.zip ca cb))) := by
  refine PI.imp (RZ.pi_zipA hg hm (pa_cons ha (pa_cons hb pa_nil (star_cons hs2 _ _)) (star_cons hs _ _)) (star_cons hs _ _) (stars_any (es := [b]) (by simp [hs2]))) fun σ H R ⟨u, M, r, s, e, h⟩ => ?_
  unfold evI at h
  refine LX.two s e h fun p q M1 u1 H1 x y s1 f1 e1 r1 r2 h1 => ?_
  obtain ⟨w, hw, h2⟩ := oW_post s1 h1
  unfold zipOf at hw
  rw [hK]
  split at hw
  · cases hw
    obtain ⟨a, vs, rfl, ha, ra⟩ := r1
    obtain ⟨b, ws, rfl, hb, rb⟩ := r2
    exact ⟨a, b, vs, ws, rfl, .inr ⟨.of ha, .of hb, h2 _ (walk_zipT s1 ha ra hb rb)⟩⟩
  · split at hw
    · rename_i l k hM1 hM2
      cases hw
      obtain ⟨a, vs, ha, rfl, h3, ra⟩ := s1.lst hM1 r1
      obtain ⟨b, ws, hb, rfl, h4, rb⟩ := s1.lst hM2 r2
      exact ⟨a, b, vs, ws, rfl, .inl ⟨.of h3, .of h4, h2 _ (walk_zipL ha hb)⟩⟩
    · cases hw
  · cases hw
theorem i_enum {elts : List Expr} {kk : Nat} {tpos : Pos} {a : Expr} {p pos : Pos} {ca : CE} (hK : X.K = S.K) (hg : Gl X "enumerate") (hm : X.mg "enumerate" = none) (hs : notStar a = true) (ha : PE X a (LE S W (evE F ca))) : PI X (.Tuple elts kk tpos) (.Call (.Name "enumerate" p) [a] [] pos) (LI S W (evI F (.enum ca))) := by
  refine PI.imp (pi_enum hg hm (pa_cons ha pa_nil (star_cons hs _ _)) (star_cons hs _ _)) fun σ H R ⟨u, M, r, s, e, h⟩ => ?_
  unfold evI at h
  refine LX.then s e h fun q M1 u1 H1 x s1 f1 e1 r1 h1 => ?_
  obtain ⟨w, hw, h2⟩ := oW_post s1 h1
  unfold enumOf at hw
  rw [hK]
  split at hw
  · split at hw
    · rename_i l hM1
      cases hw
      obtain ⟨a, vs, ha, rfl, h3, ra⟩ := s1.lst hM1 r1
      exact ⟨a, vs, rfl, .of h3, h2 _ (walk_enumL ha)⟩
    · cases hw
  · cases hw
end
end Pi
end
section
namespace Pi
open PySem PySem.Spec PyProof.Rows L2
section
variable {S : Sy} {W : WX} {σ : St} {u : List Addr} {H : Hp} {M : Mh} {r : Lv} {X : Cx} {F : Fs} {n : Nat}
theorem upd_eq {H : Hp} {D b : Addr} {o o' ob : HO} (hD : H D = some o) (h : H b = some ob) (ne : ob ≠ o) : upd H D o' b = some ob := by
  rw [upd_ne (fun e => by rw [e, hD] at h; cases h; exact ne rfl)]
  exact h
/-- no tuple, no own dict of an instance -/
def Side (ob : HO) : Prop := (∀ vs, ob ≠ .tup vs) ∧ (∀ x, ob ≠ .own x) ∧ ∀ o x, ob ≠ .frz o x
theorem side_lst {l : List V} : Side (.lst l) := ⟨fun _ e => (nomatch e), fun _ e => (nomatch e), fun _ _ e => (nomatch e)⟩
theorem side_dK {l : List (Key × V)} : Side (.dK l) := ⟨fun _ e => (nomatch e), fun _ e => (nomatch e), fun _ _ e => (nomatch e)⟩
theorem SR.side {D : Addr} {ob ob' : HO} (hD : H D = some ob) (hp : Side ob) {K : PySem.W.Frag} {a : Addr} {vs : List V} (h : SR K H a vs) : SR K (upd H D ob') a vs := h.elim (fun ⟨o, e⟩ => .inl ⟨o, upd_eq hD e (fun e => hp.2.2 _ _ e.symm)⟩) .inr
mutual
theorem Rep.side {D : Addr} {ob ob' : HO} (hD : H D = some ob) (hp : Side ob) : ∀ {p : PV} {v : V}, Rep S u H p v → Rep S u (upd H D ob') p v
  | .non, _, h => h
  | .bl _, _, h => h
  | .int _, _, h => h
  | .str _, _, h => h
  | .ref _, _, h => h
  | .fn _, _, h => h
  | .cls _, _, h => h
  | .ty _, _, h => h
  | .ct l, _, ⟨a, vs, e, q, r⟩ => ⟨a, vs, e, q, Reps.side hD hp r⟩
  | .tup l, _, ⟨a, vs, e, q, r⟩ => ⟨a, vs, e, upd_eq hD q (fun e => hp.1 _ e.symm), Reps.side hD hp r⟩
  | .scr l, _, ⟨a, vs, e, q, r⟩ => ⟨a, vs, e, q.side hD hp, Reps.side hD hp r⟩
theorem Reps.side {D : Addr} {ob ob' : HO} (hD : H D = some ob) (hp : Side ob) : ∀ {p : List PV} {v : List V}, Reps S u H p v → Reps S u (upd H D ob') p v
  | [], _, h => h
  | _ :: _, _, ⟨v, r, e, h, t⟩ => ⟨v, r, e, Rep.side hD hp h, Reps.side hD hp t⟩
end
theorem RepO.side {D : Addr} {ob ob' : HO} (hD : H D = some ob) (hp : Side ob) {a : Addr} (ne : a ≠ D) {o : MO} (h : RepO S u H a o) : RepO S u (upd H D ob') a o := by
  cases o with
  | lst l =>
    obtain ⟨vs, h1, h2⟩ := h
    exact ⟨vs, (upd_ne ne).trans h1, h2.side hD hp⟩
  | dct l =>
    rcases h with ⟨k, h1, n, h2⟩ | ⟨k, h1, n, h2⟩
    · exact .inl ⟨k, (upd_ne ne).trans h1, n, Paired.fr h2 fun _ _ z => ⟨z.1, z.2.side hD hp⟩⟩
    · exact .inr ⟨k, (upd_ne ne).trans h1, n, Paired.fr h2 fun _ _ z => ⟨z.1, z.2.side hD hp⟩⟩
  | ins C fs =>
    obtain ⟨dx, gs, h1, h3, h4, h2⟩ := h
    exact ⟨dx, gs, (upd_ne ne).trans h1, upd_eq hD h3 (fun e => hp.2.1 _ e.symm), h4, Paired.fr h2 fun _ _ z => ⟨z.1, z.2.side hD hp⟩⟩
theorem Sim.side {D : Addr} {ob ob' : HO} (s : Sim S u M H) (hD : H D = some ob) (hp : Side ob) (n : D ∉ u) : Sim S u M (upd H D ob') :=
  ⟨s.len, s.nd, fun k a o h1 h2 => (s.at_ k a o h1 h2).side hD hp fun e => n (by rw [← e]; exact List.mem_of_getElem? h1)⟩
mutual
theorem Rep.ext (D : List Addr) : ∀ {p : PV} {v : V}, Rep S u H p v → Rep S (u ++ D) H p v
  | .non, _, h => h
  | .bl _, _, h => h
  | .int _, _, h => h
  | .str _, _, h => h
  | .ref _, _, ⟨a, e, h⟩ => ⟨a, get_pre (List.prefix_append _ _) e, h⟩
  | .fn _, _, h => h
  | .cls _, _, h => h
  | .ty _, _, h => h
  | .ct l, _, ⟨a, vs, e, q, r⟩ => ⟨a, vs, e, q, Reps.ext D r⟩
  | .tup l, _, ⟨a, vs, e, q, r⟩ => ⟨a, vs, e, q, Reps.ext D r⟩
  | .scr l, _, ⟨a, vs, e, q, r⟩ => ⟨a, vs, e, q, Reps.ext D r⟩
theorem Reps.ext (D : List Addr) : ∀ {p : List PV} {v : List V}, Reps S u H p v → Reps S (u ++ D) H p v
  | [], _, h => h
  | _ :: _, _, ⟨v, r, e, h, t⟩ => ⟨v, r, e, Rep.ext D h, Reps.ext D t⟩
end
theorem RepO.ext (D : List Addr) {a : Addr} {o : MO} (h : RepO S u H a o) : RepO S (u ++ D) H a o := by
  cases o with
  | lst l =>
    obtain ⟨vs, h1, h2⟩ := h
    exact ⟨vs, h1, h2.ext D⟩
  | dct l =>
    rcases h with ⟨k, h1, n, h2⟩ | ⟨k, h1, n, h2⟩
    · exact .inl ⟨k, h1, n, Paired.fr h2 fun _ _ z => ⟨z.1, z.2.ext D⟩⟩
    · exact .inr ⟨k, h1, n, Paired.fr h2 fun _ _ z => ⟨z.1, z.2.ext D⟩⟩
  | ins C fs =>
    obtain ⟨dx, gs, h1, h3, h4, h2⟩ := h
    exact ⟨dx, gs, h1, h3, h4, Paired.fr h2 fun _ _ z => ⟨z.1, z.2.ext D⟩⟩
theorem Sim.adopt {D : Addr} {m : MO} (s : Sim S u M H) (n : D ∉ u) (r : RepO S (u ++ [D]) H D m) : Sim S (u ++ [D]) (M ++ [m]) H := by
  refine ⟨by simp [s.len], List.nodup_append.mpr ⟨s.nd, by simp, fun x hx y hy e => n (by
    have : y = D := by simpa using hy
    rw [← this, ← e]; exact hx)⟩, fun k b ob h1 h2 => ?_⟩
  by_cases hk : k < u.length
  · rw [List.getElem?_append_left hk] at h1
    rw [List.getElem?_append_left (by rw [← s.len]; exact hk)] at h2
    exact (s.at_ k b ob h1 h2).ext _
  · have e1 : k = u.length := by
      have := (List.getElem?_eq_some_iff.mp h1).1
      simp at this
      omega
    subst e1
    rw [List.getElem?_append_right (Nat.le_refl _)] at h1
    rw [s.len, List.getElem?_append_right (Nat.le_refl _)] at h2
    simp at h1 h2
    subst h1 h2
    exact r
theorem Fr.adopt {u' : List Addr} {H' : Hp} {D : Addr} (f : Fr u H u' H') (hD : H D = none) : Fr u H (u' ++ [D]) H' := ⟨f.pre.trans (List.prefix_append _ _), f.keep, fun a m => by
  rcases List.mem_append.mp m with m | m
  · exact f.new a m
  · right
    have : a = D := by simpa using m
    rw [this]; exact hD⟩
theorem ref_last {D : Addr} (s : Sim S u M H) : Rep S (u ++ [D]) H (.ref M.length) (.ref D) := ⟨D, by
  rw [← s.len, List.getElem?_append_right (Nat.le_refl _)]
  simp, rfl⟩
theorem wipe_get (σ : St) : ∀ (vs : List Nat) (j : Nat), (wipe σ vs)[j]? = if j ∈ vs then (if j < σ.length then some none else none) else σ[j]?
  | [], j => by simp [wipe]
  | v :: vs, j => by
    unfold wipe
    by_cases hj : v = j
    · subst hj
      rw [if_pos (by simp), List.getElem?_set]
      simp [wipe_length]
    · rw [List.getElem?_set_ne hj, wipe_get σ vs j]
      have hj' : ¬ j = v := fun h => hj h.symm
      by_cases q : j ∈ vs
      · rw [if_pos q, if_pos (List.mem_cons_of_mem _ q)]
      · rw [if_neg q, if_neg (by simp [hj', q])]
theorem wipe_set {σ : St} {vs : List Nat} {i : Nat} {v : Option V} (h : i ∈ vs) : wipe (σ.set i v) vs = wipe σ vs := by
  refine List.ext_getElem? fun j => ?_
  rw [wipe_get, wipe_get, List.length_set]
  by_cases hj : j ∈ vs
  · rw [if_pos hj, if_pos hj]
  · rw [if_neg hj, if_neg hj, List.getElem?_set_ne (fun e => hj (by rw [← e]; exact h))]
theorem wipe_wipe (σ : St) (vs : List Nat) : wipe (wipe σ vs) vs = wipe σ vs := by
  refine List.ext_getElem? fun j => ?_
  rw [wipe_get, wipe_get, wipe_length]
  by_cases hj : j ∈ vs
  · rw [if_pos hj, if_pos hj]
  · rw [if_neg hj]
def tgIn : Tg → List Nat → Bool
  | .one i, own => decide (i ∈ own)
  | .tup is, own => is.all fun i => decide (i ∈ own)
theorem wipe_many {own : List Nat} : ∀ {is : List Nat} {xs : List V} {σ σ' : St}, setManyV is xs σ = some σ' → (is.all fun i => decide (i ∈ own)) = true → wipe σ' own = wipe σ own
  | [], [], _, _, e, _ => by cases e; rfl
  | i :: is, p :: ps, σ, σ', e, h => by
    rw [List.all_cons, Bool.and_eq_true, decide_eq_true_eq] at h
    rw [wipe_many (is := is) (xs := ps) (σ := σ.set i (some p)) e h.2, wipe_set h.1]
  | [], _ :: _, _, _, e, _ => by cases e
  | _ :: _, [], _, _, e, _ => by cases e
theorem setT_in {tg : Tg} {own : List Nat} {p : PV} {v : V} {r r' : Lv} {σ : St} {Q : St → Hp → Prop} (hi : tgIn tg own = true) (h : setT tg p r = some r') (hr : Rep S u H p v) (k : REnv S u H σ r) (q : ∀ σ', REnv S u H σ' r' → wipe σ' own = wipe σ own → Q σ' H) : GTg S.K tg v σ H Q := by
  cases tg with
  | one i =>
    cases h
    exact q _ (k.set hr) (wipe_set (of_decide_eq_true hi))
  | tup is =>
    cases p with
    | tup ps =>
      obtain ⟨a, vs, rfl, ha, ra⟩ := hr
      obtain ⟨σ', h1, h2⟩ := REnv.many (show setMany is ps r = some r' from h) ra k
      exact ⟨a, vs, σ', rfl, .of ha, h1, q σ' h2 (wipe_many h1 hi)⟩
    | _ => cases h
abbrev W0 : WX := fun _ _ _ _ => False
theorem lc_step {f : PV → Mh → Res (Option PV)} {g : Mh → Prop} {x : PV} {xs : List PV} {k : List PV → Mh → Res PV} {Q : V → Hp → Prop} (h : Post S W σ (Rep S) u H ((noX (lcGo f g (x :: xs) M)).bind k) Q) :
    g M ∧ ∃ o M1, f x M = .ok o M1 ∧ Post S W σ (Rep S) u H ((noX (lcGo f g xs M1)).bind fun l M2 => k (match o with
      | some y => y :: l
      | none => l) M2) Q := by
  unfold lcGo at h
  by_cases hg : g M
  · rw [if_pos hg] at h
    refine ⟨hg, ?_⟩
    cases e : f x M with
    | stuck => rw [e] at h; exact h.elim
    | exc C fs M' => rw [e] at h; exact h.elim
    | ok o M1 =>
      rw [e] at h
      refine ⟨o, M1, rfl, ?_⟩
      rw [bind_ok] at h
      cases e2 : lcGo f g xs M1 with
      | stuck => rw [e2] at h; exact h.elim
      | exc C fs M' => rw [e2] at h; exact h.elim
      | ok l M2 => rw [e2] at h; exact h
  · rw [if_neg hg] at h
    exact h.elim
theorem lc_end {f : PV → Mh → Res (Option PV)} {g : Mh → Prop} {k : List PV → Mh → Res PV} {Q : V → Hp → Prop} (h : Post S W σ (Rep S) u H ((noX (lcGo f g [] M)).bind k) Q) : g M ∧ Post S W σ (Rep S) u H (k [] M) Q := by
  unfold lcGo at h
  by_cases hg : g M
  · rw [if_pos hg] at h
    exact ⟨hg, h⟩
  · rw [if_neg hg] at h
    exact h.elim
theorem lc_same {f : PV → Mh → Res (Option PV)} {g : Mh → Prop} {l : List PV} {k : List PV → Mh → Res PV} {Q : V → Hp → Prop} (h : Post S W σ (Rep S) u H ((noX (lcGo f g l M)).bind k) Q) : g M := by
  cases l with
  | nil => exact (lc_end h).1
  | cons x xs => exact (lc_step h).1
/-- the length so far -/
theorem lc_room {f : PV → Mh → Res (Option PV)} {g : Mh → Prop} : ∀ {l ps : List PV} {M : Mh} {Q : V → Hp → Prop}, Post S W σ (Rep S) u H ((noX (lcGo f g l M)).bind fun l M2 => if (ps ++ l).length ≤ sizeLine then newL (ps ++ l) M2 else .stuck) Q → ps.length ≤ sizeLine
  | [], ps, M, Q, h => by
    have h := (lc_end h).2
    split at h
    · rename_i hl; simpa using hl
    · exact h.elim
  | x :: xs, ps, M, Q, h => by
    obtain ⟨_, o, M1, e, h⟩ := lc_step h
    cases o with
    | none => exact lc_room (l := xs) h
    | some y =>
      have h : Post S W σ (Rep S) u H ((noX (lcGo f g xs M1)).bind fun l M2 => if (ps ++ y :: l).length ≤ sizeLine then newL (ps ++ y :: l) M2 else .stuck) Q := h
      have := lc_room (l := xs) (ps := ps ++ [y]) (by simpa using h)
      simp at this
      omega
theorem lc_ok {own : List Nat} {elt : CE} {tg : Tg} {it : CI} {tst : CT} {Q : V → Hp → Prop} (hi : tgIn tg own = true) (h : LE S W (evE F (.lc own elt tg it tst)) σ H Q) :
    tLc (LI S W (evI F it)) (GTg S.K tg) (LT' S W0 (evT F tst)) (LE S W0 (evE F elt)) own σ H Q := by
  obtain ⟨u, M, r, s, e, h⟩ := h
  unfold evE at h
  refine LX.then s e h fun w M1 u1 H1 J s1 f1 e1 wr h1 D hD => ?_
  generalize hf : (fun x M2 => match setT tg x (wipeL r own) with
      | none => Res.stuck
      | some r1 => (evT F tst r1 M2).bind fun t M3 => match t with
        | true => (evE F elt r1 M3).bind fun y M4 => .ok (some y) M4
        | false => .ok none M3) = f at h1
  have Du : D ∉ u1 := fun m => by
    obtain ⟨o, z⟩ := s1.there m
    rw [hD] at z; cases z
  have nw : ∀ {u' : List Addr} {H' : Hp}, Fr u1 H1 u' H' → ∀ {vs : List V}, True := fun _ _ => trivial
  refine ⟨fun i m H' => m = w.items.length - i ∧ i ≤ w.items.length ∧ ∃ u' M' ps vs, Sim S u' M' H' ∧ Fr u1 H1 u' H' ∧ H' D = some (.lst vs) ∧ D ∉ u' ∧ Reps S u' H' ps vs ∧
    Post S W σ (Rep S) u1 H1 ((noX (lcGo f w.same (w.items.drop i) M')).bind fun l M2 => if (ps ++ l).length ≤ sizeLine then newL (ps ++ l) M2 else .stuck) Q, ⟨w.items.length, by simp, Nat.zero_le _, ?_⟩, ?_⟩
  · obtain ⟨s2, f2⟩ := s1.alloc (o := .lst []) hD
    exact ⟨u1, M1, [], [], s2, f2, upd_same, Du, rfl, by rw [List.drop_zero]; exact h1⟩
  · rintro i m H' ⟨rfl, hil, u', M', ps, vs, s', f', hDv, Du', rps, T⟩
    obtain ⟨wgo, wstop⟩ := wr u' M' H' s' f' (lc_same T)
    by_cases hlt : i < w.items.length
    · refine .inr ⟨(wgo i _ (List.getElem?_eq_getElem hlt)).1, fun H2 => ∃ u' M' ps vs, Sim S u' M' H2 ∧ Fr u1 H1 u' H2 ∧ H2 D = some (.lst vs) ∧ D ∉ u' ∧ Reps S u' H2 ps vs ∧
        Post S W σ (Rep S) u1 H1 ((noX (lcGo f w.same (w.items.drop (i + 1)) M')).bind fun l M2 => if (ps ++ l).length ≤ sizeLine then newL (ps ++ l) M2 else .stuck) Q, fun H2 nx => ⟨w.items.length - (i + 1), by omega, rfl, hlt, nx⟩, fun x H2 hy => ?_⟩
      obtain ⟨s2, f2, r2⟩ := (wgo i _ (List.getElem?_eq_getElem hlt)).2 x H2 hy
      rw [List.drop_eq_getElem_cons hlt] at T
      obtain ⟨_, o, M2, e2, T2⟩ := lc_step T
      have hD2 : H2 D = some (.lst vs) := f2.keep _ _ hDv Du'
      have f12 := f'.trans f2
      have e3 := (e1.fr s1 f12).wipe own
      rw [← hf] at e2
      dsimp only at e2
      cases hs : setT tg w.items[i] (wipeL r own) with
      | none => rw [hs] at e2; cases e2
      | some r1 =>
        rw [hs] at e2
        dsimp only at e2
        refine setT_in hi hs r2 e3 fun σ2 e4 hw => ⟨by rw [hw, wipe_wipe], ?_⟩
        refine ⟨u', M', r1, s2, e4, ?_⟩
        cases e5 : evT F tst r1 M' with
        | stuck => rw [e5] at e2; cases e2
        | exc C fs M5 => rw [e5] at e2; cases e2
        | ok t M3 =>
          rw [e5, bind_ok] at e2
          intro u3 H3 b s3 f3 hb
          have hb' : b = t := hb
          subst hb'
          have hD3 : H3 D = some (.lst vs) := f3.keep _ _ hD2 Du'
          have Du3 : D ∉ u3 := fun m => by
            rcases f3.new D m with z | z
            · exact Du' z
            · rw [hD2] at z; cases z
          have f123 := f12.trans f3
          cases b with
          | false =>
            rw [if_neg Bool.false_ne_true]
            cases e2
            exact ⟨u3, _, ps, vs, s3, f123, hD3, Du3, (rps.fr s' f2).fr s2 f3, T2⟩
          | true =>
            rw [if_pos rfl]
            refine ⟨u3, M3, r1, s3, e4.fr s2 f3, ?_⟩
            cases e6 : evE F elt r1 M3 with
            | stuck => rw [e6] at e2; cases e2
            | exc C fs M5 => rw [e6] at e2; cases e2
            | ok y M4 =>
              rw [e6, bind_ok] at e2
              cases e2
              intro u4 H4 z s4 f4 hz
              have hD4 : H4 D = some (.lst vs) := f4.keep _ _ hD3 Du3
              have Du4 : D ∉ u4 := fun m => by
                rcases f4.new D m with z | z
                · exact Du3 z
                · rw [hD3] at z; cases z
              have f1234 := f123.trans f4
              have T3 : Post S W σ (Rep S) u1 H1 ((noX (lcGo f w.same (w.items.drop (i + 1)) M2)).bind fun l M2 => if ((ps ++ [y]) ++ l).length ≤ sizeLine then newL ((ps ++ [y]) ++ l) M2 else .stuck) Q := by
                have T2 : Post S W σ (Rep S) u1 H1 ((noX (lcGo f w.same (w.items.drop (i + 1)) M2)).bind fun l M2 => if (ps ++ y :: l).length ≤ sizeLine then newL (ps ++ y :: l) M2 else .stuck) Q := T2
                simpa using T2
              have rps4 := ((rps.fr s' f2).fr s2 f3).fr s3 f4
              have hlen := lc_room T3
              refine ⟨vs, hD4, ?_, u4, M2, ps ++ [y], vs ++ [z], s4.side hD4 side_lst Du4, ⟨f1234.pre, fun a ob ha hn => ?_, f1234.new⟩, upd_same, Du4, (rps4.append (Reps.one hz)).side hD4 side_lst, T3⟩
              · rw [rps4.length]
                rw [List.length_append, List.length_singleton] at hlen
                exact hlen
              · rw [upd_ne (ne_of_none ha hD)]
                exact f1234.keep a ob ha hn
    · have he : i = w.items.length := by omega
      subst he
      rw [List.drop_length] at T
      obtain ⟨_, T2⟩ := lc_end T
      refine .inl ⟨wstop, ?_⟩
      rw [List.append_nil] at T2
      split at T2
      · exact T2 (u' ++ [D]) H' _ (s'.adopt Du' ⟨vs, hDv, rps.ext _⟩) (f'.adopt hD) ⟨D, by
          rw [← s'.len, List.getElem?_append_right (Nat.le_refl _)]
          simp, rfl⟩
      · exact T2.elim
end
end Pi
end
section
namespace Pi
open PySem PySem.Spec PyProof.Rows L2
theorem PE.stuck {X : Cx} {e : Expr} {t : TE} (h : ∀ σ H Q, ¬ t σ H Q) : PE X e t := ⟨fun _ _ _ _ _ _ q => (h _ _ _ q).elim⟩
theorem PS.stuck {X : Cx} {e : Stmt} {t : TS} (h : ∀ D σ H, ¬ t D σ H) : PS X e t := ⟨fun _ _ _ _ _ _ q => (h _ _ _ q).elim⟩
theorem PI.stuck {X : Cx} {tg e : Expr} {t : TI} (h : ∀ σ H R, ¬ t σ H R) : PI X tg e t := ⟨fun _ _ _ _ _ _ q => (h _ _ _ q).elim⟩
section
variable {S : Sy} {W : WX} {σ : St} {u : List Addr} {H : Hp} {M : Mh} {r : Lv} {X : Cx} {F : Fs} {n : Nat}
theorem e_stuck {e : Expr} : PE X e (LE S W (evE F .stuck)) := PE.stuck fun σ H Q ⟨u, M, r, s, e, h⟩ => by
  unfold evE at h
  exact h
def kcV : PV → V
  | .int i => .int i
  | .str x => .str x
  | _ => .non
def kcK : PV → Key
  | .int i => .inl i
  | .str x => .inr x
  | _ => .inl 0
theorem kc_V {p : PV} (h : isKC p = true) : kcV p = kV (kcK p) := by
  cases p <;> first | rfl | cases h
theorem kc_P {p : PV} (h : isKC p = true) : p = kPV (kcK p) := by
  cases p <;> first | rfl | cases h
noncomputable def trsOf (S : Sy) (W : WX) (F : Fs) : List PV → CEs → List (TE × TE)
  | k :: ks, .cons e es => (tC (kcV k), LE S W (evE F e)) :: trsOf S W F ks es
  | _, _ => []
/-- keys as written -/
def keyEx : Option Expr → Option PV
  | some (.Constant (.str x) _ _) => some (.str x)
  | some (.Constant (.int i) _ _) => some (.int i)
  | _ => none
theorem keyEx_ok {k : Option Expr} {p : PV} (h : keyEx k = some p) : ∃ e, k = some e ∧ isKC p = true ∧ ∀ X : Cx, PE X e (tC (kcV p)) := by
  unfold keyEx at h
  split at h
  · cases h; exact ⟨_, rfl, rfl, fun X => pe_str⟩
  · cases h; exact ⟨_, rfl, rfl, fun X => pe_int⟩
  · cases h
theorem Post.bindK {α β γ δ : Type} {R : List Addr → Hp → α → β → Prop} {R2 : List Addr → Hp → γ → δ → Prop} {t : Res α} {k : α → Mh → Res γ} {Q : δ → Hp → Prop} {Q1 : β → Hp → Prop} {u0 : List Addr} {H0 : Hp} (f : Fr u H u0 H0) (h : Post S W σ R2 u H (t.bind k) Q)
    (hk : ∀ p M1 u1 H1 v, Sim S u1 M1 H1 → Fr u0 H0 u1 H1 → R u1 H1 p v → Post S W σ R2 u H (k p M1) Q → Q1 v H1) : Post S W σ R u0 H0 t Q1 := by
  cases t with
  | ok a M' => exact fun u' H' b s g q => hk a M' u' H' b s g q h
  | exc C fs M' => exact Post.after (r := Res.exc C fs M') f h
  | stuck => exact h
def CEs.len : CEs → Nat
  | .nil => 0
  | .cons _ es => es.len + 1
theorem pairs_of : ∀ {ks : List PV} {es : CEs} {u : List Addr} {M : Mh} {H : Hp} {Q : List (V × V) → Hp → Prop} {Q1 : List V → Hp → Prop}, es.len = ks.length → Sim S u M H → REnv S u H σ r →
    Post S W σ (Reps S) u H (evL F es r M) Q1 → (∀ l H', Q1 l H' → Q ((ks.map kcV).zip l) H') → tPairs (trsOf S W F ks es) σ H Q
  | k :: ks, .cons e es, u, M, H, Q, Q1, hl, s, e1, h, hq => by
    unfold evL at h
    refine LX.then s e1 h fun p M1 u1 H1 x s1 f1 e2 r1 h1 => ?_
    refine pairs_of (ks := ks) (es := es) (u := u1) (M := M1) (Q1 := fun l H' => Q1 (x :: l) H') (Nat.succ.inj hl) s1 e2 (Post.bind h1 fun l M2 _ u2 H2 v s2 f2 r2 h2 => Post.now h2 s2 ⟨x, v, rfl, r1.fr s1 f2, r2⟩) fun l H' q => hq (x :: l) H' q
  | [], .nil, u, M, H, Q, Q1, hl, s, e1, h, hq => by
    unfold evL at h
    exact hq [] H (Post.now h s rfl)
  | [], .cons e es, u, M, H, Q, Q1, hl, s, e1, h, hq => by cases hl
  | _ :: _, .nil, u, M, H, Q, Q1, hl, s, e1, h, hq => by cases hl
theorem merge_nodup : ∀ (more acc : List (Key × V)), ((acc ++ more).map (·.1)).Nodup → mergeK acc more = acc ++ more
  | [], acc, _ => by simp [mergeK]
  | p :: more, acc, h => by
    have hn : valV acc p.1 = none := by
      have : p.1 ∉ acc.map (·.1) := by
        intro hm
        rw [List.map_append, List.nodup_append] at h
        exact h.2.2 p.1 hm p.1 (by simp) rfl
      cases hv : valV acc p.1 with
      | none => rfl
      | some v =>
        exfalso
        apply this
        have := valV_any p.1 acc
        rw [hv] at this
        obtain ⟨q, q1, q2⟩ := List.any_eq_true.mp this
        exact List.mem_map.mpr ⟨q, q1, of_decide_eq_true q2⟩
    show mergeK (putK acc p.1 p.2) more = _
    rw [putK_new _ hn, merge_nodup more (acc ++ [(p.1, p.2)]) (by simpa using h)]
    simp
theorem kc_zip : ∀ {ks : List PV} {l : List V}, (ks.all isKC) = true → (ks.map kcV).zip l = ((ks.map kcK).zip l).map fun kv => (kV kv.1, kv.2)
  | [], _, _ => rfl
  | k :: ks, [], _ => rfl
  | k :: ks, v :: l, h => by
    rw [List.all_cons, Bool.and_eq_true] at h
    simp only [List.map_cons, List.zip_cons_cons]
    rw [kc_zip h.2, kc_V h.1]
theorem kc_inj {a b : PV} (ha : isKC a = true) (hb : isKC b = true) (h : kcK a = kcK b) : a = b := by
  rw [kc_P ha, kc_P hb, h]
theorem kc_nodup : ∀ {ks : List PV}, (ks.all isKC) = true → ks.Nodup → (ks.map kcK).Nodup
  | [], _, _ => List.nodup_nil
  | k :: ks, h, hn => by
    rw [List.all_cons, Bool.and_eq_true] at h
    obtain ⟨n1, n2⟩ := List.nodup_cons.mp hn
    refine List.nodup_cons.mpr ⟨fun hm => ?_, kc_nodup h.2 n2⟩
    obtain ⟨q, q1, q2⟩ := List.mem_map.mp hm
    have := kc_inj (List.all_eq_true.mp h.2 q q1) h.1 q2
    subst this
    exact n1 q1
theorem kc_paired : ∀ {ks : List PV} {l : List PV} {vs : List V}, (ks.all isKC) = true → Reps S u H l vs → Paired (fun (p : PV × PV) (q : Key × V) => p.1 = kPV q.1 ∧ Rep S u H p.2 q.2) (ks.zip l) ((ks.map kcK).zip vs)
  | [], _, _, _, _ => by simpa using Paired.nil
  | k :: ks, [], _, _, h => by
    have : _ = [] := h
    subst this
    exact Paired.nil
  | k :: ks, p :: l, _, h, ⟨v, r, e, h1, t⟩ => by
    rw [List.all_cons, Bool.and_eq_true] at h
    subst e
    exact .cons ⟨kc_P h.1, h1⟩ (kc_paired h.2 t)
theorem kc_keys : ∀ {ks : List PV} {vs : List V}, vs.length = ks.length → (((ks.map kcK).zip vs).map (·.1)) = ks.map kcK
  | [], _, _ => rfl
  | k :: ks, v :: vs, h => by
    simp only [List.map_cons, List.zip_cons_cons]
    rw [kc_keys (Nat.succ.inj h)]
  | k :: ks, [], h => by cases h
theorem e_dct0 {pos : Pos} : PE X (.Dict [] [] pos) (LE S W (evE F (.dct [] .nil))) := by
  refine PE.imp pe_dnewK fun σ H Q ⟨u, M, r, s, e, h⟩ p hp => ?_
  unfold evE evL at h
  have h : Post S W σ (Rep S) u H (.ok (.ref M.length) (M ++ [.dct []])) Q := h
  obtain ⟨s1, f1⟩ := s.new (m := .dct []) (o := .dK []) hp fun f => .inl ⟨[], upd_same, List.nodup_nil, .nil⟩
  refine h _ _ _ s1 f1 ⟨p, ?_, rfl⟩
  rw [← s.len, List.getElem?_append_right (Nat.le_refl _)]
  simp
theorem e_dct {keys : List (Option Expr)} {values : List Expr} {pos : Pos} {ks : List PV} {es : CEs} (hp : PPs X pos keys values (trsOf S W F ks es)) (hlen : es.len = ks.length) (hall : keys.all (·.isSome) = true) (hl : keys.length = values.length) (h0 : keys ≠ []) (h15 : keys.length ≤ 15) :
    PE X (.Dict keys values pos) (LE S W (evE F (.dct ks es))) := by
  refine PE.imp (pe_disp hp hall hl h0 h15) fun σ H Q ⟨u, M, r, s, e, h⟩ p hp => ?_
  unfold evE at h
  obtain ⟨s1, f1⟩ := s.alloc (o := .dK []) hp
  have pu : p ∉ u := fun m => by
    obtain ⟨o, z⟩ := s.there m
    rw [hp] at z; cases z
  refine pairs_of hlen s1 (e.fr s f1) (Q1 := fun l H2 => l.length = ks.length ∧ H2 p = some (.dK []) ∧ ks.length ≤ 15 ∧ (ks.all isKC) = true ∧ Q (.ref p) (upd H2 p (.dK (mergeK [] ((ks.map kcK).zip l))))) ?_ fun l H2 ⟨q1, q2, q3, q4, q5⟩ => ⟨q2, (ks.map kcK).zip l, kc_zip q4, by simp [q1, q3], q5⟩
  refine Post.bindK f1 h fun l M1 u1 H1 vs s2 f2 r2 h2 => ?_
  split at h2
  · rename_i hc
    obtain ⟨c1, c2, c3, c4⟩ := hc
    have hD1 : H1 p = some (.dK []) := f2.keep _ _ upd_same pu
    have pu1 : p ∉ u1 := fun m => by
      rcases f2.new p m with z | z
      · exact pu z
      · rw [upd_same] at z; cases z
    have hvl : vs.length = ks.length := by rw [r2.length, c1]
    have hmk : mergeK [] ((ks.map kcK).zip vs) = (ks.map kcK).zip vs := by
      rw [merge_nodup]
      · rfl
      · rw [List.nil_append, kc_keys hvl]
        exact kc_nodup c4 c3
    refine ⟨hvl, hD1, c2, c4, ?_⟩
    rw [hmk]
    have s3 : Sim S u1 M1 (upd H1 p (.dK ((ks.map kcK).zip vs))) := s2.side hD1 side_dK pu1
    have r3 : Reps S u1 (upd H1 p (.dK ((ks.map kcK).zip vs))) l vs := r2.side hD1 side_dK
    refine (h2 : ∀ u' H' b, Sim S u' (M1 ++ [.dct (ks.zip l)]) H' → Fr u H u' H' → Rep S u' H' (.ref M1.length) b → Q b H') (u1 ++ [p]) _ (.ref p) (s3.adopt pu1 (.inl ⟨_, upd_same, by rw [kc_keys hvl]; exact kc_nodup c4 c3, kc_paired c4 (r3.ext _)⟩)) ?_ (ref_last s3)
    have f12 := f1.trans f2
    refine Fr.adopt ⟨f12.pre, fun a ob ha hn => ?_, f12.new⟩ hp
    rw [upd_ne (ne_of_none ha hp)]
    exact f12.keep a ob ha hn
  · exact h2.elim
end
end Pi
end
section
namespace Pi
open PySem PySem.Spec PyProof.Rows L2
def PostS (S : Sy) (W : WX) (D : Ends) (u : List Addr) (H : Hp) (t : Rs) : Prop := match t with
  | .nx r M => ∀ u' H' σ', Sim S u' M H' → Fr u H u' H' → REnv S u' H' σ' r → D.nx σ' H'
  | .rt p M => ∀ u' H' v, Sim S u' M H' → Fr u H u' H' → Rep S u' H' p v → D.rt v H'
  | .ex C fs r M => ∀ u' H' σ' d, Sim S u' M H' → Fr u H u' H' → REnv S u' H' σ' r → ExcRep S u' H' fs d → W (.ref (S.gA C)) d σ' H'
  | .stuck => False
def LS (S : Sy) (W : WX) (m : Lv → Mh → Rs) : TS := fun D σ H => ∃ u M r, Sim S u M H ∧ REnv S u H σ r ∧ PostS S W D u H (m r M)
section
variable {S : Sy} {W : WX} {σ : St} {u u1 : List Addr} {H H1 : Hp} {M : Mh} {r : Lv} {X : Cx} {F : Fs} {n : Nat} {D : Ends}
theorem PostS.after {t : Rs} (f : Fr u H u1 H1) (h : PostS S W D u H t) : PostS S W D u1 H1 t := by
  cases t with
  | nx r M' => exact fun u' H' b s g k => h u' H' b s (f.trans g) k
  | rt p M' => exact fun u' H' b s g k => h u' H' b s (f.trans g) k
  | ex C fs r M' => exact fun u' H' σ' d s g k => h u' H' σ' d s (f.trans g) k
  | stuck => exact h
/-- an expression, then the rest -/
theorem LS.then {α β : Type} {R : List Addr → Hp → α → β → Prop} {ma : Lv → Mh → Res α} {k : α → Mh → Rs} {Q1 : β → Hp → Prop}
    (s : Sim S u M H) (e : REnv S u H σ r) (h : PostS S W D u H ((ma r M).sb r k))
    (hk : ∀ p M1 u1 H1 v, Sim S u1 M1 H1 → Fr u H u1 H1 → REnv S u1 H1 σ r → R u1 H1 p v → PostS S W D u1 H1 (k p M1) → Q1 v H1) : LX S W R ma σ H Q1 := by
  refine ⟨u, M, r, s, e, ?_⟩
  cases hm : ma r M with
  | ok a M' =>
    rw [hm] at h
    exact fun u' H' b s' g q => hk a M' u' H' b s' g (e.fr s g) q (PostS.after g h)
  | exc C fs M' =>
    rw [hm] at h
    exact fun u' H' d s' g q => h u' H' σ d s' g (e.fr s g) q
  | stuck =>
    rw [hm] at h
    exact h
theorem PostS.nxt {r1 : Lv} (h : PostS S W D u H (.nx r1 M)) (s : Sim S u M H) (e : REnv S u H σ r1) : D.nx σ H := h u H σ s Fr.refl e
theorem s_stuck {st : Stmt} : PS X st (LS S W (evS n F .stuck)) := PS.stuck fun D σ H ⟨u, M, r, s, e, h⟩ => by
  unfold evS at h
  exact h
theorem ss_nil : PSs X [] (LS S W (evSs n F .nil)) := by
  refine PSs.imp pss_nil fun D σ H ⟨u, M, r, s, e, h⟩ => ?_
  unfold evSs at h
  exact h.nxt s e
theorem seq_ok {t : Rs} {k : Lv → Mh → Rs} {m2 : Lv → Mh → Rs} (hm : ∀ r M, k r M = m2 r M) (h : PostS S W D u H (t.sb k)) : PostS S W { D with nx := LS S W m2 D } u H t := by
  cases t with
  | nx r M' => exact fun u' H' σ' s f e => ⟨u', M', r, s, e, by rw [← hm]; exact PostS.after f h⟩
  | rt p M' => exact h
  | ex C fs r M' => exact h
  | stuck => exact h
theorem ss_cons {st : Stmt} {rest : List Stmt} {c : CS} {cs : CSs} (h1 : PS X st (LS S W (evS n F c))) (h2 : PSs X rest (LS S W (evSs n F cs))) : PSs X (st :: rest) (LS S W (evSs n F (.cons c cs))) := by
  refine PSs.imp (pss_cons h1 h2) fun D σ H ⟨u, M, r, s, e, h⟩ => ?_
  unfold evSs at h
  exact ⟨u, M, r, s, e, seq_ok (fun _ _ => rfl) h⟩
theorem s_pass {pos : Pos} : PS X (.Pass pos) (LS S W (evS n F .pass)) := by
  refine PS.imp ps_pass fun D σ H ⟨u, M, r, s, e, h⟩ => ?_
  unfold evS at h
  exact h.nxt s e
theorem s_doc {x j pos pos'} : PS X (.Expr (.Constant (.str x) j pos) pos') (LS S W (evS n F .pass)) := by
  refine PS.imp ps_doc fun D σ H ⟨u, M, r, s, e, h⟩ => ?_
  unfold evS at h
  exact h.nxt s e
theorem s_ret {e : Expr} {c : CE} {pos : Pos} (he : PE X e (LE S W (evE F c))) : PS X (.Return (some e) pos) (LS S W (evS n F (.ret c))) := by
  refine PS.imp (ps_ret he) fun D σ H ⟨u, M, r, s, e, h⟩ => ?_
  unfold evS at h
  exact LS.then s e h fun p M1 u1 H1 v s1 f1 e1 r1 h1 => h1 u1 H1 v s1 Fr.refl r1
theorem s_retn {pos : Pos} : PS X (.Return none pos) (LS S W (evS n F .retn)) := by
  refine PS.imp ps_retN fun D σ H ⟨u, M, r, s, e, h⟩ => ?_
  unfold evS at h
  exact h u H _ s Fr.refl rfl
theorem s_expr {e : Expr} {c : CE} {pos : Pos} (he : PE X e (LE S W (evE F c))) (hs : swapsWith e none pos.line X.env = pure false) : PS X (.Expr e pos) (LS S W (evS n F (.expr c))) := by
  refine PS.imp (ps_expr he hs) fun D σ H ⟨u, M, r, s, e, h⟩ => ?_
  unfold evS at h
  exact LS.then s e h fun p M1 u1 H1 v s1 f1 e1 r1 h1 => h1.nxt s1 e1
theorem s_if {c : Expr} {a b : List Stmt} {cc : CT} {ca cb : CSs} {pos : Pos} (hc : PT X c (LT' S W (evT F cc))) (ha : PSs X a (LS S W (evSs n F ca))) (hb : PSs X b (LS S W (evSs n F cb))) : PS X (.If c a b pos) (LS S W (evS n F (.iff cc ca cb))) := by
  refine PS.imp (ps_if hc ha hb) fun D σ H ⟨u, M, r, s, e, h⟩ => ?_
  unfold evS at h
  refine LS.then s e h fun p M1 u1 H1 v s1 f1 e1 r1 h1 => ?_
  cases r1
  cases p with
  | true =>
    rw [if_pos rfl]
    exact ⟨u1, M1, r, s1, e1, h1⟩
  | false =>
    rw [if_neg Bool.false_ne_true]
    exact ⟨u1, M1, r, s1, e1, h1⟩
theorem asg_imp {c : CE} {i : Nat} {D : Ends} (h : LS S W (evS n F (.asg i c)) D σ H) : tAsg (LE S W (evE F c)) (gName i) D σ H := by
  obtain ⟨u, M, r, s, e, h⟩ := h
  unfold evS at h
  exact LS.then s e h fun p M1 u1 H1 v s1 f1 e1 r1 h1 => h1.nxt s1 (e1.set r1)
theorem s_asg {x : Str} {i : Nat} {e : Expr} {c : CE} {pos pos' : Pos} (hN : X.N.Nodup) (hi : X.N[i]? = some x) (hx : L2.Loc X.env.scope x) (he : PE X e (LE S W (evE F c))) (hs : swapsWith e (some (.Name x pos')) pos.line X.env = pure false) (hf : X.fn x = true ∨ X.env.scope.names.lookup x = some .local) :
    PS X (.Assign [.Name x pos'] e pos) (LS S W (evS n F (.asg i c))) := PS.imp (ps_set hN hi hx he hs hf) fun D σ H h => asg_imp h
theorem s_asgt {es : List Expr} {kk : Nat} {is : List Nat} {e : Expr} {c : CE} {pos tpos : Pos} (hK : X.K = S.K) (hg : PG X (.Tuple es kk tpos) (GTg X.K (.tup is))) (he : PE X e (LE S W (evE F c))) (hs : swapsWithSole [.Tuple es kk tpos] e pos.line X.env = pure false) (hw : swappedStores [.Tuple es kk tpos] e X.env = pure none) :
    PS X (.Assign [.Tuple es kk tpos] e pos) (LS S W (evS n F (.asgt is c))) := by
  refine PS.imp (ps_asg he hg hs hw) fun D σ H ⟨u, M, r, s, e, h⟩ => ?_
  unfold evS at h
  rw [hK]
  refine LS.then s e h fun p M1 u1 H1 v s1 f1 e1 r1 h1 => ?_
  cases p with
  | tup ps =>
    dsimp only at h1
    split at h1
    · rename_i r2 hr2
      exact setT_ok (tg := .tup is) (p := .tup ps) hr2 r1 e1 fun σ' e2 => h1.nxt s1 e2
    · exact h1.elim
  | _ => exact h1.elim
theorem PSet.or {t t' : TSet} (h : PSet X t) (h' : PSet X t') : PSet X (fun o i v H Q => t o i v H Q ∨ t' o i v H Q) := fun pins s σ H o i v ov iv u Q I ro ri rv q => q.elim (h pins s σ H o i v ov iv u Q I ro ri rv) (h' pins s σ H o i v ov iv u Q I ro ri rv)
/-- a dict's item is set, an empty one of either kind -/
def rSetDD : TSet := fun o i v H Q => ∃ a H1 H', o = .ref a ∧ (H1 = H ∨ (H a = some (.dK []) ∧ H1 = upd H a (.dT [])) ∨ (H a = some (.dT []) ∧ H1 = upd H a (.dK []))) ∧ DPut H1 a i v H' ∧ Q H'
theorem set_dictD (hu : X.A.units + 1 < cLine) : PSet X rSetDD := by
  intro pins s σ H o i v ov iv u Q I ro ri rv h
  obtain ⟨a, H1, H', eo, hc, g, q⟩ := h
  exact set_dict hu pins s σ H1 o i v ov iv u Q (inv_as I hc) ro ri rv ⟨a, H', eo, g, q⟩
theorem dPut_K {d : List (PV × PV)} {kvs : List (Key × V)} {k : Key} {p : PV} {v : V} (hv : Rep S u H p v) (r : Paired (fun p q => p.1 = kPV q.1 ∧ Rep S u H p.2 q.2) d kvs) :
    Paired (fun p q => p.1 = kPV q.1 ∧ Rep S u H p.2 q.2) (dPut d (kPV k) p) (putK kvs k v) := by
  have ha : (d.any fun e => decide (e.1 = kPV k)) = (kvs.any fun e => decide (e.1 = k)) := by
    clear hv
    induction r with
    | nil => rfl
    | @cons a b l m h t ih =>
      rw [List.any_cons, List.any_cons, ih, h.1]
      congr 1
      exact decide_eq_decide.mpr ⟨fun e => kPV_inj e, fun e => by rw [e]⟩
  unfold dPut putK
  rw [ha]
  split
  · clear ha
    rename_i hh
    clear hh
    induction r with
    | nil => exact .nil
    | @cons a b l m h t ih =>
      rw [List.map_cons, List.map_cons]
      refine .cons ?_ ih
      by_cases e : b.1 = k
      · rw [if_pos (by rw [h.1, e]), if_pos e]
        exact ⟨h.1, hv⟩
      · rw [if_neg (by rw [h.1]; exact fun z => e (kPV_inj z)), if_neg e]
        exact h
  · clear ha
    rename_i hh
    clear hh
    induction r with
    | nil => exact .cons ⟨rfl, hv⟩ .nil
    | @cons a b l m h t ih => exact .cons h ih
theorem dPut_T {d : List (PV × PV)} {kvs : List (List Key × V)} {k : List Key} {p : PV} {v : V} (hv : Rep S u H p v) (r : Paired (fun p q => p.1 = PV.tup (q.1.map kPV) ∧ Rep S u H p.2 q.2) d kvs) :
    Paired (fun p q => p.1 = PV.tup (q.1.map kPV) ∧ Rep S u H p.2 q.2) (dPut d (.tup (k.map kPV)) p) (putK kvs k v) := by
  have inj : ∀ a b : List Key, PV.tup (a.map kPV) = PV.tup (b.map kPV) → a = b := fun a b e => kPVs_inj (PV.tup.inj e)
  have ha : (d.any fun e => decide (e.1 = PV.tup (k.map kPV))) = (kvs.any fun e => decide (e.1 = k)) := by
    clear hv
    induction r with
    | nil => rfl
    | @cons a b l m h t ih =>
      rw [List.any_cons, List.any_cons, ih, h.1]
      congr 1
      exact decide_eq_decide.mpr ⟨fun e => inj _ _ e, fun e => by rw [e]⟩
  unfold dPut putK
  rw [ha]
  split
  · clear ha
    rename_i hh
    clear hh
    induction r with
    | nil => exact .nil
    | @cons a b l m h t ih =>
      rw [List.map_cons, List.map_cons]
      refine .cons ?_ ih
      by_cases e : b.1 = k
      · rw [if_pos (by rw [h.1, e]), if_pos e]
        exact ⟨h.1, hv⟩
      · rw [if_neg (by rw [h.1]; exact fun z => e (inj _ _ z)), if_neg e]
        exact h
  · clear ha
    rename_i hh
    clear hh
    induction r with
    | nil => exact .cons ⟨rfl, hv⟩ .nil
    | @cons a b l m h t ih => exact .cons h ih
theorem nd_put {κ : Type} [DecidableEq κ] {kvs : List (κ × V)} {k : κ} (v : V) (hn : (kvs.map (·.1)).Nodup) : ((putK kvs k v).map (·.1)).Nodup := by
  cases hv : valV kvs k with
  | none => exact nd_putK v hn hv
  | some w =>
    unfold putK
    rw [valV_any, hv, if_pos (show (some w).isSome = true from rfl)]
    have e : (kvs.map fun kv => if kv.1 = k then (kv.1, v) else kv).map (·.1) = kvs.map (·.1) := by
      rw [List.map_map]
      refine List.map_congr_left fun p _ => ?_
      show (if p.1 = k then (p.1, v) else p).1 = p.1
      split <;> rfl
    rw [e]
    exact hn
/-- an item of a dict of M is set -/
theorem dct_put (s : Sim S u M H) {n : Nat} {d : List (PV × PV)} {k p : PV} {x y v : V} (e : M[n]? = some (.dct d)) (hx : Rep S u H (.ref n) x) (hy : Rep S u H k y) (hv : Rep S u H p v) (hf : keyFits d k = true) (hl : d.length < sizeLine) :
    ∃ a, u[n]? = some a ∧ x = .ref a ∧ ∃ H1 H2, (H1 = H ∨ (H a = some (.dK []) ∧ H1 = upd H a (.dT [])) ∨ (H a = some (.dT []) ∧ H1 = upd H a (.dK []))) ∧ DPut H1 a y v H2 ∧ Sim S u (M.set n (.dct (dPut d k p))) H2 ∧ Fr u H u H2 := by
  obtain ⟨a, ha, rfl, ro⟩ := s.obj e hx
  refine ⟨a, ha, rfl, ?_⟩
  unfold keyFits at hf
  obtain ⟨hk, hf⟩ := Bool.and_eq_true_iff.mp hf
  rcases key_cases hk with ⟨k0, rfl⟩ | ⟨k0, rfl⟩
  · obtain rfl := rep_key hy
    rcases ro with ⟨kvs, h3, nd, r⟩ | ⟨kvs, h3, nd, r⟩
    · obtain ⟨s1, f1⟩ := s.put (o := .dK (putK kvs k0 v)) (m := .dct (dPut d (kPV k0) p)) ha fun f => .inl ⟨_, upd_same, nd_put v nd, dPut_K (hv.fr s f) (Paired.fr r fun _ _ z => ⟨z.1, z.2.fr s f⟩)⟩
      exact ⟨H, _, .inl rfl, .inl ⟨kvs, k0, h3, rfl, by rw [← r.length]; exact hl, rfl⟩, s1, f1⟩
    · cases r with
      | nil =>
        obtain ⟨s1, f1⟩ := s.put (o := .dK (putK [] k0 v)) (m := .dct (dPut [] (kPV k0) p)) ha fun f => .inl ⟨_, upd_same, nd_put v List.nodup_nil, dPut_K (hv.fr s f) .nil⟩
        refine ⟨upd H a (.dK []), upd (upd H a (.dK [])) a (.dK (putK [] k0 v)), .inr (.inr ⟨h3, rfl⟩), .inl ⟨[], k0, upd_same, rfl, by rw [sizeLine_eq]; decide, rfl⟩, ?_, ?_⟩
        · rw [upd_upd]; exact s1
        · rw [upd_upd]; exact f1
      | @cons p0 q0 l m h t =>
        exfalso
        have h1 := h.1
        obtain ⟨p1, p2⟩ := p0
        cases k0 <;> (cases h1; cases hf)
  · obtain ⟨b, vs, rfl, hb, rb⟩ := hy
    obtain rfl := reps_keys rb
    rcases ro with ⟨kvs, h3, nd, r⟩ | ⟨kvs, h3, nd, r⟩
    · cases r with
      | nil =>
        obtain ⟨s1, f1⟩ := s.put (o := .dT (putK [] k0 v)) (m := .dct (dPut [] (.tup (k0.map kPV)) p)) ha fun f => .inr ⟨_, upd_same, nd_put v List.nodup_nil, dPut_T (hv.fr s f) .nil⟩
        have hab : b ≠ a := fun z => by
          rw [z, h3] at hb; cases hb
        refine ⟨upd H a (.dT []), upd (upd H a (.dT [])) a (.dT (putK [] k0 v)), .inr (.inl ⟨h3, rfl⟩), .inr ⟨[], k0, b, upd_same, rfl, by rw [upd_ne hab]; exact hb, by rw [sizeLine_eq]; decide, rfl⟩, ?_, ?_⟩
        · rw [upd_upd]; exact s1
        · rw [upd_upd]; exact f1
      | @cons p0 q0 l m h t =>
        exfalso
        have h1 := h.1
        obtain ⟨p1, p2⟩ := p0
        obtain ⟨q1, q2⟩ := q0
        cases q1 <;> (cases h1; cases hf)
    · obtain ⟨s1, f1⟩ := s.put (o := .dT (putK kvs k0 v)) (m := .dct (dPut d (.tup (k0.map kPV)) p)) ha fun f => .inr ⟨_, upd_same, nd_put v nd, dPut_T (hv.fr s f) (Paired.fr r fun _ _ z => ⟨z.1, z.2.fr s f⟩)⟩
      exact ⟨H, _, .inl rfl, .inr ⟨kvs, k0, b, h3, rfl, hb, by rw [← r.length]; exact hl, rfl⟩, s1, f1⟩
def notSlice : Expr → Bool
  | .Slice _ _ _ _ => false
  | _ => true
theorem plain_ix {b : Expr} (h : notSlice b = true) : PlainIx b := fun o i => by
  cases b <;> first | rfl | cases h
theorem asg_sub {o i : Expr} {pos : Pos} {env : PySem.Env} (h : notSlice i = true) : ∀ v, assign (.Subscript o i pos) env v = (do
      let ov ← holding [v] (eval o env)
      let iv ← holding [v, ov] (eval i env)
      standAt pos
      holding [v, ov, iv] (setItem ov iv v)
      release [v, ov, iv] []) := fun v => by
  cases i <;> first | rfl | cases h
def notComp : Expr → Bool
  | .ListComp _ _ _ _ => false
  | .SetComp _ _ _ _ => false
  | .DictComp _ _ _ _ _ => false
  | _ => true
theorem sw_false {e : Expr} {t : Option Expr} {l : Nat} {env : PySem.Env} (h : notComp e = true) : swapsWith e t l env = pure false := by
  cases e <;> first | rfl | cases h
theorem sw_sub {e o i : Expr} {p : Pos} {l : Nat} {env : PySem.Env} : swapsWith e (some (.Subscript o i p)) l env = pure false := by
  cases e <;> rfl
theorem sw_att {e o : Expr} {f : Str} {p : Pos} {l : Nat} {env : PySem.Env} : swapsWith e (some (.Attribute o f p)) l env = pure false := by
  cases e <;> rfl
theorem sw_tup {e : Expr} {es : List Expr} {k : Nat} {p : Pos} {l : Nat} {env : PySem.Env} : swapsWith e (some (.Tuple es k p)) l env = pure false := by
  cases e <;> rfl
theorem sw_cell {elt : Expr} {gs : List Comprehension} {scope : Scope} {pos py : Pos} {y : Str} {l : Nat} {env : PySem.Env} (hy : env.scope.names.lookup y = some .cell) : swapsWith (.ListComp elt gs scope pos) (some (.Name y py)) l env = pure false := by
  have ky : env.kindOf y = some .cell := hy
  unfold swapsWith
  simp only [ky]
  have h : ((some NameKind.cell == some NameKind.local) : Bool) = false := rfl
  rw [h, Bool.and_false, Bool.false_and, Bool.false_and]
theorem s_sets {o i e : Expr} {co ci ce : CE} {tpos pos : Pos} (hu : X.A.units + 1 < cLine) (hi : notSlice i = true) (ho : PE X o (LE S W (evE F co))) (hx : PE X i (LE S W (evE F ci))) (he : PE X e (LE S W (evE F ce))) :
    PS X (.Assign [.Subscript o i tpos] e pos) (LS S W (evS n F (.sets co ci ce))) := by
  refine PS.imp (ps_asg he (pg_sub ho hx (PSet.or set_list (set_dictD hu)) (asg_sub hi)) (sw_sub (o := o) (i := i) (p := tpos) (l := pos.line) (env := X.env))) fun D σ H ⟨u, M, r, s, e, h⟩ => ?_
  unfold evS at h
  refine LS.then s e h fun v M1 u1 H1 vv s1 f1 e1 r1 h1 => ?_
  refine LS.then s1 e1 h1 fun p M2 u2 H2 x s2 f2 e2 r2 h2 => ?_
  refine LS.then s2 e2 h2 fun q M3 u3 H3 y s3 f3 e3 r3 h3 => ?_
  have rp := r2.fr s2 f3
  have rv := (r1.fr s1 f2).fr s2 f3
  cases hs : setIx M3 p q v with
  | none => rw [hs] at h3; exact h3.elim
  | some M4 =>
    rw [hs] at h3
    unfold setIx at hs
    split at hs
    · split at hs
      · rename_i n l hM
        split at hs
        · rename_i k
          obtain ⟨j, hj, rfl⟩ := Option.map_eq_some_iff.mp hs
          obtain ⟨a, vs, ha, rfl, h4, ra⟩ := s3.lst hM rp
          cases r3
          obtain ⟨s4, f4⟩ := s3.put (o := .lst (vs.set j vv)) (m := .lst (l.set j v)) ha fun f => ⟨_, upd_same, Reps.set j (rv.fr s3 f) (ra.fr s3 f)⟩
          exact .inl ⟨a, vs, k, j, rfl, rfl, h4, by rw [ra.length]; exact hj, PostS.nxt (PostS.after f4 h3) s4 (e3.fr s3 f4)⟩
        · cases hs
      · rename_i n d hM
        split at hs
        · rename_i hc
          cases hs
          obtain ⟨c1, c2⟩ := Bool.and_eq_true_iff.mp hc
          obtain ⟨a, ha, rfl, H4, H5, k1, k2, s4, f4⟩ := dct_put s3 hM rp r3 rv c1 (of_decide_eq_true c2)
          exact .inr ⟨a, H4, H5, rfl, k1, k2, PostS.nxt (PostS.after f4 h3) s4 (e3.fr s3 f4)⟩
        · cases hs
      · cases hs
    · cases hs
theorem putFl_rep {f : Str} {p : PV} {v : V} (hv : Rep S u H p v) : ∀ {fs : List (Str × PV)} {gs : List (Str × V)}, RepF S u H fs gs → RepF S u H (putFl f p fs) (putF f v gs)
  | _, _, .nil => .cons ⟨rfl, hv⟩ .nil
  | (g, w) :: r, (g', w') :: t, .cons h hr => by
    have e : g = g' := h.1
    subst e
    unfold putFl putF
    by_cases q : g = f
    · rw [if_pos q, if_pos q]
      exact .cons ⟨rfl, hv⟩ hr
    · rw [if_neg q, if_neg q]
      exact .cons ⟨rfl, h.2⟩ (putFl_rep hv hr)
theorem putFl_names {f : Str} {p : PV} : ∀ {fs : List (Str × PV)}, (fs.map (·.1)).Nodup → ((putFl f p fs).map (·.1)).Nodup ∧ ∀ g, g ∈ (putFl f p fs).map (·.1) → g = f ∨ g ∈ fs.map (·.1)
  | [], _ => ⟨by simp [putFl], fun g h => by simpa [putFl] using h⟩
  | (g, w) :: r, h => by
    obtain ⟨h1, h2⟩ := List.nodup_cons.mp h
    obtain ⟨k1, k2⟩ := putFl_names (f := f) (p := p) h2
    unfold putFl
    by_cases q : g = f
    · rw [if_pos q]
      exact ⟨List.nodup_cons.mpr ⟨h1, h2⟩, fun x hx => .inr hx⟩
    · rw [if_neg q]
      refine ⟨List.nodup_cons.mpr ⟨fun hm => ?_, k1⟩, fun x hx => ?_⟩
      · rcases k2 _ hm with z | z
        · exact q z
        · exact h1 z
      · rcases List.mem_cons.mp hx with z | z
        · exact .inr (by rw [z]; exact List.mem_cons_self)
        · rcases k2 _ z with y | y
          · exact .inl y
          · exact .inr (List.mem_cons_of_mem _ y)
theorem s_setf {o e : Expr} {f : Str} {co ce : CE} {apos pos : Pos} (hK : X.K = S.K) (hc : FldOk S F.cls f) (ho : PE X o (LE S W (evE F co))) (he : PE X e (LE S W (evE F ce))) :
    PS X (.Assign [.Attribute o f apos] e pos) (LS S W (evS n F (.setf co f ce))) := by
  refine PS.imp (ps_fld ho he sw_att) fun D σ H ⟨u, M, r, s, e, h⟩ => ?_
  unfold evS at h
  refine LS.then s e h fun v M1 u1 H1 vv s1 f1 e1 r1 h1 => ?_
  refine LS.then s1 e1 h1 fun p M2 u2 H2 x s2 f2 e2 r2 h2 => ?_
  have rv := r1.fr s1 f2
  cases hs : setFl F.cls M2 p f v with
  | none => rw [hs] at h2; exact h2.elim
  | some M3 =>
    rw [hs] at h2
    unfold setFl at hs
    split at hs
    · split at hs
      · rename_i k0 _ C fs hM
        split at hs
        · rename_i hc2
          cases hs
          obtain ⟨n', a, dx, gs, e3, _, ha, rfl, h4, h5, h6, h7⟩ := ins_rep s2 (show insOf M2 (.ref k0) = some (C, fs) by unfold insOf; dsimp only; rw [hM]) r2
          cases e3
          obtain ⟨k1, k2⟩ := hc C (by simpa using hc2.2)
          have had : dx ≠ a := fun z => by
            rw [z, h4] at h5; cases h5
          obtain ⟨s3, f3⟩ := s2.put (o := .ins (S.gA C) dx (putF f vv gs)) (m := .ins C (putFl f v fs)) ha fun fr => ⟨dx, _, upd_same, by rw [upd_ne had]; exact h5, (putFl_names h6).1, putFl_rep (rv.fr s2 fr) (h7.fr s2 fr)⟩
          refine ⟨a, S.gA C, dx, gs, rfl, h4, by rw [hK]; exact k1, by rw [hK]; exact k2, ?_, PostS.nxt (PostS.after f3 h2) s3 (e2.fr s2 f3)⟩
          rw [← h7.length]
          exact Nat.lt_of_lt_of_le hc2.1 (by decide)
        · cases hs
      · cases hs
    · cases hs
theorem while_ok {c : Lv → Mh → Res Bool} {body : Lv → Mh → Rs} : ∀ {k : Nat}, PostS S W D u H (whileGo c body k r M) → 0 < k
  | 0, h => h.elim
  | k + 1, _ => Nat.succ_pos _
theorem s_while {c : Expr} {body : List Stmt} {cc : CT} {cb : CSs} {pos : Pos} (hp : PassesOwn (model X.prog X.w) X.A X.env X.xe) (hc : PT X c (LT' S W (evT F cc))) (hb : PSs X body (LS S W (evSs n F cb))) : PS X (.While c body [] pos) (LS S W (evS n F (.whl cc cb))) := by
  refine PS.imp (ps_while hp hc hb) fun D σ H ⟨u, M, r, s, e, h⟩ => ?_
  unfold evS at h
  refine ⟨fun m σ H => ∃ u M r, Sim S u M H ∧ REnv S u H σ r ∧ PostS S W D u H (whileGo (evT F cc) (evSs n F cb) m r M), ⟨n, u, M, r, s, e, h⟩, ?_⟩
  rintro m σ H ⟨u, M, r, s, e, h⟩
  cases m with
  | zero => exact h.elim
  | succ m =>
    unfold whileGo at h
    refine LS.then s e h fun p M1 u1 H1 v s1 f1 e1 r1 h1 => ?_
    cases r1
    cases p with
    | true =>
      rw [if_pos rfl]
      refine ⟨fun σ' H' => ∃ u M r, Sim S u M H' ∧ REnv S u H' σ' r ∧ PostS S W D u H' (whileGo (evT F cc) (evSs n F cb) m r M), fun σ' H' hh => ⟨m, Nat.lt_succ_self m, hh⟩, ?_⟩
      refine ⟨u1, M1, r, s1, e1, ?_⟩
      have h1 : PostS S W D u1 H1 ((evSs n F cb r M1).sb fun r2 M2 => whileGo (evT F cc) (evSs n F cb) m r2 M2) := h1
      cases hm : evSs n F cb r M1 with
      | nx r2 M2 =>
        rw [hm] at h1
        exact fun u' H' σ' s' f' e' => ⟨u', M2, r2, s', e', PostS.after f' h1⟩
      | rt p M2 => rw [hm] at h1; exact h1
      | ex C fs r2 M2 => rw [hm] at h1; exact h1
      | stuck => rw [hm] at h1; exact h1
    | false =>
      rw [if_neg Bool.false_ne_true]
      exact h1.nxt s1 e1
theorem for_same {tg : Tg} {body : Lv → Mh → Rs} {g : Mh → Prop} {l : List PV} (h : PostS S W D u H (forGo tg body g l r M)) : g M := by
  cases l with
  | nil =>
    unfold forGo at h
    by_cases hg : g M
    · exact hg
    · rw [if_neg hg] at h; exact h.elim
  | cons x xs =>
    unfold forGo at h
    by_cases hg : g M
    · exact hg
    · rw [if_neg hg] at h; exact h.elim
theorem s_for {tg iter : Expr} {body : List Stmt} {t : Tg} {ci : CI} {cb : CSs} {pos : Pos} (hK : X.K = S.K) (hp : PassesOwn (model X.prog X.w) X.A X.env X.xe) (hc : X.calm = true) (hi : PI X tg iter (LI S W (evI F ci))) (hg : PG X tg (GTg X.K t)) (hb : PSs X body (LS S W (evSs n F cb)))
    (hs : ∀ x, foldedSetIterable iter X.env x = pure x) : PS X (.For tg iter body [] pos) (LS S W (evS n F (.forr t ci cb))) := by
  refine PS.imp (ps_for hp hc hi hg hb hs) fun D σ H ⟨u, M, r, s, e, h⟩ => ?_
  unfold evS at h
  refine LS.then s e h fun w M1 u1 H1 J s1 f1 e1 wr h1 => ?_
  refine ⟨fun i m σ' H' => m = w.items.length - i ∧ i ≤ w.items.length ∧ ∃ u' M' r', Sim S u' M' H' ∧ Fr u1 H1 u' H' ∧ REnv S u' H' σ' r' ∧ PostS S W D u' H' (forGo t (evSs n F cb) w.same (w.items.drop i) r' M'), ⟨w.items.length, by simp, Nat.zero_le _, u1, M1, r, s1, Fr.refl, e1, by rw [List.drop_zero]; exact h1⟩, ?_⟩
  rintro i m σ' H' ⟨rfl, hil, u', M', r', s', f', e', T⟩
  have hsame := for_same T
  obtain ⟨wgo, wstop⟩ := wr u' M' H' s' f' hsame
  by_cases hlt : i < w.items.length
  · refine .inr ⟨(wgo i _ (List.getElem?_eq_getElem hlt)).1, fun σ2 H2 => ∃ u' M' r', Sim S u' M' H2 ∧ Fr u1 H1 u' H2 ∧ REnv S u' H2 σ2 r' ∧ PostS S W D u' H2 (forGo t (evSs n F cb) w.same (w.items.drop (i + 1)) r' M'), fun σ2 H2 nx => ⟨w.items.length - (i + 1), by omega, rfl, hlt, nx⟩, fun x H2 hy => ?_⟩
    obtain ⟨s2, f2, r2⟩ := (wgo i _ (List.getElem?_eq_getElem hlt)).2 x H2 hy
    rw [List.drop_eq_getElem_cons hlt] at T
    unfold forGo at T
    rw [if_pos hsame] at T
    have T := PostS.after f2 T
    have e2 := e'.fr s' f2
    have f12 := f'.trans f2
    cases hst : setT t w.items[i] r' with
    | none => rw [hst] at T; exact T.elim
    | some r1 =>
      rw [hst] at T
      rw [hK]
      refine setT_ok hst r2 e2 fun σ3 e3 => ⟨u', M', r1, s2, e3, ?_⟩
      have T : PostS S W D u' H2 ((evSs n F cb r1 M').sb fun r2 M1 => forGo t (evSs n F cb) w.same (w.items.drop (i + 1)) r2 M1) := T
      cases hm : evSs n F cb r1 M' with
      | nx r2 M2 =>
        rw [hm] at T
        exact fun u3 H3 σ4 s4 f4 e4 => ⟨u3, M2, r2, s4, f12.trans f4, e4, PostS.after f4 T⟩
      | rt p M2 => rw [hm] at T; exact T
      | ex C fs r2 M2 => rw [hm] at T; exact T
      | stuck => rw [hm] at T; exact T
  · have he : i = w.items.length := by omega
    subst he
    rw [List.drop_length] at T
    unfold forGo at T
    rw [if_pos hsame] at T
    exact .inl ⟨wstop, T.nxt s' e'⟩
end
end Pi
end
section
namespace Pi
open PySem PySem.Spec PyProof.Rows L2
/-- what is known of the names -/
structure Tb where
  N : List Str
  sc : Scope
  co : Bool := true
  fns : List (Str × Nat) := []
  vals : List (Str × PV) := []
  makes : List (Str × Nat) := []
  meths : List (Str × List (Str × Nat)) := []
  flds : List Str := []
  cv : List (Str × Nat) := []
  dcts : List (Str × List (PV × PV)) := []
def opC : Operator → Option BOp
  | .Add => some .add
  | .Sub => some .sub
  | .Mult => some .mul
  | .FloorDiv => some .fdiv
  | .Mod => some .mod
  | .Pow => some .pow
  | _ => none
def cmpC : CmpOp → COp
  | .Eq => .eq
  | .NotEq => .ne
  | .Lt => .lt
  | .LtE => .le
  | .Gt => .gt
  | .GtE => .ge
  | .Is => .is
  | .IsNot => .isnt
  | .In => .inn
  | .NotIn => .nin
def tyC (x : Str) : Option String :=
  if x = "int" then some "int" else if x = "str" then some "str" else if x = "tuple" then some "tuple" else if x = "list" then some "list" else if x = "bool" then some "bool" else if x = "dict" then some "dict" else none
def biC (x : Str) : Option Bi :=
  if x = "len" then some .len else if x = "tuple" then some .tuple else if x = "list" then some .list else if x = "str" then some .str else if x = "int" then some .int else if x = "isinstance" then some .isi else if x = "all" then some .all else
    if x = "any" then some .any else if x = "max" then some .max else if x = "min" then some .min else none
def bmC (x : Str) : Option Bm :=
  if x = "append" then some .append else if x = "extend" then some .extend else if x = "insert" then some .insert else if x = "clear" then some .clear else if x = "join" then some .join else if x = "split" then some .split else
    if x = "startswith" then some .startswith else if x = "get" then some .get else none
def bltL : List Str := ["int", "str", "tuple", "list", "bool", "dict", "len", "isinstance", "all", "any", "max", "min", "range", "zip", "enumerate"]
def Tb.vis (T : Tb) (x : Str) : Bool := (T.sc.names.lookup x == some .local || T.sc.names.lookup x == some .cell || T.sc.names.lookup x == some .free) && decide (x ∈ T.N) && !(x == ("__debug__" : Str)) && !(x == ("__classdict__" : Str))
def Tb.glo (T : Tb) (x : Str) : Bool := (T.sc.names.lookup x == some .globalImplicit) && !(x == ("__debug__" : Str)) && !(x == ("__name__" : Str))
/-- the name as a value -/
def cName (T : Tb) (x : Str) : CE := if T.vis x then .var (T.N.idxOf x) else if T.glo x then (match T.vals.lookup x with
  | some p => .lit p
  | none => match tyC x with
    | some t => .lit (.ty t)
    | none => .stuck) else .stuck
def cConst : Const → CE
  | .none => .lit .non
  | .bool b => .lit (.bl b)
  | .int i => .lit (.int i)
  | .str x => .lit (.str x)
  | _ => .stuck
/-- called by its name -/
def cCall (T : Tb) (x : Str) (n : Nat) (cs : CEs) : CE := if T.vis x then .callv (T.N.idxOf x) T.cv cs else if T.glo x then (match T.fns.lookup x with
  | some i => .call i cs
  | none => match T.makes.lookup x with
    | some i => .make x i cs
    | none => match biC x with
      | some b => .bi b cs
      | none => .stuck) else .stuck
def keysC : List (Option Expr) → Option (List PV)
  | [] => some []
  | k :: ks => match keyEx k, keysC ks with
    | some p, some l => some (p :: l)
    | _, _ => none
def ownC (T : Tb) (scope : Scope) : List (Str × Nat) := scope.names.filterMap fun y => if (y.2 == .local || y.2 == .cell) && decide (y.1 ∈ T.N) then some (y.1, T.N.idxOf y.1) else none
def notSet : Expr → Bool
  | .Set _ _ _ => false
  | _ => true
def isTup : Expr → Bool
  | .Tuple _ _ _ => true
  | _ => false
def Tb.blk (T : Tb) (scope : Scope) : Tb := { T with sc := relS scope T.sc, co := false }
/-- a dict of the module with text keys, and what is asked of it -/
def kdOf (T : Tb) (x : Str) : Option (List (PV × PV)) := if T.glo x then T.dcts.lookup x else none
def kdIn (T : Tb) : CmpOp → Expr → Option (Bool × List (PV × PV))
  | .In, .Name x _ => (kdOf T x).map fun d => (false, d)
  | .NotIn, .Name x _ => (kdOf T x).map fun d => (true, d)
  | _, _ => none
def kdIx (T : Tb) : Expr → Option (List (PV × PV))
  | .Name x _ => kdOf T x
  | _ => none
mutual
def cE : Nat → Tb → Expr → CE
  | 0, _, _ => .stuck
  | k + 1, T, .Name x _ => cName T x
  | k + 1, T, .Constant c _ _ => cConst c
  | k + 1, T, .BinOp a op b _ => match opC op with
    | some o => .bin o (cE k T a) (cE k T b)
    | none => .stuck
  | k + 1, T, .UnaryOp .USub a _ => .neg (cE k T a)
  | k + 1, T, .UnaryOp .Not a _ => .not (cE k T a)
  | k + 1, T, .BoolOp op es _ => cB k T op es
  | k + 1, T, .Compare a [op] [b] _ => match kdIn T op b with
    | some (neg, d) => .kin neg d (cE k T a)
    | none => if behindInMarks op b = false then .cmp (cmpC op) (cE k T a) (cE k T b) else .stuck
  | k + 1, T, .Compare a [op, op'] [b, c] _ => if behindInMarks op' c = false then .chain (cmpC op) (cmpC op') (cE k T a) (cE k T b) (cE k T c) else .stuck
  | k + 1, T, .IfExp c a b _ => .ife (cT k T c) (cE k T a) (cE k T b)
  | k + 1, T, .Tuple es _ _ => if es.all notStar then .tup (cL k T es) else .stuck
  | k + 1, T, .List es _ => if es.all notStar then .lst (cL k T es) else .stuck
  | k + 1, T, .Dict keys values _ => if keys.isEmpty && values.isEmpty then .dct [] .nil else match keysC keys with
    | some ks => if decide (values.length = keys.length) && decide (keys.length ≤ 15) && decide (keys.length ≤ k) then .dct ks (cL k T values) else .stuck
    | none => .stuck
  | k + 1, T, .Subscript a (.Slice lo hi none _) _ => .slc (cE k T a) (cO k T lo) (cO k T hi)
  | k + 1, T, .Subscript a b _ => if notSlice b then (match kdIx T a with
    | some d => .kix d (cE k T b)
    | none => .ix (cE k T a) (cE k T b)) else .stuck
  | k + 1, T, .Attribute o f _ => if T.flds.contains f && notBare o then .fld (cE k T o) f else .stuck
  | k + 1, T, .Call (.Name x _) (e :: es) [] _ => if (e :: es).all notStar then cCall T x (es.length + 1) (cL k T (e :: es)) else .stuck
  | k + 1, T, .Call (.Attribute o m apos) es [] pos => if es.all notStar && decide (es.length < 30) && notBare o && (apos.endLine == pos.line) then (match T.meths.lookup m with
    | some ms => .meth ms m (cE k T o) (cL k T es)
    | none => match bmC m with
      | some b => .bm b (cE k T o) (cL k T es)
      | none => .stuck) else .stuck
  | k + 1, T, .ListComp elt [⟨tg, iter, ifs, 0⟩] scope _ => cLC k T elt tg iter ifs scope
  | _ + 1, _, _ => .stuck
/-- the parts of and, or -/
def cB : Nat → Tb → BoolOp → List Expr → CE
  | 0, _, _, _ => .stuck
  | k + 1, T, _, [a] => cE k T a
  | k + 1, T, .And, a :: b :: r => .and (cE k T a) (cB k T .And (b :: r))
  | k + 1, T, .Or, a :: b :: r => .or (cE k T a) (cB k T .Or (b :: r))
  | _ + 1, _, _, [] => .stuck
def cL : Nat → Tb → List Expr → CEs
  | 0, _, [] => .nil
  | 0, _, _ :: _ => .cons .stuck .nil
  | k + 1, T, [] => .nil
  | k + 1, T, e :: es => .cons (cE k T e) (cL k T es)
def cO : Nat → Tb → Option Expr → CO
  | _, _, none => .none
  | 0, _, some _ => .some .stuck
  | k + 1, T, some e => .some (cE k T e)
def cT : Nat → Tb → Expr → CT
  | 0, _, _ => .val .stuck
  | k + 1, T, .UnaryOp .Not a _ => .not (cT k T a)
  | k + 1, T, .BoolOp op es _ => cTB k T op es
  | k + 1, T, .IfExp _ _ _ _ => .val .stuck
  | k + 1, T, .Compare a [op] [b] _ => match kdIn T op b with
    | some (neg, d) => .val (.kin neg d (cE k T a))
    | none => if behindInMarks op b = false then .val (.cmp (cmpC op) (cE k T a) (cE k T b)) else .val .stuck
  | k + 1, T, .Compare a [op, op'] [b, c] _ => if behindInMarks op' c = false then .val (.chain (cmpC op) (cmpC op') (cE k T a) (cE k T b) (cE k T c)) else .val .stuck
  | _ + 1, _, .Compare _ _ _ _ => .val .stuck
  | k + 1, T, e => .val (cE k T e)
def cTB : Nat → Tb → BoolOp → List Expr → CT
  | 0, _, _, _ => .val .stuck
  | k + 1, T, _, [a] => cT k T a
  | k + 1, T, .And, a :: b :: r => .and (cT k T a) (cTB k T .And (b :: r))
  | k + 1, T, .Or, a :: b :: r => .or (cT k T a) (cTB k T .Or (b :: r))
  | _ + 1, _, _, [] => .val .stuck
/-- what is walked: tup: into a tuple of names -/
def cI : Nat → Tb → Bool → Expr → CI
  | 0, _, _, _ => .val .stuck
  | k + 1, T, tup, .Call (.Name x p) [a] [] pos => if T.glo x && notStar a && decide (x = "range") then .rng .none (cE k T a) else if T.glo x && notStar a && tup && decide (x = "enumerate") then .enum (cE k T a) else .val (cE k T (.Call (.Name x p) [a] [] pos))
  | k + 1, T, tup, .Call (.Name x p) [a, b] [] pos => if T.glo x && notStar a && notStar b && decide (x = "range") then .rng (.some (cE k T a)) (cE k T b) else if T.glo x && notStar a && notStar b && tup && decide (x = "zip") then .zip (cE k T a) (cE k T b) else .val (cE k T (.Call (.Name x p) [a, b] [] pos))
  | k + 1, T, _, e => .val (cE k T e)
def cLC : Nat → Tb → Expr → Expr → Expr → List Expr → Scope → CE
  | 0, _, _, _, _, _, _ => .stuck
  | k + 1, T, elt, tg, iter, ifs, scope => match cTg false T.N (T.blk scope).sc tg with
    | some t => if blkC T.N T.sc scope (ownC T scope) && tgIn t ((ownC T scope).map (·.2)) && notSet iter then (match ifs with
      | [] => .lc ((ownC T scope).map (·.2)) (cE k (T.blk scope) elt) t (cI k T (isTup tg) iter) (.val (.lit (.bl true)))
      | [c] => .lc ((ownC T scope).map (·.2)) (cE k (T.blk scope) elt) t (cI k T (isTup tg) iter) (cT k (T.blk scope) c)
      | _ => .stuck) else .stuck
    | none => .stuck
end
end Pi
end
section
namespace Pi
open PySem PySem.Spec PyProof.Rows L2
/-- what the tables say is so -/
def DctK (K : PySem.W.Frag) (w : World) (S : Sy) (mg : Str → Option Value) (x : Str) (d : List (PV × PV)) : Prop := ∃ a es n, mg x = some (.ref a) ∧ KDict K w a es n ∧ ∀ z : Str,
  (dGet d (.str z) = none ∧ PySem.W.nsIn K a z = some none) ∨ ∃ p u0 v0, dGet d (.str z) = some p ∧ PySem.W.nsIn K a z = some (some u0) ∧ RelV v0 u0 ∧ ∀ u H, Rep S u H p v0
structure Gd (X : Cx) (S : Sy) (W : WX) (F : Fs) (T : Tb) (n : Nat) : Prop where
  g : Cg X S W n
  N : X.N = T.N
  sc : X.env.scope = T.sc
  co : T.co = true → ∀ x, X.fn x = true
  fns : ∀ x i, T.fns.lookup x = some i → FnG X.prog X.w S X.mg X.base n x (F.at_ i)
  vals : ∀ x p, T.vals.lookup x = some p → ∃ v u, X.mg x = some u ∧ RelV v u ∧ ∀ u' H', Rep S u' H' p v
  makes : ∀ x i, T.makes.lookup x = some i → ∃ k, k + 1 ≤ n ∧ MakeG X.prog X.w S X.mg X.base k x (F.at_ i)
  meths : ∀ m ms, T.meths.lookup m = some ms → ∀ C j, ms.lookup C = some j → MethG X.prog X.w S X.mg X.base n C m (F.at_ j)
  flds : ∀ f, T.flds.contains f = true → FldOk S F.cls f
  cv : ∀ y j, T.cv.lookup y = some j → FnA X.prog X.w S X.mg X.base n (S.gA y) (F.at_ j)
  blt : ∀ x ∈ bltL, X.mg x = none
  dcts : ∀ x d, T.dcts.lookup x = some d → DctK X.K X.w S X.mg x d
section
variable {S : Sy} {W : WX} {X : Cx} {F : Fs} {n : Nat} {T : Tb}
theorem Gd.blk (G : Gd X S W F T n) (s : Shared) (H : Hp) (scope : Scope) (C : Addr) (cl : List (Str × Addr)) (fp : List Addr) : Gd (X.blk s H scope (compEnvC scope cl C X.env) fp) S W0 F (T.blk scope) n where
  g := ⟨G.g.K, G.g.calm, G.g.nd, takes0, G.g.room⟩
  N := G.N
  sc := by
    show relS scope X.env.scope = relS scope T.sc
    rw [G.sc]
  co := fun h => by cases h
  fns := G.fns
  vals := G.vals
  makes := G.makes
  meths := G.meths
  flds := G.flds
  cv := G.cv
  blt := G.blt
  dcts := G.dcts
theorem Gd.vis (G : Gd X S W F T n) {x : Str} (h : T.vis x = true) : X.N[T.N.idxOf x]? = some x ∧ Vis X.env.scope x ∧ (x == ("__debug__" : Str)) = false ∧ (x == ("__classdict__" : Str)) = false := by
  unfold Tb.vis at h
  simp only [Bool.and_eq_true, Bool.not_eq_true', decide_eq_true_eq] at h
  obtain ⟨⟨⟨h1, h2⟩, h3⟩, h4⟩ := h
  refine ⟨by rw [G.N]; exact idx_get h2, ?_, h3, h4⟩
  unfold Vis
  rw [G.sc]
  rcases Bool.or_eq_true_iff.mp h1 with h1 | h1
  · rcases Bool.or_eq_true_iff.mp h1 with h1 | h1
    · exact .inl (by simpa using h1)
    · exact .inr (.inl (by simpa using h1))
  · exact .inr (.inr (by simpa using h1))
theorem Gd.glo (G : Gd X S W F T n) {x : Str} (h : T.glo x = true) : Gl X x ∧ (x == ("__debug__" : Str)) = false ∧ x ≠ "__name__" := by
  unfold Tb.glo at h
  simp only [Bool.and_eq_true, Bool.not_eq_true'] at h
  obtain ⟨⟨h1, h2⟩, h3⟩ := h
  refine ⟨?_, h2, fun e => ?_⟩
  · show List.lookup x X.env.scope.names = some .globalImplicit
    rw [G.sc]
    simpa using h1
  · rw [e] at h3
    have : (("__name__" : Str) == ("__name__" : Str)) = true := beq_self_eq_true _
    rw [this] at h3
    cases h3
theorem tyC_ok {x : Str} {t : String} (h : tyC x = some t) : bootBuiltins x = some (.type t) ∧ x ∈ bltL := by
  unfold tyC at h
  split at h
  · rename_i e; cases h; subst e; exact ⟨by decide +kernel, by decide +kernel⟩
  split at h
  · rename_i e; cases h; subst e; exact ⟨by decide +kernel, by decide +kernel⟩
  split at h
  · rename_i e; cases h; subst e; exact ⟨by decide +kernel, by decide +kernel⟩
  split at h
  · rename_i e; cases h; subst e; exact ⟨by decide +kernel, by decide +kernel⟩
  split at h
  · rename_i e; cases h; subst e; exact ⟨by decide +kernel, by decide +kernel⟩
  split at h
  · rename_i e; cases h; subst e; exact ⟨by decide +kernel, by decide +kernel⟩
  cases h
theorem biC_ok (G : Gd X S W F T n) {x : Str} {b : Bi} (h : biC x = some b) : x ∈ bltL ∧ ((∃ id, bootBuiltins x = some (.builtin id) ∧ ∀ σ, CallR X (.builtin id) (GL S W σ (biF b))) ∨ ∃ t, bootBuiltins x = some (.type t) ∧ ∀ σ, CallR X (.type t) (GL S W σ (biF b))) := by
  have hK := G.g.K
  have hc := G.g.calm
  unfold biC at h
  split at h
  · rename_i e; cases h; subst e; exact ⟨by decide +kernel, .inl ⟨"len", by decide +kernel, fun σ => g_len hK⟩⟩
  split at h
  · rename_i e; cases h; subst e; exact ⟨by decide +kernel, .inr ⟨"tuple", by decide +kernel, fun σ => g_tuple hK⟩⟩
  split at h
  · rename_i e; cases h; subst e; exact ⟨by decide +kernel, .inr ⟨"list", by decide +kernel, fun σ => g_list hK⟩⟩
  split at h
  · rename_i e; cases h; subst e; exact ⟨by decide +kernel, .inr ⟨"str", by decide +kernel, fun σ => g_str⟩⟩
  split at h
  · rename_i e; cases h; subst e; exact ⟨by decide +kernel, .inr ⟨"int", by decide +kernel, fun σ => g_int⟩⟩
  split at h
  · rename_i e; cases h; subst e; exact ⟨by decide +kernel, .inl ⟨"isinstance", by decide +kernel, fun σ => g_isi hK⟩⟩
  split at h
  · rename_i e; cases h; subst e; exact ⟨by decide +kernel, .inl ⟨"all", by decide +kernel, fun σ => g_all hK hc⟩⟩
  split at h
  · rename_i e; cases h; subst e; exact ⟨by decide +kernel, .inl ⟨"any", by decide +kernel, fun σ => g_any hK hc⟩⟩
  split at h
  · rename_i e; cases h; subst e; exact ⟨by decide +kernel, .inl ⟨"max", by decide +kernel, fun σ => g_max hK hc⟩⟩
  split at h
  · rename_i e; cases h; subst e; exact ⟨by decide +kernel, .inl ⟨"min", by decide +kernel, fun σ => g_min hK hc⟩⟩
  cases h
theorem bmC_ok (G : Gd X S W F T n) {x : Str} {b : Bm} (h : bmC x = some b) : ∃ t id, PlainAttrs t ∧ Slot t x id ∧ typeOf (.builtin id) = pure (.type "method_descriptor") ∧ HasTy S b t ∧ ∀ σ, MtR X id (GM S W σ (bmf b)) := by
  have hK := G.g.K
  unfold bmC at h
  split at h
  · rename_i e; cases h; subst e; exact ⟨"list", _, PySem.F.plainAttrs_list, PySem.F.slot_list_append, rfl, ty_lst (ok_lst (.inl rfl)), fun σ => g_append⟩
  split at h
  · rename_i e; cases h; subst e; exact ⟨"list", _, PySem.F.plainAttrs_list, PySem.F.slot_list_extend, rfl, ty_lst (ok_lst (.inr (.inl rfl))), fun σ => g_extend⟩
  split at h
  · rename_i e; cases h; subst e; exact ⟨"list", _, PySem.F.plainAttrs_list, PySem.F.slot_list_insert, rfl, ty_lst (ok_lst (.inr (.inr (.inl rfl)))), fun σ => g_insert⟩
  split at h
  · rename_i e; cases h; subst e; exact ⟨"list", _, PySem.F.plainAttrs_list, PySem.F.slot_list_clear, rfl, ty_lst (ok_lst (.inr (.inr (.inr rfl)))), fun σ => g_clear⟩
  split at h
  · rename_i e; cases h; subst e; exact ⟨"str", _, PySem.F.plainAttrs_str, PySem.F.slot_str_join, rfl, ty_str (ok_str (.inl rfl)), fun σ => g_join hK⟩
  split at h
  · rename_i e; cases h; subst e; exact ⟨"str", _, PySem.F.plainAttrs_str, PySem.F.slot_str_split, rfl, ty_str (ok_str (.inr (.inl rfl))), fun σ => g_split⟩
  split at h
  · rename_i e; cases h; subst e; exact ⟨"str", _, PySem.F.plainAttrs_str, PySem.F.slot_str_startswith, rfl, ty_str (ok_str (.inr (.inr rfl))), fun σ => g_startswith⟩
  split at h
  · rename_i e; cases h; subst e; exact ⟨"dict", _, PySem.F.plainAttrs_dict, PySem.F.slot_dict_get, rfl, ty_dct ok_dct, fun σ => g_get G.g.u1⟩
  cases h
theorem opC_ok (G : Gd X S W F T n) {op : Operator} {o : BOp} (h : opC op = some o) (σ : St) : OpR X (binaryOp op) (G2 S W σ (binop o)) := by
  cases op <;> first | cases h | skip
  · exact g_add G.g.K
  · exact g_sub
  · exact g_mul G.g.K
  · exact g_mod
  · exact g_pow
  · exact g_fdiv
theorem cmpC_ok (G : Gd X S W F T n) (op : CmpOp) (σ : St) : OpR X (compareOp op) (G2 S W σ (cmpop (cmpC op))) := by
  have hu := G.g.u0
  cases op
  · exact g_eq G.g.K (by omega)
  · exact g_ne G.g.K (by omega)
  · exact g_lt
  · exact g_le
  · exact g_gt
  · exact g_ge
  · exact g_is
  · exact g_isnt
  · exact g_in G.g.K hu
  · exact g_nin G.g.K hu
theorem e_name (G : Gd X S W F T n) (x : Str) (p : Pos) : PE X (.Name x p) (LE S W (evE F (cName T x))) := by
  unfold cName
  split
  · rename_i h
    obtain ⟨h1, h2, h3, h4⟩ := G.vis h
    exact e_var h1 h2 h3 h4
  · split
    · rename_i h
      obtain ⟨h1, h2, h3⟩ := G.glo h
      split
      · rename_i v hv
        obtain ⟨v', u, k1, k2, k3⟩ := G.vals _ _ hv
        exact e_lit (pe_glob h1 k1 k2 h2) k3
      · split
        · rename_i t ht
          obtain ⟨k1, k2⟩ := tyC_ok ht
          exact e_lit (v := .ty t) (pe_bltn h1 (G.blt x k2) k1 (rfl : RelV (.ty t) (.type t)) h3 h2) fun u H => rfl
        · exact e_stuck
    · exact e_stuck
theorem e_const (c : Const) (j : Nat) (p : Pos) : PE X (.Constant c j p) (LE S W (evE F (cConst c))) := by
  cases c with
  | none => exact e_lit pe_non fun u H => rfl
  | bool b => exact e_lit pe_bl fun u H => rfl
  | int i => exact e_lit pe_int fun u H => rfl
  | str x => exact e_lit pe_str fun u H => rfl
  | _ => exact e_stuck
theorem kdOf_ok (G : Gd X S W F T n) {x : Str} {d : List (PV × PV)} (h : kdOf T x = some d) : Gl X x ∧ (x == ("__debug__" : Str)) = false ∧ DctK X.K X.w S X.mg x d := by
  unfold kdOf at h
  split at h
  · rename_i hg
    obtain ⟨h1, h2, h3⟩ := G.glo hg
    exact ⟨h1, h2, G.dcts _ _ h⟩
  · cases h
theorem kin_bl {neg : Bool} {d : List (PV × PV)} {ca : CE} {r : Lv} {M : Mh} {z : PV} {M' : Mh} (h : evE F (.kin neg d ca) r M = .ok z M') : ∃ b, z = .bl b := by
  unfold evE at h
  obtain ⟨p, M3, _, h⟩ := bind_val h
  split at h
  · cases h; exact ⟨_, rfl⟩
  · cases h
theorem kin_imp {x : Str} {d : List (PV × PV)} {neg : Bool} {a : Addr} {ca : CE} {K : PySem.W.Frag} (hd : ∀ z : Str, (dGet d (.str z) = none ∧ PySem.W.nsIn K a z = some none) ∨ ∃ p u0 v0, dGet d (.str z) = some p ∧ PySem.W.nsIn K a z = some (some u0) ∧ RelV v0 u0 ∧ ∀ u H, Rep S u H p v0)
    {σ : St} {H : Hp} {Q : V → Hp → Prop} (q : LE S W (evE F (.kin neg d ca)) σ H Q) : tOp (fun x y H Q => ∃ (z : Str) (r : Option Value), x = .str z ∧ y = .ref a ∧ PySem.W.nsIn K a z = some r ∧ Q (.bl (xor neg r.isSome)) H) (LE S W (evE F ca)) (tC (.ref a)) σ H Q := by
  obtain ⟨u, M, r, s, e, h⟩ := q
  unfold evE at h
  refine LX.then s e h fun p M1 u1 H1 v s1 f1 e1 r1 h1 => ?_
  cases p with
  | str z =>
    cases r1
    rcases hd z with ⟨k1, k2⟩ | ⟨p, u0, v0, k1, k2, _⟩
    · refine ⟨z, none, rfl, rfl, k2, ?_⟩
      have h1 : Post S W σ (Rep S) u1 H1 (.ok (.bl (xor neg (dGet d (.str z)).isSome)) M1) Q := h1
      rw [k1] at h1
      exact Post.now h1 s1 rfl
    · refine ⟨z, some u0, rfl, rfl, k2, ?_⟩
      have h1 : Post S W σ (Rep S) u1 H1 (.ok (.bl (xor neg (dGet d (.str z)).isSome)) M1) Q := h1
      rw [k1] at h1
      exact Post.now h1 s1 rfl
  | _ => exact h1.elim
theorem OpR.kin {neg : Bool} {a : Addr} {es : Array DictEntry} {j : Nat} (D : KDict X.K X.w a es j) : OpR X (compareOp (if neg then .NotIn else .In)) (fun x y H Q => ∃ (z : Str) (r : Option Value), x = .str z ∧ y = .ref a ∧ PySem.W.nsIn X.K a z = some r ∧ Q (.bl (xor neg r.isSome)) H) := by
  cases neg with
  | false => exact OpR.imp (op_in_kd D) fun x y H Q ⟨z, r, h1, h2, h3, h4⟩ => ⟨z, r, h1, h2, h3, by simpa using h4⟩
  | true => exact OpR.imp (op_notIn_kd D) fun x y H Q ⟨z, r, h1, h2, h3, h4⟩ => ⟨z, r, h1, h2, h3, by simpa using h4⟩
theorem kdIn_ok {op : CmpOp} {b : Expr} {neg : Bool} {d : List (PV × PV)} (h : kdIn T op b = some (neg, d)) : ∃ x p, b = .Name x p ∧ op = (if neg then .NotIn else .In) ∧ kdOf T x = some d := by
  unfold kdIn at h
  split at h
  · obtain ⟨d', h1, h2⟩ := Option.map_eq_some_iff.mp h
    cases h2
    exact ⟨_, _, rfl, rfl, h1⟩
  · obtain ⟨d', h1, h2⟩ := Option.map_eq_some_iff.mp h
    cases h2
    exact ⟨_, _, rfl, rfl, h1⟩
  · cases h
theorem e_kin (G : Gd X S W F T n) {op : CmpOp} {a b : Expr} {neg : Bool} {d : List (PV × PV)} {pos : Pos} {ca : CE} (h : kdIn T op b = some (neg, d)) (ha : PE X a (LE S W (evE F ca))) : PE X (.Compare a [op] [b] pos) (LE S W (evE F (.kin neg d ca))) := by
  obtain ⟨x, p, rfl, rfl, hx⟩ := kdIn_ok h
  obtain ⟨h1, h2, c, es, j, h3, D, hd⟩ := kdOf_ok G hx
  exact PE.imp (pe_cmpR (OpR.kin (neg := neg) D) ha (pe_glob (v := .ref c) h1 h3 (rfl : RelV (.ref c) (.ref c)) h2) (by cases neg <;> rfl)) fun σ H Q q => kin_imp (x := x) hd q
theorem t_kin (G : Gd X S W F T n) {op : CmpOp} {a b : Expr} {neg : Bool} {d : List (PV × PV)} {pos : Pos} {ca : CE} (h : kdIn T op b = some (neg, d)) (ha : PE X a (LE S W (evE F ca))) : PT X (.Compare a [op] [b] pos) (LT' S W (evT F (.val (.kin neg d ca)))) := by
  obtain ⟨x, p, rfl, rfl, hx⟩ := kdIn_ok h
  obtain ⟨h1, h2, c, es, j, h3, D, hd⟩ := kdOf_ok G hx
  exact t_bool (fun r M z M' => kin_bl) (PT.imp (pt_cmpR (OpR.kin (neg := neg) D) ha (pe_glob (v := .ref c) h1 h3 (rfl : RelV (.ref c) (.ref c)) h2) (by cases neg <;> rfl)) fun σ H Q q => kin_imp (x := x) hd q)
theorem e_kix (G : Gd X S W F T n) {a b : Expr} {d : List (PV × PV)} {pos : Pos} {cb : CE} (h : kdIx T a = some d) (hs : PlainIx b) (hb : PE X b (LE S W (evE F cb))) : PE X (.Subscript a b pos) (LE S W (evE F (.kix d cb))) := by
  unfold kdIx at h
  split at h
  · obtain ⟨h1, h2, c, es, j, h3, D, hd⟩ := kdOf_ok G h
    refine PE.imp (pe_ix ix_kdict (pe_glob (v := .ref c) h1 h3 (rfl : RelV (.ref c) (.ref c)) h2) hb hs) fun σ H Q ⟨u, M, r, s, e, q⟩ => ?_
    unfold evE at q
    refine LX.then s e q fun p M1 u1 H1 v s1 f1 e1 r1 q1 => ?_
    cases p with
    | str z =>
      cases r1
      have q1 : Post S W σ (Rep S) u1 H1 (oP (dGet d (.str z)) M1) Q := q1
      rcases hd z with ⟨k1, k2⟩ | ⟨p, u0, v0, k1, k2, k3, k4⟩
      · rw [k1] at q1
        exact q1.elim
      · rw [k1] at q1
        exact ⟨c, z, v0, rfl, rfl, ⟨es, j, u0, D.at_, D.lit, k2, k3⟩, Post.now q1 s1 (k4 _ _)⟩
    | _ => exact q1.elim
  · cases h
theorem e_one {op : BoolOp} {b : Expr} {pos : Pos} {t : TE} (h : PE X b t) : PE X (.BoolOp op [b] pos) t := ⟨fun pins s σ H Q I q => by
  have e : eval (.BoolOp op [b] pos) X.env = eval b X.env := by
    rw [arm_eval_BoolOp]
    rfl
  rw [e]
  exact h.run pins s σ H Q I q⟩
end
end Pi
end
section
namespace Pi
open PySem PySem.Spec PyProof.Rows L2
section
variable {S : Sy} {F : Fs}
structure OkE (S : Sy) (F : Fs) (k : Nat) : Prop where
  e : ∀ {X : Cx} {W : WX} {T : Tb} {n : Nat}, Gd X S W F T n → ∀ e, PE X e (LE S W (evE F (cE k T e)))
  b : ∀ {X : Cx} {W : WX} {T : Tb} {n : Nat}, Gd X S W F T n → ∀ op es pos, PE X (.BoolOp op es pos) (LE S W (evE F (cB k T op es)))
  l : ∀ {X : Cx} {W : WX} {T : Tb} {n : Nat}, Gd X S W F T n → ∀ es, es.all notStar = true → PA X es (LA S W (evL F (cL k T es)))
  o : ∀ {X : Cx} {W : WX} {T : Tb} {n : Nat}, Gd X S W F T n → ∀ o, PO X o (LO S W (evO F (cO k T o)))
  t : ∀ {X : Cx} {W : WX} {T : Tb} {n : Nat}, Gd X S W F T n → ∀ e, PT X e (LT' S W (evT F (cT k T e)))
  tb : ∀ {X : Cx} {W : WX} {T : Tb} {n : Nat}, Gd X S W F T n → ∀ op es pos, PW X (.BoolOp op es pos) (LT' S W (evT F (cTB k T op es)))
  i : ∀ {X : Cx} {W : WX} {T : Tb} {n : Nat}, Gd X S W F T n → ∀ tg e, PI X tg e (LI S W (evI F (cI k T (isTup tg) e)))
theorem PT.stuck {X : Cx} {e : Expr} {t : TT} (h : ∀ σ H Q, ¬ t σ H Q) : PT X e t := ⟨fun _ _ _ _ _ _ q => (h _ _ _ q).elim⟩
theorem PW.stuck {X : Cx} {e : Expr} {t : TT} (h : ∀ σ H Q, ¬ t σ H Q) : PW X e t := ⟨fun _ _ _ _ _ _ _ q => (h _ _ _ q).elim⟩
variable {W : WX} {X : Cx} {T : Tb} {n : Nat}
theorem lt_stuck : ∀ σ H Q, ¬ LT' S W (evT F (.val .stuck)) σ H Q := fun σ H Q ⟨u, M, r, s, e, h⟩ => by
  unfold evT evE at h
  exact h
theorem t_stuck {e : Expr} : PT X e (LT' S W (evT F (.val .stuck))) := PT.stuck lt_stuck
theorem i_stuck {tg e : Expr} : PI X tg e (LI S W (evI F (.val .stuck))) := PI.stuck fun σ H Q ⟨u, M, r, s, e, h⟩ => by
  unfold evI evE at h
  exact h
theorem okE0 : OkE S F 0 where
  e := fun G e => by rw [cE]; exact e_stuck
  b := fun G op es pos => by rw [cB]; exact e_stuck
  l := fun G es h => by
    cases es with
    | nil => rw [cL]; exact a_nil
    | cons e es =>
      rw [cL]
      exact ⟨fun _ _ _ _ _ _ _ ⟨u, M, r, s, e, h⟩ => by
        unfold evL evE at h
        exact False.elim h⟩
  o := fun G o => by
    cases o with
    | none => rw [cO]; exact o_none
    | some e => rw [cO]; exact o_some e_stuck
  t := fun G e => by rw [cT]; exact t_stuck
  tb := fun G op es pos => by rw [cTB]; exact PW.stuck lt_stuck
  i := fun G tg e => by rw [cI]; exact i_stuck
theorem cL_len : ∀ {k : Nat} {es : List Expr}, es.length ≤ k → (cL k T es).len = es.length
  | 0, [], _ => by rw [cL]; rfl
  | k + 1, [], _ => by rw [cL]; rfl
  | 0, _ :: _, h => by simp at h
  | k + 1, e :: es, h => by
    rw [cL]
    show (cL k T es).len + 1 = _
    rw [cL_len (Nat.le_of_succ_le_succ h)]
    rfl
theorem keys_ok (G : Gd X S W F T n) {pos : Pos} : ∀ {j : Nat} {keys : List (Option Expr)} {ks : List PV} {values : List Expr}, (∀ i, i ≤ j → OkE S F i) → keysC keys = some ks → values.length = keys.length → values.length ≤ j →
    PPs X pos keys values (trsOf S W F ks (cL j T values)) ∧ keys.all (·.isSome) = true ∧ (cL j T values).len = ks.length
  | j, [], ks, values, oks, h, hl, hj => by
    cases h
    have : values = [] := List.eq_nil_of_length_eq_zero hl
    subst this
    refine ⟨?_, rfl, by rw [cL_len hj]; rfl⟩
    cases j <;> (rw [cL]; exact pps_nil)
  | 0, _ :: _, ks, values, oks, h, hl, hj => by
    rw [hl] at hj
    simp at hj
  | j + 1, key :: keys, ks, values, oks, h, hl, hj => by
    cases values with
    | nil => cases hl
    | cons v values =>
      have h' : (match keyEx key, keysC keys with
        | some p, some l => some (p :: l)
        | _, _ => none) = some ks := h
      split at h'
      · rename_i p l h1 h2
        cases h'
        obtain ⟨e, rfl, k2, k3⟩ := keyEx_ok h1
        rw [cL]
        obtain ⟨q1, q2, q3⟩ := keys_ok G (j := j) (fun i hi => oks i (Nat.le_succ_of_le hi)) h2 (Nat.succ.inj hl) (Nat.le_of_succ_le_succ hj)
        refine ⟨pps_cons (k3 X) ((oks j (Nat.le_succ j)).e G v) q1, by simpa using q2, ?_⟩
        show (cL j T values).len + 1 = l.length + 1
        rw [q3]
      · cases h'
theorem set_same {iter : Expr} (h : notSet iter = true) (env : PySem.Env) : ∀ x, foldedSetIterable iter env x = pure x := fun x => by
  cases iter <;> first | rfl | cases h
theorem plain_test {e : Expr} (h1 : ∀ a p, e ≠ .UnaryOp .Not a p) (h2 : ∀ o es p, e ≠ .BoolOp o es p) (h3 : ∀ a b c p, e ≠ .IfExp a b c p) (h4 : ∀ a o b p, e ≠ .Compare a o b p) (env : PySem.Env) : ∀ whole, isTrue e env whole = (do let v ← whole; standAt e.pos; holding [v] (truthy v)) := fun whole => by
  cases e with
  | UnaryOp o a p => cases o <;> first | rfl | exact absurd rfl (h1 _ _)
  | BoolOp o es p => exact absurd rfl (h2 _ _ _)
  | IfExp a b c p => exact absurd rfl (h3 _ _ _ _)
  | Compare a o b p => exact absurd rfl (h4 _ _ _ _)
  | _ => rfl
theorem chain_e {a b c : Expr} {op op' : CmpOp} {pos : Pos} (hm : behindInMarks op' c = false) {r r' : R2} {ta tb tc : TE} : OpR X (compareOp op) r → OpR X (compareOp op') r' → PE X a ta → PE X b tb → PE X c tc → PE X (.Compare a [op, op'] [b, c] pos) (tChain r r' ta tb tc) := fun h1 h2 h3 h4 h5 => pe_chain h1 h2 h3 h4 h5 hm
theorem chain_t {a b c : Expr} {op op' : CmpOp} {pos : Pos} (hm : behindInMarks op' c = false) {r r' : R2} {ta tb tc : TE} : OpR X (compareOp op) r → OpR X (compareOp op') r' → PE X a ta → PE X b tb → PE X c tc → PT X (.Compare a [op, op'] [b, c] pos) (tTest (tChain r r' ta tb tc)) := fun h1 h2 h3 h4 h5 => pt_chain h1 h2 h3 h4 h5 hm
theorem call_ok (G : Gd X S W F T n) {x : Str} {p pos : Pos} {e : Expr} {es : List Expr} {c : CE} {cs : CEs} {j : Nat} (ha : PA X (e :: es) (LA S W (evL F (.cons c cs)))) (hs : (e :: es).all notStar = true) :
    PE X (.Call (.Name x p) (e :: es) [] pos) (LE S W (evE F (cCall T x j (.cons c cs)))) := by
  have hs' := Bool.and_eq_true_iff.mp (show (notStar e && es.all notStar) = true from hs)
  unfold cCall
  split
  · rename_i h
    obtain ⟨h1, h2, h3, h4⟩ := G.vis h
    exact e_callv G.g (Nat.le_refl _) (fun y j hj => G.cv y j hj) h1 h2 h3 h4 ha hs
  · split
    · rename_i h
      obtain ⟨h1, h2, h3⟩ := G.glo h
      split
      · rename_i i hi
        exact e_call G.g (Nat.le_refl _) (G.fns _ _ hi) h1 h2 ha hs
      · split
        · rename_i i hi
          obtain ⟨k, hk, A⟩ := G.makes _ _ hi
          exact e_make G.g hk A h1 h2 ha hs
        · split
          · rename_i b hb
            obtain ⟨k0, ⟨id, k1, k2⟩ | ⟨t, k1, k2⟩⟩ := biC_ok (W := W) G hb
            · exact e_bi k2 h1 (G.blt _ k0) k1 h3 h2 ha (star_cons hs'.1 _ _) (stars_any hs'.2)
            · exact e_biT k2 h1 (G.blt _ k0) k1 h3 h2 ha (star_cons hs'.1 _ _) (stars_any hs'.2)
          · exact e_stuck
    · exact e_stuck
theorem blkC_own {scope : Scope} (h : blkC T.N T.sc scope (ownC T scope) = true) (G : Gd X S W F T n) : BlkOk X.N X.env.scope scope (ownC T scope) := by
  rw [G.N, G.sc]
  exact blkOk_by h
/-- a list comprehension's parts -/
theorem lc_parts {k : Nat} (ok : OkE S F k) (G : Gd X S W F T n) (elt tg iter : Expr) (ifs : List Expr) (scope : Scope) : cLC (k + 1) T elt tg iter ifs scope = .stuck ∨ ∃ (own : List (Str × Nat)) (t : Tg) (it : CI) (tst : CT) (ce : CE),
    cLC (k + 1) T elt tg iter ifs scope = .lc (own.map (·.2)) ce t it tst ∧ BlkOk X.N X.env.scope scope own ∧ tgIn t (own.map (·.2)) = true ∧ PI X tg iter (LI S W (evI F it)) ∧
    (∀ (s : Shared) (H : Hp) (C : Addr) (cl : List (Str × Addr)) (fp : List Addr), PG (X.blk s H scope (compEnvC scope cl C X.env) fp) tg (GTg S.K t)) ∧
    (∀ (s : Shared) (H : Hp) (C : Addr) (cl : List (Str × Addr)) (fp : List Addr), PTs (X.blk s H scope (compEnvC scope cl C X.env) fp) ifs (LT' S W0 (evT F tst))) ∧
    (∀ (s : Shared) (H : Hp) (C : Addr) (cl : List (Str × Addr)) (fp : List Addr), PE (X.blk s H scope (compEnvC scope cl C X.env) fp) elt (LE S W0 (evE F ce))) ∧ ∀ x, foldedSetIterable iter X.env x = pure x := by
  rw [cLC]
  split
  · rename_i t ht
    split
    · rename_i hc
      rw [Bool.and_eq_true, Bool.and_eq_true] at hc
      obtain ⟨⟨c1, c2⟩, c3⟩ := hc
      have hgg : ∀ (s : Shared) (H : Hp) (C : Addr) (cl : List (Str × Addr)) (fp : List Addr), PG (X.blk s H scope (compEnvC scope cl C X.env) fp) tg (GTg S.K t) := fun s H C cl fp => by
        have GB := G.blk s H scope C cl fp
        have hK : (X.blk s H scope (compEnvC scope cl C X.env) fp).K = S.K := GB.g.K
        rw [← hK]
        refine pg_of GB.g.calm GB.g.nd GB.sc (co := false) (fun h => by cases h) ?_
        rw [GB.N]
        exact ht
      split
      · exact .inr ⟨ownC T scope, t, _, _, _, rfl, blkC_own c1 G, c2, ok.i G tg iter, hgg, fun s H C cl fp => ⟨fun pins s σ H Q I q => pts_nil.run pins s σ H Q I (by
          obtain ⟨u, M, r, sm, e1, h⟩ := q
          unfold evT evE at h
          have h : Post S W0 σ RB u H (gcB M.length (.ok true M)) Q := h
          exact Post.now (Post.gcB (Nat.le_of_eq sm.len) h) sm rfl)⟩, fun s H C cl fp => ok.e (G.blk s H scope C cl fp) elt, set_same c3 _⟩
      · exact .inr ⟨ownC T scope, t, _, _, _, rfl, blkC_own c1 G, c2, ok.i G tg iter, hgg, fun s H C cl fp => pts_one (ok.t (G.blk s H scope C cl fp) _), fun s H C cl fp => ok.e (G.blk s H scope C cl fp) elt, set_same c3 _⟩
      · exact .inl rfl
    · exact .inl rfl
  · exact .inl rfl
theorem lc_pe {k : Nat} (ok : OkE S F k) (G : Gd X S W F T n) (elt tg iter : Expr) (ifs : List Expr) (scope : Scope) (pos : Pos) : PE X (.ListComp elt [⟨tg, iter, ifs, 0⟩] scope pos) (LE S W (evE F (cLC (k + 1) T elt tg iter ifs scope))) := by
  rcases lc_parts ok G elt tg iter ifs scope with h | ⟨own, t, it, tst, ce, h, h1, h2, h3, h4, h5, h6, h7⟩
  · rw [h]; exact e_stuck
  · rw [h]
    refine PE.imp (pe_lc G.g.calm G.g.nd h3 h1 h4 h5 h6 h7) fun σ H Q q => lc_ok h2 q
end
end Pi
end
section
namespace Pi
open PySem PySem.Spec PyProof.Rows L2
section
variable {S : Sy} {F : Fs} {W : WX} {X : Cx} {T : Tb} {n : Nat} {k : Nat}
theorem lc_pe' (oks : ∀ i, i ≤ k → OkE S F i) (G : Gd X S W F T n) (elt tg iter : Expr) (ifs : List Expr) (scope : Scope) (pos : Pos) : PE X (.ListComp elt [⟨tg, iter, ifs, 0⟩] scope pos) (LE S W (evE F (cLC k T elt tg iter ifs scope))) := by
  cases k with
  | zero => rw [cLC]; exact e_stuck
  | succ k => exact lc_pe (oks k (Nat.le_succ k)) G elt tg iter ifs scope pos
theorem dict_ok (oks : ∀ i, i ≤ k → OkE S F i) (G : Gd X S W F T n) (keys : List (Option Expr)) (values : List Expr) (pos : Pos) : PE X (.Dict keys values pos) (LE S W (evE F (cE (k + 1) T (.Dict keys values pos)))) := by
  rw [cE]
  split
  · rename_i h
    obtain ⟨h1, h2⟩ := Bool.and_eq_true_iff.mp h
    have e1 : keys = [] := List.isEmpty_iff.mp h1
    have e2 : values = [] := List.isEmpty_iff.mp h2
    subst e1 e2
    exact e_dct0
  · rename_i hne
    split
    · rename_i ks hks
      split
      · rename_i hc
        simp only [Bool.and_eq_true, decide_eq_true_eq] at hc
        obtain ⟨⟨c1, c2⟩, c3⟩ := hc
        obtain ⟨q1, q2, q3⟩ := keys_ok G (pos := pos) oks hks c1 (by omega)
        refine e_dct q1 q3 q2 c1.symm (fun e => hne ?_) c2
        subst e
        have : values = [] := List.eq_nil_of_length_eq_zero c1
        rw [this]; rfl
      · exact e_stuck
    · exact e_stuck
theorem meth_ok (oks : ∀ i, i ≤ k → OkE S F i) (G : Gd X S W F T n) (o : Expr) (m : Str) (apos : Pos) (es : List Expr) (pos : Pos) : PE X (.Call (.Attribute o m apos) es [] pos) (LE S W (evE F (cE (k + 1) T (.Call (.Attribute o m apos) es [] pos)))) := by
  have ok := oks k (Nat.le_refl k)
  rw [cE]
  split
  · rename_i hc
    simp only [Bool.and_eq_true, decide_eq_true_eq] at hc
    obtain ⟨⟨⟨c1, c2⟩, c3⟩, c4⟩ := hc
    have hl := ok.l G es c1
    split
    · rename_i ms hms
      cases es with
      | nil =>
        have e : cL k T [] = .nil := by cases k <;> rw [cL]
        rw [e]
        exact e_meth0 G.g (Nat.le_refl _) (fun C j hj => G.meths _ _ hms C j hj) (ok.e G _) c3 c4
      | cons a es =>
        cases k with
        | zero =>
          rw [cL] at hl ⊢
          exact e_meth G.g (Nat.le_refl _) (fun C j hj => G.meths _ _ hms C j hj) (ok.e G _) hl c3 c1 c2 c4
        | succ k =>
          rw [cL] at hl ⊢
          exact e_meth G.g (Nat.le_refl _) (fun C j hj => G.meths _ _ hms C j hj) (ok.e G _) hl c3 c1 c2 c4
    · split
      · rename_i b hb
        obtain ⟨t, id, k1, k2, k3, k4, k5⟩ := bmC_ok (W := W) G hb
        cases es with
        | nil =>
          have e : cL k T [] = .nil := by cases k <;> rw [cL]
          rw [e]
          exact e_bm0 G.g.K k4 k1 k2 k3 k5 (ok.e G _) c3 c4
        | cons a es =>
          cases k with
          | zero =>
            rw [cL] at hl ⊢
            exact e_bm G.g.K k4 k1 k2 k3 k5 (ok.e G _) hl c3 c1 c2 c4
          | succ k =>
            rw [cL] at hl ⊢
            exact e_bm G.g.K k4 k1 k2 k3 k5 (ok.e G _) hl c3 c1 c2 c4
      · exact e_stuck
  · exact e_stuck
theorem named_ok (oks : ∀ i, i ≤ k → OkE S F i) (G : Gd X S W F T n) (x : Str) (p : Pos) (e : Expr) (es : List Expr) (pos : Pos) : PE X (.Call (.Name x p) (e :: es) [] pos) (LE S W (evE F (cE (k + 1) T (.Call (.Name x p) (e :: es) [] pos)))) := by
  have ok := oks k (Nat.le_refl k)
  rw [cE]
  split
  · rename_i hc
    have hl := ok.l G _ hc
    cases k with
    | zero => rw [cL] at hl ⊢; exact call_ok G hl hc
    | succ k => rw [cL] at hl ⊢; exact call_ok G hl hc
  · exact e_stuck
theorem sub_ok (oks : ∀ i, i ≤ k → OkE S F i) (G : Gd X S W F T n) (a b : Expr) (pos : Pos) : PE X (.Subscript a b pos) (LE S W (evE F (cE (k + 1) T (.Subscript a b pos)))) := by
  have ok := oks k (Nat.le_refl k)
  by_cases hs : notSlice b = true
  · have e : cE (k + 1) T (.Subscript a b pos) = (match kdIx T a with
      | some d => .kix d (cE k T b)
      | none => .ix (cE k T a) (cE k T b)) := by
      cases b with
      | Slice _ _ _ _ => cases hs
      | _ => rw [cE] <;> first | exact if_pos hs | (intros; rename_i hq; cases hq)
    rw [e]
    split
    · rename_i d hd
      exact e_kix G hd (plain_ix hs) (ok.e G _)
    · exact e_ix G.g.K G.g.u1 (plain_ix hs) (ok.e G _) (ok.e G _)
  · cases b with
    | Slice lo hi st p2 =>
      cases st with
      | none =>
        rw [cE]
        exact e_slc G.g.K (ok.e G _) (ok.o G _) (ok.o G _)
      | some st =>
        have e : cE (k + 1) T (.Subscript a (.Slice lo hi (some st) p2) pos) = .stuck := by
          rw [cE] <;> first | exact if_neg hs | (intros; rename_i hq; cases hq)
        rw [e]
        exact e_stuck
    | _ => exact absurd rfl hs
theorem step_e (oks : ∀ i, i ≤ k → OkE S F i) (G : Gd X S W F T n) (e : Expr) : PE X e (LE S W (evE F (cE (k + 1) T e))) := by
  have ok := oks k (Nat.le_refl k)
  have hK := G.g.K
  cases e with
  | Name x p => rw [cE]; exact e_name G _ _
  | Constant c j p => rw [cE]; exact e_const _ _ _
  | BinOp a op b p =>
    rw [cE]
    split
    · rename_i o ho
      exact e_bin (opC_ok G ho) (ok.e G _) (ok.e G _)
    · exact e_stuck
  | UnaryOp op a p =>
    cases op with
    | USub => rw [cE]; exact e_neg (ok.e G _)
    | Not => rw [cE]; exact e_not (ok.e G _)
    | _ => rw [cE] <;> first | exact e_stuck | (intros; rename_i hq; cases hq)
  | BoolOp op es p => rw [cE]; exact ok.b G op es p
  | Compare a ops bs p =>
    have st : cE (k + 1) T (.Compare a ops bs p) = .stuck → PE X (.Compare a ops bs p) (LE S W (evE F (cE (k + 1) T (.Compare a ops bs p)))) := fun h => by rw [h]; exact e_stuck
    cases ops with
    | nil => exact st (by rw [cE] <;> (intros; rename_i hq; cases hq))
    | cons op ops =>
      cases bs with
      | nil => exact st (by rw [cE] <;> (intros; rename_i hq; cases hq))
      | cons b bs =>
        cases ops with
        | nil =>
          cases bs with
          | nil =>
            rw [cE]
            split
            · rename_i neg d hd
              exact e_kin G hd (ok.e G _)
            · split
              · rename_i hm
                exact e_cmp (cmpC_ok G op) hm (ok.e G _) (ok.e G _)
              · exact e_stuck
          | cons _ _ => exact st (by rw [cE] <;> (intros; rename_i hq; cases hq))
        | cons op' ops =>
          cases bs with
          | nil => exact st (by rw [cE] <;> (intros; rename_i hq; cases hq))
          | cons c bs =>
            cases ops with
            | nil =>
              cases bs with
              | nil =>
                rw [cE]
                split
                · rename_i hm
                  exact e_chain (cmpC_ok G op) (cmpC_ok G op') hm (ok.e G _) (ok.e G _) (ok.e G _) (chain_e hm)
                · exact e_stuck
              | cons _ _ => exact st (by rw [cE] <;> (intros; rename_i hq; cases hq))
            | cons _ _ => exact st (by rw [cE] <;> (intros; rename_i hq; cases hq))
  | IfExp c a b p => rw [cE]; exact e_ife (ok.t G _) (ok.e G _) (ok.e G _)
  | Tuple es j p =>
    rw [cE]
    split
    · rename_i h; exact e_tup (ok.l G _ h)
    · exact e_stuck
  | List es p =>
    rw [cE]
    split
    · rename_i h; exact e_lst (ok.l G _ h)
    · exact e_stuck
  | Dict keys values p => exact dict_ok oks G keys values p
  | Subscript a b p => exact sub_ok oks G a b p
  | Attribute o f p =>
    rw [cE]
    split
    · rename_i h
      obtain ⟨h1, h2⟩ := Bool.and_eq_true_iff.mp h
      exact e_fld hK (G.flds f h1) (ok.e G _) h2
    · exact e_stuck
  | Call f es kw p =>
    have st : cE (k + 1) T (.Call f es kw p) = .stuck → PE X (.Call f es kw p) (LE S W (evE F (cE (k + 1) T (.Call f es kw p)))) := fun h => by rw [h]; exact e_stuck
    cases kw with
    | cons _ _ => exact st (by rw [cE] <;> (intros; rename_i hq; cases hq))
    | nil =>
      cases f with
      | Name x q =>
        cases es with
        | nil => exact st (by rw [cE] <;> (intros; rename_i hq; cases hq))
        | cons e es => exact named_ok oks G x q e es p
      | Attribute o m q => exact meth_ok oks G o m q es p
      | _ => exact st (by rw [cE] <;> (intros; rename_i hq; cases hq))
  | ListComp elt gs scope p =>
    have st : cE (k + 1) T (.ListComp elt gs scope p) = .stuck → PE X (.ListComp elt gs scope p) (LE S W (evE F (cE (k + 1) T (.ListComp elt gs scope p)))) := fun h => by rw [h]; exact e_stuck
    cases gs with
    | nil => exact st (by rw [cE] <;> (intros; rename_i hq; cases hq))
    | cons g gs =>
      cases gs with
      | cons _ _ => exact st (by rw [cE] <;> (intros; rename_i hq; cases hq))
      | nil =>
        obtain ⟨tg, iter, ifs, a⟩ := g
        by_cases ha : a = 0
        · subst ha
          rw [cE]
          exact lc_pe' oks G elt tg iter ifs scope p
        · exact st (by
            rw [cE] <;> (intros; rename_i hq; cases hq; try exact ha rfl))
  | _ => rw [cE] <;> first | exact e_stuck | (intros; rename_i hq; cases hq)
theorem step_b (oks : ∀ i, i ≤ k → OkE S F i) (G : Gd X S W F T n) (op : BoolOp) (es : List Expr) (pos : Pos) : PE X (.BoolOp op es pos) (LE S W (evE F (cB (k + 1) T op es))) := by
  have ok := oks k (Nat.le_refl k)
  cases es with
  | nil => cases op <;> (rw [cB] <;> first | exact e_stuck | (intros; rename_i hq; cases hq))
  | cons a es =>
    cases es with
    | nil => rw [cB]; exact e_one (ok.e G a)
    | cons b r =>
      cases op with
      | And => rw [cB]; exact e_andn (ok.e G a) (ok.b G _ _ _)
      | Or => rw [cB]; exact e_orn (ok.e G a) (ok.b G _ _ _)
theorem step_l (oks : ∀ i, i ≤ k → OkE S F i) (G : Gd X S W F T n) (es : List Expr) (h : es.all notStar = true) : PA X es (LA S W (evL F (cL (k + 1) T es))) := by
  have ok := oks k (Nat.le_refl k)
  cases es with
  | nil => rw [cL]; exact a_nil
  | cons e es =>
    obtain ⟨h1, h2⟩ := Bool.and_eq_true_iff.mp (show (notStar e && es.all notStar) = true from h)
    rw [cL]
    exact a_cons (ok.e G e) (ok.l G es h2) (star_cons h1 _ _)
theorem step_o (oks : ∀ i, i ≤ k → OkE S F i) (G : Gd X S W F T n) (o : Option Expr) : PO X o (LO S W (evO F (cO (k + 1) T o))) := by
  have ok := oks k (Nat.le_refl k)
  cases o with
  | none => rw [cO]; exact o_none
  | some e => rw [cO]; exact o_some (ok.e G e)
theorem t_plain (ok : OkE S F k) (G : Gd X S W F T n) {e : Expr} (h1 : ∀ a p, e ≠ .UnaryOp .Not a p) (h2 : ∀ o es p, e ≠ .BoolOp o es p) (h3 : ∀ a b c p, e ≠ .IfExp a b c p) (h4 : ∀ a o b p, e ≠ .Compare a o b p) : PT X e (LT' S W (evT F (.val (cE k T e)))) :=
  t_val G.g.K (ok.e G e) (plain_test h1 h2 h3 h4 X.env)
theorem step_tb (oks : ∀ i, i ≤ k → OkE S F i) (G : Gd X S W F T n) (op : BoolOp) (es : List Expr) (pos : Pos) : PW X (.BoolOp op es pos) (LT' S W (evT F (cTB (k + 1) T op es))) := by
  have ok := oks k (Nat.le_refl k)
  cases es with
  | nil => cases op <;> (rw [cTB] <;> first | exact PW.stuck lt_stuck | (intros; rename_i hq; cases hq))
  | cons a es =>
    cases es with
    | nil =>
      rw [cTB]
      cases op with
      | And => exact pw_and1 (ok.t G a)
      | Or => exact pw_or1 (ok.t G a)
    | cons b r =>
      cases op with
      | And => rw [cTB]; exact t_and (ok.t G a) (ok.tb G _ _ _)
      | Or => rw [cTB]; exact t_or (ok.t G a) (ok.tb G _ _ _)
theorem step_t (oks : ∀ i, i ≤ k → OkE S F i) (G : Gd X S W F T n) (e : Expr) : PT X e (LT' S W (evT F (cT (k + 1) T e))) := by
  have ok := oks k (Nat.le_refl k)
  cases e with
  | UnaryOp op a p =>
    cases op with
    | Not => rw [cT]; exact t_not (ok.t G a)
    | _ =>
      rw [cT] <;> first | exact t_plain ok G (by intros; simp) (by intros; simp) (by intros; simp) (by intros; simp) | (intros; rename_i hq; cases hq)
  | BoolOp op es p => rw [cT]; exact (ok.tb G op es p).pt
  | IfExp a b c p => rw [cT]; exact t_stuck
  | Compare a ops bs p =>
    have st : cT (k + 1) T (.Compare a ops bs p) = .val .stuck → PT X (.Compare a ops bs p) (LT' S W (evT F (cT (k + 1) T (.Compare a ops bs p)))) := fun h => by rw [h]; exact t_stuck
    cases ops with
    | nil => exact st (by rw [cT] <;> (intros; rename_i hp hq; cases hq <;> cases hp))
    | cons op ops =>
      cases bs with
      | nil => exact st (by rw [cT] <;> (intros; rename_i hp hq; cases hq <;> cases hp))
      | cons b bs =>
        cases ops with
        | nil =>
          cases bs with
          | nil =>
            rw [cT]
            split
            · rename_i neg d hd
              exact t_kin G hd (ok.e G _)
            · split
              · rename_i hm
                exact t_cmp (cmpC_ok G op) hm (ok.e G _) (ok.e G _)
              · exact t_stuck
          | cons _ _ => exact st (by rw [cT] <;> (intros; rename_i hp hq; cases hq <;> cases hp))
        | cons op' ops =>
          cases bs with
          | nil => exact st (by rw [cT] <;> (intros; rename_i hp hq; cases hq <;> cases hp))
          | cons c bs =>
            cases ops with
            | nil =>
              cases bs with
              | nil =>
                rw [cT]
                split
                · rename_i hm
                  exact t_chain (cmpC_ok G op) (cmpC_ok G op') (ok.e G _) (ok.e G _) (ok.e G _) (chain_t hm)
                · exact t_stuck
              | cons _ _ => exact st (by rw [cT] <;> (intros; rename_i hp hq; cases hq <;> cases hp))
            | cons _ _ => exact st (by rw [cT] <;> (intros; rename_i hp hq; cases hq <;> cases hp))
  | _ =>
    rw [cT] <;> first | exact t_plain ok G (by intros; simp) (by intros; simp) (by intros; simp) (by intros; simp) | (intros; rename_i hq; cases hq)
theorem tg_tup {tg : Expr} (h : isTup tg = true) : ∃ es k p, tg = .Tuple es k p := by
  cases tg <;> first | exact ⟨_, _, _, rfl⟩ | cases h
theorem step_i (oks : ∀ i, i ≤ k → OkE S F i) (G : Gd X S W F T n) (tg e : Expr) : PI X tg e (LI S W (evI F (cI (k + 1) T (isTup tg) e))) := by
  have ok := oks k (Nat.le_refl k)
  have hK := G.g.K
  have gen : cI (k + 1) T (isTup tg) e = .val (cE k T e) → PI X tg e (LI S W (evI F (cI (k + 1) T (isTup tg) e))) := fun h => by rw [h]; exact i_val hK (ok.e G e)
  have hr : ("range" : Str) ∈ bltL := by decide +kernel
  have hz : ("zip" : Str) ∈ bltL := by decide +kernel
  have hn : ("enumerate" : Str) ∈ bltL := by decide +kernel
  cases e with
  | Call f es kw p =>
    cases kw with
    | cons _ _ => exact gen (by rw [cI] <;> (intros; rename_i hq; cases hq))
    | nil =>
      cases f with
      | Name x q =>
        cases es with
        | nil => exact gen (by rw [cI] <;> (intros; rename_i hq; cases hq))
        | cons a es =>
          cases es with
          | nil =>
            rw [cI]
            split
            · rename_i h
              simp only [Bool.and_eq_true, decide_eq_true_eq] at h
              obtain ⟨⟨h1, h2⟩, rfl⟩ := h
              obtain ⟨g1, g2, g3⟩ := G.glo h1
              exact i_rng1 g1 (G.blt _ hr) h2 (ok.e G a)
            · split
              · rename_i h
                simp only [Bool.and_eq_true, decide_eq_true_eq] at h
                obtain ⟨⟨⟨h1, h2⟩, h3⟩, rfl⟩ := h
                obtain ⟨g1, g2, g3⟩ := G.glo h1
                obtain ⟨es, j, p, rfl⟩ := tg_tup h3
                exact i_enum hK g1 (G.blt _ hn) h2 (ok.e G a)
              · exact i_val hK (ok.e G _)
          | cons b es =>
            cases es with
            | cons _ _ => exact gen (by rw [cI] <;> (intros; rename_i hq; cases hq))
            | nil =>
              rw [cI]
              split
              · rename_i h
                simp only [Bool.and_eq_true, decide_eq_true_eq] at h
                obtain ⟨⟨⟨h1, h2⟩, h3⟩, rfl⟩ := h
                obtain ⟨g1, g2, g3⟩ := G.glo h1
                exact i_rng2 g1 (G.blt _ hr) h2 h3 (ok.e G a) (ok.e G b)
              · split
                · rename_i h
                  simp only [Bool.and_eq_true, decide_eq_true_eq] at h
                  obtain ⟨⟨⟨⟨h1, h2⟩, h3⟩, h4⟩, rfl⟩ := h
                  obtain ⟨g1, g2, g3⟩ := G.glo h1
                  obtain ⟨es, j, p, rfl⟩ := tg_tup h4
                  exact i_zip hK g1 (G.blt _ hz) h2 h3 (ok.e G a) (ok.e G b)
                · exact i_val hK (ok.e G _)
      | _ => exact gen (by rw [cI] <;> (intros; rename_i hq; cases hq))
  | _ => exact gen (by rw [cI] <;> (intros; rename_i hq; cases hq))
theorem okE : ∀ k, OkE S F k := by
  suffices h : ∀ k i, i ≤ k → OkE S F i from fun k => h k k (Nat.le_refl k)
  intro k
  induction k with
  | zero =>
    intro i hi
    have : i = 0 := Nat.le_zero.mp hi
    subst this
    exact okE0
  | succ k ih =>
    intro i hi
    by_cases h : i ≤ k
    · exact ih i h
    · have : i = k + 1 := by omega
      subst this
      exact ⟨fun G e => step_e ih G e, fun G op es pos => step_b ih G op es pos, fun G es h => step_l ih G es h, fun G o => step_o ih G o, fun G e => step_t ih G e, fun G op es pos => step_tb ih G op es pos, fun G tg e => step_i ih G tg e⟩
end
end Pi
end
section
namespace Pi
open PySem PySem.Spec PyProof.Rows L2
def Tb.loc (T : Tb) (x : Str) : Bool := (T.sc.names.lookup x == some .local || (T.co && T.sc.names.lookup x == some .cell)) && decide (x ∈ T.N)
def notTuple : Expr → Bool
  | .Tuple _ _ _ => false
  | _ => true
def isFn : Scope → Bool
  | ⟨.function, _, _, _, _⟩ => true
  | _ => false
/-- a comprehension whose value is put at once into the name -/
def swC (T : Tb) (x : Str) (px : Pos) (scope : Scope) (p2 : Pos) : Bool := isFn T.sc && (T.sc.names.lookup x == some .local) && (px.line == p2.line) && !(scope.names.any fun (n, k) => n == x && (k == .local || k == .cell))
/-- name = e -/
def cAsg (k : Nat) (T : Tb) (x : Str) (px : Pos) (e : Expr) : CS := if T.loc x then (if notComp e then .asg (T.N.idxOf x) (cE k T e) else match e with
  | .ListComp elt [⟨tg, iter, ifs, 0⟩] scope p2 => if swC T x px scope p2 || T.sc.names.lookup x == some .cell then .asg (T.N.idxOf x) (cLC k T elt tg iter ifs scope) else .stuck
  | _ => .stuck) else .stuck
mutual
def cS : Nat → Tb → Stmt → CS
  | 0, _, _ => .stuck
  | _ + 1, _, .Pass _ => .pass
  | _ + 1, _, .Expr (.Constant (.str _) _ _) _ => .pass
  | k + 1, T, .Expr e _ => if notComp e then .expr (cE k T e) else .stuck
  | k + 1, T, .Return (some e) _ => .ret (cE k T e)
  | _ + 1, _, .Return none _ => .retn
  | k + 1, T, .If c a b _ => .iff (cT k T c) (cSs k T a) (cSs k T b)
  | k + 1, T, .For tg iter body [] _ => match cTg T.co T.N T.sc tg with
    | some t => if notSet iter then .forr t (cI k T (isTup tg) iter) (cSs k T body) else .stuck
    | none => .stuck
  | k + 1, T, .While c body [] _ => .whl (cT k T c) (cSs k T body)
  | k + 1, T, .Assign [.Name x px] e _ => cAsg k T x px e
  | k + 1, T, .Assign [.Tuple es a p] e _ => match cTg T.co T.N T.sc (.Tuple es a p) with
    | some (.tup is) => if notTuple e then .asgt is (cE k T e) else .stuck
    | _ => .stuck
  | k + 1, T, .Assign [.Subscript o i _] e _ => if notSlice i then .sets (cE k T o) (cE k T i) (cE k T e) else .stuck
  | k + 1, T, .Assign [.Attribute o f _] e _ => if T.flds.contains f then .setf (cE k T o) f (cE k T e) else .stuck
  | _ + 1, _, _ => .stuck
def cSs : Nat → Tb → List Stmt → CSs
  | 0, _, [] => .nil
  | 0, _, _ :: _ => .cons .stuck .nil
  | _ + 1, _, [] => .nil
  | k + 1, T, s :: r => .cons (cS k T s) (cSs k T r)
end
section
variable {S : Sy} {F : Fs} {W : WX} {X : Cx} {T : Tb} {n m : Nat}
theorem sws_tuple {es : List Expr} {a : Nat} {p : Pos} {e : Expr} {env : PySem.Env} (h : notTuple e = true) : swappedStores [.Tuple es a p] e env = pure none := by
  cases e <;> first | rfl | cases h
theorem isFn_ok {sc : Scope} (h : isFn sc = true) : sc.kind = .function := by
  unfold isFn at h
  split at h
  · rfl
  · cases h
theorem loc_ok (G : Gd X S W F T n) {x : Str} (h : T.loc x = true) : X.N[T.N.idxOf x]? = some x ∧ L2.Loc X.env.scope x ∧ (X.fn x = true ∨ X.env.scope.names.lookup x = some .local) := by
  unfold Tb.loc at h
  obtain ⟨h1, h2⟩ := Bool.and_eq_true_iff.mp h
  refine ⟨by rw [G.N]; exact idx_get (of_decide_eq_true h2), ?_, ?_⟩
  · rw [G.sc]
    rcases Bool.or_eq_true_iff.mp h1 with z | z
    · exact .inl (by simpa using z)
    · exact .inr (by simpa using (Bool.and_eq_true_iff.mp z).2)
  · rcases Bool.or_eq_true_iff.mp h1 with z | z
    · exact .inr (by rw [G.sc]; simpa using z)
    · exact .inl (G.co (Bool.and_eq_true_iff.mp z).1 x)
theorem s_stuckE {st : Stmt} {i : Nat} : PS X st (LS S W (evS m F (.asg i .stuck))) := PS.stuck fun D σ H ⟨u, M, r, s, e, h⟩ => by
  unfold evS evE at h
  exact h
theorem asg_ok (G : Gd X S W F T n) (k : Nat) (x : Str) (px : Pos) (e : Expr) (pos : Pos) : PS X (.Assign [.Name x px] e pos) (LS S W (evS m F (cAsg k T x px e))) := by
  unfold cAsg
  split
  · rename_i hx
    obtain ⟨h1, h2, h3⟩ := loc_ok G hx
    split
    · rename_i hc
      exact s_asg G.g.nd h1 h2 ((okE k).e G e) (sw_false hc) h3
    · split
      · rename_i elt tg iter ifs scope p2 _
        split
        · rename_i hsw
          rcases Bool.or_eq_true_iff.mp hsw with hs | hs
          · unfold swC at hs
            simp only [Bool.and_eq_true] at hs
            obtain ⟨⟨⟨c1, c2⟩, c3⟩, c4⟩ := hs
            have hyl : X.env.scope.names.lookup x = some .local := by rw [G.sc]; simpa using c2
            cases k with
            | zero => rw [cLC]; exact s_stuckE
            | succ k =>
              rcases lc_parts (okE k) G elt tg iter ifs scope with h | ⟨own, t, it, tst, ce, h, k1, k2, k3, k4, k5, k6, k7⟩
              · rw [h]; exact s_stuckE
              · rw [h]
                refine PS.imp (ps_setLc G.g.calm G.g.nd h1 hyl (sw_true (by rw [G.sc]; exact isFn_ok c1) hyl c3 (by simpa using c4)) k3 k1 k4 k5 k6 k7) fun D σ H q => ?_
                exact lc_ok k2 (asg_imp q)
          · have hyc : X.env.scope.names.lookup x = some .cell := by rw [G.sc]; simpa using hs
            cases k with
            | zero => rw [cLC]; exact s_stuckE
            | succ k => exact s_asg G.g.nd h1 h2 (lc_pe (okE k) G elt tg iter ifs scope _) (sw_cell hyc) h3
        · exact s_stuck
      · exact s_stuck
  · exact s_stuck
theorem ss_stuck {st : Stmt} {rest : List Stmt} : PSs X (st :: rest) (LS S W (evSs m F (.cons .stuck .nil))) := ⟨fun _ _ _ _ _ _ ⟨u, M, r, s, e, h⟩ => by
  unfold evSs evS at h
  exact False.elim h⟩
theorem stm_ok (G : Gd X S W F T n) (hp : PassesOwn (model X.prog X.w) X.A X.env X.xe) : ∀ k, (∀ st, PS X st (LS S W (evS m F (cS k T st)))) ∧ ∀ sts, PSs X sts (LS S W (evSs m F (cSs k T sts)))
  | 0 => by
    refine ⟨fun st => ?_, fun sts => ?_⟩
    · rw [cS]; exact s_stuck
    · cases sts with
      | nil => rw [cSs]; exact ss_nil
      | cons st sts => rw [cSs]; exact ss_stuck
  | k + 1 => by
    obtain ⟨ih1, ih2⟩ := stm_ok G hp k
    have ok := okE (S := S) (F := F) k
    have hK := G.g.K
    refine ⟨fun st => ?_, fun sts => ?_⟩
    · have stk : cS (k + 1) T st = .stuck → PS X st (LS S W (evS m F (cS (k + 1) T st))) := fun h => by rw [h]; exact s_stuck
      cases st with
      | Pass p => rw [cS]; exact s_pass
      | Return e p =>
        cases e with
        | none => rw [cS]; exact s_retn
        | some e => rw [cS]; exact s_ret (ok.e G e)
      | Expr e p =>
        by_cases hd : ∃ x j q, e = .Constant (.str x) j q
        · obtain ⟨x, j, q, rfl⟩ := hd
          rw [cS]
          exact s_doc
        · rw [cS]
          · split
            · rename_i hc
              exact s_expr (ok.e G e) (sw_false hc)
            · exact s_stuck
          · intro x j q e1
            exact hd ⟨x, j, q, e1⟩
      | If c a b p => rw [cS]; exact s_if (ok.t G c) (ih2 a) (ih2 b)
      | For tg iter body els p =>
        cases els with
        | cons _ _ => exact stk (by rw [cS] <;> (intros; rename_i hq; cases hq))
        | nil =>
          rw [cS]
          split
          · rename_i t ht
            split
            · rename_i hs
              refine s_for hK hp G.g.calm (ok.i G tg iter) (pg_of G.g.calm G.g.nd G.sc G.co ?_) (ih2 body) (set_same hs _)
              rw [G.N]
              exact ht
            · exact s_stuck
          · exact s_stuck
      | While c body els p =>
        cases els with
        | cons _ _ => exact stk (by rw [cS] <;> (intros; rename_i hq; cases hq))
        | nil => rw [cS]; exact s_while hp (ok.t G c) (ih2 body)
      | Assign tgs e p =>
        cases tgs with
        | nil => exact stk (by rw [cS] <;> (intros; rename_i hq; cases hq))
        | cons tg tgs =>
          cases tgs with
          | cons _ _ => exact stk (by rw [cS] <;> (intros; rename_i hq; cases hq))
          | nil =>
            cases tg with
            | Name x px => rw [cS]; exact asg_ok G k x px e p
            | Tuple es a q =>
              rw [cS]
              split
              · rename_i is ht
                split
                · rename_i hn
                  refine s_asgt hK (pg_of G.g.calm G.g.nd G.sc G.co (by rw [G.N]; exact ht)) (ok.e G e) (sw_tup (es := es) (k := a) (p := q) (l := p.line) (env := X.env)) (sws_tuple hn)
                · exact s_stuck
              · exact s_stuck
            | Subscript o i q =>
              rw [cS]
              split
              · rename_i hs
                exact s_sets G.g.u1 hs (ok.e G o) (ok.e G i) (ok.e G e)
              · exact s_stuck
            | Attribute o f q =>
              rw [cS]
              split
              · rename_i hf
                exact s_setf hK (G.flds f hf) (ok.e G o) (ok.e G e)
              · exact s_stuck
            | _ => exact stk (by rw [cS] <;> (intros; rename_i hq; cases hq))
      | _ => exact stk (by rw [cS] <;> (intros; rename_i hq; cases hq))
    · cases sts with
      | nil => rw [cSs]; exact ss_nil
      | cons st sts => rw [cSs]; exact ss_cons (ih1 st) (ih2 sts)
end
end Pi
end
section
namespace Pi
open PySem PySem.Spec PyProof.Rows L2
/-- what is known of the names, wherever code runs -/
structure Lk (P : Program) (w : World) (S : Sy) (mg : Str → Option Value) (base : Heap) (F : Fs) (T : Tb) (n : Nat) : Prop where
  fns : ∀ x i, T.fns.lookup x = some i → FnG P w S mg base n x (F.at_ i)
  vals : ∀ x p, T.vals.lookup x = some p → ∃ v u, mg x = some u ∧ RelV v u ∧ ∀ u' H', Rep S u' H' p v
  makes : ∀ x i, T.makes.lookup x = some i → ∃ k, k + 1 ≤ n ∧ MakeG P w S mg base k x (F.at_ i)
  meths : ∀ m ms, T.meths.lookup m = some ms → ∀ C j, ms.lookup C = some j → MethG P w S mg base n C m (F.at_ j)
  flds : ∀ f, T.flds.contains f = true → FldOk S F.cls f
  cv : ∀ y j, T.cv.lookup y = some j → FnA P w S mg base n (S.gA y) (F.at_ j)
  blt : ∀ x ∈ bltL, mg x = none
  dcts : ∀ x d, T.dcts.lookup x = some d → DctK S.K w S mg x d
section
variable {P : Program} {w : World} {S : Sy} {mg : Str → Option Value} {base : Heap} {F : Fs} {T : Tb} {n m : Nat}
theorem FnA.mono {k : Nat} {f : Addr} {mm : Mf} (h : FnA P w S mg base k f mm) (hk : k ≤ n) : FnA P w S mg base n f mm := ⟨by
  obtain ⟨fd, ps, h1, h2⟩ := h.ex
  exact ⟨fd, ps, h1.mono hk, h2⟩, h.kp⟩
theorem FnG.mono {k : Nat} {x : Str} {mm : Mf} (h : FnG P w S mg base k x mm) (hk : k ≤ n) : FnG P w S mg base n x mm := ⟨h.fn.mono hk, h.mg⟩
theorem MethG.mono {k : Nat} {C x : Str} {mm : Mf} (h : MethG P w S mg base k C x mm) (hk : k ≤ n) : MethG P w S mg base n C x mm := ⟨by
  obtain ⟨f, h1, h2, h3⟩ := h.ex
  exact ⟨f, h1, h2, h3.mono hk⟩⟩
theorem run_post {W : WX} {u : List Addr} {H : Hp} {M : Mh} {t : Rs} {Q : V → Hp → Prop} (hl : u.length ≤ M.length) (h : Post S W [] (Rep S) u H (gcX M.length t.res) Q) (hW : ∀ c d σ' H', W c d [] H' → W c d σ' H') : PostS S W { nx := fun _ H' => Q .non H', rt := Q } u H t := by
  have h := Post.gcX hl h
  cases t with
  | nx r M' => exact fun u' H' σ' s f e => h u' H' .non s f rfl
  | rt p M' => exact fun u' H' v s f e => h u' H' v s f e
  | ex C fs r M' => exact fun u' H' σ' d s f e x => hW _ _ _ _ (h u' H' d s f x)
  | stuck => exact h
theorem start_env {u : List Addr} {H : Hp} {vs : List V} {ps : List PV} (h : Reps S u H ps vs) (k : Nat) : REnv S u H (vs.map some ++ List.replicate k none) (ps.map some ++ List.replicate k none) := by
  refine ⟨by simp [h.length], fun i p hi => ?_⟩
  by_cases hl : i < ps.length
  · rw [List.getElem?_append_left (by simpa using hl), List.getElem?_map] at hi
    obtain ⟨q, h1, h2⟩ := Option.map_eq_some_iff.mp hi
    cases h2
    obtain ⟨v, h3, h4⟩ := h.get h1
    refine ⟨v, ?_, h4⟩
    rw [List.getElem?_append_left (by simpa [h.length] using hl), List.getElem?_map, h3]
    rfl
  · rw [List.getElem?_append_right (by simpa using hl)] at hi
    have := List.mem_of_getElem? hi
    rw [List.mem_replicate] at this
    cases this.2
/-- a def's body means what its code means -/
theorem fnOk_ok {x qual : Str} {params : Arguments} {body : List Stmt} {scope : Scope} {f : Addr} {fd : FuncData} {N ps : List Str} {fuel : Nat} {c : CSs} (D : FunD S.K x qual params body scope [] [] f fd) (Sc : FnScope N ps scope)
    (hN : T.N = N) (hsc : T.sc = scope) (L : Lk P w S mg base F T n) (hc : cSs fuel T body = c) : FnOk P w S.K mg base (L2.CX P w) (n + 1) f fd ps (spM S (runF F m ps.length (N.length - ps.length) c)) := by
  have len : ∀ vs H Q E, spM S (runF F m ps.length (N.length - ps.length) c) vs H Q E → vs.length = ps.length := fun vs H Q E ⟨u, M, pv, s, r, h⟩ => by
    unfold runF at h
    rw [r.length]
    by_cases e : pv.length = ps.length
    · exact e
    · rw [if_neg e] at h; exact h.elim
  refine FunD.ok D Sc len fun cdv A outer s H vs Q E hr hsp => ?_
  have hl := len vs H Q E hsp
  obtain ⟨u, M, pv, sm, r, h⟩ := hsp
  have e : pv.length = ps.length := by rw [← r.length]; exact hl
  unfold runF at h
  rw [if_pos e] at h
  have G : Gd (cxOf (L2.CX P w) P w S.K mg base N qual scope f cdv A outer s H E) S (fun cls d _ H' => E cls d H') F T n :=
    { g := ⟨rfl, rfl, Sc.nd, takes_of rfl rfl rfl rfl, hr⟩
      N := hN.symm
      sc := by rw [hsc]; rfl
      co := fun _ _ => rfl
      fns := L.fns
      vals := L.vals
      makes := L.makes
      meths := L.meths
      flds := L.flds
      cv := L.cv
      blt := L.blt
      dcts := L.dcts }
  refine ⟨LS S (fun cls d _ H' => E cls d H') (evSs m F c), ?_, ?_⟩
  · rw [← hc]
    exact (stm_ok G (passes_of rfl) fuel).2 body
  · refine ⟨u, M, _, sm, ?_, run_post (Nat.le_of_eq sm.len) h fun c d σ' H' q => q⟩
    unfold L2.start
    rw [hl]
    exact start_env r _
theorem fnA_ok {x qual : Str} {params : Arguments} {body : List Stmt} {scope : Scope} {f : Addr} {fd : FuncData} {N ps : List Str} {fuel : Nat} {c : CSs} (D : FunD S.K x qual params body scope [] [] f fd) (b : Binds S.K fd ps []) (Sc : FnScope N ps scope)
    (hN : T.N = N) (hsc : T.sc = scope) (L : Lk P w S mg base F T n) (hc : cSs fuel T body = c) : FnA P w S mg base (n + 1) f (runF F m ps.length (N.length - ps.length) c) := ⟨⟨fd, ps, fnOk_ok D Sc hN hsc L hc, b⟩, D.kp⟩
end
end Pi
end
section
namespace Pi
open PySem PySem.Spec PyProof.Rows L2 He
abbrev SyK (K : PySem.W.Frag) : Sy := ⟨K, ga K⟩
mutual
/-- a written value is p -/
def cpB (K : PySem.W.Frag) : PV → Value → Bool
  | .non, .none => true
  | .bl b, .bool c => b == c
  | .int i, .int j _ => decide (i = j)
  | .str x, .str y _ => decide (x = y)
  | .ty t, .type s => decide (t = s)
  | .fn x, .ref a => decide (a = ga K x)
  | .cls x, .ref a => decide (a = ga K x)
  | .ct l, .ref a => match K.lookup a with
    | some ⟨.type c, _, .seq its _, _⟩ => decide (c = "tuple") && (decide (its.size ≤ sizeLine) && cpsB K l its.toList)
    | _ => false
  | _, _ => false
def cpsB (K : PySem.W.Frag) : List PV → List Value → Bool
  | [], [] => true
  | p :: ps, u :: us => cpB K p u && cpsB K ps us
  | _, _ => false
end
mutual
theorem cpB_ok {K : PySem.W.Frag} : ∀ {p : PV} {u : Value}, cpB K p u = true → ∃ v, RelV v u ∧ ∀ u' H', Rep (SyK K) u' H' p v := fun {p u} h => by
  unfold cpB at h
  split at h
  · exact ⟨.non, rfl, fun _ _ => rfl⟩
  · exact ⟨.bl _, by rw [eq_of_beq h]; rfl, fun _ _ => rfl⟩
  · exact ⟨.int _, ⟨_, by rw [of_decide_eq_true h]⟩, fun _ _ => rfl⟩
  · exact ⟨.str _, ⟨_, by rw [of_decide_eq_true h]⟩, fun _ _ => rfl⟩
  · exact ⟨.ty _, by rw [of_decide_eq_true h]; rfl, fun _ _ => rfl⟩
  · exact ⟨.ref (ga K _), by rw [of_decide_eq_true h]; rfl, fun _ _ => rfl⟩
  · exact ⟨.ref (ga K _), by rw [of_decide_eq_true h]; rfl, fun _ _ => rfl⟩
  · rename_i l a
    split at h
    · rename_i c od its n sl q
      simp only [Bool.and_eq_true, decide_eq_true_eq] at h
      obtain ⟨h1, h2, h3⟩ := h
      obtain ⟨vs, k1, k2⟩ := cpsB_ok h3
      exact ⟨.ref a, rfl, fun u' H' => ⟨a, vs, rfl, ⟨_, its, n, q, by rw [h1], rfl, h2, k1⟩, k2 u' H'⟩⟩
    · cases h
  · cases h
theorem cpsB_ok {K : PySem.W.Frag} : ∀ {ps : List PV} {us : List Value}, cpsB K ps us = true → ∃ vs, Vals vs us ∧ ∀ u' H', Reps (SyK K) u' H' ps vs
  | [], [], _ => ⟨[], .nil, fun _ _ => rfl⟩
  | [], _ :: _, h => by unfold cpsB at h; cases h
  | _ :: _, [], h => by unfold cpsB at h; cases h
  | p :: ps, u :: us, h => by
    unfold cpsB at h
    obtain ⟨h1, h2⟩ := Bool.and_eq_true_iff.mp h
    obtain ⟨v, k1, k2⟩ := cpB_ok h1
    obtain ⟨vs, k3, k4⟩ := cpsB_ok h2
    exact ⟨v :: vs, .cons k1 k3, fun u' H' => ⟨v, vs, rfl, k2 u' H', k4 u' H'⟩⟩
end
/-- the module's name x stands for p -/
def valB (K : PySem.W.Frag) (q : Str × PV) : Bool := match PySem.W.nsIn K mainGlobals q.1 with
  | some (some u) => cpB K q.2 u
  | _ => false
theorem valB_ok {K : PySem.W.Frag} {h : Heap} {mg : Str → Option Value} (X : K.In h) (G : h.Ns mainGlobals mg) {q : Str × PV} (c : valB K q = true) : ∃ v u, mg q.1 = some u ∧ RelV v u ∧ ∀ u' H', Rep (SyK K) u' H' q.2 v := by
  unfold valB at c
  split at c
  · rename_i u e
    obtain ⟨v, h1, h2⟩ := cpB_ok c
    exact ⟨v, u, PySem.W.mg_of X G e, h1, h2⟩
  · cases c
/-- a text dict of the module -/
def tabB (K : PySem.W.Frag) (t : Str × List (Str × PV)) : Bool := t.2.all fun q => match PySem.W.nsIn K (ga K t.1) q.1 with
  | some (some u) => cpB K q.2 u
  | _ => false
def tabD (d : List (Str × PV)) : List (PV × PV) := d.map fun q => (.str q.1, q.2)
theorem keyOf_str {e : DictEntry} {k : Str} {hh : Int} (h : keyOf e = some (k, hh)) : ∃ t, e.key = .str k t := by
  unfold keyOf at h
  split at h
  · rename_i x t q
    cases h
    exact ⟨t, q⟩
  · cases h
theorem isStr_eq {a z : Str} {t : Tok} : (Value.str a t).isStr z = decide (a = z) := by
  show (a == z) = _
  by_cases h : a = z
  · rw [decide_eq_true h, h]
    exact beq_self_eq_true z
  · rw [decide_eq_false h]
    exact beq_eq_false_iff_ne.mpr h
theorem find_none {P : Params} : ∀ {l : List DictEntry} {ks : List Str}, l.map keyOf = keysIn P ks → ∀ z, z ∉ ks → l.find? (·.key.isStr z) = none ∧ l.any (·.refKey) = false
  | [], _, _, z, _ => ⟨rfl, rfl⟩
  | e :: r, [], h, _, _ => by cases h
  | e :: r, k :: ks, h, z, hz => by
    have h1 : keyOf e :: r.map keyOf = some (k, PyData.keyHash P k) :: keysIn P ks := h
    injection h1 with h2 h3
    obtain ⟨t, hk⟩ := keyOf_str h2
    obtain ⟨n1, n2⟩ : z ≠ k ∧ z ∉ ks := ⟨fun e => hz (by rw [e]; exact List.mem_cons_self), fun m => hz (List.mem_cons_of_mem _ m)⟩
    obtain ⟨q1, q2⟩ := find_none h3 z n2
    have e1 : e.key.isStr z = false := by
      rw [hk, isStr_eq]
      exact decide_eq_false fun e => n1 e.symm
    refine ⟨by rw [List.find?_cons, e1]; exact q1, ?_⟩
    rw [List.any_cons, q2]
    unfold DictEntry.refKey
    rw [hk]
    rfl
theorem dGet_none {d : List (Str × PV)} {z : Str} (h : z ∉ d.map (·.1)) : dGet (tabD d) (.str z) = none := by
  unfold dGet tabD
  rw [List.find?_eq_none.mpr]
  · rfl
  · intro e he
    obtain ⟨q, q1, rfl⟩ := List.mem_map.mp he
    simp only [PV.str.injEq, decide_eq_true_eq]
    intro e2
    exact h (List.mem_map.mpr ⟨q, q1, e2⟩)
theorem dGet_some : ∀ {d : List (Str × PV)} {z : Str}, z ∈ d.map (·.1) → ∃ q ∈ d, q.1 = z ∧ dGet (tabD d) (.str z) = some q.2
  | [], _, h => by cases h
  | q :: d, z, h => by
    by_cases e : q.1 = z
    · refine ⟨q, List.mem_cons_self, e, ?_⟩
      unfold dGet tabD
      rw [List.map_cons, List.find?_cons]
      simp [e]
    · have h' : z ∈ d.map (·.1) := by
        rcases List.mem_cons.mp h with y | y
        · exact absurd y.symm e
        · exact y
      obtain ⟨p, p1, p2, p3⟩ := dGet_some h'
      refine ⟨p, List.mem_cons_of_mem _ p1, p2, ?_⟩
      rw [← p3]
      unfold dGet tabD
      rw [List.map_cons, List.find?_cons]
      simp [e]
theorem tab_ok {K : PySem.W.Frag} {w : World} {h : Heap} {mg : Str → Option Value} (X : K.In h) (G : h.Ns mainGlobals mg) {t : Str × List (Str × PV)} (hg : (Fa.glo t.1).ok K = true) (hd : dicW K (ga K t.1) = some (keysIn w.params (t.2.map (·.1)))) (hv : tabB K t = true) :
    DctK K w (SyK K) mg t.1 (tabD t.2) := by
  obtain ⟨es, n, D⟩ := dicW_ok hd
  refine ⟨ga K t.1, es, n, glo_ok X G hg, D, fun z => ?_⟩
  by_cases hz : z ∈ t.2.map (·.1)
  · obtain ⟨q, q1, q2, q3⟩ := dGet_some hz
    have hq := List.all_eq_true.mp hv q q1
    split at hq
    · rename_i u e
      obtain ⟨v, k1, k2⟩ := cpB_ok hq
      exact .inr ⟨q.2, u, v, q3, by rw [← q2]; exact e, k1, k2⟩
    · cases hq
  · refine .inl ⟨dGet_none hz, ?_⟩
    unfold dicW at hd
    rw [D.at_] at hd
    have hd' : some (es.toList.map keyOf) = some (keysIn w.params (t.2.map (·.1))) := by
      have e1 : (decide (("dict" : String) = "dict") && ((#[] : Array (Option Value)).isEmpty && !(ga K t.1 == sysModules))) = true := by
        rw [D.low]; rfl
      dsimp only at hd
      rw [e1] at hd
      exact hd
    obtain ⟨f1, f2⟩ := find_none (Option.some.inj hd') z hz
    unfold PySem.W.nsIn
    rw [D.at_]
    dsimp only
    rw [f1]
    dsimp only
    rw [f2]
    rfl
abbrev AlP : Type := Bool × List FnW × List (Option (List (Option (Str × Int))))
/-- facts: kept by name (glo .. of the kit), values of names, text dicts -/
structure Ft where
  fa : List Fa
  vs : List (Str × PV)
  fn : List DefD
  ts : List (Str × List (Str × PV))
def obsP (f : Ft) (K : PySem.W.Frag) : AlP := ((f.fa.all fun a => a.ok K) && ((f.vs.all fun q => valB K q) && ((f.fn.all fun d => d.ok K) && f.ts.all fun t => (Fa.glo t.1).ok K && tabB K t)), f.fn.map fun d => fnW K d.at_, f.ts.map fun t => dicW K (ga K t.1))
def valP (f : Ft) (w : World) : AlP := (true, f.fn.map DefD.val, f.ts.map fun t => some (keysIn w.params (t.2.map (·.1))))
def SaysP (f : Ft) (w : World) (K : PySem.W.Frag) : Prop := obsP f K = valP f w
def obsPG (n : Nat) (f : Ft) (g : Addr → Option Obj) : AlP := obsP f (frG g (asD g n))
def hookP (n : Nat) (f : Ft) : PySem.W.Hook where
  α := AlP
  obs := fun s => obsPG n f s.heap.get?
  val := fun w => valP f w
  says := fun w h => ∃ K : PySem.W.Frag, K.In h ∧ SaysP f w K
  of := fun _ _ e => ⟨_, frG_in, e⟩
  keeps := fun _ _ _ ⟨K, hK, c⟩ k => ⟨K, PySem.W.Frag.In.keeps hK k, c⟩
theorem obsPG_eq {n : Nat} {f : Ft} {g : Addr → Option Obj} {s : Shared} (h : ∀ a, g a = s.heap.get? a) : obsPG n f g = (hookP n f).obs s := by
  have e : g = s.heap.get? := funext h
  rw [e] <;> rfl
section
variable {f : Ft} {w : World} {K : PySem.W.Frag}
theorem SaysP.b (c : SaysP f w K) : (∀ a ∈ f.fa, a.ok K = true) ∧ (∀ q ∈ f.vs, valB K q = true) ∧ (∀ d ∈ f.fn, d.ok K = true) ∧ ∀ t ∈ f.ts, (Fa.glo t.1).ok K = true ∧ tabB K t = true := by
  have h := ba (show ((f.fa.all fun a => a.ok K) && ((f.vs.all fun q => valB K q) && ((f.fn.all fun d => d.ok K) && f.ts.all fun t => (Fa.glo t.1).ok K && tabB K t))) = true from congrArg (fun z : AlP => z.1) c)
  obtain ⟨h1, h2⟩ := h
  obtain ⟨h3, h4⟩ := ba h2
  obtain ⟨h5, h6⟩ := ba h4
  exact ⟨List.all_eq_true.mp h1, List.all_eq_true.mp h3, List.all_eq_true.mp h5, fun t ht => ba (List.all_eq_true.mp h6 t ht)⟩
theorem SaysP.def_ (c : SaysP f w K) {d : DefD} (h : d ∈ f.fn) : ∃ fd, FunD K d.name d.qual d.params d.body d.scope (d.dvs K) (d.kws K) (fAd K d.at_) fd := by
  have e : f.fn.map (fun d => fnW K d.at_) = f.fn.map DefD.val := congrArg (fun z : AlP => z.2.1) c
  obtain ⟨i, hi, rfl⟩ := List.getElem_of_mem h
  have e2 : (f.fn.map fun d => fnW K d.at_)[i]? = (f.fn.map DefD.val)[i]? := by rw [e]
  rw [List.getElem?_map, List.getElem?_map, List.getElem?_eq_getElem hi] at e2
  exact DefD.funD (Option.some.inj e2) (c.b.2.2.1 _ h)
theorem SaysP.tab (c : SaysP f w K) {h : Heap} {mg : Str → Option Value} (X : K.In h) (G : h.Ns mainGlobals mg) {t : Str × List (Str × PV)} (ht : t ∈ f.ts) : DctK K w (SyK K) mg t.1 (tabD t.2) := by
  have e : f.ts.map (fun t => dicW K (ga K t.1)) = f.ts.map fun t => some (keysIn w.params (t.2.map (·.1))) := congrArg (fun z : AlP => z.2.2) c
  obtain ⟨i, hi, rfl⟩ := List.getElem_of_mem ht
  have e2 : (f.ts.map fun t => dicW K (ga K t.1))[i]? = (f.ts.map fun t => some (keysIn w.params (t.2.map (·.1))))[i]? := by rw [e]
  rw [List.getElem?_map, List.getElem?_map, List.getElem?_eq_getElem hi] at e2
  obtain ⟨k1, k2⟩ := c.b.2.2.2 _ ht
  exact tab_ok X G k1 (Option.some.inj e2) k2
end
end Pi
end
section
namespace Pi
open PySem PySem.Spec PyProof.Rows L2 He
section
variable {P : Program} {w : World} {K : PySem.W.Frag} {mg : Str → Option Value} {base : Heap} {F : Fs} {T : Tb} {n j : Nat} {nms : List Str}
theorem zip_look : ∀ {l : List Str} {k i : Nat} {x : Str}, (l.zipIdx k).lookup x = some i → k ≤ i ∧ l[i - k]? = some x
  | [], _, _, _, h => by cases h
  | a :: l, k, i, x, h => by
    rw [List.zipIdx_cons, List.lookup_cons] at h
    split at h
    · rename_i e
      cases h
      have : x = a := eq_of_beq e
      subst this
      exact ⟨Nat.le_refl _, by simp⟩
    · obtain ⟨h1, h2⟩ := zip_look (l := l) h
      refine ⟨by omega, ?_⟩
      have : i - k = (i - (k + 1)) + 1 := by omega
      rw [this, List.getElem?_cons_succ]
      exact h2
/-- the first j names stand for what F has -/
def Kn (P : Program) (w : World) (K : PySem.W.Frag) (mg : Str → Option Value) (base : Heap) (nms : List Str) (F : Fs) (j n : Nat) : Prop := ∀ i x, i < j → nms[i]? = some x → FnG P w (SyK K) mg base n x (F.at_ i)
theorem Kn.mono (h : Kn P w K mg base nms F j n) {m : Nat} (hm : n ≤ m) : Kn P w K mg base nms F j m := fun i x hi e => (h i x hi e).mono hm
theorem Kn.zero : Kn P w K mg base nms F 0 n := fun i x hi => absurd hi (Nat.not_lt_zero i)
theorem Kn.push {m : Mf} (h : Kn P w K mg base nms F j n) (hl : F.fns.length = j) {x : Str} (hx : nms[j]? = some x) (hm : FnG P w (SyK K) mg base (n + 1) x m) : Kn P w K mg base nms { F with fns := F.fns ++ [m] } (j + 1) (n + 1) := fun i y hi e => by
  by_cases h1 : i < j
  · have e1 : Fs.at_ { F with fns := F.fns ++ [m] } i = F.at_ i := by
      unfold Fs.at_
      dsimp only
      rw [List.getElem?_append_left (by rw [hl]; exact h1)]
    rw [e1]
    exact (h i y h1 e).mono (Nat.le_succ n)
  · have h2 : i = j := by omega
    subst h2
    have e1 : Fs.at_ { F with fns := F.fns ++ [m] } i = m := by
      unfold Fs.at_
      dsimp only
      rw [List.getElem?_append_right (by omega), hl, Nat.sub_self]
      rfl
    rw [e1]
    rw [hx] at e
    cases e
    exact hm
theorem Kn.push_ {m : Mf} (h : Kn P w K mg base nms F j n) (hl : F.fns.length = j) {x : Str} (hx : nms[j]? = some x) (hm : FnG P w (SyK K) mg base n x m) : Kn P w K mg base nms { F with fns := F.fns ++ [m] } (j + 1) n := fun i y hi e => by
  by_cases h1 : i < j
  · have e1 : Fs.at_ { F with fns := F.fns ++ [m] } i = F.at_ i := by
      unfold Fs.at_
      dsimp only
      rw [List.getElem?_append_left (by rw [hl]; exact h1)]
    rw [e1]
    exact h i y h1 e
  · have h2 : i = j := by omega
    subst h2
    have e1 : Fs.at_ { F with fns := F.fns ++ [m] } i = m := by
      unfold Fs.at_
      dsimp only
      rw [List.getElem?_append_right (by omega), hl, Nat.sub_self]
      rfl
    rw [e1]
    rw [hx] at e
    cases e
    exact hm
/-- what the head says, for a law -/
structure HdF (P : Program) (w : World) (K : PySem.W.Frag) (mg : Str → Option Value) (f : Ft) (nms : List Str) : Prop where
  defs : ∀ d ∈ f.fn, ∃ fd, FunD K d.name d.qual d.params d.body d.scope (d.dvs K) (d.kws K) (fAd K d.at_) fd
  glo : ∀ x ∈ nms, mg x = some (.ref (ga K x))
  vals : ∀ q ∈ f.vs, ∃ v u, mg q.1 = some u ∧ RelV v u ∧ ∀ u' H', Rep (SyK K) u' H' q.2 v
  blt : ∀ x ∈ bltL, mg x = none
  tabs : ∀ t ∈ f.ts, DctK K w (SyK K) mg t.1 (tabD t.2)
theorem hd_of {f : Ft} {h : Heap} (X : K.In h) (G : h.Ns mainGlobals mg) (c : SaysP f w K) (hg : ∀ x ∈ nms, Fa.glo x ∈ f.fa) (hb : ∀ x ∈ bltL, Fa.free x ∈ f.fa) : HdF P w K mg f nms where
  defs := fun d hd => c.def_ hd
  glo := fun x hx => glo_ok X G (c.b.1 _ (hg x hx))
  vals := fun q hq => valB_ok X G (c.b.2.1 q hq)
  blt := fun x hx => free_ok X G (c.b.1 _ (hb x hx))
  tabs := fun t ht => c.tab X G ht
theorem look_mem {α : Type} : ∀ {l : List (Str × α)} {x : Str} {p : α}, l.lookup x = some p → (x, p) ∈ l
  | [], _, _, h => by cases h
  | (a, b) :: l, x, p, h => by
    rw [List.lookup_cons] at h
    split at h
    · rename_i e
      cases h
      have : x = a := eq_of_beq e
      subst this
      exact List.mem_cons_self
    · exact List.mem_cons_of_mem _ (look_mem h)
/-- the tables of a def without classes -/
theorem lk_of {f : Ft} (H : HdF P w K mg f nms) (kn : Kn P w K mg base nms F j n) (h1 : T.fns = (nms.take j).zipIdx) (h2 : T.vals = f.vs) (h3 : T.makes = []) (h4 : T.meths = []) (h5 : T.flds = []) (h6 : ∀ y i, T.cv.lookup y = some i → i < j ∧ nms[i]? = some y) (h7 : T.dcts = f.ts.map fun t => (t.1, tabD t.2)) : Lk P w (SyK K) mg base F T n where
  fns := fun x i h => by
    rw [h1] at h
    obtain ⟨_, h8⟩ := zip_look h
    rw [Nat.sub_zero] at h8
    have hi : i < j := by
      have := (List.getElem?_eq_some_iff.mp h8).1
      rw [List.length_take] at this
      omega
    rw [List.getElem?_take_of_lt hi] at h8
    exact kn i x hi h8
  vals := fun x p h => by
    rw [h2] at h
    exact H.vals _ (look_mem h)
  makes := fun x i h => by rw [h3] at h; cases h
  meths := fun x i h => by rw [h4] at h; cases h
  flds := fun x h => by rw [h5] at h; cases h
  cv := fun y i h => by
    obtain ⟨k1, k2⟩ := h6 y i h
    exact (kn i y k1 k2).fn
  blt := H.blt
  dcts := fun x d h => by
    rw [h7] at h
    obtain ⟨t, k1, k2⟩ := List.mem_map.mp (look_mem h)
    cases k2
    exact H.tabs t k1
/-- a def of the module means its code -/
theorem fnG_ok {f : Ft} (H : HdF P w K mg f nms) {d : DefD} {N ps : List Str} {c : CSs} {m : Nat} (hd : d ∈ f.fn) (hx : d.name ∈ nms) (ha : d.at_ = (d.name, none)) (hf : d.dfl = []) (hw : d.kwd = [])
    (hb : ∀ (kV doc pm : Value) (an : Option Addr) (cdv ct : Value) (us : List Value), us.length = ps.length → bindArgs (PySem.W.fnOf d.name d.qual d.params d.body d.scope .none kV doc pm an cdv ct) ⟨us, []⟩ = pure (ps.zip us))
    (Sc : FnScope N ps d.scope) (hN : T.N = N) (hsc : T.sc = d.scope) (L : Lk P w (SyK K) mg base F T n) (hc : cSs 100 T d.body = c) : FnG P w (SyK K) mg base (n + 1) d.name (runF F m ps.length (N.length - ps.length) c) := by
  obtain ⟨fd, D⟩ := H.defs d hd
  have e1 : d.dvs K = [] := by unfold DefD.dvs; rw [hf]; rfl
  have e2 : d.kws K = [] := by unfold DefD.kws; rw [hw]; rfl
  have e3 : fAd K d.at_ = ga K d.name := by rw [ha]; rfl
  rw [e1, e2, e3] at D
  exact ⟨fnA_ok D (D.bindsN hb) Sc hN hsc L hc, H.glo _ hx⟩
/-- nothing is asked of what is stuck -/
theorem fnG_stuck {f : Ft} (H : HdF P w K mg f nms) {d : DefD} {ps : List Str} (hd : d ∈ f.fn) (hx : d.name ∈ nms) (ha : d.at_ = (d.name, none)) (hf : d.dfl = []) (hw : d.kwd = [])
    (hb : ∀ (kV doc pm : Value) (an : Option Addr) (cdv ct : Value) (us : List Value), us.length = ps.length → bindArgs (PySem.W.fnOf d.name d.qual d.params d.body d.scope .none kV doc pm an cdv ct) ⟨us, []⟩ = pure (ps.zip us)) : FnG P w (SyK K) mg base n d.name fun _ _ => .stuck := by
  obtain ⟨fd, D⟩ := H.defs d hd
  have e1 : d.dvs K = [] := by unfold DefD.dvs; rw [hf]; rfl
  have e2 : d.kws K = [] := by unfold DefD.kws; rw [hw]; rfl
  have e3 : fAd K d.at_ = ga K d.name := by rw [ha]; rfl
  rw [e1, e2, e3] at D
  exact ⟨⟨⟨fd, ps, ⟨fun vs H Q E ⟨_, _, _, _, _, h⟩ => h.elim, fun A outer s H args us vs Q E _ _ _ _ ⟨_, _, _, _, _, h⟩ => h.elim⟩, D.bindsN hb⟩, D.kp⟩, H.glo _ hx⟩
/-- a law's def, for the end -/
theorem law_ok {f : Ft} (H : HdF P w K mg f nms) {d : DefD} {N : List Str} {c : CSs} {m : Nat} {x : Str} (hd : d ∈ f.fn) (ha : d.at_ = (d.name, none)) (hf : d.dfl = []) (hw : d.kwd = [])
    (hb : ∀ (kV doc pm : Value) (an : Option Addr) (cdv ct : Value) (us : List Value), us.length = [x].length → bindArgs (PySem.W.fnOf d.name d.qual d.params d.body d.scope .none kV doc pm an cdv ct) ⟨us, []⟩ = pure (([x] : List Str).zip us))
    (Sc : FnScope N [x] d.scope) (hN : T.N = N) (hsc : T.sc = d.scope) (hc : cSs 100 T d.body = c) : ∃ fd : FuncData, (∀ (s : Shared) (v : Value), BindsTo s fd ⟨[v], []⟩ [(x, v)]) ∧
      ∀ base : Heap, Lk P w (SyK K) mg base F T n → FnOk P w K mg base (L2.CX P w) (n + 1) (ga K d.name) fd [x] (spM (SyK K) (runF F m 1 (N.length - 1) c)) := by
  obtain ⟨fd, D⟩ := H.defs d hd
  have e1 : d.dvs K = [] := by unfold DefD.dvs; rw [hf]; rfl
  have e2 : d.kws K = [] := by unfold DefD.kws; rw [hw]; rfl
  have e3 : fAd K d.at_ = ga K d.name := by rw [ha]; rfl
  rw [e1, e2, e3] at D
  exact ⟨fd, fun s v => D.bindsA hb s [v] rfl, fun base L => fnOk_ok D Sc hN hsc L hc⟩
theorem reps_ints {S : Sy} {u : List Addr} {H : Hp} : ∀ ns : List Int, Reps S u H (ns.map PV.int) (ns.map V.int)
  | [] => rfl
  | n :: ns => ⟨.int n, _, rfl, rfl, reps_ints ns⟩
/-- the law's promise from what its code computes -/
theorem law_says {m : Mf} {H : Hp} {a : Addr} {ns : List Int} {M' : Mh} (h : m [.scr (ns.map .int)] [] = .ok (.bl true) M') (hO : Only H) (hS : SqL K H a (ns.map V.int)) : spM (SyK K) m [.ref a] H (fun v _ => v = .bl true) fun _ _ _ => False := by
  refine ⟨[], [], [.scr (ns.map .int)], ⟨rfl, List.nodup_nil, fun k b o h1 _ => by simp at h1⟩, ⟨.ref a, [], rfl, ⟨a, ns.map V.int, rfl, ?_, reps_ints ns⟩, rfl⟩, ?_⟩
  · rcases hS with (h | h) | h
    · rcases hO a with z | ⟨o, xs, z⟩
      · rw [z] at h; cases h
      · rw [z] at h; cases h
    · exact .inl h
    · exact .inr h
  · rw [h]
    exact fun u' H' b _ _ q => q
theorem cv_ok {cv : List (Str × Nat)} (h : (cv.all fun q => decide (q.2 < j) && decide (nms[q.2]? = some q.1)) = true) : ∀ y i, cv.lookup y = some i → i < j ∧ nms[i]? = some y := fun y i e => by
  have := List.all_eq_true.mp h _ (look_mem e)
  rw [Bool.and_eq_true] at this
  exact ⟨of_decide_eq_true this.1, of_decide_eq_true this.2⟩
/-- where nothing may be let out -/
theorem fnOk_calm {k : Nat} {g : Addr} {fd : FuncData} {ps : List Str} {sp : Sp} (h : FnOk P w K mg base (L2.CX P w) k g fd ps sp) : FnOk P w K mg base CX0 k g fd ps (fun vs H Q _ => sp vs H Q fun _ _ _ => False) := by
  refine ⟨fun vs H Q E q => h.len _ _ _ _ q, fun A outer s H args us vs Q E hr e0 hb r q => codeAny_mono (h.run A outer s H args us vs Q (fun _ _ _ => False) hr e0 hb r q) fun x s' z => ?_⟩
  cases x with
  | ok f => cases f <;> exact z
  | error e =>
    have z : L2.CX P w outer H s (fun _ _ _ => False) e s' := z
    obtain ⟨_, _, _, _, _, _, _, _, _, _, _, _, z⟩ := z
    exact z.elim
end
end Pi
end
section
namespace Pi
open PySem PySem.Spec PyProof.Rows L2
/-- nothing in M refers beyond M -/
def Wf (M : Mh) : Prop := ∀ o ∈ M, o.low M.length = true
theorem gcOk_app {M E : Mh} (h : Wf M) : gcOk M.length (M ++ E) = true := by
  unfold gcOk
  rw [List.take_left']
  · exact List.all_eq_true.mpr h
  · rfl
theorem gcE_app {M E : Mh} {p : PV} (h : Wf M) (hp : p.low M.length = true) : gcE M.length (.ok p (M ++ E)) = .ok p M := by
  unfold gcE
  dsimp only
  split
  · rename_i hl
    have : E = [] := by
      rw [List.length_append] at hl
      exact List.eq_nil_of_length_eq_zero (by omega)
    rw [this, List.append_nil]
  · rw [hp, gcOk_app h]
    simp
theorem gcE_same {M : Mh} {p : PV} : gcE M.length (.ok p M) = .ok p M := by
  unfold gcE
  simp
theorem gcE_le {n : Nat} {M : Mh} {p : PV} (h : M.length ≤ n) : gcE n (.ok p M) = .ok p M := by
  unfold gcE
  simp [h]
theorem gcB_same {M : Mh} {p : Bool} : gcB M.length (.ok p M) = .ok p M := by
  unfold gcB
  simp
theorem gcB_app {M E : Mh} {p : Bool} (h : Wf M) : gcB M.length (.ok p (M ++ E)) = .ok p M := by
  unfold gcB
  dsimp only
  split
  · rename_i hl
    have : E = [] := by
      rw [List.length_append] at hl
      exact List.eq_nil_of_length_eq_zero (by omega)
    rw [this, List.append_nil]
  · rw [gcOk_app h]
    simp
theorem gcX_ok {n : Nat} {M : Mh} {p : PV} : gcX n (.ok p M) = gcE n (.ok p M) := rfl
theorem gcX_same {M : Mh} {p : PV} : gcX M.length (.ok p M) = .ok p M := gcE_same
theorem gcX_app {M E : Mh} {p : PV} (h : Wf M) (hp : p.low M.length = true) : gcX M.length (.ok p (M ++ E)) = .ok p M := gcE_app h hp
theorem eq_str {M : Mh} {x y : Str} (hx : PyData.strOk x = true) (hy : PyData.strOk y = true) : eqPV M (.str x) (.str y) = some (x == y) := by
  unfold eqPV
  show (if (SeqAt.shaped (.str x) && SeqAt.shaped (.str y)) = true then some (PyData.eqv (.str x) (.str y)) else none) = _
  have h1 : SeqAt.shaped (.str x) = true := by
    unfold SeqAt.shaped
    rw [PyData.canLay0, hx]
    rfl
  have h2 : SeqAt.shaped (.str y) = true := by
    unfold SeqAt.shaped
    rw [PyData.canLay0, hy]
    rfl
  rw [h1, h2, PyData.eqv]
  rfl
theorem eq_int {M : Mh} {i j : Int} : eqPV M (.int i) (.int j) = some (i == j) := by
  unfold eqPV
  show (if (SeqAt.shaped (.int i) && SeqAt.shaped (.int j)) = true then some (PyData.eqv (.int i) (.int j)) else none) = _
  have h1 : ∀ i, SeqAt.shaped (.int i) = true := fun i => by
    unfold SeqAt.shaped
    rw [PyData.canLay0]
    rfl
  rw [h1, h1, PyData.eqv]
  rfl
theorem lcGo_map {f : PV → Mh → Res (Option PV)} {w : Mh → Prop} {M : Mh} (hw : w M) (g : PV → PV) : ∀ {l : List PV}, (∀ x ∈ l, f x M = .ok (some (g x)) M) → lcGo f w l M = .ok (l.map g) M
  | [], _ => by
    unfold lcGo
    rw [if_pos hw]
    rfl
  | x :: l, h => by
    unfold lcGo
    rw [if_pos hw, h x List.mem_cons_self, bind_ok, lcGo_map hw g fun y hy => h y (List.mem_cons_of_mem _ hy), bind_ok]
    rfl
theorem lcGo_of {α : Type} (c g : α → PV) {f : PV → Mh → Res (Option PV)} {w : Mh → Prop} {M : Mh} (hw : w M) : ∀ {l : List α}, (∀ x ∈ l, f (c x) M = .ok (some (g x)) M) → lcGo f w (l.map c) M = .ok (l.map g) M
  | [], _ => by
    rw [List.map_nil, lcGo]
    rw [if_pos hw]
    rfl
  | x :: l, h => by
    rw [List.map_cons, lcGo]
    rw [if_pos hw, h x List.mem_cons_self, bind_ok, lcGo_of c g hw fun y hy => h y (List.mem_cons_of_mem _ hy), bind_ok]
    rfl
theorem noX_ok {α : Type} {a : α} {M : Mh} : noX (.ok a M) = .ok a M := rfl
mutual
theorem PV.low_mono {m n : Nat} (h : m ≤ n) : ∀ {p : PV}, p.low m = true → p.low n = true
  | .non, _ => rfl
  | .bl _, _ => rfl
  | .int _, _ => rfl
  | .str _, _ => rfl
  | .fn _, _ => rfl
  | .cls _, _ => rfl
  | .ty _, _ => rfl
  | .ref k, q => by
    have q : Nat.blt k m = true := by simpa only [PV.low] using q
    have q2 : k < m := by simpa using q
    simp only [PV.low]
    have : k < n := Nat.lt_of_lt_of_le q2 h
    simpa using this
  | .ct l, q => by
    simp only [PV.low] at q ⊢
    exact lows_mono h q
  | .tup l, q => by
    simp only [PV.low] at q ⊢
    exact lows_mono h q
  | .scr l, q => by
    simp only [PV.low] at q ⊢
    exact lows_mono h q
theorem lows_mono {m n : Nat} (h : m ≤ n) : ∀ {l : List PV}, lows m l = true → lows n l = true
  | [], _ => rfl
  | p :: l, q => by
    simp only [lows, Bool.and_eq_true] at q ⊢
    exact ⟨PV.low_mono h q.1, lows_mono h q.2⟩
end
theorem MO.low_mono {m n : Nat} (h : m ≤ n) {o : MO} (q : o.low m = true) : o.low n = true := by
  cases o with
  | lst l => exact lows_mono h q
  | dct l =>
    obtain ⟨q1, q2⟩ := Bool.and_eq_true_iff.mp (show (lows m (l.map (·.1)) && lows m (l.map (·.2))) = true from q)
    exact Bool.and_eq_true_iff.mpr ⟨lows_mono h q1, lows_mono h q2⟩
  | ins C fs => exact lows_mono h q
theorem Wf.push {M : Mh} {o : MO} (h : Wf M) (ho : o.low (M.length + 1) = true) : Wf (M ++ [o]) := by
  intro x hx
  rw [List.length_append]
  rcases List.mem_append.mp hx with y | y
  · exact MO.low_mono (Nat.le_add_right _ _) (h x y)
  · have : x = o := by simpa using y
    rw [this]
    exact ho
theorem Wf.set {M : Mh} {k : Nat} {o : MO} (h : Wf M) (ho : o.low M.length = true) : Wf (M.set k o) := by
  intro x hx
  rw [List.length_set]
  rcases List.mem_or_eq_of_mem_set hx with y | y
  · exact h x y
  · rw [y]; exact ho
theorem Wf.nil : Wf [] := fun _ h => by cases h
theorem lows_mem {n : Nat} : ∀ {l : List PV}, (∀ p ∈ l, p.low n = true) → lows n l = true
  | [], _ => rfl
  | p :: l, h => by
    simp only [lows, Bool.and_eq_true]
    exact ⟨h p List.mem_cons_self, lows_mem fun q hq => h q (List.mem_cons_of_mem _ hq)⟩
theorem forGo_nil {tg : Tg} {body : Lv → Mh → Rs} {g : Mh → Prop} {r : Lv} {M : Mh} (h : g M) : forGo tg body g [] r M = .nx r M := by
  unfold forGo
  rw [if_pos h]
theorem forGo_cons {tg : Tg} {body : Lv → Mh → Rs} {g : Mh → Prop} {x : PV} {xs : List PV} {r r1 : Lv} {M : Mh} (h : g M) (e : setT tg x r = some r1) : forGo tg body g (x :: xs) r M = (body r1 M).sb fun r2 M1 => forGo tg body g xs r2 M1 := by
  rw [forGo]
  rw [if_pos h, e]
theorem last_of {M : Mh} {o : MO} : (M ++ [o])[M.length]? = some o := by
  rw [List.getElem?_append_right (Nat.le_refl _)]
  simp
theorem set_last {M : Mh} {o o' : MO} {E : Mh} : (M ++ [o] ++ E).set M.length o' = M ++ [o'] ++ E := by
  rw [List.append_assoc, List.set_append_right _ _ (Nat.le_refl _), Nat.sub_self, List.append_assoc]
  rfl
/-- an item put behind the last list -/
theorem append_last {M E : Mh} {l : List PV} {p : PV} (hl : l.length < 16777216) : bmf .append (.ref M.length) [p] (M ++ [.lst l] ++ E) = .ok .non (M ++ [.lst (l ++ [p])] ++ E) := by
  have h : (M ++ [.lst l] ++ E)[M.length]? = some (.lst l) := by
    rw [List.getElem?_append_left (by simp)]
    exact last_of
  unfold bmf
  dsimp only
  rw [h]
  dsimp only
  rw [if_pos (by rw [sizeLine_eq]; exact hl)]
  unfold setO
  rw [set_last]
theorem append_here {M : Mh} {l : List PV} {p : PV} (hl : l.length < 16777216) : bmf .append (.ref M.length) [p] (M ++ [.lst l]) = .ok .non (M ++ [.lst (l ++ [p])]) := by
  have := append_last (M := M) (E := []) (p := p) hl
  simpa using this
theorem gcE_last {M E : Mh} {o o' : MO} {p : PV} (h : Wf (M ++ [o'])) (hp : p.low (M.length + 1) = true) : gcE (M ++ [o]).length (.ok p (M ++ [o'] ++ E)) = .ok p (M ++ [o']) := by
  have e : (M ++ [o]).length = (M ++ [o']).length := by simp
  rw [e]
  exact gcE_app h (by simpa using hp)
end Pi
end
section
namespace LawK80
open PySem PySem.Spec PyProof.Rows L2 Pi
def top (i : Nat) : Stmt := PySem.Challenge.pw_cutstand_k80_deeds_written.main.body.getD i (.Pass ⟨0, 0, 0, 0⟩)
def nms : List Str := ["line_of", "listed", "letter_text", "fall_text", "deed_text", "number_in", "sign_in", "pair_in", "letter_in", "small_in", "all_in", "way_in", "thing_in", "deed_by", "read_deed", "_law_feed", "_law_open", "_law_draw", "_law_line", "_law_commas", "_law_deed_text", "_law_number", "_law_throw", "_law_fall", "_law_any_deed", "_law_alike", "law"]
def vals : List (Str × PV) := [("FEW_FIGURES", (.int (9))), ("FIGURES", (.str "0123456789")), ("LETTERS", (.str "abcdefghijklmnopqrstuvwxyz")), ("MANY_FIGURES", (.int (10))), ("letter_in", (.fn "letter_in")), ("small_in", (.fn "small_in"))]
def tabs : List (Str × List (Str × PV)) := [("MORE_SHAPES", [("throw", (.str "number")), ("fall", (.str "way"))]), ("SHAPES", [("own", (.ct [(.str "number")])), ("hear", (.ct [(.str "number"), (.str "sign")])), ("come", (.ct [(.str "letter")])), ("keep", (.ct [(.str "number")])), ("note", (.ct [(.str "number"), (.str "number")])), ("tell", (.ct [(.str "number"), (.str "number")])), ("throw", (.ct [(.str "number")])), ("fall", (.ct [(.str "numbers"), (.str "numbers")]))])]
def dcts : List (Str × List (PV × PV)) := tabs.map fun t => (t.1, tabD t.2)
abbrev d_line_of : He.DefD := ⟨("line_of", none), "line_of", "line_of", defArgs (top 1), defBody (top 1), defScope (top 1), [], []⟩
def N_line_of : List Str := ["words", "word"]
def T_line_of : Tb := { N := N_line_of, sc := d_line_of.scope, fns := (nms.take 0).zipIdx, vals := vals, cv := [], dcts := dcts }
abbrev d_listed : He.DefD := ⟨("listed", none), "listed", "listed", defArgs (top 2), defBody (top 2), defScope (top 2), [], []⟩
def N_listed : List Str := ["things", "thing"]
def T_listed : Tb := { N := N_listed, sc := d_listed.scope, fns := (nms.take 1).zipIdx, vals := vals, cv := [], dcts := dcts }
abbrev d_letter_text : He.DefD := ⟨("letter_text", none), "letter_text", "letter_text", defArgs (top 3), defBody (top 3), defScope (top 3), [], []⟩
def N_letter_text : List Str := ["letter"]
def T_letter_text : Tb := { N := N_letter_text, sc := d_letter_text.scope, fns := (nms.take 2).zipIdx, vals := vals, cv := [], dcts := dcts }
abbrev d_fall_text : He.DefD := ⟨("fall_text", none), "fall_text", "fall_text", defArgs (top 4), defBody (top 4), defScope (top 4), [], []⟩
def N_fall_text : List Str := ["machines", "line", "ways", "words", "machine", "way", "letter"]
def T_fall_text : Tb := { N := N_fall_text, sc := d_fall_text.scope, fns := (nms.take 3).zipIdx, vals := vals, cv := [], dcts := dcts }
abbrev d_deed_text : He.DefD := ⟨("deed_text", none), "deed_text", "deed_text", defArgs (top 5), defBody (top 5), defScope (top 5), [], []⟩
def N_deed_text : List Str := ["deed"]
def T_deed_text : Tb := { N := N_deed_text, sc := d_deed_text.scope, fns := (nms.take 4).zipIdx, vals := vals, cv := [], dcts := dcts }
abbrev d_number_in : He.DefD := ⟨("number_in", none), "number_in", "number_in", defArgs (top 16), defBody (top 16), defScope (top 16), [], []⟩
def N_number_in : List Str := ["word", "figures", "sign"]
def T_number_in : Tb := { N := N_number_in, sc := d_number_in.scope, fns := (nms.take 5).zipIdx, vals := vals, cv := [], dcts := dcts }
abbrev d_sign_in : He.DefD := ⟨("sign_in", none), "sign_in", "sign_in", defArgs (top 17), defBody (top 17), defScope (top 17), [], []⟩
def N_sign_in : List Str := ["word"]
def T_sign_in : Tb := { N := N_sign_in, sc := d_sign_in.scope, fns := (nms.take 6).zipIdx, vals := vals, cv := [], dcts := dcts }
abbrev d_pair_in : He.DefD := ⟨("pair_in", none), "pair_in", "pair_in", defArgs (top 18), defBody (top 18), defScope (top 18), [], []⟩
def N_pair_in : List Str := ["word", "mark", "halves"]
def T_pair_in : Tb := { N := N_pair_in, sc := d_pair_in.scope, fns := (nms.take 7).zipIdx, vals := vals, cv := [], dcts := dcts }
abbrev d_letter_in : He.DefD := ⟨("letter_in", none), "letter_in", "letter_in", defArgs (top 19), defBody (top 19), defScope (top 19), [], []⟩
def N_letter_in : List Str := ["word", "halves", "letter"]
def T_letter_in : Tb := { N := N_letter_in, sc := d_letter_in.scope, fns := (nms.take 8).zipIdx, vals := vals, cv := [], dcts := dcts }
abbrev d_small_in : He.DefD := ⟨("small_in", none), "small_in", "small_in", defArgs (top 21), defBody (top 21), defScope (top 21), [], []⟩
def N_small_in : List Str := ["word"]
def T_small_in : Tb := { N := N_small_in, sc := d_small_in.scope, fns := (nms.take 9).zipIdx, vals := vals, cv := [], dcts := dcts }
abbrev d_all_in : He.DefD := ⟨("all_in", none), "all_in", "all_in", defArgs (top 20), defBody (top 20), defScope (top 20), [], []⟩
def N_all_in : List Str := ["word", "read_one", "found", "one"]
def T_all_in : Tb := { N := N_all_in, sc := d_all_in.scope, fns := (nms.take 10).zipIdx, vals := vals, cv := [("small_in", 9), ("letter_in", 8)], dcts := dcts }
abbrev d_way_in : He.DefD := ⟨("way_in", none), "way_in", "way_in", defArgs (top 22), defBody (top 22), defScope (top 22), [], []⟩
def N_way_in : List Str := ["word", "halves", "found"]
def T_way_in : Tb := { N := N_way_in, sc := d_way_in.scope, fns := (nms.take 11).zipIdx, vals := vals, cv := [], dcts := dcts }
abbrev d_thing_in : He.DefD := ⟨("thing_in", none), "thing_in", "thing_in", defArgs (top 23), defBody (top 23), defScope (top 23), [], []⟩
def N_thing_in : List Str := ["shape", "word"]
def T_thing_in : Tb := { N := N_thing_in, sc := d_thing_in.scope, fns := (nms.take 12).zipIdx, vals := vals, cv := [], dcts := dcts }
abbrev d_deed_by : He.DefD := ⟨("deed_by", none), "deed_by", "deed_by", defArgs (top 24), defBody (top 24), defScope (top 24), [], []⟩
def N_deed_by : List Str := ["head", "things"]
def T_deed_by : Tb := { N := N_deed_by, sc := d_deed_by.scope, fns := (nms.take 13).zipIdx, vals := vals, cv := [], dcts := dcts }
abbrev d_read_deed : He.DefD := ⟨("read_deed", none), "read_deed", "read_deed", defArgs (top 25), defBody (top 25), defScope (top 25), [], []⟩
def N_read_deed : List Str := ["text", "words", "shapes", "things", "at", "thing", "word"]
def T_read_deed : Tb := { N := N_read_deed, sc := d_read_deed.scope, fns := (nms.take 14).zipIdx, vals := vals, cv := [], dcts := dcts }
abbrev d__law_feed : He.DefD := ⟨("_law_feed", none), "_law_feed", "_law_feed", defArgs (top 27), defBody (top 27), defScope (top 27), [], []⟩
def N__law_feed : List Str := ["_law_script"]
def T__law_feed : Tb := { N := N__law_feed, sc := d__law_feed.scope, fns := (nms.take 15).zipIdx, vals := vals, cv := [], dcts := dcts }
abbrev d__law_open : He.DefD := ⟨("_law_open", none), "_law_open", "_law_open", defArgs (top 28), defBody (top 28), defScope (top 28), [], []⟩
def N__law_open : List Str := ["_law_feed_here", "_law_k"]
def T__law_open : Tb := { N := N__law_open, sc := d__law_open.scope, fns := (nms.take 16).zipIdx, vals := vals, cv := [], dcts := dcts }
abbrev d__law_draw : He.DefD := ⟨("_law_draw", none), "_law_draw", "_law_draw", defArgs (top 29), defBody (top 29), defScope (top 29), [], []⟩
def N__law_draw : List Str := ["_law_feed_here", "_law_many", "_law_cell", "_law_turn", "_law_mixed"]
def T__law_draw : Tb := { N := N__law_draw, sc := d__law_draw.scope, fns := (nms.take 17).zipIdx, vals := vals, cv := [], dcts := dcts }
abbrev d__law_line : He.DefD := ⟨("_law_line", none), "_law_line", "_law_line", defArgs (top 30), defBody (top 30), defScope (top 30), [], []⟩
def N__law_line : List Str := ["_law_words", "_law_word"]
def T__law_line : Tb := { N := N__law_line, sc := d__law_line.scope, fns := (nms.take 18).zipIdx, vals := vals, cv := [], dcts := dcts }
abbrev d__law_commas : He.DefD := ⟨("_law_commas", none), "_law_commas", "_law_commas", defArgs (top 31), defBody (top 31), defScope (top 31), [], []⟩
def N__law_commas : List Str := ["_law_things", "_law_thing"]
def T__law_commas : Tb := { N := N__law_commas, sc := d__law_commas.scope, fns := (nms.take 19).zipIdx, vals := vals, cv := [], dcts := dcts }
abbrev d__law_deed_text : He.DefD := ⟨("_law_deed_text", none), "_law_deed_text", "_law_deed_text", defArgs (top 32), defBody (top 32), defScope (top 32), [], []⟩
def N__law_deed_text : List Str := ["_law_deed", "_law_ways", "_law_machine", "_law_way", "_law_road", "_law_k"]
def T__law_deed_text : Tb := { N := N__law_deed_text, sc := d__law_deed_text.scope, fns := (nms.take 20).zipIdx, vals := vals, cv := [], dcts := dcts }
abbrev d__law_number : He.DefD := ⟨("_law_number", none), "_law_number", "_law_number", defArgs (top 33), defBody (top 33), defScope (top 33), [], []⟩
def N__law_number : List Str := ["_law_feed_here", "_law_some"]
def T__law_number : Tb := { N := N__law_number, sc := d__law_number.scope, fns := (nms.take 21).zipIdx, vals := vals, cv := [], dcts := dcts }
abbrev d__law_throw : He.DefD := ⟨("_law_throw", none), "_law_throw", "_law_throw", defArgs (top 35), defBody (top 35), defScope (top 35), [], []⟩
def N__law_throw : List Str := ["_law_feed_here", "_law_k"]
def T__law_throw : Tb := { N := N__law_throw, sc := d__law_throw.scope, fns := (nms.take 22).zipIdx, vals := vals, cv := [], dcts := dcts }
abbrev d__law_fall : He.DefD := ⟨("_law_fall", none), "_law_fall", "_law_fall", defArgs (top 36), defBody (top 36), defScope (top 36), [], []⟩
def N__law_fall : List Str := ["_law_feed_here", "_law_ways", "_law_k", "_law_machines", "_law_line_here", "_law_way", "_law_j"]
def T__law_fall : Tb := { N := N__law_fall, sc := d__law_fall.scope, fns := (nms.take 23).zipIdx, vals := vals, cv := [], dcts := dcts }
abbrev d__law_any_deed : He.DefD := ⟨("_law_any_deed", none), "_law_any_deed", "_law_any_deed", defArgs (top 34), defBody (top 34), defScope (top 34), [], []⟩
def N__law_any_deed : List Str := ["_law_feed_here", "_law_way"]
def T__law_any_deed : Tb := { N := N__law_any_deed, sc := d__law_any_deed.scope, fns := (nms.take 24).zipIdx, vals := vals, cv := [], dcts := dcts }
abbrev d__law_alike : He.DefD := ⟨("_law_alike", none), "_law_alike", "_law_alike", defArgs (top 37), defBody (top 37), defScope (top 37), [], []⟩
def N__law_alike : List Str := ["_law_found", "_law_due", "_law_kind", "_law_one", "_law_other"]
def T__law_alike : Tb := { N := N__law_alike, sc := d__law_alike.scope, fns := (nms.take 26).zipIdx, vals := vals, cv := [], dcts := dcts }
abbrev d_law : He.DefD := ⟨("law", none), "law", "law", defArgs (top 38), defBody (top 38), defScope (top 38), [], []⟩
def N_law : List Str := ["_law_script", "_law_feed_here", "_law_k", "_law_deed", "_law_text"]
def T_law : Tb := { N := N_law, sc := d_law.scope, fns := (nms.take 26).zipIdx, vals := vals, cv := [], dcts := dcts }
end LawK80
end
section
namespace LawK80
open PySem PySem.Spec PyProof.Rows L2 Pi
def F_0 : Fs := { fns := [] }
def c_line_of : CSs := (.cons (.ret (.bm .join (.lit (.str " ")) (.cons (.lc [1] (.bi .str (.cons (.var 1) .nil)) (.one 1) (.val (.var 0)) (.val (.lit (.bl true)))) .nil))) .nil)
theorem cc_line_of : cSs 100 T_line_of d_line_of.body = c_line_of := by kernel_rfl
theorem sc_line_of : FnScope N_line_of ["words"] d_line_of.scope := ⟨rfl, rfl, rfl, by decide +kernel, rfl, by decide +kernel, by decide +kernel⟩
noncomputable def m_line_of : Mf := runF F_0 0 1 1 c_line_of
noncomputable def F_1 : Fs := { F_0 with fns := F_0.fns ++ [m_line_of] }
def c_listed : CSs := (.cons (.ret (.bm .join (.lit (.str ",")) (.cons (.lc [1] (.bi .str (.cons (.var 1) .nil)) (.one 1) (.val (.var 0)) (.val (.lit (.bl true)))) .nil))) .nil)
theorem cc_listed : cSs 100 T_listed d_listed.body = c_listed := by kernel_rfl
theorem sc_listed : FnScope N_listed ["things"] d_listed.scope := ⟨rfl, rfl, rfl, by decide +kernel, rfl, by decide +kernel, by decide +kernel⟩
noncomputable def m_listed : Mf := runF F_1 0 1 1 c_listed
noncomputable def F_2 : Fs := { F_1 with fns := F_1.fns ++ [m_listed] }
def c_letter_text : CSs := (.cons (.ret (.bin .add (.bin .add (.bi .str (.cons (.ix (.var 0) (.lit (.int (0)))) .nil)) (.lit (.str "."))) (.bi .str (.cons (.ix (.var 0) (.lit (.int (1)))) .nil)))) .nil)
theorem cc_letter_text : cSs 100 T_letter_text d_letter_text.body = c_letter_text := by kernel_rfl
theorem sc_letter_text : FnScope N_letter_text ["letter"] d_letter_text.scope := ⟨rfl, rfl, rfl, by decide +kernel, rfl, by decide +kernel, by decide +kernel⟩
noncomputable def m_letter_text : Mf := runF F_2 0 1 0 c_letter_text
noncomputable def F_3 : Fs := { F_2 with fns := F_2.fns ++ [m_letter_text] }
def cb1_fall_text : CSs := (.cons (.expr (.bm .append (.var 3) (.cons (.bin .add (.bin .add (.bi .str (.cons (.var 4) .nil)) (.lit (.str ":"))) (.call 1 (.cons (.lc [6] (.call 2 (.cons (.var 6) .nil)) (.one 6) (.val (.var 5)) (.val (.lit (.bl true)))) .nil))) .nil))) .nil)
def c_fall_text : CSs := (.cons (.asg 3 (.lst (.cons (.lit (.str "fall")) (.cons (.call 1 (.cons (.var 0) .nil)) (.cons (.call 1 (.cons (.var 1) .nil)) .nil))))) (.cons (.forr (.tup [4, 5]) (.val (.var 2)) cb1_fall_text) (.cons (.ret (.call 0 (.cons (.var 3) .nil))) .nil)))
theorem cc_fall_text : cSs 100 T_fall_text d_fall_text.body = c_fall_text := by kernel_rfl
theorem sc_fall_text : FnScope N_fall_text ["machines", "line", "ways"] d_fall_text.scope := ⟨rfl, rfl, rfl, by decide +kernel, rfl, by decide +kernel, by decide +kernel⟩
noncomputable def m_fall_text : Mf := runF F_3 0 3 4 c_fall_text
noncomputable def F_4 : Fs := { F_3 with fns := F_3.fns ++ [m_fall_text] }
def c_deed_text : CSs := (.cons (.iff (.val (.cmp .eq (.ix (.var 0) (.lit (.int (0)))) (.lit (.str "come")))) (.cons (.ret (.bin .add (.lit (.str "come ")) (.call 2 (.cons (.slc (.var 0) (.some (.lit (.int (1)))) .none) .nil)))) .nil) .nil) (.cons (.iff (.val (.cmp .eq (.ix (.var 0) (.lit (.int (0)))) (.lit (.str "throw")))) (.cons (.ret (.call 0 (.cons (.bin .add (.tup (.cons (.lit (.str "throw")) .nil)) (.ix (.var 0) (.lit (.int (1))))) .nil))) .nil) .nil) (.cons (.iff (.val (.cmp .eq (.ix (.var 0) (.lit (.int (0)))) (.lit (.str "fall")))) (.cons (.ret (.call 3 (.cons (.ix (.var 0) (.lit (.int (1)))) (.cons (.ix (.var 0) (.lit (.int (2)))) (.cons (.ix (.var 0) (.lit (.int (3)))) .nil))))) .nil) .nil) (.cons (.ret (.call 0 (.cons (.var 0) .nil))) .nil))))
theorem cc_deed_text : cSs 100 T_deed_text d_deed_text.body = c_deed_text := by kernel_rfl
theorem sc_deed_text : FnScope N_deed_text ["deed"] d_deed_text.scope := ⟨rfl, rfl, rfl, by decide +kernel, rfl, by decide +kernel, by decide +kernel⟩
noncomputable def m_deed_text : Mf := runF F_4 0 1 0 c_deed_text
noncomputable def F_5 : Fs := { F_4 with fns := F_4.fns ++ [m_deed_text] }
def c_number_in : CSs := (.cons (.iff (.or (.val (.cmp .lt (.bi .len (.cons (.var 0) .nil)) (.lit (.int (1))))) (.or (.val (.cmp .gt (.bi .len (.cons (.var 0) .nil)) (.var 1))) (.and (.val (.cmp .eq (.ix (.var 0) (.lit (.int (0)))) (.lit (.str "0")))) (.val (.cmp .ne (.var 0) (.lit (.str "0"))))))) (.cons (.ret (.lit .non)) .nil) .nil) (.cons (.iff (.not (.val (.bi .all (.cons (.lc [2] (.cmp .inn (.var 2) (.lit (.str "0123456789"))) (.one 2) (.val (.var 0)) (.val (.lit (.bl true)))) .nil)))) (.cons (.ret (.lit .non)) .nil) .nil) (.cons (.ret (.bi .int (.cons (.var 0) .nil))) .nil)))
theorem cc_number_in : cSs 100 T_number_in d_number_in.body = c_number_in := by kernel_rfl
theorem sc_number_in : FnScope N_number_in ["word", "figures"] d_number_in.scope := ⟨rfl, rfl, rfl, by decide +kernel, rfl, by decide +kernel, by decide +kernel⟩
noncomputable def m_number_in : Mf := runF F_5 0 2 1 c_number_in
noncomputable def F_6 : Fs := { F_5 with fns := F_5.fns ++ [m_number_in] }
def c_sign_in : CSs := (.cons (.ret (.ife (.and (.val (.cmp .eq (.bi .len (.cons (.var 0) .nil)) (.lit (.int (1))))) (.val (.cmp .inn (.var 0) (.lit (.str "abcdefghijklmnopqrstuvwxyz"))))) (.var 0) (.lit .non))) .nil)
theorem cc_sign_in : cSs 100 T_sign_in d_sign_in.body = c_sign_in := by kernel_rfl
theorem sc_sign_in : FnScope N_sign_in ["word"] d_sign_in.scope := ⟨rfl, rfl, rfl, by decide +kernel, rfl, by decide +kernel, by decide +kernel⟩
noncomputable def m_sign_in : Mf := runF F_6 0 1 0 c_sign_in
noncomputable def F_7 : Fs := { F_6 with fns := F_6.fns ++ [m_sign_in] }
def c_pair_in : CSs := (.cons (.asg 2 (.bm .split (.var 0) (.cons (.var 1) .nil))) (.cons (.ret (.ife (.val (.cmp .eq (.bi .len (.cons (.var 2) .nil)) (.lit (.int (2))))) (.var 2) (.lit .non))) .nil))
theorem cc_pair_in : cSs 100 T_pair_in d_pair_in.body = c_pair_in := by kernel_rfl
theorem sc_pair_in : FnScope N_pair_in ["word", "mark"] d_pair_in.scope := ⟨rfl, rfl, rfl, by decide +kernel, rfl, by decide +kernel, by decide +kernel⟩
noncomputable def m_pair_in : Mf := runF F_7 0 2 1 c_pair_in
noncomputable def F_8 : Fs := { F_7 with fns := F_7.fns ++ [m_pair_in] }
def c_letter_in : CSs := (.cons (.asg 1 (.call 7 (.cons (.var 0) (.cons (.lit (.str ".")) .nil)))) (.cons (.iff (.val (.cmp .is (.var 1) (.lit .non))) (.cons (.ret (.lit .non)) .nil) .nil) (.cons (.asg 2 (.tup (.cons (.call 5 (.cons (.ix (.var 1) (.lit (.int (0)))) (.cons (.lit (.int (9))) .nil))) (.cons (.call 5 (.cons (.ix (.var 1) (.lit (.int (1)))) (.cons (.lit (.int (10))) .nil))) .nil)))) (.cons (.ret (.ife (.val (.cmp .inn (.lit .non) (.var 2))) (.lit .non) (.var 2))) .nil))))
theorem cc_letter_in : cSs 100 T_letter_in d_letter_in.body = c_letter_in := by kernel_rfl
theorem sc_letter_in : FnScope N_letter_in ["word"] d_letter_in.scope := ⟨rfl, rfl, rfl, by decide +kernel, rfl, by decide +kernel, by decide +kernel⟩
noncomputable def m_letter_in : Mf := runF F_8 0 1 2 c_letter_in
noncomputable def F_9 : Fs := { F_8 with fns := F_8.fns ++ [m_letter_in] }
def c_small_in : CSs := (.cons (.ret (.call 5 (.cons (.var 0) (.cons (.lit (.int (9))) .nil)))) .nil)
theorem cc_small_in : cSs 100 T_small_in d_small_in.body = c_small_in := by kernel_rfl
theorem sc_small_in : FnScope N_small_in ["word"] d_small_in.scope := ⟨rfl, rfl, rfl, by decide +kernel, rfl, by decide +kernel, by decide +kernel⟩
noncomputable def m_small_in : Mf := runF F_9 0 1 0 c_small_in
noncomputable def F_10 : Fs := { F_9 with fns := F_9.fns ++ [m_small_in] }
def c_all_in : CSs := (.cons (.asg 2 (.bi .tuple (.cons (.lc [3] (.callv 1 [("small_in", 9), ("letter_in", 8)] (.cons (.var 3) .nil)) (.one 3) (.val (.bm .split (.var 0) (.cons (.lit (.str ",")) .nil))) (.val (.lit (.bl true)))) .nil))) (.cons (.ret (.ife (.val (.cmp .inn (.lit .non) (.var 2))) (.lit .non) (.var 2))) .nil))
theorem cc_all_in : cSs 100 T_all_in d_all_in.body = c_all_in := by kernel_rfl
theorem sc_all_in : FnScope N_all_in ["word", "read_one"] d_all_in.scope := ⟨rfl, rfl, rfl, by decide +kernel, rfl, by decide +kernel, by decide +kernel⟩
noncomputable def m_all_in : Mf := runF F_10 0 2 2 c_all_in
noncomputable def F_11 : Fs := { F_10 with fns := F_10.fns ++ [m_all_in] }
def c_way_in : CSs := (.cons (.asg 1 (.call 7 (.cons (.var 0) (.cons (.lit (.str ":")) .nil)))) (.cons (.iff (.val (.cmp .is (.var 1) (.lit .non))) (.cons (.ret (.lit .non)) .nil) .nil) (.cons (.asg 2 (.tup (.cons (.call 9 (.cons (.ix (.var 1) (.lit (.int (0)))) .nil)) (.cons (.call 10 (.cons (.ix (.var 1) (.lit (.int (1)))) (.cons (.lit (.fn "letter_in")) .nil))) .nil)))) (.cons (.ret (.ife (.val (.cmp .inn (.lit .non) (.var 2))) (.lit .non) (.var 2))) .nil))))
theorem cc_way_in : cSs 100 T_way_in d_way_in.body = c_way_in := by kernel_rfl
theorem sc_way_in : FnScope N_way_in ["word"] d_way_in.scope := ⟨rfl, rfl, rfl, by decide +kernel, rfl, by decide +kernel, by decide +kernel⟩
noncomputable def m_way_in : Mf := runF F_11 0 1 2 c_way_in
noncomputable def F_12 : Fs := { F_11 with fns := F_11.fns ++ [m_way_in] }
def c_thing_in : CSs := (.cons (.iff (.val (.cmp .eq (.var 0) (.lit (.str "number")))) (.cons (.ret (.call 9 (.cons (.var 1) .nil))) .nil) .nil) (.cons (.iff (.val (.cmp .eq (.var 0) (.lit (.str "numbers")))) (.cons (.ret (.call 10 (.cons (.var 1) (.cons (.lit (.fn "small_in")) .nil)))) .nil) .nil) (.cons (.iff (.val (.cmp .eq (.var 0) (.lit (.str "sign")))) (.cons (.ret (.call 6 (.cons (.var 1) .nil))) .nil) .nil) (.cons (.iff (.val (.cmp .eq (.var 0) (.lit (.str "letter")))) (.cons (.ret (.call 8 (.cons (.var 1) .nil))) .nil) .nil) (.cons (.ret (.call 11 (.cons (.var 1) .nil))) .nil)))))
theorem cc_thing_in : cSs 100 T_thing_in d_thing_in.body = c_thing_in := by kernel_rfl
theorem sc_thing_in : FnScope N_thing_in ["shape", "word"] d_thing_in.scope := ⟨rfl, rfl, rfl, by decide +kernel, rfl, by decide +kernel, by decide +kernel⟩
noncomputable def m_thing_in : Mf := runF F_12 0 2 0 c_thing_in
noncomputable def F_13 : Fs := { F_12 with fns := F_12.fns ++ [m_thing_in] }
def c_deed_by : CSs := (.cons (.iff (.val (.cmp .eq (.var 0) (.lit (.str "come")))) (.cons (.ret (.bin .add (.tup (.cons (.lit (.str "come")) .nil)) (.ix (.var 1) (.lit (.int (0)))))) .nil) .nil) (.cons (.iff (.val (.cmp .eq (.var 0) (.lit (.str "throw")))) (.cons (.ret (.tup (.cons (.lit (.str "throw")) (.cons (.bi .tuple (.cons (.var 1) .nil)) .nil)))) .nil) .nil) (.cons (.iff (.val (.cmp .eq (.var 0) (.lit (.str "fall")))) (.cons (.ret (.tup (.cons (.lit (.str "fall")) (.cons (.ix (.var 1) (.lit (.int (0)))) (.cons (.ix (.var 1) (.lit (.int (1)))) (.cons (.slc (.var 1) (.some (.lit (.int (2)))) .none) .nil)))))) .nil) .nil) (.cons (.ret (.bin .add (.tup (.cons (.var 0) .nil)) (.bi .tuple (.cons (.var 1) .nil)))) .nil))))
theorem cc_deed_by : cSs 100 T_deed_by d_deed_by.body = c_deed_by := by kernel_rfl
theorem sc_deed_by : FnScope N_deed_by ["head", "things"] d_deed_by.scope := ⟨rfl, rfl, rfl, by decide +kernel, rfl, by decide +kernel, by decide +kernel⟩
noncomputable def m_deed_by : Mf := runF F_13 0 2 0 c_deed_by
noncomputable def F_14 : Fs := { F_13 with fns := F_13.fns ++ [m_deed_by] }
def cb1_read_deed : CSs := (.cons (.iff (.val (.cmp .ge (.var 4) (.bi .len (.cons (.var 1) .nil)))) (.cons .stuck .nil) .nil) (.cons (.asg 5 (.call 12 (.cons (.ix (.var 2) (.bin .sub (.var 4) (.lit (.int (1))))) (.cons (.ix (.var 1) (.var 4)) .nil)))) (.cons (.iff (.val (.cmp .is (.var 5) (.lit .non))) (.cons .stuck .nil) .nil) (.cons (.expr (.bm .append (.var 3) (.cons (.var 5) .nil))) .nil))))
def c_read_deed : CSs := (.cons (.asg 1 (.bm .split (.var 0) (.cons (.lit (.str " ")) .nil))) (.cons (.iff (.val (.kin true [((.str "own"), (.ct [(.str "number")])), ((.str "hear"), (.ct [(.str "number"), (.str "sign")])), ((.str "come"), (.ct [(.str "letter")])), ((.str "keep"), (.ct [(.str "number")])), ((.str "note"), (.ct [(.str "number"), (.str "number")])), ((.str "tell"), (.ct [(.str "number"), (.str "number")])), ((.str "throw"), (.ct [(.str "number")])), ((.str "fall"), (.ct [(.str "numbers"), (.str "numbers")]))] (.ix (.var 1) (.lit (.int (0)))))) (.cons .stuck .nil) .nil) (.cons (.asg 2 (.bi .list (.cons (.kix [((.str "own"), (.ct [(.str "number")])), ((.str "hear"), (.ct [(.str "number"), (.str "sign")])), ((.str "come"), (.ct [(.str "letter")])), ((.str "keep"), (.ct [(.str "number")])), ((.str "note"), (.ct [(.str "number"), (.str "number")])), ((.str "tell"), (.ct [(.str "number"), (.str "number")])), ((.str "throw"), (.ct [(.str "number")])), ((.str "fall"), (.ct [(.str "numbers"), (.str "numbers")]))] (.ix (.var 1) (.lit (.int (0))))) .nil))) (.cons (.iff (.val (.kin false [((.str "throw"), (.str "number")), ((.str "fall"), (.str "way"))] (.ix (.var 1) (.lit (.int (0)))))) (.cons (.expr (.bm .extend (.var 2) (.cons (.lc [6] (.kix [((.str "throw"), (.str "number")), ((.str "fall"), (.str "way"))] (.ix (.var 1) (.lit (.int (0))))) (.one 6) (.val (.slc (.var 1) (.some (.bin .add (.lit (.int (1))) (.bi .len (.cons (.var 2) .nil)))) .none)) (.val (.lit (.bl true)))) .nil))) .nil) .nil) (.cons (.asg 3 (.lst .nil)) (.cons (.forr (.one 4) (.rng (.some (.lit (.int (1)))) (.bin .add (.bi .len (.cons (.var 2) .nil)) (.lit (.int (1))))) cb1_read_deed) (.cons (.iff (.val (.cmp .gt (.bi .len (.cons (.var 1) .nil)) (.bin .add (.bi .len (.cons (.var 2) .nil)) (.lit (.int (1)))))) (.cons .stuck .nil) .nil) (.cons (.ret (.call 13 (.cons (.ix (.var 1) (.lit (.int (0)))) (.cons (.var 3) .nil)))) .nil))))))))
theorem cc_read_deed : cSs 100 T_read_deed d_read_deed.body = c_read_deed := by kernel_rfl
theorem sc_read_deed : FnScope N_read_deed ["text"] d_read_deed.scope := ⟨rfl, rfl, rfl, by decide +kernel, rfl, by decide +kernel, by decide +kernel⟩
noncomputable def m_read_deed : Mf := runF F_14 0 1 6 c_read_deed
noncomputable def F_15 : Fs := { F_14 with fns := F_14.fns ++ [m_read_deed] }
def c__law_feed : CSs := (.cons (.ret (.dct [(.str "cells"), (.str "cell"), (.str "drawn")] (.cons (.bi .list (.cons (.slc (.var 0) .none (.some (.lit (.int (63))))) .nil)) (.cons (.lit (.int (0))) (.cons (.lit (.int (0))) .nil))))) .nil)
theorem cc__law_feed : cSs 100 T__law_feed d__law_feed.body = c__law_feed := by kernel_rfl
theorem sc__law_feed : FnScope N__law_feed ["_law_script"] d__law_feed.scope := ⟨rfl, rfl, rfl, by decide +kernel, rfl, by decide +kernel, by decide +kernel⟩
noncomputable def m__law_feed : Mf := runF F_15 0 1 0 c__law_feed
noncomputable def F_16 : Fs := { F_15 with fns := F_15.fns ++ [m__law_feed] }
def c__law_open : CSs := (.cons (.sets (.var 0) (.lit (.str "drawn")) (.bin .mul (.lit (.int (100))) (.var 1))) (.cons (.sets (.var 0) (.lit (.str "cell")) (.lit (.int (0)))) (.cons (.iff (.val (.cmp .ne (.ix (.var 0) (.lit (.str "cells"))) (.lst .nil))) (.cons (.sets (.var 0) (.lit (.str "cell")) (.ix (.ix (.var 0) (.lit (.str "cells"))) (.bin .mod (.var 1) (.bi .len (.cons (.ix (.var 0) (.lit (.str "cells"))) .nil))))) .nil) .nil) .nil)))
theorem cc__law_open : cSs 100 T__law_open d__law_open.body = c__law_open := by kernel_rfl
theorem sc__law_open : FnScope N__law_open ["_law_feed_here", "_law_k"] d__law_open.scope := ⟨rfl, rfl, rfl, by decide +kernel, rfl, by decide +kernel, by decide +kernel⟩
noncomputable def m__law_open : Mf := runF F_16 0 2 0 c__law_open
noncomputable def F_17 : Fs := { F_16 with fns := F_16.fns ++ [m__law_open] }
def c__law_draw : CSs := (.cons (.sets (.var 0) (.lit (.str "drawn")) (.bin .add (.ix (.var 0) (.lit (.str "drawn"))) (.lit (.int (1))))) (.cons (.asg 2 (.ix (.var 0) (.lit (.str "cell")))) (.cons (.iff (.val (.cmp .ge (.var 2) (.bin .pow (.lit (.int (10))) (.lit (.int (18)))))) (.cons (.sets (.var 0) (.lit (.str "cell")) (.bin .fdiv (.var 2) (.var 1))) (.cons (.ret (.bin .mod (.var 2) (.var 1))) .nil)) .nil) (.cons (.asg 3 (.ix (.var 0) (.lit (.str "drawn")))) (.cons (.asg 4 (.bin .mod (.bin .mul (.bin .add (.bin .mod (.var 2) (.lit (.int (2147483629)))) (.lit (.int (1)))) (.bin .add (.bin .mul (.bin .mul (.lit (.int (31))) (.var 3)) (.var 3)) (.lit (.int (7919))))) (.lit (.int (2147483647))))) (.cons (.ret (.bin .mod (.bin .mod (.bin .mul (.bin .add (.var 4) (.var 3)) (.lit (.int (48271)))) (.lit (.int (2147483629)))) (.var 1))) .nil))))))
theorem cc__law_draw : cSs 100 T__law_draw d__law_draw.body = c__law_draw := by kernel_rfl
theorem sc__law_draw : FnScope N__law_draw ["_law_feed_here", "_law_many"] d__law_draw.scope := ⟨rfl, rfl, rfl, by decide +kernel, rfl, by decide +kernel, by decide +kernel⟩
noncomputable def m__law_draw : Mf := runF F_17 0 2 3 c__law_draw
noncomputable def F_18 : Fs := { F_17 with fns := F_17.fns ++ [m__law_draw] }
def c__law_line : CSs := (.cons (.ret (.bm .join (.lit (.str " ")) (.cons (.lc [1] (.bi .str (.cons (.var 1) .nil)) (.one 1) (.val (.var 0)) (.val (.lit (.bl true)))) .nil))) .nil)
theorem cc__law_line : cSs 100 T__law_line d__law_line.body = c__law_line := by kernel_rfl
theorem sc__law_line : FnScope N__law_line ["_law_words"] d__law_line.scope := ⟨rfl, rfl, rfl, by decide +kernel, rfl, by decide +kernel, by decide +kernel⟩
noncomputable def m__law_line : Mf := runF F_18 0 1 1 c__law_line
noncomputable def F_19 : Fs := { F_18 with fns := F_18.fns ++ [m__law_line] }
def c__law_commas : CSs := (.cons (.ret (.bm .join (.lit (.str ",")) (.cons (.lc [1] (.bi .str (.cons (.var 1) .nil)) (.one 1) (.val (.var 0)) (.val (.lit (.bl true)))) .nil))) .nil)
theorem cc__law_commas : cSs 100 T__law_commas d__law_commas.body = c__law_commas := by kernel_rfl
theorem sc__law_commas : FnScope N__law_commas ["_law_things"] d__law_commas.scope := ⟨rfl, rfl, rfl, by decide +kernel, rfl, by decide +kernel, by decide +kernel⟩
noncomputable def m__law_commas : Mf := runF F_19 0 1 1 c__law_commas
noncomputable def F_20 : Fs := { F_19 with fns := F_19.fns ++ [m__law_commas] }
def cb1__law_deed_text : CSs := (.cons (.expr (.bm .append (.var 1) (.cons (.bin .add (.bin .add (.bi .str (.cons (.var 2) .nil)) (.lit (.str ":"))) (.call 19 (.cons (.lc [4, 5] (.bin .add (.bin .add (.bi .str (.cons (.var 4) .nil)) (.lit (.str "."))) (.bi .str (.cons (.var 5) .nil))) (.tup [4, 5]) (.val (.var 3)) (.val (.lit (.bl true)))) .nil))) .nil))) .nil)
def c__law_deed_text : CSs := (.cons (.iff (.val (.cmp .eq (.ix (.var 0) (.lit (.int (0)))) (.lit (.str "come")))) (.cons (.ret (.bin .add (.bin .add (.bin .add (.lit (.str "come ")) (.bi .str (.cons (.ix (.var 0) (.lit (.int (1)))) .nil))) (.lit (.str "."))) (.bi .str (.cons (.ix (.var 0) (.lit (.int (2)))) .nil)))) .nil) .nil) (.cons (.iff (.val (.cmp .eq (.ix (.var 0) (.lit (.int (0)))) (.lit (.str "throw")))) (.cons (.ret (.call 18 (.cons (.bin .add (.tup (.cons (.lit (.str "throw")) .nil)) (.ix (.var 0) (.lit (.int (1))))) .nil))) .nil) .nil) (.cons (.iff (.val (.cmp .ne (.ix (.var 0) (.lit (.int (0)))) (.lit (.str "fall")))) (.cons (.ret (.call 18 (.cons (.var 0) .nil))) .nil) .nil) (.cons (.asg 1 (.lst .nil)) (.cons (.forr (.tup [2, 3]) (.val (.ix (.var 0) (.lit (.int (3))))) cb1__law_deed_text) (.cons (.ret (.call 18 (.cons (.bin .add (.lst (.cons (.lit (.str "fall")) (.cons (.call 19 (.cons (.ix (.var 0) (.lit (.int (1)))) .nil)) (.cons (.call 19 (.cons (.ix (.var 0) (.lit (.int (2)))) .nil)) .nil)))) (.var 1)) .nil))) .nil))))))
theorem cc__law_deed_text : cSs 100 T__law_deed_text d__law_deed_text.body = c__law_deed_text := by kernel_rfl
theorem sc__law_deed_text : FnScope N__law_deed_text ["_law_deed"] d__law_deed_text.scope := ⟨rfl, rfl, rfl, by decide +kernel, rfl, by decide +kernel, by decide +kernel⟩
noncomputable def m__law_deed_text : Mf := runF F_20 0 1 5 c__law_deed_text
noncomputable def F_21 : Fs := { F_20 with fns := F_20.fns ++ [m__law_deed_text] }
def c__law_number : CSs := (.cons (.asg 1 (.lst (.cons (.call 17 (.cons (.var 0) (.cons (.lit (.int (4))) .nil))) (.cons (.call 17 (.cons (.var 0) (.cons (.lit (.int (120))) .nil))) (.cons (.bin .sub (.bin .sub (.bin .pow (.lit (.int (10))) (.lit (.int (9)))) (.lit (.int (1)))) (.call 17 (.cons (.var 0) (.cons (.lit (.int (3))) .nil)))) .nil))))) (.cons (.ret (.ix (.var 1) (.ix (.lst (.cons (.lit (.int (0))) (.cons (.lit (.int (0))) (.cons (.lit (.int (1))) (.cons (.lit (.int (2))) .nil))))) (.call 17 (.cons (.var 0) (.cons (.lit (.int (4))) .nil)))))) .nil))
theorem cc__law_number : cSs 100 T__law_number d__law_number.body = c__law_number := by kernel_rfl
theorem sc__law_number : FnScope N__law_number ["_law_feed_here"] d__law_number.scope := ⟨rfl, rfl, rfl, by decide +kernel, rfl, by decide +kernel, by decide +kernel⟩
noncomputable def m__law_number : Mf := runF F_21 0 1 1 c__law_number
noncomputable def F_22 : Fs := { F_21 with fns := F_21.fns ++ [m__law_number] }
def c__law_throw : CSs := (.cons (.ret (.tup (.cons (.lit (.str "throw")) (.cons (.bi .tuple (.cons (.lc [1] (.call 21 (.cons (.var 0) .nil)) (.one 1) (.rng .none (.bin .add (.lit (.int (1))) (.call 17 (.cons (.var 0) (.cons (.lit (.int (4))) .nil))))) (.val (.lit (.bl true)))) .nil)) .nil)))) .nil)
theorem cc__law_throw : cSs 100 T__law_throw d__law_throw.body = c__law_throw := by kernel_rfl
theorem sc__law_throw : FnScope N__law_throw ["_law_feed_here"] d__law_throw.scope := ⟨rfl, rfl, rfl, by decide +kernel, rfl, by decide +kernel, by decide +kernel⟩
noncomputable def m__law_throw : Mf := runF F_22 0 1 1 c__law_throw
noncomputable def F_23 : Fs := { F_22 with fns := F_22.fns ++ [m__law_throw] }
def cb1__law_fall : CSs := (.cons (.asg 5 (.lc [6] (.tup (.cons (.call 21 (.cons (.var 0) .nil)) (.cons (.call 21 (.cons (.var 0) .nil)) .nil))) (.one 6) (.rng .none (.bin .add (.lit (.int (1))) (.call 17 (.cons (.var 0) (.cons (.lit (.int (3))) .nil))))) (.val (.lit (.bl true))))) (.cons (.expr (.bm .append (.var 1) (.cons (.tup (.cons (.call 21 (.cons (.var 0) .nil)) (.cons (.bi .tuple (.cons (.var 5) .nil)) .nil))) .nil))) .nil))
def c__law_fall : CSs := (.cons (.asg 1 (.lst .nil)) (.cons (.forr (.one 2) (.rng .none (.call 17 (.cons (.var 0) (.cons (.lit (.int (4))) .nil)))) cb1__law_fall) (.cons (.asg 3 (.bi .tuple (.cons (.lc [2] (.call 21 (.cons (.var 0) .nil)) (.one 2) (.rng .none (.bin .add (.lit (.int (1))) (.call 17 (.cons (.var 0) (.cons (.lit (.int (4))) .nil))))) (.val (.lit (.bl true)))) .nil))) (.cons (.asg 4 (.bi .tuple (.cons (.lc [2] (.call 21 (.cons (.var 0) .nil)) (.one 2) (.rng .none (.bin .add (.lit (.int (1))) (.call 17 (.cons (.var 0) (.cons (.lit (.int (4))) .nil))))) (.val (.lit (.bl true)))) .nil))) (.cons (.ret (.tup (.cons (.lit (.str "fall")) (.cons (.var 3) (.cons (.var 4) (.cons (.var 1) .nil)))))) .nil)))))
theorem cc__law_fall : cSs 100 T__law_fall d__law_fall.body = c__law_fall := by kernel_rfl
theorem sc__law_fall : FnScope N__law_fall ["_law_feed_here"] d__law_fall.scope := ⟨rfl, rfl, rfl, by decide +kernel, rfl, by decide +kernel, by decide +kernel⟩
noncomputable def m__law_fall : Mf := runF F_23 0 1 6 c__law_fall
noncomputable def F_24 : Fs := { F_23 with fns := F_23.fns ++ [m__law_fall] }
def c__law_any_deed : CSs := (.cons (.asg 1 (.call 17 (.cons (.var 0) (.cons (.lit (.int (9))) .nil)))) (.cons (.iff (.val (.cmp .lt (.var 1) (.lit (.int (2))))) (.cons (.ret (.ife (.val (.cmp .eq (.var 1) (.lit (.int (1))))) (.call 22 (.cons (.var 0) .nil)) (.call 23 (.cons (.var 0) .nil)))) .nil) .nil) (.cons (.iff (.val (.cmp .eq (.var 1) (.lit (.int (2))))) (.cons (.ret (.tup (.cons (.lit (.str "hear")) (.cons (.call 21 (.cons (.var 0) .nil)) (.cons (.ix (.lit (.str "abz")) (.call 17 (.cons (.var 0) (.cons (.lit (.int (3))) .nil)))) .nil))))) .nil) .nil) (.cons (.iff (.val (.cmp .eq (.var 1) (.lit (.int (3))))) (.cons (.ret (.tup (.cons (.lit (.str "come")) (.cons (.call 21 (.cons (.var 0) .nil)) (.cons (.ix (.lst (.cons (.call 21 (.cons (.var 0) .nil)) (.cons (.bin .sub (.bin .pow (.lit (.int (10))) (.lit (.int (10)))) (.lit (.int (1)))) .nil))) (.bi .int (.cons (.cmp .eq (.call 17 (.cons (.var 0) (.cons (.lit (.int (6))) .nil))) (.lit (.int (0)))) .nil))) .nil))))) .nil) .nil) (.cons (.iff (.val (.cmp .lt (.var 1) (.lit (.int (6))))) (.cons (.ret (.tup (.cons (.ix (.lst (.cons (.lit (.str "own")) (.cons (.lit (.str "keep")) .nil))) (.bin .sub (.var 1) (.lit (.int (4))))) (.cons (.call 21 (.cons (.var 0) .nil)) .nil)))) .nil) .nil) (.cons (.ret (.tup (.cons (.ix (.lst (.cons (.lit (.str "note")) (.cons (.lit (.str "tell")) (.cons (.lit (.str "tell")) .nil)))) (.bin .sub (.var 1) (.lit (.int (6))))) (.cons (.call 21 (.cons (.var 0) .nil)) (.cons (.call 21 (.cons (.var 0) .nil)) .nil))))) .nil))))))
theorem cc__law_any_deed : cSs 100 T__law_any_deed d__law_any_deed.body = c__law_any_deed := by kernel_rfl
theorem sc__law_any_deed : FnScope N__law_any_deed ["_law_feed_here"] d__law_any_deed.scope := ⟨rfl, rfl, rfl, by decide +kernel, rfl, by decide +kernel, by decide +kernel⟩
noncomputable def m__law_any_deed : Mf := runF F_24 0 1 1 c__law_any_deed
noncomputable def F_25 : Fs := { F_24 with fns := F_24.fns ++ [m__law_any_deed] }
def c__law_alike : CSs := (.cons (.iff (.val (.bi .isi (.cons (.var 1) (.cons (.tup (.cons (.lit (.ty "tuple")) (.cons (.lit (.ty "list")) .nil))) .nil)))) (.cons (.asg 2 (.ife (.val (.bi .isi (.cons (.var 1) (.cons (.lit (.ty "tuple")) .nil)))) (.bi .isi (.cons (.var 0) (.cons (.lit (.ty "tuple")) .nil))) (.bi .isi (.cons (.var 0) (.cons (.lit (.ty "list")) .nil))))) (.cons (.iff (.or (.not (.val (.var 2))) (.val (.cmp .ne (.bi .len (.cons (.var 0) .nil)) (.bi .len (.cons (.var 1) .nil))))) (.cons (.ret (.lit (.bl false))) .nil) .nil) (.cons (.ret (.bi .all (.cons (.lc [3, 4] (.call 25 (.cons (.var 3) (.cons (.var 4) .nil))) (.tup [3, 4]) (.zip (.var 0) (.var 1)) (.val (.lit (.bl true)))) .nil))) .nil))) .nil) (.cons (.iff (.val (.bi .isi (.cons (.var 1) (.cons (.lit (.ty "str")) .nil)))) (.cons (.ret (.and (.bi .isi (.cons (.var 0) (.cons (.lit (.ty "str")) .nil))) (.cmp .eq (.var 0) (.var 1)))) .nil) .nil) (.cons (.ret (.and (.bi .isi (.cons (.var 0) (.cons (.lit (.ty "int")) .nil))) (.and (.not (.bi .isi (.cons (.var 0) (.cons (.lit (.ty "bool")) .nil)))) (.cmp .eq (.var 0) (.var 1))))) .nil)))
theorem cc__law_alike : cSs 100 T__law_alike d__law_alike.body = c__law_alike := by kernel_rfl
theorem sc__law_alike : FnScope N__law_alike ["_law_found", "_law_due"] d__law_alike.scope := ⟨rfl, rfl, rfl, by decide +kernel, rfl, by decide +kernel, by decide +kernel⟩
noncomputable def m__law_alike (n : Nat) : Nat → Mf
  | 0 => fun _ _ => .stuck
  | d + 1 => runF { F_25 with fns := F_25.fns ++ [m__law_alike n d] } n 2 3 c__law_alike
noncomputable def F_26 : Fs := { F_25 with fns := F_25.fns ++ [m__law_alike 0 7] }
def cb1_law : CSs := (.cons (.expr (.call 16 (.cons (.var 1) (.cons (.var 2) .nil)))) (.cons (.asg 3 (.call 24 (.cons (.var 1) .nil))) (.cons (.asg 4 (.call 4 (.cons (.var 3) .nil))) (.cons (.iff (.or (.not (.val (.bi .isi (.cons (.var 4) (.cons (.lit (.ty "str")) .nil))))) (.or (.val (.cmp .ne (.var 4) (.call 20 (.cons (.var 3) .nil)))) (.not (.val (.call 25 (.cons (.call 14 (.cons (.var 4) .nil)) (.cons (.var 3) .nil))))))) (.cons (.ret (.lit (.bl false))) .nil) .nil) .nil))))
def c_law : CSs := (.cons (.asg 1 (.call 15 (.cons (.var 0) .nil))) (.cons (.forr (.one 2) (.rng .none (.lit (.int (6)))) cb1_law) (.cons (.ret (.lit (.bl true))) .nil)))
theorem cc_law : cSs 100 T_law d_law.body = c_law := by kernel_rfl
theorem sc_law : FnScope N_law ["_law_script"] d_law.scope := ⟨rfl, rfl, rfl, by decide +kernel, rfl, by decide +kernel, by decide +kernel⟩
noncomputable def m_law : Mf := runF F_26 0 1 4 c_law
noncomputable def F_27 : Fs := { F_26 with fns := F_26.fns ++ [m_law] }
theorem at_fall_text_line_of : F_3.at_ 0 = m_line_of := rfl
theorem at_fall_text_listed : F_3.at_ 1 = m_listed := rfl
theorem at_fall_text_letter_text : F_3.at_ 2 = m_letter_text := rfl
theorem at_deed_text_line_of : F_4.at_ 0 = m_line_of := rfl
theorem at_deed_text_letter_text : F_4.at_ 2 = m_letter_text := rfl
theorem at_deed_text_fall_text : F_4.at_ 3 = m_fall_text := rfl
theorem at_letter_in_number_in : F_8.at_ 5 = m_number_in := rfl
theorem at_letter_in_pair_in : F_8.at_ 7 = m_pair_in := rfl
theorem at_small_in_number_in : F_9.at_ 5 = m_number_in := rfl
theorem at_all_in_letter_in : F_10.at_ 8 = m_letter_in := rfl
theorem at_all_in_small_in : F_10.at_ 9 = m_small_in := rfl
theorem at_way_in_pair_in : F_11.at_ 7 = m_pair_in := rfl
theorem at_way_in_small_in : F_11.at_ 9 = m_small_in := rfl
theorem at_way_in_all_in : F_11.at_ 10 = m_all_in := rfl
theorem at_thing_in_sign_in : F_12.at_ 6 = m_sign_in := rfl
theorem at_thing_in_letter_in : F_12.at_ 8 = m_letter_in := rfl
theorem at_thing_in_small_in : F_12.at_ 9 = m_small_in := rfl
theorem at_thing_in_all_in : F_12.at_ 10 = m_all_in := rfl
theorem at_thing_in_way_in : F_12.at_ 11 = m_way_in := rfl
theorem at_read_deed_thing_in : F_14.at_ 12 = m_thing_in := rfl
theorem at_read_deed_deed_by : F_14.at_ 13 = m_deed_by := rfl
theorem at__law_deed_text__law_line : F_20.at_ 18 = m__law_line := rfl
theorem at__law_deed_text__law_commas : F_20.at_ 19 = m__law_commas := rfl
theorem at__law_number__law_draw : F_21.at_ 17 = m__law_draw := rfl
theorem at__law_throw__law_draw : F_22.at_ 17 = m__law_draw := rfl
theorem at__law_throw__law_number : F_22.at_ 21 = m__law_number := rfl
theorem at__law_fall__law_draw : F_23.at_ 17 = m__law_draw := rfl
theorem at__law_fall__law_number : F_23.at_ 21 = m__law_number := rfl
theorem at__law_any_deed__law_draw : F_24.at_ 17 = m__law_draw := rfl
theorem at__law_any_deed__law_number : F_24.at_ 21 = m__law_number := rfl
theorem at__law_any_deed__law_throw : F_24.at_ 22 = m__law_throw := rfl
theorem at__law_any_deed__law_fall : F_24.at_ 23 = m__law_fall := rfl
theorem at__law_alike__law_alike (n d : Nat) : ({ F_25 with fns := F_25.fns ++ [m__law_alike n d] } : Fs).at_ 25 = m__law_alike n d := rfl
theorem at_law_deed_text : F_26.at_ 4 = m_deed_text := rfl
theorem at_law_read_deed : F_26.at_ 14 = m_read_deed := rfl
theorem at_law__law_feed : F_26.at_ 15 = m__law_feed := rfl
theorem at_law__law_open : F_26.at_ 16 = m__law_open := rfl
theorem at_law__law_deed_text : F_26.at_ 20 = m__law_deed_text := rfl
theorem at_law__law_any_deed : F_26.at_ 24 = m__law_any_deed := rfl
theorem at_law__law_alike : F_26.at_ 25 = m__law_alike 0 7 := rfl
end LawK80
end
section
namespace LawK80
open PySem PySem.Spec PyProof.Rows L2 Pi
def ft : Ft := ⟨nms.map He.Fa.glo ++ bltL.map He.Fa.free, vals, [d_line_of, d_listed, d_letter_text, d_fall_text, d_deed_text, d_number_in, d_sign_in, d_pair_in, d_letter_in, d_small_in, d_all_in, d_way_in, d_thing_in, d_deed_by, d_read_deed, d__law_feed, d__law_open, d__law_draw, d__law_line, d__law_commas, d__law_deed_text, d__law_number, d__law_throw, d__law_fall, d__law_any_deed, d__law_alike, d_law], tabs⟩
section
variable {P : Program} {w : World} {K : PySem.W.Frag} {mg : Str → Option Value} {base : Heap}
theorem k_0 (H : HdF P w K mg ft nms) : Kn P w K mg base nms F_0 0 0 := Kn.zero
theorem b_line_of : ∀ (kV doc pm : Value) (an : Option Addr) (cdv ct : Value) (us : List Value), us.length = (["words"] : List Str).length → bindArgs (PySem.W.fnOf d_line_of.name d_line_of.qual d_line_of.params d_line_of.body d_line_of.scope .none kV doc pm an cdv ct) ⟨us, []⟩ = pure ((["words"] : List Str).zip us) := fun _ _ _ _ _ _ us hl => match us, hl with | [_], _ => rfl
theorem mem_line_of : d_line_of ∈ ft.fn ∧ d_line_of.name ∈ nms := ⟨List.mem_of_getElem? (i := 0) rfl, List.mem_of_getElem? (i := 0) rfl⟩
theorem g_line_of (H : HdF P w K mg ft nms) : FnG P w (SyK K) mg base 1 "line_of" m_line_of := fnG_ok H mem_line_of.1 mem_line_of.2 rfl rfl rfl b_line_of sc_line_of rfl rfl (lk_of (T := T_line_of) H (k_0 H) rfl rfl rfl rfl rfl (cv_ok (by decide +kernel)) rfl) cc_line_of
theorem k_1 (H : HdF P w K mg ft nms) : Kn P w K mg base nms F_1 1 1 := Kn.push (k_0 H) rfl rfl (g_line_of H)
theorem b_listed : ∀ (kV doc pm : Value) (an : Option Addr) (cdv ct : Value) (us : List Value), us.length = (["things"] : List Str).length → bindArgs (PySem.W.fnOf d_listed.name d_listed.qual d_listed.params d_listed.body d_listed.scope .none kV doc pm an cdv ct) ⟨us, []⟩ = pure ((["things"] : List Str).zip us) := fun _ _ _ _ _ _ us hl => match us, hl with | [_], _ => rfl
theorem mem_listed : d_listed ∈ ft.fn ∧ d_listed.name ∈ nms := ⟨List.mem_of_getElem? (i := 1) rfl, List.mem_of_getElem? (i := 1) rfl⟩
theorem g_listed (H : HdF P w K mg ft nms) : FnG P w (SyK K) mg base 2 "listed" m_listed := fnG_ok H mem_listed.1 mem_listed.2 rfl rfl rfl b_listed sc_listed rfl rfl (lk_of (T := T_listed) H (k_1 H) rfl rfl rfl rfl rfl (cv_ok (by decide +kernel)) rfl) cc_listed
theorem k_2 (H : HdF P w K mg ft nms) : Kn P w K mg base nms F_2 2 2 := Kn.push (k_1 H) rfl rfl (g_listed H)
theorem b_letter_text : ∀ (kV doc pm : Value) (an : Option Addr) (cdv ct : Value) (us : List Value), us.length = (["letter"] : List Str).length → bindArgs (PySem.W.fnOf d_letter_text.name d_letter_text.qual d_letter_text.params d_letter_text.body d_letter_text.scope .none kV doc pm an cdv ct) ⟨us, []⟩ = pure ((["letter"] : List Str).zip us) := fun _ _ _ _ _ _ us hl => match us, hl with | [_], _ => rfl
theorem mem_letter_text : d_letter_text ∈ ft.fn ∧ d_letter_text.name ∈ nms := ⟨List.mem_of_getElem? (i := 2) rfl, List.mem_of_getElem? (i := 2) rfl⟩
theorem g_letter_text (H : HdF P w K mg ft nms) : FnG P w (SyK K) mg base 3 "letter_text" m_letter_text := fnG_ok H mem_letter_text.1 mem_letter_text.2 rfl rfl rfl b_letter_text sc_letter_text rfl rfl (lk_of (T := T_letter_text) H (k_2 H) rfl rfl rfl rfl rfl (cv_ok (by decide +kernel)) rfl) cc_letter_text
theorem k_3 (H : HdF P w K mg ft nms) : Kn P w K mg base nms F_3 3 3 := Kn.push (k_2 H) rfl rfl (g_letter_text H)
theorem b_fall_text : ∀ (kV doc pm : Value) (an : Option Addr) (cdv ct : Value) (us : List Value), us.length = (["machines", "line", "ways"] : List Str).length → bindArgs (PySem.W.fnOf d_fall_text.name d_fall_text.qual d_fall_text.params d_fall_text.body d_fall_text.scope .none kV doc pm an cdv ct) ⟨us, []⟩ = pure ((["machines", "line", "ways"] : List Str).zip us) := fun _ _ _ _ _ _ us hl => match us, hl with | [_, _, _], _ => rfl
theorem mem_fall_text : d_fall_text ∈ ft.fn ∧ d_fall_text.name ∈ nms := ⟨List.mem_of_getElem? (i := 3) rfl, List.mem_of_getElem? (i := 3) rfl⟩
theorem g_fall_text (H : HdF P w K mg ft nms) : FnG P w (SyK K) mg base 4 "fall_text" m_fall_text := fnG_ok H mem_fall_text.1 mem_fall_text.2 rfl rfl rfl b_fall_text sc_fall_text rfl rfl (lk_of (T := T_fall_text) H (k_3 H) rfl rfl rfl rfl rfl (cv_ok (by decide +kernel)) rfl) cc_fall_text
theorem k_4 (H : HdF P w K mg ft nms) : Kn P w K mg base nms F_4 4 4 := Kn.push (k_3 H) rfl rfl (g_fall_text H)
theorem b_deed_text : ∀ (kV doc pm : Value) (an : Option Addr) (cdv ct : Value) (us : List Value), us.length = (["deed"] : List Str).length → bindArgs (PySem.W.fnOf d_deed_text.name d_deed_text.qual d_deed_text.params d_deed_text.body d_deed_text.scope .none kV doc pm an cdv ct) ⟨us, []⟩ = pure ((["deed"] : List Str).zip us) := fun _ _ _ _ _ _ us hl => match us, hl with | [_], _ => rfl
theorem mem_deed_text : d_deed_text ∈ ft.fn ∧ d_deed_text.name ∈ nms := ⟨List.mem_of_getElem? (i := 4) rfl, List.mem_of_getElem? (i := 4) rfl⟩
theorem g_deed_text (H : HdF P w K mg ft nms) : FnG P w (SyK K) mg base 5 "deed_text" m_deed_text := fnG_ok H mem_deed_text.1 mem_deed_text.2 rfl rfl rfl b_deed_text sc_deed_text rfl rfl (lk_of (T := T_deed_text) H (k_4 H) rfl rfl rfl rfl rfl (cv_ok (by decide +kernel)) rfl) cc_deed_text
theorem k_5 (H : HdF P w K mg ft nms) : Kn P w K mg base nms F_5 5 5 := Kn.push (k_4 H) rfl rfl (g_deed_text H)
theorem b_number_in : ∀ (kV doc pm : Value) (an : Option Addr) (cdv ct : Value) (us : List Value), us.length = (["word", "figures"] : List Str).length → bindArgs (PySem.W.fnOf d_number_in.name d_number_in.qual d_number_in.params d_number_in.body d_number_in.scope .none kV doc pm an cdv ct) ⟨us, []⟩ = pure ((["word", "figures"] : List Str).zip us) := fun _ _ _ _ _ _ us hl => match us, hl with | [_, _], _ => rfl
theorem mem_number_in : d_number_in ∈ ft.fn ∧ d_number_in.name ∈ nms := ⟨List.mem_of_getElem? (i := 5) rfl, List.mem_of_getElem? (i := 5) rfl⟩
theorem g_number_in (H : HdF P w K mg ft nms) : FnG P w (SyK K) mg base 6 "number_in" m_number_in := fnG_ok H mem_number_in.1 mem_number_in.2 rfl rfl rfl b_number_in sc_number_in rfl rfl (lk_of (T := T_number_in) H (k_5 H) rfl rfl rfl rfl rfl (cv_ok (by decide +kernel)) rfl) cc_number_in
theorem k_6 (H : HdF P w K mg ft nms) : Kn P w K mg base nms F_6 6 6 := Kn.push (k_5 H) rfl rfl (g_number_in H)
theorem b_sign_in : ∀ (kV doc pm : Value) (an : Option Addr) (cdv ct : Value) (us : List Value), us.length = (["word"] : List Str).length → bindArgs (PySem.W.fnOf d_sign_in.name d_sign_in.qual d_sign_in.params d_sign_in.body d_sign_in.scope .none kV doc pm an cdv ct) ⟨us, []⟩ = pure ((["word"] : List Str).zip us) := fun _ _ _ _ _ _ us hl => match us, hl with | [_], _ => rfl
theorem mem_sign_in : d_sign_in ∈ ft.fn ∧ d_sign_in.name ∈ nms := ⟨List.mem_of_getElem? (i := 6) rfl, List.mem_of_getElem? (i := 6) rfl⟩
theorem g_sign_in (H : HdF P w K mg ft nms) : FnG P w (SyK K) mg base 7 "sign_in" m_sign_in := fnG_ok H mem_sign_in.1 mem_sign_in.2 rfl rfl rfl b_sign_in sc_sign_in rfl rfl (lk_of (T := T_sign_in) H (k_6 H) rfl rfl rfl rfl rfl (cv_ok (by decide +kernel)) rfl) cc_sign_in
theorem k_7 (H : HdF P w K mg ft nms) : Kn P w K mg base nms F_7 7 7 := Kn.push (k_6 H) rfl rfl (g_sign_in H)
theorem b_pair_in : ∀ (kV doc pm : Value) (an : Option Addr) (cdv ct : Value) (us : List Value), us.length = (["word", "mark"] : List Str).length → bindArgs (PySem.W.fnOf d_pair_in.name d_pair_in.qual d_pair_in.params d_pair_in.body d_pair_in.scope .none kV doc pm an cdv ct) ⟨us, []⟩ = pure ((["word", "mark"] : List Str).zip us) := fun _ _ _ _ _ _ us hl => match us, hl with | [_, _], _ => rfl
theorem mem_pair_in : d_pair_in ∈ ft.fn ∧ d_pair_in.name ∈ nms := ⟨List.mem_of_getElem? (i := 7) rfl, List.mem_of_getElem? (i := 7) rfl⟩
theorem g_pair_in (H : HdF P w K mg ft nms) : FnG P w (SyK K) mg base 8 "pair_in" m_pair_in := fnG_ok H mem_pair_in.1 mem_pair_in.2 rfl rfl rfl b_pair_in sc_pair_in rfl rfl (lk_of (T := T_pair_in) H (k_7 H) rfl rfl rfl rfl rfl (cv_ok (by decide +kernel)) rfl) cc_pair_in
theorem k_8 (H : HdF P w K mg ft nms) : Kn P w K mg base nms F_8 8 8 := Kn.push (k_7 H) rfl rfl (g_pair_in H)
theorem b_letter_in : ∀ (kV doc pm : Value) (an : Option Addr) (cdv ct : Value) (us : List Value), us.length = (["word"] : List Str).length → bindArgs (PySem.W.fnOf d_letter_in.name d_letter_in.qual d_letter_in.params d_letter_in.body d_letter_in.scope .none kV doc pm an cdv ct) ⟨us, []⟩ = pure ((["word"] : List Str).zip us) := fun _ _ _ _ _ _ us hl => match us, hl with | [_], _ => rfl
theorem mem_letter_in : d_letter_in ∈ ft.fn ∧ d_letter_in.name ∈ nms := ⟨List.mem_of_getElem? (i := 8) rfl, List.mem_of_getElem? (i := 8) rfl⟩
theorem g_letter_in (H : HdF P w K mg ft nms) : FnG P w (SyK K) mg base 9 "letter_in" m_letter_in := fnG_ok H mem_letter_in.1 mem_letter_in.2 rfl rfl rfl b_letter_in sc_letter_in rfl rfl (lk_of (T := T_letter_in) H (k_8 H) rfl rfl rfl rfl rfl (cv_ok (by decide +kernel)) rfl) cc_letter_in
theorem k_9 (H : HdF P w K mg ft nms) : Kn P w K mg base nms F_9 9 9 := Kn.push (k_8 H) rfl rfl (g_letter_in H)
theorem b_small_in : ∀ (kV doc pm : Value) (an : Option Addr) (cdv ct : Value) (us : List Value), us.length = (["word"] : List Str).length → bindArgs (PySem.W.fnOf d_small_in.name d_small_in.qual d_small_in.params d_small_in.body d_small_in.scope .none kV doc pm an cdv ct) ⟨us, []⟩ = pure ((["word"] : List Str).zip us) := fun _ _ _ _ _ _ us hl => match us, hl with | [_], _ => rfl
theorem mem_small_in : d_small_in ∈ ft.fn ∧ d_small_in.name ∈ nms := ⟨List.mem_of_getElem? (i := 9) rfl, List.mem_of_getElem? (i := 9) rfl⟩
theorem g_small_in (H : HdF P w K mg ft nms) : FnG P w (SyK K) mg base 10 "small_in" m_small_in := fnG_ok H mem_small_in.1 mem_small_in.2 rfl rfl rfl b_small_in sc_small_in rfl rfl (lk_of (T := T_small_in) H (k_9 H) rfl rfl rfl rfl rfl (cv_ok (by decide +kernel)) rfl) cc_small_in
theorem k_10 (H : HdF P w K mg ft nms) : Kn P w K mg base nms F_10 10 10 := Kn.push (k_9 H) rfl rfl (g_small_in H)
theorem b_all_in : ∀ (kV doc pm : Value) (an : Option Addr) (cdv ct : Value) (us : List Value), us.length = (["word", "read_one"] : List Str).length → bindArgs (PySem.W.fnOf d_all_in.name d_all_in.qual d_all_in.params d_all_in.body d_all_in.scope .none kV doc pm an cdv ct) ⟨us, []⟩ = pure ((["word", "read_one"] : List Str).zip us) := fun _ _ _ _ _ _ us hl => match us, hl with | [_, _], _ => rfl
theorem mem_all_in : d_all_in ∈ ft.fn ∧ d_all_in.name ∈ nms := ⟨List.mem_of_getElem? (i := 10) rfl, List.mem_of_getElem? (i := 10) rfl⟩
theorem g_all_in (H : HdF P w K mg ft nms) : FnG P w (SyK K) mg base 11 "all_in" m_all_in := fnG_ok H mem_all_in.1 mem_all_in.2 rfl rfl rfl b_all_in sc_all_in rfl rfl (lk_of (T := T_all_in) H (k_10 H) rfl rfl rfl rfl rfl (cv_ok (by decide +kernel)) rfl) cc_all_in
theorem k_11 (H : HdF P w K mg ft nms) : Kn P w K mg base nms F_11 11 11 := Kn.push (k_10 H) rfl rfl (g_all_in H)
theorem b_way_in : ∀ (kV doc pm : Value) (an : Option Addr) (cdv ct : Value) (us : List Value), us.length = (["word"] : List Str).length → bindArgs (PySem.W.fnOf d_way_in.name d_way_in.qual d_way_in.params d_way_in.body d_way_in.scope .none kV doc pm an cdv ct) ⟨us, []⟩ = pure ((["word"] : List Str).zip us) := fun _ _ _ _ _ _ us hl => match us, hl with | [_], _ => rfl
theorem mem_way_in : d_way_in ∈ ft.fn ∧ d_way_in.name ∈ nms := ⟨List.mem_of_getElem? (i := 11) rfl, List.mem_of_getElem? (i := 11) rfl⟩
theorem g_way_in (H : HdF P w K mg ft nms) : FnG P w (SyK K) mg base 12 "way_in" m_way_in := fnG_ok H mem_way_in.1 mem_way_in.2 rfl rfl rfl b_way_in sc_way_in rfl rfl (lk_of (T := T_way_in) H (k_11 H) rfl rfl rfl rfl rfl (cv_ok (by decide +kernel)) rfl) cc_way_in
theorem k_12 (H : HdF P w K mg ft nms) : Kn P w K mg base nms F_12 12 12 := Kn.push (k_11 H) rfl rfl (g_way_in H)
theorem b_thing_in : ∀ (kV doc pm : Value) (an : Option Addr) (cdv ct : Value) (us : List Value), us.length = (["shape", "word"] : List Str).length → bindArgs (PySem.W.fnOf d_thing_in.name d_thing_in.qual d_thing_in.params d_thing_in.body d_thing_in.scope .none kV doc pm an cdv ct) ⟨us, []⟩ = pure ((["shape", "word"] : List Str).zip us) := fun _ _ _ _ _ _ us hl => match us, hl with | [_, _], _ => rfl
theorem mem_thing_in : d_thing_in ∈ ft.fn ∧ d_thing_in.name ∈ nms := ⟨List.mem_of_getElem? (i := 12) rfl, List.mem_of_getElem? (i := 12) rfl⟩
theorem g_thing_in (H : HdF P w K mg ft nms) : FnG P w (SyK K) mg base 13 "thing_in" m_thing_in := fnG_ok H mem_thing_in.1 mem_thing_in.2 rfl rfl rfl b_thing_in sc_thing_in rfl rfl (lk_of (T := T_thing_in) H (k_12 H) rfl rfl rfl rfl rfl (cv_ok (by decide +kernel)) rfl) cc_thing_in
theorem k_13 (H : HdF P w K mg ft nms) : Kn P w K mg base nms F_13 13 13 := Kn.push (k_12 H) rfl rfl (g_thing_in H)
theorem b_deed_by : ∀ (kV doc pm : Value) (an : Option Addr) (cdv ct : Value) (us : List Value), us.length = (["head", "things"] : List Str).length → bindArgs (PySem.W.fnOf d_deed_by.name d_deed_by.qual d_deed_by.params d_deed_by.body d_deed_by.scope .none kV doc pm an cdv ct) ⟨us, []⟩ = pure ((["head", "things"] : List Str).zip us) := fun _ _ _ _ _ _ us hl => match us, hl with | [_, _], _ => rfl
theorem mem_deed_by : d_deed_by ∈ ft.fn ∧ d_deed_by.name ∈ nms := ⟨List.mem_of_getElem? (i := 13) rfl, List.mem_of_getElem? (i := 13) rfl⟩
theorem g_deed_by (H : HdF P w K mg ft nms) : FnG P w (SyK K) mg base 14 "deed_by" m_deed_by := fnG_ok H mem_deed_by.1 mem_deed_by.2 rfl rfl rfl b_deed_by sc_deed_by rfl rfl (lk_of (T := T_deed_by) H (k_13 H) rfl rfl rfl rfl rfl (cv_ok (by decide +kernel)) rfl) cc_deed_by
theorem k_14 (H : HdF P w K mg ft nms) : Kn P w K mg base nms F_14 14 14 := Kn.push (k_13 H) rfl rfl (g_deed_by H)
theorem b_read_deed : ∀ (kV doc pm : Value) (an : Option Addr) (cdv ct : Value) (us : List Value), us.length = (["text"] : List Str).length → bindArgs (PySem.W.fnOf d_read_deed.name d_read_deed.qual d_read_deed.params d_read_deed.body d_read_deed.scope .none kV doc pm an cdv ct) ⟨us, []⟩ = pure ((["text"] : List Str).zip us) := fun _ _ _ _ _ _ us hl => match us, hl with | [_], _ => rfl
theorem mem_read_deed : d_read_deed ∈ ft.fn ∧ d_read_deed.name ∈ nms := ⟨List.mem_of_getElem? (i := 14) rfl, List.mem_of_getElem? (i := 14) rfl⟩
theorem g_read_deed (H : HdF P w K mg ft nms) : FnG P w (SyK K) mg base 15 "read_deed" m_read_deed := fnG_ok H mem_read_deed.1 mem_read_deed.2 rfl rfl rfl b_read_deed sc_read_deed rfl rfl (lk_of (T := T_read_deed) H (k_14 H) rfl rfl rfl rfl rfl (cv_ok (by decide +kernel)) rfl) cc_read_deed
theorem k_15 (H : HdF P w K mg ft nms) : Kn P w K mg base nms F_15 15 15 := Kn.push (k_14 H) rfl rfl (g_read_deed H)
theorem b__law_feed : ∀ (kV doc pm : Value) (an : Option Addr) (cdv ct : Value) (us : List Value), us.length = (["_law_script"] : List Str).length → bindArgs (PySem.W.fnOf d__law_feed.name d__law_feed.qual d__law_feed.params d__law_feed.body d__law_feed.scope .none kV doc pm an cdv ct) ⟨us, []⟩ = pure ((["_law_script"] : List Str).zip us) := fun _ _ _ _ _ _ us hl => match us, hl with | [_], _ => rfl
theorem mem__law_feed : d__law_feed ∈ ft.fn ∧ d__law_feed.name ∈ nms := ⟨List.mem_of_getElem? (i := 15) rfl, List.mem_of_getElem? (i := 15) rfl⟩
theorem g__law_feed (H : HdF P w K mg ft nms) : FnG P w (SyK K) mg base 16 "_law_feed" m__law_feed := fnG_ok H mem__law_feed.1 mem__law_feed.2 rfl rfl rfl b__law_feed sc__law_feed rfl rfl (lk_of (T := T__law_feed) H (k_15 H) rfl rfl rfl rfl rfl (cv_ok (by decide +kernel)) rfl) cc__law_feed
theorem k_16 (H : HdF P w K mg ft nms) : Kn P w K mg base nms F_16 16 16 := Kn.push (k_15 H) rfl rfl (g__law_feed H)
theorem b__law_open : ∀ (kV doc pm : Value) (an : Option Addr) (cdv ct : Value) (us : List Value), us.length = (["_law_feed_here", "_law_k"] : List Str).length → bindArgs (PySem.W.fnOf d__law_open.name d__law_open.qual d__law_open.params d__law_open.body d__law_open.scope .none kV doc pm an cdv ct) ⟨us, []⟩ = pure ((["_law_feed_here", "_law_k"] : List Str).zip us) := fun _ _ _ _ _ _ us hl => match us, hl with | [_, _], _ => rfl
theorem mem__law_open : d__law_open ∈ ft.fn ∧ d__law_open.name ∈ nms := ⟨List.mem_of_getElem? (i := 16) rfl, List.mem_of_getElem? (i := 16) rfl⟩
theorem g__law_open (H : HdF P w K mg ft nms) : FnG P w (SyK K) mg base 17 "_law_open" m__law_open := fnG_ok H mem__law_open.1 mem__law_open.2 rfl rfl rfl b__law_open sc__law_open rfl rfl (lk_of (T := T__law_open) H (k_16 H) rfl rfl rfl rfl rfl (cv_ok (by decide +kernel)) rfl) cc__law_open
theorem k_17 (H : HdF P w K mg ft nms) : Kn P w K mg base nms F_17 17 17 := Kn.push (k_16 H) rfl rfl (g__law_open H)
theorem b__law_draw : ∀ (kV doc pm : Value) (an : Option Addr) (cdv ct : Value) (us : List Value), us.length = (["_law_feed_here", "_law_many"] : List Str).length → bindArgs (PySem.W.fnOf d__law_draw.name d__law_draw.qual d__law_draw.params d__law_draw.body d__law_draw.scope .none kV doc pm an cdv ct) ⟨us, []⟩ = pure ((["_law_feed_here", "_law_many"] : List Str).zip us) := fun _ _ _ _ _ _ us hl => match us, hl with | [_, _], _ => rfl
theorem mem__law_draw : d__law_draw ∈ ft.fn ∧ d__law_draw.name ∈ nms := ⟨List.mem_of_getElem? (i := 17) rfl, List.mem_of_getElem? (i := 17) rfl⟩
theorem g__law_draw (H : HdF P w K mg ft nms) : FnG P w (SyK K) mg base 18 "_law_draw" m__law_draw := fnG_ok H mem__law_draw.1 mem__law_draw.2 rfl rfl rfl b__law_draw sc__law_draw rfl rfl (lk_of (T := T__law_draw) H (k_17 H) rfl rfl rfl rfl rfl (cv_ok (by decide +kernel)) rfl) cc__law_draw
theorem k_18 (H : HdF P w K mg ft nms) : Kn P w K mg base nms F_18 18 18 := Kn.push (k_17 H) rfl rfl (g__law_draw H)
theorem b__law_line : ∀ (kV doc pm : Value) (an : Option Addr) (cdv ct : Value) (us : List Value), us.length = (["_law_words"] : List Str).length → bindArgs (PySem.W.fnOf d__law_line.name d__law_line.qual d__law_line.params d__law_line.body d__law_line.scope .none kV doc pm an cdv ct) ⟨us, []⟩ = pure ((["_law_words"] : List Str).zip us) := fun _ _ _ _ _ _ us hl => match us, hl with | [_], _ => rfl
theorem mem__law_line : d__law_line ∈ ft.fn ∧ d__law_line.name ∈ nms := ⟨List.mem_of_getElem? (i := 18) rfl, List.mem_of_getElem? (i := 18) rfl⟩
theorem g__law_line (H : HdF P w K mg ft nms) : FnG P w (SyK K) mg base 19 "_law_line" m__law_line := fnG_ok H mem__law_line.1 mem__law_line.2 rfl rfl rfl b__law_line sc__law_line rfl rfl (lk_of (T := T__law_line) H (k_18 H) rfl rfl rfl rfl rfl (cv_ok (by decide +kernel)) rfl) cc__law_line
theorem k_19 (H : HdF P w K mg ft nms) : Kn P w K mg base nms F_19 19 19 := Kn.push (k_18 H) rfl rfl (g__law_line H)
theorem b__law_commas : ∀ (kV doc pm : Value) (an : Option Addr) (cdv ct : Value) (us : List Value), us.length = (["_law_things"] : List Str).length → bindArgs (PySem.W.fnOf d__law_commas.name d__law_commas.qual d__law_commas.params d__law_commas.body d__law_commas.scope .none kV doc pm an cdv ct) ⟨us, []⟩ = pure ((["_law_things"] : List Str).zip us) := fun _ _ _ _ _ _ us hl => match us, hl with | [_], _ => rfl
theorem mem__law_commas : d__law_commas ∈ ft.fn ∧ d__law_commas.name ∈ nms := ⟨List.mem_of_getElem? (i := 19) rfl, List.mem_of_getElem? (i := 19) rfl⟩
theorem g__law_commas (H : HdF P w K mg ft nms) : FnG P w (SyK K) mg base 20 "_law_commas" m__law_commas := fnG_ok H mem__law_commas.1 mem__law_commas.2 rfl rfl rfl b__law_commas sc__law_commas rfl rfl (lk_of (T := T__law_commas) H (k_19 H) rfl rfl rfl rfl rfl (cv_ok (by decide +kernel)) rfl) cc__law_commas
theorem k_20 (H : HdF P w K mg ft nms) : Kn P w K mg base nms F_20 20 20 := Kn.push (k_19 H) rfl rfl (g__law_commas H)
theorem b__law_deed_text : ∀ (kV doc pm : Value) (an : Option Addr) (cdv ct : Value) (us : List Value), us.length = (["_law_deed"] : List Str).length → bindArgs (PySem.W.fnOf d__law_deed_text.name d__law_deed_text.qual d__law_deed_text.params d__law_deed_text.body d__law_deed_text.scope .none kV doc pm an cdv ct) ⟨us, []⟩ = pure ((["_law_deed"] : List Str).zip us) := fun _ _ _ _ _ _ us hl => match us, hl with | [_], _ => rfl
theorem mem__law_deed_text : d__law_deed_text ∈ ft.fn ∧ d__law_deed_text.name ∈ nms := ⟨List.mem_of_getElem? (i := 20) rfl, List.mem_of_getElem? (i := 20) rfl⟩
theorem g__law_deed_text (H : HdF P w K mg ft nms) : FnG P w (SyK K) mg base 21 "_law_deed_text" m__law_deed_text := fnG_ok H mem__law_deed_text.1 mem__law_deed_text.2 rfl rfl rfl b__law_deed_text sc__law_deed_text rfl rfl (lk_of (T := T__law_deed_text) H (k_20 H) rfl rfl rfl rfl rfl (cv_ok (by decide +kernel)) rfl) cc__law_deed_text
theorem k_21 (H : HdF P w K mg ft nms) : Kn P w K mg base nms F_21 21 21 := Kn.push (k_20 H) rfl rfl (g__law_deed_text H)
theorem b__law_number : ∀ (kV doc pm : Value) (an : Option Addr) (cdv ct : Value) (us : List Value), us.length = (["_law_feed_here"] : List Str).length → bindArgs (PySem.W.fnOf d__law_number.name d__law_number.qual d__law_number.params d__law_number.body d__law_number.scope .none kV doc pm an cdv ct) ⟨us, []⟩ = pure ((["_law_feed_here"] : List Str).zip us) := fun _ _ _ _ _ _ us hl => match us, hl with | [_], _ => rfl
theorem mem__law_number : d__law_number ∈ ft.fn ∧ d__law_number.name ∈ nms := ⟨List.mem_of_getElem? (i := 21) rfl, List.mem_of_getElem? (i := 21) rfl⟩
theorem g__law_number (H : HdF P w K mg ft nms) : FnG P w (SyK K) mg base 22 "_law_number" m__law_number := fnG_ok H mem__law_number.1 mem__law_number.2 rfl rfl rfl b__law_number sc__law_number rfl rfl (lk_of (T := T__law_number) H (k_21 H) rfl rfl rfl rfl rfl (cv_ok (by decide +kernel)) rfl) cc__law_number
theorem k_22 (H : HdF P w K mg ft nms) : Kn P w K mg base nms F_22 22 22 := Kn.push (k_21 H) rfl rfl (g__law_number H)
theorem b__law_throw : ∀ (kV doc pm : Value) (an : Option Addr) (cdv ct : Value) (us : List Value), us.length = (["_law_feed_here"] : List Str).length → bindArgs (PySem.W.fnOf d__law_throw.name d__law_throw.qual d__law_throw.params d__law_throw.body d__law_throw.scope .none kV doc pm an cdv ct) ⟨us, []⟩ = pure ((["_law_feed_here"] : List Str).zip us) := fun _ _ _ _ _ _ us hl => match us, hl with | [_], _ => rfl
theorem mem__law_throw : d__law_throw ∈ ft.fn ∧ d__law_throw.name ∈ nms := ⟨List.mem_of_getElem? (i := 22) rfl, List.mem_of_getElem? (i := 22) rfl⟩
theorem g__law_throw (H : HdF P w K mg ft nms) : FnG P w (SyK K) mg base 23 "_law_throw" m__law_throw := fnG_ok H mem__law_throw.1 mem__law_throw.2 rfl rfl rfl b__law_throw sc__law_throw rfl rfl (lk_of (T := T__law_throw) H (k_22 H) rfl rfl rfl rfl rfl (cv_ok (by decide +kernel)) rfl) cc__law_throw
theorem k_23 (H : HdF P w K mg ft nms) : Kn P w K mg base nms F_23 23 23 := Kn.push (k_22 H) rfl rfl (g__law_throw H)
theorem b__law_fall : ∀ (kV doc pm : Value) (an : Option Addr) (cdv ct : Value) (us : List Value), us.length = (["_law_feed_here"] : List Str).length → bindArgs (PySem.W.fnOf d__law_fall.name d__law_fall.qual d__law_fall.params d__law_fall.body d__law_fall.scope .none kV doc pm an cdv ct) ⟨us, []⟩ = pure ((["_law_feed_here"] : List Str).zip us) := fun _ _ _ _ _ _ us hl => match us, hl with | [_], _ => rfl
theorem mem__law_fall : d__law_fall ∈ ft.fn ∧ d__law_fall.name ∈ nms := ⟨List.mem_of_getElem? (i := 23) rfl, List.mem_of_getElem? (i := 23) rfl⟩
theorem g__law_fall (H : HdF P w K mg ft nms) : FnG P w (SyK K) mg base 24 "_law_fall" m__law_fall := fnG_ok H mem__law_fall.1 mem__law_fall.2 rfl rfl rfl b__law_fall sc__law_fall rfl rfl (lk_of (T := T__law_fall) H (k_23 H) rfl rfl rfl rfl rfl (cv_ok (by decide +kernel)) rfl) cc__law_fall
theorem k_24 (H : HdF P w K mg ft nms) : Kn P w K mg base nms F_24 24 24 := Kn.push (k_23 H) rfl rfl (g__law_fall H)
theorem b__law_any_deed : ∀ (kV doc pm : Value) (an : Option Addr) (cdv ct : Value) (us : List Value), us.length = (["_law_feed_here"] : List Str).length → bindArgs (PySem.W.fnOf d__law_any_deed.name d__law_any_deed.qual d__law_any_deed.params d__law_any_deed.body d__law_any_deed.scope .none kV doc pm an cdv ct) ⟨us, []⟩ = pure ((["_law_feed_here"] : List Str).zip us) := fun _ _ _ _ _ _ us hl => match us, hl with | [_], _ => rfl
theorem mem__law_any_deed : d__law_any_deed ∈ ft.fn ∧ d__law_any_deed.name ∈ nms := ⟨List.mem_of_getElem? (i := 24) rfl, List.mem_of_getElem? (i := 24) rfl⟩
theorem g__law_any_deed (H : HdF P w K mg ft nms) : FnG P w (SyK K) mg base 25 "_law_any_deed" m__law_any_deed := fnG_ok H mem__law_any_deed.1 mem__law_any_deed.2 rfl rfl rfl b__law_any_deed sc__law_any_deed rfl rfl (lk_of (T := T__law_any_deed) H (k_24 H) rfl rfl rfl rfl rfl (cv_ok (by decide +kernel)) rfl) cc__law_any_deed
theorem k_25 (H : HdF P w K mg ft nms) : Kn P w K mg base nms F_25 25 25 := Kn.push (k_24 H) rfl rfl (g__law_any_deed H)
theorem b__law_alike : ∀ (kV doc pm : Value) (an : Option Addr) (cdv ct : Value) (us : List Value), us.length = (["_law_found", "_law_due"] : List Str).length → bindArgs (PySem.W.fnOf d__law_alike.name d__law_alike.qual d__law_alike.params d__law_alike.body d__law_alike.scope .none kV doc pm an cdv ct) ⟨us, []⟩ = pure ((["_law_found", "_law_due"] : List Str).zip us) := fun _ _ _ _ _ _ us hl => match us, hl with | [_, _], _ => rfl
theorem mem__law_alike : d__law_alike ∈ ft.fn ∧ d__law_alike.name ∈ nms := ⟨List.mem_of_getElem? (i := 25) rfl, List.mem_of_getElem? (i := 25) rfl⟩
theorem g__law_alike (H : HdF P w K mg ft nms) (n : Nat) : ∀ d, FnG P w (SyK K) mg base (25 + d) "_law_alike" (m__law_alike n d)
  | 0 => fnG_stuck H mem__law_alike.1 mem__law_alike.2 rfl rfl rfl b__law_alike
  | d + 1 => fnG_ok (n := 25 + d) H mem__law_alike.1 mem__law_alike.2 rfl rfl rfl b__law_alike sc__law_alike rfl rfl (lk_of (T := T__law_alike) H (Kn.push_ (Kn.mono (k_25 H) (Nat.le_add_right _ _)) rfl rfl (g__law_alike H n d)) rfl rfl rfl rfl rfl (cv_ok (by decide +kernel)) rfl) cc__law_alike
theorem k_26 (H : HdF P w K mg ft nms) : Kn P w K mg base nms F_26 26 32 := Kn.push_ (Kn.mono (k_25 H) (by decide)) rfl rfl (g__law_alike H 0 7)
theorem b_law : ∀ (kV doc pm : Value) (an : Option Addr) (cdv ct : Value) (us : List Value), us.length = (["_law_script"] : List Str).length → bindArgs (PySem.W.fnOf d_law.name d_law.qual d_law.params d_law.body d_law.scope .none kV doc pm an cdv ct) ⟨us, []⟩ = pure ((["_law_script"] : List Str).zip us) := fun _ _ _ _ _ _ us hl => match us, hl with | [_], _ => rfl
theorem mem_law : d_law ∈ ft.fn ∧ d_law.name ∈ nms := ⟨List.mem_of_getElem? (i := 26) rfl, List.mem_of_getElem? (i := 26) rfl⟩
theorem l_law (H : HdF P w K mg ft nms) : Lk P w (SyK K) mg base F_26 T_law 32 := lk_of H (k_26 H) rfl rfl rfl rfl rfl (cv_ok (by decide +kernel)) rfl
end
end LawK80
end
section
open PySem PySem.Spec PyProof.Rows L2 Pi
namespace LawK80
/-- a word as it is written -/
def strV : PV → Str
  | .int i => Str.ofString (toString i)
  | .str x => x
  | _ => Str.empty
def isW : PV → Bool
  | .int i => decide (i.natAbs.log2 < 1920)
  | .str _ => true
  | _ => false
theorem str_w {p : PV} {M : Mh} (h : isW p = true) : biF .str [p] M = .ok (.str (strV p)) M := by
  cases p <;> first | cases h | skip
  · rename_i i
    show (if i.natAbs.log2 < 1920 then _ else _) = _
    rw [if_pos (of_decide_eq_true h)]
    rfl
  · rfl
def joinOk (a : Str) (ys : List Str) : Prop := ys.length ≤ sizeLine ∧ (ys.map (·.length)).sum + ys.length * a.length ≤ 16777216
theorem sum_le {b : Nat} : ∀ {ys : List Str}, (∀ y ∈ ys, y.length ≤ b) → (ys.map (·.length)).sum ≤ ys.length * b
  | [], _ => by simp
  | y :: ys, h => by
    have h1 := h y List.mem_cons_self
    have h2 := sum_le fun z hz => h z (List.mem_cons_of_mem _ hz)
    simp only [List.map_cons, List.sum_cons, List.length_cons, Nat.add_mul, Nat.one_mul]
    omega
theorem joinOk_of {a : Str} {ys : List Str} (b : Nat) (h : ∀ y ∈ ys, y.length ≤ b) (hl : ys.length ≤ 200) (ha : a.length ≤ 10) (hb : b ≤ 80000) : joinOk a ys := by
  have h1 := sum_le h
  have h2 : ys.length * b ≤ 200 * 80000 := Nat.mul_le_mul hl hb
  have h3 : ys.length * a.length ≤ 200 * 10 := Nat.mul_le_mul hl ha
  refine ⟨?_, by omega⟩
  rw [sizeLine_eq]
  omega
theorem strs_map {α : Type} (g : α → Str) : ∀ (l : List α), strsOf (l.map fun x => .str (g x)) = some (l.map g)
  | [] => rfl
  | x :: l => by
    show (strsOf (l.map fun x => .str (g x))).map (g x :: ·) = _
    rw [strs_map g l]
    rfl
theorem last_get {M : Mh} {o : MO} : (M ++ [o])[M.length]? = some o := by
  rw [List.getElem?_append_right (Nat.le_refl _)]
  simp
theorem seq_last {M : Mh} {l : List PV} : seqOf (M ++ [.lst l]) (.ref M.length) = some l := by
  unfold seqOf
  dsimp only
  rw [last_get]
/-- the code of a join of things as texts -/
def cJoin (a : Str) : CSs := .cons (.ret (.bm .join (.lit (.str a)) (.cons (.lc [1] (.bi .str (.cons (.var 1) .nil)) (.one 1) (.val (.var 0)) (.val (.lit (.bl true)))) .nil))) .nil
theorem join_run {F : Fs} {a : Str} {p : PV} {M : Mh} {w : Walk} (hW : Wf M) (hw : walkOf M p = some w) (hs : w.same M) (hi : ∀ x ∈ w.items, isW x = true) (hj : joinOk a (w.items.map strV)) :
    runF F 0 1 1 (cJoin a) [p] M = .ok (.str (Txt.join a (w.items.map strV))) M := by
  have hlc : ∀ f : PV → Mh → Res (Option PV), (∀ x ∈ w.items, f x M = .ok (some (.str (strV x))) M) → lcGo f w.same w.items M = .ok (w.items.map fun x => .str (strV x)) M := fun f hf => lcGo_map hs (fun x => .str (strV x)) hf
  have hl : w.items.length ≤ sizeLine := by simpa using hj.1
  unfold runF cJoin
  simp only [evSs, evS, evE, evL, evO, evI, evT, bind_ok, Rs.sb, Res.sb, List.getElem?_cons_succ, List.getElem?_cons_zero, List.map_cons, List.map_nil, List.replicate, List.cons_append, List.nil_append, List.singleton_append, List.length_singleton, List.length_cons, List.length_nil, Nat.reduceAdd, Nat.reduceLeDiff, if_true, if_false, oW, oP, oB, setT, setMany, wipeL, List.set_cons_zero, List.set_cons_succ, gcB_same, gcE_same, gcX_same, gcX_ok, bmOk, noX_ok, Rs.res, truth, newL, and_self, hw]
  rw [hlc _ fun x hx => ?_]
  · simp only [evSs, evS, evE, evL, evO, evI, evT, bind_ok, Rs.sb, Res.sb, List.getElem?_cons_succ, List.getElem?_cons_zero, List.map_cons, List.map_nil, List.replicate, List.cons_append, List.nil_append, List.singleton_append, List.length_singleton, List.length_cons, List.length_nil, Nat.reduceAdd, Nat.reduceLeDiff, if_true, if_false, oW, oP, oB, setT, setMany, wipeL, List.set_cons_zero, List.set_cons_succ, gcB_same, gcE_same, gcX_same, gcX_ok, bmOk, noX_ok, Rs.res, truth, newL, and_self, List.length_map, hl]
    have hb : bmf .join (.str a) [.ref M.length] (M ++ [.lst (w.items.map fun x => .str (strV x))]) = .ok (.str (Txt.join a (w.items.map strV))) (M ++ [.lst (w.items.map fun x => .str (strV x))]) := by
      show (match (seqOf (M ++ [.lst (w.items.map fun x => .str (strV x))]) (.ref M.length)).bind strsOf with
        | some ys => _
        | none => _) = _
      rw [seq_last, Option.bind_some, strs_map]
      dsimp only
      rw [if_pos hj.2]
    rw [hb, gcE_app hW rfl]
    exact gcX_same
  · simp only [evSs, evS, evE, evL, evO, evI, evT, bind_ok, Rs.sb, Res.sb, List.getElem?_cons_succ, List.getElem?_cons_zero, List.map_cons, List.map_nil, List.replicate, List.cons_append, List.nil_append, List.singleton_append, List.length_singleton, List.length_cons, List.length_nil, Nat.reduceAdd, Nat.reduceLeDiff, if_true, if_false, oW, oP, oB, setT, setMany, wipeL, List.set_cons_zero, List.set_cons_succ, gcB_same, gcE_same, gcX_same, gcX_ok, bmOk, noX_ok, Rs.res, truth, newL, and_self, str_w (hi x hx)]
theorem join_tup {F : Fs} {a : Str} {l : List PV} {ys : List Str} {M : Mh} (hW : Wf M) (e : l.map strV = ys) (hi : ∀ x ∈ l, isW x = true) (hj : joinOk a ys) : runF F 0 1 1 (cJoin a) [.tup l] M = .ok (.str (Txt.join a ys)) M := by
  subst e
  exact join_run (w := ⟨l, none, none⟩) hW rfl ⟨trivial, trivial⟩ hi hj
theorem join_lst {F : Fs} {a : Str} {n : Nat} {l : List PV} {ys : List Str} {M : Mh} (hM : M[n]? = some (.lst l)) (hW : Wf M) (e : l.map strV = ys) (hi : ∀ x ∈ l, isW x = true) (hj : joinOk a ys) : runF F 0 1 1 (cJoin a) [.ref n] M = .ok (.str (Txt.join a ys)) M := by
  subst e
  refine join_run (w := ⟨l, some (n, .lst l), none⟩) hW ?_ ⟨hM, trivial⟩ hi hj
  unfold walkOf
  dsimp only
  rw [hM]
theorem e_line : m_line_of = runF F_0 0 1 1 (cJoin " ") := rfl
theorem e_listed : m_listed = runF F_1 0 1 1 (cJoin ",") := rfl
theorem e_lline : m__law_line = runF F_18 0 1 1 (cJoin " ") := rfl
theorem e_lcommas : m__law_commas = runF F_19 0 1 1 (cJoin ",") := rfl
abbrev nat (n : Nat) : PV := .int (n : Int)
inductive Dd where
  | one (w : Str) (n : Nat) | two (w : Str) (a b : Nat) | hear (n : Nat) (c : Str) | come (r k : Nat) | throw (l : List Nat) | fall (ms ln : List Nat) (ws : List (Nat × List (Nat × Nat)))
def letP (q : Nat × Nat) : PV := .tup [nat q.1, nat q.2]
def wayP (q : Nat × List (Nat × Nat)) : PV := .tup [nat q.1, .tup (q.2.map letP)]
/-- the deed as a value; a fall's ways stand at r -/
def Dd.pv (r : Nat) : Dd → PV
  | .one w n => .tup [.str w, nat n]
  | .two w a b => .tup [.str w, nat a, nat b]
  | .hear n c => .tup [.str "hear", nat n, .str c]
  | .come r k => .tup [.str "come", nat r, nat k]
  | .throw l => .tup [.str "throw", .tup (l.map nat)]
  | .fall ms ln ws => .tup [.str "fall", .tup (ms.map nat), .tup (ln.map nat), .ref r]
def Dd.at_ (M : Mh) (r : Nat) : Dd → Prop
  | .fall _ _ ws => M[r]? = some (.lst (ws.map wayP))
  | _ => True
def numS (n : Nat) : Str := Str.ofString (toString (n : Int))
def letS (q : Nat × Nat) : Str := numS q.1 ++ "." ++ numS q.2
def comS (l : List Nat) : Str := Txt.join "," (l.map numS)
def wayS (q : Nat × List (Nat × Nat)) : Str := numS q.1 ++ ":" ++ Txt.join "," (q.2.map letS)
def Dd.words : Dd → List Str
  | .one w n => [w, numS n]
  | .two w a b => [w, numS a, numS b]
  | .hear n c => ["hear", numS n, c]
  | .come r k => ["come", letS (r, k)]
  | .throw l => "throw" :: l.map numS
  | .fall ms ln ws => "fall" :: comS ms :: comS ln :: ws.map wayS
def Dd.text (d : Dd) : Str := Txt.join " " d.words
def small (n : Nat) : Prop := n < 10 ^ 9
def letOk (q : Nat × Nat) : Prop := q.1 < 10 ^ 9 ∧ q.2 < 10 ^ 10
def lstOk (l : List Nat) : Prop := l ≠ [] ∧ l.length ≤ 4 ∧ ∀ n ∈ l, n < 10 ^ 9
def wayOk (q : Nat × List (Nat × Nat)) : Prop := q.1 < 10 ^ 9 ∧ q.2 ≠ [] ∧ q.2.length ≤ 3 ∧ ∀ z ∈ q.2, letOk z
def Dd.ok : Dd → Prop
  | .one w n => (w = "own" ∨ w = "keep") ∧ n < 10 ^ 9
  | .two w a b => (w = "note" ∨ w = "tell") ∧ a < 10 ^ 9 ∧ b < 10 ^ 9
  | .hear n c => n < 10 ^ 9 ∧ (c = "a" ∨ c = "b" ∨ c = "z")
  | .come r k => letOk (r, k)
  | .throw l => lstOk l
  | .fall ms ln ws => lstOk ms ∧ lstOk ln ∧ ws.length ≤ 3 ∧ ∀ q ∈ ws, wayOk q
theorem num_len {n k : Nat} (hk : 0 < k) (h : n < 10 ^ k) : (numS n).length ≤ k := by
  unfold numS
  rw [TL.len_tl, TL.tl_num]
  exact TL.numL_len hk h
theorem nat_w {n : Nat} (h : n < 10 ^ 10) : isW (nat n) = true := by
  show decide ((n : Int).natAbs.log2 < 1920) = true
  refine decide_eq_true ?_
  rw [Int.natAbs_natCast]
  by_cases h0 : n = 0
  · subst h0; decide
  · have : n.log2 < 40 := (Nat.log2_lt h0).mpr (Nat.lt_trans h (by decide))
    omega
theorem app_len (x y : Str) : (x ++ y).length = x.length + y.length := by
  rw [TL.len_tl, TL.tl_append, List.length_append, ← TL.len_tl, ← TL.len_tl]
theorem let_len {q : Nat × Nat} (h : letOk q) : (letS q).length ≤ 20 := by
  unfold letS
  rw [app_len, app_len]
  have h1 := num_len (k := 9) (by decide) h.1
  have h2 := num_len (k := 10) (by decide) h.2
  have h3 : (("." : Str)).length = 1 := rfl
  omega
end LawK80
end
section
open PySem PySem.Spec PyProof.Rows L2 Pi
namespace LawK80
theorem str_assoc (x y z : Str) : x ++ y ++ z = x ++ (y ++ z) := TL.ext_tl (by rw [TL.tl_append, TL.tl_append, TL.tl_append, TL.tl_append, List.append_assoc])
theorem str_nat {n : Nat} {M : Mh} (h : n < 10 ^ 10) : biF .str [nat n] M = .ok (.str (numS n)) M := str_w (nat_w h)
theorem add_str {x y : Str} {M : Mh} (h : x.length + y.length ≤ 16777216) : binop .add (.str x) (.str y) M = .ok (.str (x ++ y)) M := by
  unfold binop
  dsimp only
  rw [if_pos (by rw [sizeLine_eq]; exact h)]
theorem ix_tup {l : List PV} {i : Int} {p : PV} {M : Mh} (h : atI l i = some p) : ixop M (.tup l) (.int i) = .ok p M := by
  unfold ixop
  dsimp only
  rw [h]
  rfl
theorem at0 {a : PV} {l : List PV} : atI (a :: l) 0 = some a := by
  unfold atI ixN
  simp
theorem at1 {a b : PV} {l : List PV} : atI (a :: b :: l) 1 = some b := by
  unfold atI ixN
  simp
  rw [if_pos (by omega)]
  rfl
theorem at2 {a b c : PV} {l : List PV} : atI (a :: b :: c :: l) 2 = some c := by
  unfold atI ixN
  simp
  rw [if_pos (by omega)]
  rfl
theorem at3 {a b c d : PV} {l : List PV} : atI (a :: b :: c :: d :: l) 3 = some d := by
  unfold atI ixN
  simp
  rw [if_pos (by omega)]
  rfl
/-- letter_text -/
theorem letter_text_run {q : Nat × Nat} {M : Mh} (h : letOk q) : m_letter_text [letP q] M = .ok (.str (letS q)) M := by
  have h1 : q.1 < 10 ^ 10 := Nat.lt_trans h.1 (by decide)
  have l1 := num_len (k := 9) (by decide) h.1
  have l2 := num_len (k := 10) (by decide) h.2
  unfold m_letter_text runF c_letter_text letP
  simp only [evSs, evS, evE, evL, evO, evI, evT, bind_ok, Rs.sb, Res.sb, List.getElem?_cons_succ, List.getElem?_cons_zero, List.map_cons, List.map_nil, List.replicate, List.cons_append, List.nil_append, List.singleton_append, List.length_singleton, List.length_cons, List.length_nil, Nat.reduceAdd, Nat.reduceLeDiff, if_true, if_false, oW, oP, oB, setT, setMany, wipeL, List.set_cons_zero, List.set_cons_succ, gcB_same, gcE_same, gcX_same, gcX_ok, bmOk, noX_ok, Rs.res, truth, newL, and_self, ix_tup at0, ix_tup at1, str_nat h1, str_nat h.2]
  rw [add_str (by rw [show (("." : Str)).length = 1 from rfl]; omega)]
  simp only [evSs, evS, evE, evL, evO, evI, evT, bind_ok, Rs.sb, Res.sb, List.getElem?_cons_succ, List.getElem?_cons_zero, List.map_cons, List.map_nil, List.replicate, List.cons_append, List.nil_append, List.singleton_append, List.length_singleton, List.length_cons, List.length_nil, Nat.reduceAdd, Nat.reduceLeDiff, if_true, if_false, oW, oP, oB, setT, setMany, wipeL, List.set_cons_zero, List.set_cons_succ, gcB_same, gcE_same, gcX_same, gcX_ok, bmOk, noX_ok, Rs.res, truth, newL, and_self, add_str]
  rw [add_str (by rw [app_len, show (("." : Str)).length = 1 from rfl]; omega)]
  exact gcX_same
theorem items_map {α : Type} (l : List α) (g : α → PV) (s : α → Str) (h : ∀ x, strV (g x) = s x) : (l.map g).map strV = l.map s := by
  rw [List.map_map]
  exact List.map_congr_left fun x _ => h x
/-- numbers with commas -/
theorem nums_str (l : List Nat) : (l.map nat).map strV = l.map numS := items_map l nat numS fun _ => rfl
theorem nums_w {l : List Nat} (h : ∀ n ∈ l, n < 10 ^ 9) : ∀ x ∈ l.map nat, isW x = true := fun x hx => by
  obtain ⟨n, hn, rfl⟩ := List.mem_map.mp hx
  exact nat_w (Nat.lt_trans (h n hn) (by decide))
theorem nums_len {l : List Nat} (h : ∀ n ∈ l, n < 10 ^ 9) : ∀ y ∈ l.map numS, y.length ≤ 9 := fun y hy => by
  obtain ⟨n, hn, rfl⟩ := List.mem_map.mp hy
  exact num_len (by decide) (h n hn)
theorem com_any {F : Fs} {l : List Nat} {M : Mh} (hW : Wf M) (h : lstOk l) : runF F 0 1 1 (cJoin ",") [.tup (l.map nat)] M = .ok (.str (comS l)) M :=
  join_tup hW (nums_str l) (nums_w h.2.2) (joinOk_of 9 (nums_len h.2.2) (by rw [List.length_map]; have := h.2.1; omega) (by decide) (by decide))
/-- a line of words that stand in a list or a tuple -/
theorem words_len {l : List Str} (h : ∀ y ∈ l, y.length ≤ 80000) (hl : l.length ≤ 200) : joinOk " " l := joinOk_of 80000 h hl (by decide) (by decide)
theorem sum_join' (a : Str) : ∀ ys : List Str, (Str.join a ys).length ≤ (ys.map (·.length)).sum + ys.length * a.length
  | [] => Nat.zero_le _
  | [y] => by
    show y.length ≤ _
    simp
  | y :: z :: t => by
    have ih := sum_join' a (z :: t)
    show (y ++ a ++ Str.join a (z :: t)).length ≤ _
    rw [app_len, app_len]
    simp only [List.map_cons, List.sum_cons, List.length_cons, Nat.add_mul, Nat.one_mul] at ih ⊢
    omega
theorem sum_join (a : Str) (ys : List Str) : (Txt.join a ys).length ≤ (ys.map (·.length)).sum + ys.length * a.length := by
  rw [TL.join_eq]
  exact sum_join' a ys
theorem com_len {l : List Nat} (h : lstOk l) : (comS l).length ≤ 40 := by
  have h1 := sum_join "," (l.map numS)
  have h2 := sum_le (nums_len h.2.2)
  rw [List.length_map] at h1 h2
  have h3 : (("," : Str)).length = 1 := rfl
  have h4 := h.2.1
  have h5 : l.length * 9 ≤ 4 * 9 := Nat.mul_le_mul_right 9 h4
  unfold comS
  rw [h3] at h1
  omega
theorem way_len {q : Nat × List (Nat × Nat)} (h : wayOk q) : (wayS q).length ≤ 100 := by
  unfold wayS
  rw [app_len, app_len]
  have h0 := num_len (k := 9) (by decide) h.1
  have h1 := sum_join "," (q.2.map letS)
  have h2 := sum_le (ys := q.2.map letS) (b := 20) fun y hy => by
    obtain ⟨z, hz, rfl⟩ := List.mem_map.mp hy
    exact let_len (h.2.2.2 z hz)
  rw [List.length_map] at h1 h2
  have h3 : (("," : Str)).length = 1 := rfl
  have h6 : ((":" : Str)).length = 1 := rfl
  have h5 : q.2.length * 20 ≤ 3 * 20 := Nat.mul_le_mul_right 20 h.2.2.1
  have h7 := h.2.2.1
  rw [h3] at h1
  omega
end LawK80
end
section
open PySem PySem.Spec PyProof.Rows L2 Pi
namespace LawK80
theorem lets_run {q : List (Nat × Nat)} {M : Mh} {w : Mh → Prop} (hw : w M) (h : ∀ z ∈ q, letOk z) : lcGo (fun x M2 => (m_letter_text [x] M2).bind fun y M4 => .ok (some y) M4) w (q.map letP) M = .ok (q.map fun z => .str (letS z)) M :=
  lcGo_of letP (fun z => .str (letS z)) hw fun z hz => by
    rw [letter_text_run (h z hz), bind_ok]
theorem join_strs {F : Fs} {a : Str} {n : Nat} {ys : List Str} {M : Mh} (hM : M[n]? = some (.lst (ys.map .str))) (hW : Wf M) (hj : joinOk a ys) : runF F 0 1 1 (cJoin a) [.ref n] M = .ok (.str (Txt.join a ys)) M :=
  join_lst hM hW (by rw [List.map_map]; exact (List.map_congr_left fun _ _ => rfl).trans (List.map_id _)) (fun x hx => by
    obtain ⟨y, _, rfl⟩ := List.mem_map.mp hx
    rfl) hj
theorem wf_strs {M : Mh} (h : Wf M) (l : List Str) : Wf (M ++ [.lst (l.map .str)]) := h.push (lows_mem fun p hp => by
  obtain ⟨x, _, rfl⟩ := List.mem_map.mp hp
  rfl)
theorem get_app {M E : Mh} {n : Nat} {o : MO} (h : M[n]? = some o) : (M ++ E)[n]? = some o := by
  rw [List.getElem?_append_left (List.getElem?_eq_some_iff.mp h).1]
  exact h
theorem fall_body {M : Mh} {r : Nat} {ms ln : PV} {q : Nat × List (Nat × Nat)} {acc : List Str} (hW : Wf M) (hq : wayOk q) (hl : acc.length < 100) :
    evSs 0 F_3 cb1_fall_text [some ms, some ln, some (.ref r), some (.ref M.length), some (nat q.1), some (.tup (q.2.map letP)), none] (M ++ [.lst (acc.map .str)]) =
      .nx [some ms, some ln, some (.ref r), some (.ref M.length), some (nat q.1), some (.tup (q.2.map letP)), none] (M ++ [.lst ((acc ++ [wayS q]).map .str)]) := by
  have hW1 := wf_strs hW acc
  have h9 : q.1 < 10 ^ 10 := Nat.lt_trans hq.1 (by decide)
  have l0 := num_len (k := 9) (by decide) hq.1
  have hM : (M ++ [.lst (acc.map .str)])[M.length]? = some (.lst (acc.map .str)) := last_get
  unfold cb1_fall_text
  simp only [evSs, evS, evE, evL, evO, evI, evT, bind_ok, Rs.sb, Res.sb, List.getElem?_cons_succ, List.getElem?_cons_zero, List.map_cons, List.map_nil, List.replicate, List.cons_append, List.nil_append, List.singleton_append, List.length_singleton, List.length_cons, List.length_nil, Nat.reduceAdd, Nat.reduceLeDiff, if_true, if_false, oW, oP, oB, setT, setMany, wipeL, List.set_cons_zero, List.set_cons_succ, gcB_same, gcE_same, gcX_same, gcX_ok, bmOk, noX_ok, Rs.res, truth, newL, and_self, at_fall_text_listed, at_fall_text_letter_text, hM, walkOf]
  have hs : (Walk.same ⟨q.2.map letP, none, none⟩) (M ++ [.lst (acc.map .str)]) := ⟨trivial, trivial⟩
  have hsz : q.2.length ≤ sizeLine := by have := hq.2.2.1; rw [sizeLine_eq]; omega
  have hj : joinOk "," (q.2.map letS) := joinOk_of 20 (fun y hy => by
    obtain ⟨z, hz, rfl⟩ := List.mem_map.mp hy
    exact let_len (hq.2.2.2 z hz)) (by rw [List.length_map]; have := hq.2.2.1; omega) (by decide) (by decide)
  have hlist : m_listed [.ref (M ++ [MO.lst (acc.map .str)]).length] (M ++ [.lst (acc.map .str)] ++ [.lst (q.2.map fun z => .str (letS z))]) = .ok (.str (Txt.join "," (q.2.map letS))) (M ++ [.lst (acc.map .str)] ++ [.lst (q.2.map fun z => .str (letS z))]) := by
    have e : (q.2.map fun z => PV.str (letS z)) = (q.2.map letS).map .str := by rw [List.map_map]; rfl
    rw [e, e_listed]
    exact join_strs last_get (wf_strs hW1 _) hj
  have hb := way_len hq
  unfold wayS at hb
  rw [app_len] at hb
  have hb2 : (numS q.1).length + ((":" : Str)).length ≤ 16777216 := by rw [show ((":" : Str)).length = 1 from rfl]; omega
  rw [str_nat h9, gcE_same, bind_ok, add_str hb2, bind_ok]
  rw [lets_run hs hq.2.2.2]
  simp only [evSs, evS, evE, evL, evO, evI, evT, bind_ok, Rs.sb, Res.sb, List.getElem?_cons_succ, List.getElem?_cons_zero, List.map_cons, List.map_nil, List.replicate, List.cons_append, List.nil_append, List.singleton_append, List.length_singleton, List.length_cons, List.length_nil, Nat.reduceAdd, Nat.reduceLeDiff, if_true, if_false, oW, oP, oB, setT, setMany, wipeL, List.set_cons_zero, List.set_cons_succ, gcB_same, gcE_same, gcX_same, gcX_ok, bmOk, noX_ok, Rs.res, truth, newL, and_self, List.length_map, hsz, hlist]
  rw [add_str (by omega), bind_ok, bind_ok, append_last (by rw [List.length_map]; omega)]
  have e2 : acc.map PV.str ++ [PV.str (numS q.1 ++ ":" ++ Txt.join "," (q.2.map letS))] = (acc ++ [wayS q]).map PV.str := by
    rw [List.map_append]
    rfl
  rw [e2, gcE_last (wf_strs hW _) rfl]
end LawK80
end
section
open PySem PySem.Spec PyProof.Rows L2 Pi
namespace LawK80
theorem fall_loop {M : Mh} {r : Nat} {ms ln : PV} {all : List (Nat × List (Nat × Nat))} (hW : Wf M) (hr : M[r]? = some (.lst (all.map wayP))) : ∀ (ws : List (Nat × List (Nat × Nat))) (acc : List Str) (x y : Option PV), (∀ q ∈ ws, wayOk q) → acc.length + ws.length < 100 →
    ∃ x' y', forGo (.tup [4, 5]) (evSs 0 F_3 cb1_fall_text) (Walk.same ⟨all.map wayP, some (r, .lst (all.map wayP)), none⟩) (ws.map wayP) [some ms, some ln, some (.ref r), some (.ref M.length), x, y, none] (M ++ [.lst (acc.map .str)]) =
      .nx [some ms, some ln, some (.ref r), some (.ref M.length), x', y', none] (M ++ [.lst ((acc ++ ws.map wayS).map .str)])
  | [], acc, x, y, _, _ => ⟨x, y, by
      rw [List.map_nil, forGo_nil ⟨get_app hr, trivial⟩, List.map_nil, List.append_nil]⟩
  | q :: ws, acc, x, y, hq, hl => by
    rw [List.length_cons] at hl
    obtain ⟨x', y', ih⟩ := fall_loop hW hr ws (acc ++ [wayS q]) (some (nat q.1)) (some (.tup (q.2.map letP))) (fun z hz => hq z (List.mem_cons_of_mem _ hz)) (by rw [List.length_append, List.length_singleton]; omega)
    refine ⟨x', y', ?_⟩
    rw [List.map_cons, forGo_cons (r1 := [some ms, some ln, some (.ref r), some (.ref M.length), some (nat q.1), some (.tup (q.2.map letP)), none]) ⟨get_app hr, trivial⟩ rfl]
    rw [fall_body hW (hq q List.mem_cons_self) (by omega)]
    show forGo _ _ _ _ _ _ = _
    rw [ih, List.map_cons, List.append_assoc]
    rfl
theorem fall_words_ok {ms ln : List Nat} {ws : List (Nat × List (Nat × Nat))} (h : (Dd.fall ms ln ws).ok) : ∀ y ∈ (Dd.fall ms ln ws).words, y.length ≤ 100 := by
  obtain ⟨h1, h2, h3, h4⟩ := h
  intro y hy
  simp only [Dd.words, List.mem_cons, List.mem_map] at hy
  rcases hy with rfl | rfl | rfl | ⟨q, hq, rfl⟩
  · decide
  · have := com_len h1; omega
  · have := com_len h2; omega
  · exact way_len (h4 q hq)
theorem ways_low {ws : List (Nat × List (Nat × Nat))} {n : Nat} : lows n (ws.map wayP) = true := lows_mem fun p hp => by
  obtain ⟨q, _, rfl⟩ := List.mem_map.mp hp
  simp only [wayP, PV.low, lows, Bool.and_true, Bool.true_and]
  exact lows_mem fun p hp => by
    obtain ⟨z, _, rfl⟩ := List.mem_map.mp hp
    simp [letP, PV.low, lows]
theorem fall_text_run {M : Mh} {r : Nat} {ms ln : List Nat} {ws : List (Nat × List (Nat × Nat))} (hW : Wf M) (hr : M[r]? = some (.lst (ws.map wayP))) (h : (Dd.fall ms ln ws).ok) :
    m_fall_text [.tup (ms.map nat), .tup (ln.map nat), .ref r] M = .ok (.str (Dd.fall ms ln ws).text) M := by
  have hok := fall_words_ok h
  obtain ⟨h1, h2, h3, h4⟩ := h
  have hr' : (M ++ [.lst ([("fall" : Str), comS ms, comS ln].map .str)])[r]? = some (.lst (ws.map wayP)) := get_app hr
  have e1 : m_listed [.tup (ms.map nat)] M = .ok (.str (comS ms)) M := by rw [e_listed]; exact com_any hW h1
  have e2 : m_listed [.tup (ln.map nat)] M = .ok (.str (comS ln)) M := by rw [e_listed]; exact com_any hW h2
  have h3' : ¬ sizeLine < 3 := by rw [sizeLine_eq]; decide
  have h3'' : (3 : Nat) ≤ sizeLine := by rw [sizeLine_eq]; decide
  have hw : walkOf (M ++ [.lst [.str "fall", .str (comS ms), .str (comS ln)]]) (.ref r) = some ⟨ws.map wayP, some (r, .lst (ws.map wayP)), none⟩ := by
    unfold walkOf
    dsimp only
    rw [show (M ++ [.lst [.str "fall", .str (comS ms), .str (comS ln)]])[r]? = some (.lst (ws.map wayP)) from hr']
  obtain ⟨x', y', hloop⟩ := fall_loop (ms := .tup (ms.map nat)) (ln := .tup (ln.map nat)) hW hr ws ["fall", comS ms, comS ln] none none h4 (by simp only [List.length_cons, List.length_nil]; omega)
  unfold m_fall_text runF c_fall_text
  simp only [evSs, evS, evE, evL, evO, evI, evT, bind_ok, Rs.sb, Res.sb, List.getElem?_cons_succ, List.getElem?_cons_zero, List.map_cons, List.map_nil, List.replicate, List.cons_append, List.nil_append, List.singleton_append, List.length_singleton, List.length_cons, List.length_nil, Nat.reduceAdd, Nat.reduceLeDiff, if_true, if_false, oW, oP, oB, setT, setMany, wipeL, List.set_cons_zero, List.set_cons_succ, gcB_same, gcE_same, gcX_same, gcX_ok, bmOk, noX_ok, Rs.res, truth, newL, and_self, at_fall_text_listed, e1, e2, h3'', hw]
  have hloop' : forGo (.tup [4, 5]) (evSs 0 F_3 cb1_fall_text) (Walk.same ⟨ws.map wayP, some (r, .lst (ws.map wayP)), none⟩) (ws.map wayP) [some (.tup (ms.map nat)), some (.tup (ln.map nat)), some (.ref r), some (.ref M.length), none, none, none] (M ++ [.lst [.str "fall", .str (comS ms), .str (comS ln)]]) =
      .nx [some (.tup (ms.map nat)), some (.tup (ln.map nat)), some (.ref r), some (.ref M.length), x', y', none] (M ++ [.lst ((Dd.fall ms ln ws).words.map .str)]) := hloop
  rw [hloop']
  have e3 : m_line_of [.ref M.length] (M ++ [.lst ((Dd.fall ms ln ws).words.map .str)]) = .ok (.str (Dd.fall ms ln ws).text) (M ++ [.lst ((Dd.fall ms ln ws).words.map .str)]) := by
    rw [e_line]
    exact join_strs last_get (wf_strs hW _) (joinOk_of 100 hok (by simp [Dd.words]; omega) (by decide) (by decide))
  simp only [evSs, evS, evE, evL, evO, evI, evT, bind_ok, Rs.sb, Res.sb, List.getElem?_cons_succ, List.getElem?_cons_zero, List.map_cons, List.map_nil, List.replicate, List.cons_append, List.nil_append, List.singleton_append, List.length_singleton, List.length_cons, List.length_nil, Nat.reduceAdd, Nat.reduceLeDiff, if_true, if_false, oW, oP, oB, setT, setMany, wipeL, List.set_cons_zero, List.set_cons_succ, gcB_same, gcE_same, gcX_same, gcX_ok, bmOk, noX_ok, Rs.res, truth, newL, and_self, at_fall_text_line_of, e3]
  exact gcX_app hW rfl
end LawK80
end
section
open PySem PySem.Spec PyProof.Rows L2 Pi
namespace LawK80
theorem join2 (a b : Str) : Txt.join " " [a, b] = a ++ " " ++ b := by rw [TL.join_eq]; rfl
theorem num_ok (n : Nat) : PyData.strOk (numS n) = true := by
  unfold PyData.strOk
  refine Array.all_eq_true'.mpr fun c hc => ?_
  have hc' : c ∈ TL.numL n := by
    rw [← TL.tl_num]
    exact Array.mem_toList_iff.mpr hc
  have := TL.numL_digits n c hc'
  exact decide_eq_true (by omega)
/-- the deed's word -/
def Dd.head : Dd → Str
  | .one w _ => w
  | .two w _ _ => w
  | .hear _ _ => "hear"
  | .come _ _ => "come"
  | .throw _ => "throw"
  | .fall _ _ _ => "fall"
theorem eq_word {M : Mh} {x y : Str} (hx : PyData.strOk x = true) (hy : PyData.strOk y = true) : cmpop .eq (.str x) (.str y) M = .ok (.bl (x == y)) M := by
  show oB (eqPV M (.str x) (.str y)) M = _
  rw [eq_str hx hy]
  rfl
theorem ne_word {M : Mh} {x y : Str} (hx : PyData.strOk x = true) (hy : PyData.strOk y = true) : cmpop .ne (.str x) (.str y) M = .ok (.bl (!(x == y))) M := by
  show oB ((eqPV M (.str x) (.str y)).map (!·)) M = _
  rw [eq_str hx hy]
  rfl
theorem cut1 {a : PV} {l : List PV} {M : Mh} : slop M (.tup (a :: l)) (some 1) none = .ok (.tup l) M := by
  show Res.ok (PV.tup (cut (a :: l) (some 1) none)) M = _
  unfold Pi.cut HT.sIx
  simp
theorem words_run {F : Fs} {M : Mh} (hW : Wf M) {l : List PV} {ys : List Str} (e : l.map strV = ys) (hi : ∀ x ∈ l, isW x = true) (hy : ∀ y ∈ ys, y.length ≤ 100) (hl : ys.length ≤ 200) : runF F 0 1 1 (cJoin " ") [.tup l] M = .ok (.str (Txt.join " " ys)) M :=
  join_tup hW e hi (joinOk_of 100 hy hl (by decide) (by decide))
theorem plain_run {F : Fs} {M : Mh} (hW : Wf M) {d : Dd} {r : Nat} {l : List PV} (h : d.pv r = .tup l) (e : l.map strV = d.words) (hi : ∀ x ∈ l, isW x = true) (hy : ∀ y ∈ d.words, y.length ≤ 100) (hl : d.words.length ≤ 200) : runF F 0 1 1 (cJoin " ") [d.pv r] M = .ok (.str d.text) M := by
  rw [h]
  exact words_run hW e hi hy hl
theorem eqc {M : Mh} (x y : Str) (b : Bool) (h : (PyData.strOk x && PyData.strOk y && ((x == y) == b)) = true) : cmpop .eq (.str x) (.str y) M = .ok (.bl b) M := by
  simp only [Bool.and_eq_true] at h
  rw [eq_word h.1.1 h.1.2, eq_of_beq h.2]
theorem nec {M : Mh} (x y : Str) (b : Bool) (h : (PyData.strOk x && PyData.strOk y && ((x == y) == !b)) = true) : cmpop .ne (.str x) (.str y) M = .ok (.bl b) M := by
  simp only [Bool.and_eq_true] at h
  rw [ne_word h.1.1 h.1.2, eq_of_beq h.2, Bool.not_not]
theorem deed_text_other {M : Mh} (w : Str) {l : List PV} {ys : List Str} (hW : Wf M) (h1 : (PyData.strOk w && PyData.strOk "come" && ((w == "come") == false)) = true) (h2 : (PyData.strOk w && PyData.strOk "throw" && ((w == "throw") == false)) = true) (h3 : (PyData.strOk w && PyData.strOk "fall" && ((w == "fall") == false)) = true)
    (e : (.str w :: l).map strV = ys) (hi : ∀ x ∈ (.str w :: l), isW x = true) (hy : ∀ y ∈ ys, y.length ≤ 100) (hl : ys.length ≤ 200) : m_deed_text [.tup (.str w :: l)] M = .ok (.str (Txt.join " " ys)) M := by
  unfold m_deed_text runF c_deed_text
  simp only [evSs, evS, evE, evL, evO, evI, evT, bind_ok, Rs.sb, Res.sb, List.getElem?_cons_succ, List.getElem?_cons_zero, List.map_cons, List.map_nil, List.replicate, List.cons_append, List.nil_append, List.singleton_append, List.length_singleton, List.length_cons, List.length_nil, Nat.reduceAdd, Nat.reduceLeDiff, if_true, if_false, oW, oP, oB, setT, setMany, wipeL, List.set_cons_zero, List.set_cons_succ, gcB_same, gcE_same, gcX_same, gcX_ok, bmOk, noX_ok, Rs.res, truth, newL, and_self, ix_tup at0, eqc w "come" false h1, eqc w "throw" false h2, eqc w "fall" false h3, at_deed_text_line_of, e_line]
  rw [words_run hW e hi hy hl]
  exact gcX_same
theorem ldeed_text_other {M : Mh} (w : Str) {l : List PV} {ys : List Str} (hW : Wf M) (h1 : (PyData.strOk w && PyData.strOk "come" && ((w == "come") == false)) = true) (h2 : (PyData.strOk w && PyData.strOk "throw" && ((w == "throw") == false)) = true) (h3 : (PyData.strOk w && PyData.strOk "fall" && ((w == "fall") == !true)) = true)
    (e : (.str w :: l).map strV = ys) (hi : ∀ x ∈ (.str w :: l), isW x = true) (hy : ∀ y ∈ ys, y.length ≤ 100) (hl : ys.length ≤ 200) : m__law_deed_text [.tup (.str w :: l)] M = .ok (.str (Txt.join " " ys)) M := by
  unfold m__law_deed_text runF c__law_deed_text
  simp only [evSs, evS, evE, evL, evO, evI, evT, bind_ok, Rs.sb, Res.sb, List.getElem?_cons_succ, List.getElem?_cons_zero, List.map_cons, List.map_nil, List.replicate, List.cons_append, List.nil_append, List.singleton_append, List.length_singleton, List.length_cons, List.length_nil, Nat.reduceAdd, Nat.reduceLeDiff, if_true, if_false, oW, oP, oB, setT, setMany, wipeL, List.set_cons_zero, List.set_cons_succ, gcB_same, gcE_same, gcX_same, gcX_ok, bmOk, noX_ok, Rs.res, truth, newL, and_self, ix_tup at0, eqc w "come" false h1, eqc w "throw" false h2, nec w "fall" true h3, at__law_deed_text__law_line, e_lline]
  rw [words_run hW e hi hy hl]
  exact gcX_same
end LawK80
end
section
open PySem PySem.Spec PyProof.Rows L2 Pi
namespace LawK80
theorem num9 {n : Nat} (h : n < 10 ^ 9) : (numS n).length ≤ 100 := by have := num_len (k := 9) (by decide) h; omega
theorem n10 {n : Nat} (h : n < 10 ^ 9) : n < 10 ^ 10 := Nat.lt_trans h (by decide)
/-- add of two texts, to a text that is told -/
theorem add_to {M : Mh} (x y z : Str) (h : x.length + y.length ≤ 16777216) (e : x ++ y = z) : binop .add (.str x) (.str y) M = .ok (.str z) M := by
  rw [add_str h, e]
theorem come_text {r k : Nat} : (Dd.come r k).text = "come " ++ letS (r, k) := by
  show Txt.join " " ["come", letS (r, k)] = _
  rw [join2, show ("come" : Str) ++ (" " : Str) = "come " from by decide +kernel]
theorem add_tup {M : Mh} {l k : List PV} (h : l.length + k.length ≤ 16777216) : binop .add (.tup l) (.tup k) M = .ok (.tup (l ++ k)) M := by
  unfold binop
  dsimp only
  rw [if_pos (by rw [sizeLine_eq]; exact h)]
theorem one_line : (1 : Nat) ≤ sizeLine := by rw [sizeLine_eq]; decide
theorem deed_text_come {M : Mh} {r k : Nat} (h : letOk (r, k)) : m_deed_text [(Dd.come r k).pv 0] M = .ok (.str (Dd.come r k).text) M := by
  have hl := let_len h
  unfold m_deed_text runF c_deed_text
  have e1 : m_letter_text [.tup [nat r, nat k]] M = .ok (.str (letS (r, k))) M := by
    have e0 : PV.tup [nat r, nat k] = letP (r, k) := rfl
    rw [e0]
    exact letter_text_run h
  have e2 : binop .add (.str "come ") (.str (letS (r, k))) M = .ok (.str (Dd.come r k).text) M := by
    rw [come_text]
    refine add_str ?_
    have : (("come " : Str)).length = 5 := by decide +kernel
    omega
  simp only [evSs, evS, evE, evL, evO, evI, evT, bind_ok, Rs.sb, Res.sb, List.getElem?_cons_succ, List.getElem?_cons_zero, List.map_cons, List.map_nil, List.replicate, List.cons_append, List.nil_append, List.singleton_append, List.length_singleton, List.length_cons, List.length_nil, Nat.reduceAdd, Nat.reduceLeDiff, if_true, if_false, oW, oP, oB, setT, setMany, wipeL, List.set_cons_zero, List.set_cons_succ, gcB_same, gcE_same, gcX_same, gcX_ok, bmOk, noX_ok, Rs.res, truth, newL, and_self, Dd.pv, ix_tup at0, eqc "come" "come" true (by decide +kernel), cut1, at_deed_text_letter_text, e1, e2]
theorem ldeed_text_come {M : Mh} {r k : Nat} (h : letOk (r, k)) : m__law_deed_text [(Dd.come r k).pv 0] M = .ok (.str (Dd.come r k).text) M := by
  have l1 : (numS r).length ≤ 9 := num_len (k := 9) (by decide) h.1
  have l2 : (numS k).length ≤ 10 := num_len (k := 10) (by decide) h.2
  unfold m__law_deed_text runF c__law_deed_text
  simp only [evSs, evS, evE, evL, evO, evI, evT, bind_ok, Rs.sb, Res.sb, List.getElem?_cons_succ, List.getElem?_cons_zero, List.map_cons, List.map_nil, List.replicate, List.cons_append, List.nil_append, List.singleton_append, List.length_singleton, List.length_cons, List.length_nil, Nat.reduceAdd, Nat.reduceLeDiff, if_true, if_false, oW, oP, oB, setT, setMany, wipeL, List.set_cons_zero, List.set_cons_succ, gcB_same, gcE_same, gcX_same, gcX_ok, bmOk, noX_ok, Rs.res, truth, newL, and_self, Dd.pv, ix_tup at0, ix_tup at1, ix_tup at2, eqc "come" "come" true (by decide +kernel), str_nat (n10 h.1), str_nat h.2]
  rw [add_str (by rw [show (("come " : Str)).length = 5 from by decide +kernel]; omega)]
  simp only [evSs, evS, evE, evL, evO, evI, evT, bind_ok, Rs.sb, Res.sb, List.getElem?_cons_succ, List.getElem?_cons_zero, List.map_cons, List.map_nil, List.replicate, List.cons_append, List.nil_append, List.singleton_append, List.length_singleton, List.length_cons, List.length_nil, Nat.reduceAdd, Nat.reduceLeDiff, if_true, if_false, oW, oP, oB, setT, setMany, wipeL, List.set_cons_zero, List.set_cons_succ, gcB_same, gcE_same, gcX_same, gcX_ok, bmOk, noX_ok, Rs.res, truth, newL, and_self, add_str]
  rw [add_str (by rw [app_len, show (("come " : Str)).length = 5 from by decide +kernel, show (("." : Str)).length = 1 from rfl]; omega)]
  simp only [evSs, evS, evE, evL, evO, evI, evT, bind_ok, Rs.sb, Res.sb, List.getElem?_cons_succ, List.getElem?_cons_zero, List.map_cons, List.map_nil, List.replicate, List.cons_append, List.nil_append, List.singleton_append, List.length_singleton, List.length_cons, List.length_nil, Nat.reduceAdd, Nat.reduceLeDiff, if_true, if_false, oW, oP, oB, setT, setMany, wipeL, List.set_cons_zero, List.set_cons_succ, gcB_same, gcE_same, gcX_same, gcX_ok, bmOk, noX_ok, Rs.res, truth, newL, and_self, add_str]
  rw [add_to _ _ (Dd.come r k).text (by rw [app_len, app_len, show (("come " : Str)).length = 5 from by decide +kernel, show (("." : Str)).length = 1 from rfl]; omega) (by rw [come_text]; unfold letS; simp only [str_assoc])]
  exact gcX_same
theorem throw_words {l : List Nat} (h : lstOk l) : ∀ y ∈ (Dd.throw l).words, y.length ≤ 100 := fun y hy => by
  simp only [Dd.words, List.mem_cons, List.mem_map] at hy
  rcases hy with rfl | ⟨n, hn, rfl⟩
  · decide +kernel
  · exact num9 (h.2.2 n hn)
theorem throw_run {F : Fs} {M : Mh} (hW : Wf M) {l : List Nat} (h : lstOk l) : runF F 0 1 1 (cJoin " ") [.tup (.str "throw" :: l.map nat)] M = .ok (.str (Dd.throw l).text) M :=
  words_run (ys := (Dd.throw l).words) hW (by rw [List.map_cons, nums_str]; rfl) (fun x hx => by
    rcases List.mem_cons.mp hx with rfl | hx
    · rfl
    · exact nums_w h.2.2 x hx) (throw_words h) (by simp only [Dd.words, List.length_cons, List.length_map]; have := h.2.1; omega)
theorem deed_text_throw {M : Mh} (hW : Wf M) {l : List Nat} (h : lstOk l) : m_deed_text [(Dd.throw l).pv 0] M = .ok (.str (Dd.throw l).text) M := by
  unfold m_deed_text runF c_deed_text
  simp only [evSs, evS, evE, evL, evO, evI, evT, bind_ok, Rs.sb, Res.sb, List.getElem?_cons_succ, List.getElem?_cons_zero, List.map_cons, List.map_nil, List.replicate, List.cons_append, List.nil_append, List.singleton_append, List.length_singleton, List.length_cons, List.length_nil, Nat.reduceAdd, Nat.reduceLeDiff, if_true, if_false, oW, oP, oB, setT, setMany, wipeL, List.set_cons_zero, List.set_cons_succ, gcB_same, gcE_same, gcX_same, gcX_ok, bmOk, noX_ok, Rs.res, truth, newL, and_self, Dd.pv, ix_tup at0, ix_tup at1, eqc "throw" "come" false (by decide +kernel), eqc "throw" "throw" true (by decide +kernel), one_line]
  rw [add_tup (by simp only [List.length_cons, List.length_nil, List.length_map]; have := h.2.1; omega)]
  simp only [evSs, evS, evE, evL, evO, evI, evT, bind_ok, Rs.sb, Res.sb, List.getElem?_cons_succ, List.getElem?_cons_zero, List.map_cons, List.map_nil, List.replicate, List.cons_append, List.nil_append, List.singleton_append, List.length_singleton, List.length_cons, List.length_nil, Nat.reduceAdd, Nat.reduceLeDiff, if_true, if_false, oW, oP, oB, setT, setMany, wipeL, List.set_cons_zero, List.set_cons_succ, gcB_same, gcE_same, gcX_same, gcX_ok, bmOk, noX_ok, Rs.res, truth, newL, and_self, at_deed_text_line_of, e_line, throw_run hW h]
theorem ldeed_text_throw {M : Mh} (hW : Wf M) {l : List Nat} (h : lstOk l) : m__law_deed_text [(Dd.throw l).pv 0] M = .ok (.str (Dd.throw l).text) M := by
  unfold m__law_deed_text runF c__law_deed_text
  simp only [evSs, evS, evE, evL, evO, evI, evT, bind_ok, Rs.sb, Res.sb, List.getElem?_cons_succ, List.getElem?_cons_zero, List.map_cons, List.map_nil, List.replicate, List.cons_append, List.nil_append, List.singleton_append, List.length_singleton, List.length_cons, List.length_nil, Nat.reduceAdd, Nat.reduceLeDiff, if_true, if_false, oW, oP, oB, setT, setMany, wipeL, List.set_cons_zero, List.set_cons_succ, gcB_same, gcE_same, gcX_same, gcX_ok, bmOk, noX_ok, Rs.res, truth, newL, and_self, Dd.pv, ix_tup at0, ix_tup at1, eqc "throw" "come" false (by decide +kernel), eqc "throw" "throw" true (by decide +kernel), one_line]
  rw [add_tup (by simp only [List.length_cons, List.length_nil, List.length_map]; have := h.2.1; omega)]
  simp only [evSs, evS, evE, evL, evO, evI, evT, bind_ok, Rs.sb, Res.sb, List.getElem?_cons_succ, List.getElem?_cons_zero, List.map_cons, List.map_nil, List.replicate, List.cons_append, List.nil_append, List.singleton_append, List.length_singleton, List.length_cons, List.length_nil, Nat.reduceAdd, Nat.reduceLeDiff, if_true, if_false, oW, oP, oB, setT, setMany, wipeL, List.set_cons_zero, List.set_cons_succ, gcB_same, gcE_same, gcX_same, gcX_ok, bmOk, noX_ok, Rs.res, truth, newL, and_self, at__law_deed_text__law_line, e_lline, throw_run hW h]
theorem deed_text_fall {M : Mh} (hW : Wf M) {ms ln : List Nat} {ws : List (Nat × List (Nat × Nat))} {r : Nat} (hr : M[r]? = some (.lst (ws.map wayP))) (h : (Dd.fall ms ln ws).ok) : m_deed_text [(Dd.fall ms ln ws).pv r] M = .ok (.str (Dd.fall ms ln ws).text) M := by
  unfold m_deed_text runF c_deed_text
  simp only [evSs, evS, evE, evL, evO, evI, evT, bind_ok, Rs.sb, Res.sb, List.getElem?_cons_succ, List.getElem?_cons_zero, List.map_cons, List.map_nil, List.replicate, List.cons_append, List.nil_append, List.singleton_append, List.length_singleton, List.length_cons, List.length_nil, Nat.reduceAdd, Nat.reduceLeDiff, if_true, if_false, oW, oP, oB, setT, setMany, wipeL, List.set_cons_zero, List.set_cons_succ, gcB_same, gcE_same, gcX_same, gcX_ok, bmOk, noX_ok, Rs.res, truth, newL, and_self, Dd.pv, ix_tup at0, ix_tup at1, ix_tup at2, ix_tup at3, eqc "fall" "come" false (by decide +kernel), eqc "fall" "throw" false (by decide +kernel), eqc "fall" "fall" true (by decide +kernel), at_deed_text_fall_text, fall_text_run hW hr h]
/-- the program's text of a deed -/
theorem deed_text_run {M : Mh} (hW : Wf M) {d : Dd} {r : Nat} (hr : d.at_ M r) (h : d.ok) : m_deed_text [d.pv r] M = .ok (.str d.text) M := by
  cases d with
  | one w n =>
    obtain ⟨hw, hn⟩ := h
    have hi : ∀ x ∈ [PV.str w, nat n], isW x = true := fun x hx => by
      simp only [List.mem_cons, List.mem_nil_iff, or_false] at hx
      rcases hx with rfl | rfl
      · rfl
      · exact nat_w (n10 hn)
    have hy : ∀ y ∈ [w, numS n], y.length ≤ 100 := fun y hy => by
      simp only [List.mem_cons, List.mem_nil_iff, or_false] at hy
      rcases hy with rfl | rfl
      · rcases hw with rfl | rfl <;> decide +kernel
      · exact num9 hn
    rcases hw with rfl | rfl
    · exact deed_text_other (ys := ["own", numS n]) "own" hW (by decide +kernel) (by decide +kernel) (by decide +kernel) rfl hi hy (by simp)
    · exact deed_text_other (ys := ["keep", numS n]) "keep" hW (by decide +kernel) (by decide +kernel) (by decide +kernel) rfl hi hy (by simp)
  | two w a b =>
    obtain ⟨hw, hn, hb⟩ := h
    have hi : ∀ x ∈ [PV.str w, nat a, nat b], isW x = true := fun x hx => by
      simp only [List.mem_cons, List.mem_nil_iff, or_false] at hx
      rcases hx with rfl | rfl | rfl
      · rfl
      · exact nat_w (n10 hn)
      · exact nat_w (n10 hb)
    have hy : ∀ y ∈ [w, numS a, numS b], y.length ≤ 100 := fun y hy => by
      simp only [List.mem_cons, List.mem_nil_iff, or_false] at hy
      rcases hy with rfl | rfl | rfl
      · rcases hw with rfl | rfl <;> decide +kernel
      · exact num9 hn
      · exact num9 hb
    rcases hw with rfl | rfl
    · exact deed_text_other (ys := ["note", numS a, numS b]) "note" hW (by decide +kernel) (by decide +kernel) (by decide +kernel) rfl hi hy (by simp)
    · exact deed_text_other (ys := ["tell", numS a, numS b]) "tell" hW (by decide +kernel) (by decide +kernel) (by decide +kernel) rfl hi hy (by simp)
  | hear n c =>
    obtain ⟨hn, hc⟩ := h
    have hi : ∀ x ∈ [PV.str "hear", nat n, .str c], isW x = true := fun x hx => by
      simp only [List.mem_cons, List.mem_nil_iff, or_false] at hx
      rcases hx with rfl | rfl | rfl
      · rfl
      · exact nat_w (n10 hn)
      · rfl
    have hy : ∀ y ∈ [("hear" : Str), numS n, c], y.length ≤ 100 := fun y hy => by
      simp only [List.mem_cons, List.mem_nil_iff, or_false] at hy
      rcases hy with rfl | rfl | rfl
      · decide +kernel
      · exact num9 hn
      · rcases hc with rfl | rfl | rfl <;> decide +kernel
    exact deed_text_other (ys := ["hear", numS n, c]) "hear" hW (by decide +kernel) (by decide +kernel) (by decide +kernel) rfl hi hy (by simp)
  | come r' k => exact deed_text_come h
  | throw l => exact deed_text_throw hW h
  | fall ms ln ws => exact deed_text_fall hW hr h
end LawK80
end
section
open PySem PySem.Spec PyProof.Rows L2 Pi
namespace LawK80
theorem llets_run {F : Fs} {q : List (Nat × Nat)} {M : Mh} {r : Lv} {w : Mh → Prop} (hw : w M) (h : ∀ z ∈ q, letOk z) (f : PV → Mh → Res (Option PV)) (hf : ∀ z : Nat × Nat, letOk z → f (letP z) M = .ok (some (.str (letS z))) M) : lcGo f w (q.map letP) M = .ok (q.map fun z => .str (letS z)) M :=
  lcGo_of letP (fun z => .str (letS z)) hw fun z hz => hf z (h z hz)
theorem lfall_body {M : Mh} {d : PV} {x4 x5 : Option PV} {q : Nat × List (Nat × Nat)} {acc : List Str} (hW : Wf M) (hq : wayOk q) (hl : acc.length < 100) :
    evSs 0 F_20 cb1__law_deed_text [some d, some (.ref M.length), some (nat q.1), some (.tup (q.2.map letP)), x4, x5] (M ++ [.lst (acc.map .str)]) =
      .nx [some d, some (.ref M.length), some (nat q.1), some (.tup (q.2.map letP)), x4, x5] (M ++ [.lst ((acc ++ [wayS q]).map .str)]) := by
  have hW1 := wf_strs hW acc
  have h9 : q.1 < 10 ^ 10 := Nat.lt_trans hq.1 (by decide)
  have l0 := num_len (k := 9) (by decide) hq.1
  have hM : (M ++ [.lst (acc.map .str)])[M.length]? = some (.lst (acc.map .str)) := last_get
  have hs : (Walk.same ⟨q.2.map letP, none, none⟩) (M ++ [.lst (acc.map .str)]) := ⟨trivial, trivial⟩
  have hsz : q.2.length ≤ sizeLine := by have := hq.2.2.1; rw [sizeLine_eq]; omega
  have hj : joinOk "," (q.2.map letS) := joinOk_of 20 (fun y hy => by
    obtain ⟨z, hz, rfl⟩ := List.mem_map.mp hy
    exact let_len (hq.2.2.2 z hz)) (by rw [List.length_map]; have := hq.2.2.1; omega) (by decide) (by decide)
  have hlist : m__law_commas [.ref (M ++ [MO.lst (acc.map .str)]).length] (M ++ [.lst (acc.map .str)] ++ [.lst (q.2.map fun z => .str (letS z))]) = .ok (.str (Txt.join "," (q.2.map letS))) (M ++ [.lst (acc.map .str)] ++ [.lst (q.2.map fun z => .str (letS z))]) := by
    have e : (q.2.map fun z => PV.str (letS z)) = (q.2.map letS).map .str := by rw [List.map_map]; rfl
    rw [e, e_lcommas]
    exact join_strs last_get (wf_strs hW1 _) hj
  have hb := way_len hq
  unfold wayS at hb
  rw [app_len] at hb
  have hb2 : (numS q.1).length + ((":" : Str)).length ≤ 16777216 := by rw [show ((":" : Str)).length = 1 from rfl]; omega
  unfold cb1__law_deed_text
  simp only [evSs, evS, evE, evL, evO, evI, evT, bind_ok, Rs.sb, Res.sb, List.getElem?_cons_succ, List.getElem?_cons_zero, List.map_cons, List.map_nil, List.replicate, List.cons_append, List.nil_append, List.singleton_append, List.length_singleton, List.length_cons, List.length_nil, Nat.reduceAdd, Nat.reduceLeDiff, if_true, if_false, oW, oP, oB, setT, setMany, wipeL, List.set_cons_zero, List.set_cons_succ, gcB_same, gcE_same, gcX_same, gcX_ok, bmOk, noX_ok, Rs.res, truth, newL, and_self, at__law_deed_text__law_commas, hM, walkOf]
  rw [str_nat h9, gcE_same, bind_ok, add_str hb2, bind_ok]
  rw [llets_run (F := F_20) (r := []) hs hq.2.2.2 _ fun z hz => ?_]
  · simp only [evSs, evS, evE, evL, evO, evI, evT, bind_ok, Rs.sb, Res.sb, List.getElem?_cons_succ, List.getElem?_cons_zero, List.map_cons, List.map_nil, List.replicate, List.cons_append, List.nil_append, List.singleton_append, List.length_singleton, List.length_cons, List.length_nil, Nat.reduceAdd, Nat.reduceLeDiff, if_true, if_false, oW, oP, oB, setT, setMany, wipeL, List.set_cons_zero, List.set_cons_succ, gcB_same, gcE_same, gcX_same, gcX_ok, bmOk, noX_ok, Rs.res, truth, newL, and_self, List.length_map, hsz, hlist]
    rw [add_str (by omega), bind_ok, bind_ok, append_last (by rw [List.length_map]; omega)]
    have e2 : acc.map PV.str ++ [PV.str (numS q.1 ++ ":" ++ Txt.join "," (q.2.map letS))] = (acc ++ [wayS q]).map PV.str := by
      rw [List.map_append]
      rfl
    rw [e2, gcE_last (wf_strs hW _) rfl]
  · have l1 : (numS z.1).length ≤ 9 := num_len (k := 9) (by decide) hz.1
    have l2 : (numS z.2).length ≤ 10 := num_len (k := 10) (by decide) hz.2
    simp only [evSs, evS, evE, evL, evO, evI, evT, bind_ok, Rs.sb, Res.sb, List.getElem?_cons_succ, List.getElem?_cons_zero, List.map_cons, List.map_nil, List.replicate, List.cons_append, List.nil_append, List.singleton_append, List.length_singleton, List.length_cons, List.length_nil, Nat.reduceAdd, Nat.reduceLeDiff, if_true, if_false, oW, oP, oB, setT, setMany, wipeL, List.set_cons_zero, List.set_cons_succ, gcB_same, gcE_same, gcX_same, gcX_ok, bmOk, noX_ok, Rs.res, truth, newL, and_self, letP, str_nat (n10 hz.1), str_nat hz.2]
    rw [add_str (by rw [show (("." : Str)).length = 1 from rfl]; omega), bind_ok, add_str (by rw [app_len, show (("." : Str)).length = 1 from rfl]; omega)]
    rfl
end LawK80
end
section
open PySem PySem.Spec PyProof.Rows L2 Pi
namespace LawK80
theorem lfall_loop {M : Mh} {r : Nat} {d : PV} {x4 x5 : Option PV} {all : List (Nat × List (Nat × Nat))} (hW : Wf M) (hr : M[r]? = some (.lst (all.map wayP))) : ∀ (ws : List (Nat × List (Nat × Nat))) (acc : List Str) (x y : Option PV), (∀ q ∈ ws, wayOk q) → acc.length + ws.length < 100 →
    ∃ x' y', forGo (.tup [2, 3]) (evSs 0 F_20 cb1__law_deed_text) (Walk.same ⟨all.map wayP, some (r, .lst (all.map wayP)), none⟩) (ws.map wayP) [some d, some (.ref M.length), x, y, x4, x5] (M ++ [.lst (acc.map .str)]) =
      .nx [some d, some (.ref M.length), x', y', x4, x5] (M ++ [.lst ((acc ++ ws.map wayS).map .str)])
  | [], acc, x, y, _, _ => ⟨x, y, by
      rw [List.map_nil, forGo_nil ⟨get_app hr, trivial⟩, List.map_nil, List.append_nil]⟩
  | q :: ws, acc, x, y, hq, hl => by
    rw [List.length_cons] at hl
    obtain ⟨x', y', ih⟩ := lfall_loop (x4 := x4) (x5 := x5) (d := d) hW hr ws (acc ++ [wayS q]) (some (nat q.1)) (some (.tup (q.2.map letP))) (fun z hz => hq z (List.mem_cons_of_mem _ hz)) (by rw [List.length_append, List.length_singleton]; omega)
    refine ⟨x', y', ?_⟩
    rw [List.map_cons, forGo_cons (r1 := [some d, some (.ref M.length), some (nat q.1), some (.tup (q.2.map letP)), x4, x5]) ⟨get_app hr, trivial⟩ rfl]
    rw [lfall_body hW (hq q List.mem_cons_self) (by omega)]
    show forGo _ _ _ _ _ _ = _
    rw [ih, List.map_cons, List.append_assoc]
    rfl
theorem three_line : (3 : Nat) ≤ sizeLine := by rw [sizeLine_eq]; decide
theorem zero_line : (0 : Nat) ≤ sizeLine := Nat.zero_le _
theorem ldeed_text_fall {M : Mh} (hW : Wf M) {ms ln : List Nat} {ws : List (Nat × List (Nat × Nat))} {r : Nat} (hr : M[r]? = some (.lst (ws.map wayP))) (h : (Dd.fall ms ln ws).ok) : m__law_deed_text [(Dd.fall ms ln ws).pv r] M = .ok (.str (Dd.fall ms ln ws).text) M := by
  have hok := fall_words_ok h
  obtain ⟨h1, h2, h3, h4⟩ := h
  generalize hd : (Dd.fall ms ln ws).pv r = d
  have hd' : d = .tup [.str "fall", .tup (ms.map nat), .tup (ln.map nat), .ref r] := hd.symm
  have e0 : ixop M d (.int 0) = .ok (.str "fall") M := by rw [hd']; exact ix_tup at0
  have e3 : ixop (M ++ [.lst []]) d (.int 3) = .ok (.ref r) (M ++ [.lst []]) := by rw [hd']; exact ix_tup at3
  have hw : walkOf (M ++ [.lst []]) (.ref r) = some ⟨ws.map wayP, some (r, .lst (ws.map wayP)), none⟩ := by
    unfold walkOf
    dsimp only
    rw [get_app hr]
  obtain ⟨x', y', hloop⟩ := lfall_loop (d := d) (x4 := none) (x5 := none) hW hr ws [] none none h4 (by simp only [List.length_nil]; omega)
  have hloop' : forGo (.tup [2, 3]) (evSs 0 F_20 cb1__law_deed_text) (Walk.same ⟨ws.map wayP, some (r, .lst (ws.map wayP)), none⟩) (ws.map wayP) [some d, some (.ref M.length), none, none, none, none] (M ++ [.lst []]) =
      .nx [some d, some (.ref M.length), x', y', none, none] (M ++ [.lst ((ws.map wayS).map .str)]) := hloop
  generalize hM1 : M ++ [.lst ((ws.map wayS).map .str)] = M1 at hloop'
  have hW1 : Wf M1 := by rw [← hM1]; exact wf_strs hW _
  have e1 : ixop M1 d (.int 1) = .ok (.tup (ms.map nat)) M1 := by rw [hd']; exact ix_tup at1
  have e2 : ixop M1 d (.int 2) = .ok (.tup (ln.map nat)) M1 := by rw [hd']; exact ix_tup at2
  have c1 : m__law_commas [.tup (ms.map nat)] M1 = .ok (.str (comS ms)) M1 := by rw [e_lcommas]; exact com_any hW1 h1
  have c2 : m__law_commas [.tup (ln.map nat)] M1 = .ok (.str (comS ln)) M1 := by rw [e_lcommas]; exact com_any hW1 h2
  have hl1 : M1.length = M.length + 1 := by rw [← hM1]; simp
  have hadd : binop .add (.ref M1.length) (.ref M.length) (M1 ++ [.lst [.str "fall", .str (comS ms), .str (comS ln)]]) = .ok (.ref (M1.length + 1)) (M1 ++ [.lst [.str "fall", .str (comS ms), .str (comS ln)]] ++ [.lst ((Dd.fall ms ln ws).words.map .str)]) := by
    have g1 : (M1 ++ [.lst [.str "fall", .str (comS ms), .str (comS ln)]])[M1.length]? = some (.lst [.str "fall", .str (comS ms), .str (comS ln)]) := last_of
    have g2 : (M1 ++ [.lst [.str "fall", .str (comS ms), .str (comS ln)]])[M.length]? = some (.lst ((ws.map wayS).map .str)) := by
      refine get_app ?_
      rw [← hM1]
      exact last_of
    unfold binop
    dsimp only
    rw [g1, g2]
    dsimp only
    rw [if_pos (by rw [sizeLine_eq]; simp only [List.length_cons, List.length_nil, List.length_map]; omega)]
    simp only [List.length_append, List.length_singleton]
    rfl
  generalize hM2 : M1 ++ [.lst [.str "fall", .str (comS ms), .str (comS ln)]] ++ [.lst ((Dd.fall ms ln ws).words.map .str)] = M2 at hadd
  have hW2 : Wf (M1 ++ [.lst [.str "fall", .str (comS ms), .str (comS ln)]]) := wf_strs hW1 ["fall", comS ms, comS ln]
  have e4 : m__law_line [.ref (M1.length + 1)] M2 = .ok (.str (Dd.fall ms ln ws).text) M2 := by
    rw [e_lline]
    refine join_strs (ys := (Dd.fall ms ln ws).words) ?_ ?_ (joinOk_of 100 hok (by simp [Dd.words]; omega) (by decide) (by decide))
    · rw [← hM2]
      have := last_of (M := M1 ++ [.lst [.str "fall", .str (comS ms), .str (comS ln)]]) (o := .lst ((Dd.fall ms ln ws).words.map .str))
      simpa using this
    · rw [← hM2]
      exact wf_strs hW2 _
  unfold m__law_deed_text runF c__law_deed_text
  simp only [evSs, evS, evE, evL, evO, evI, evT, bind_ok, Rs.sb, Res.sb, List.getElem?_cons_succ, List.getElem?_cons_zero, List.map_cons, List.map_nil, List.replicate, List.cons_append, List.nil_append, List.singleton_append, List.length_singleton, List.length_cons, List.length_nil, Nat.reduceAdd, Nat.reduceLeDiff, if_true, if_false, oW, oP, oB, setT, setMany, wipeL, List.set_cons_zero, List.set_cons_succ, gcB_same, gcE_same, gcX_same, gcX_ok, bmOk, noX_ok, Rs.res, truth, newL, and_self, e0, e1, e2, e3, eqc "fall" "come" false (by decide +kernel), eqc "fall" "throw" false (by decide +kernel), nec "fall" "fall" false (by decide +kernel), zero_line, hw, hloop', three_line, at__law_deed_text__law_commas, c1, c2, hadd, at__law_deed_text__law_line, e4]
  rw [← hM2, ← hM1]
  rw [List.append_assoc, List.append_assoc]
  exact gcX_app hW rfl
/-- the law's text of a deed -/
theorem ldeed_text_run {M : Mh} (hW : Wf M) {d : Dd} {r : Nat} (hr : d.at_ M r) (h : d.ok) : m__law_deed_text [d.pv r] M = .ok (.str d.text) M := by
  cases d with
  | one w n =>
    obtain ⟨hw, hn⟩ := h
    have hi : ∀ x ∈ [PV.str w, nat n], isW x = true := fun x hx => by
      simp only [List.mem_cons, List.mem_nil_iff, or_false] at hx
      rcases hx with rfl | rfl
      · rfl
      · exact nat_w (n10 hn)
    have hy : ∀ y ∈ [w, numS n], y.length ≤ 100 := fun y hy => by
      simp only [List.mem_cons, List.mem_nil_iff, or_false] at hy
      rcases hy with rfl | rfl
      · rcases hw with rfl | rfl <;> decide +kernel
      · exact num9 hn
    rcases hw with rfl | rfl
    · exact ldeed_text_other (ys := ["own", numS n]) "own" hW (by decide +kernel) (by decide +kernel) (by decide +kernel) rfl hi hy (by simp)
    · exact ldeed_text_other (ys := ["keep", numS n]) "keep" hW (by decide +kernel) (by decide +kernel) (by decide +kernel) rfl hi hy (by simp)
  | two w a b =>
    obtain ⟨hw, hn, hb⟩ := h
    have hi : ∀ x ∈ [PV.str w, nat a, nat b], isW x = true := fun x hx => by
      simp only [List.mem_cons, List.mem_nil_iff, or_false] at hx
      rcases hx with rfl | rfl | rfl
      · rfl
      · exact nat_w (n10 hn)
      · exact nat_w (n10 hb)
    have hy : ∀ y ∈ [w, numS a, numS b], y.length ≤ 100 := fun y hy => by
      simp only [List.mem_cons, List.mem_nil_iff, or_false] at hy
      rcases hy with rfl | rfl | rfl
      · rcases hw with rfl | rfl <;> decide +kernel
      · exact num9 hn
      · exact num9 hb
    rcases hw with rfl | rfl
    · exact ldeed_text_other (ys := ["note", numS a, numS b]) "note" hW (by decide +kernel) (by decide +kernel) (by decide +kernel) rfl hi hy (by simp)
    · exact ldeed_text_other (ys := ["tell", numS a, numS b]) "tell" hW (by decide +kernel) (by decide +kernel) (by decide +kernel) rfl hi hy (by simp)
  | hear n c =>
    obtain ⟨hn, hc⟩ := h
    have hi : ∀ x ∈ [PV.str "hear", nat n, .str c], isW x = true := fun x hx => by
      simp only [List.mem_cons, List.mem_nil_iff, or_false] at hx
      rcases hx with rfl | rfl | rfl
      · rfl
      · exact nat_w (n10 hn)
      · rfl
    have hy : ∀ y ∈ [("hear" : Str), numS n, c], y.length ≤ 100 := fun y hy => by
      simp only [List.mem_cons, List.mem_nil_iff, or_false] at hy
      rcases hy with rfl | rfl | rfl
      · decide +kernel
      · exact num9 hn
      · rcases hc with rfl | rfl | rfl <;> decide +kernel
    exact ldeed_text_other (ys := ["hear", numS n, c]) "hear" hW (by decide +kernel) (by decide +kernel) (by decide +kernel) rfl hi hy (by simp)
  | come r' k => exact ldeed_text_come h
  | throw l => exact ldeed_text_throw hW h
  | fall ms ln ws => exact ldeed_text_fall hW hr h
end LawK80
end
section
open PySem PySem.Spec PyProof.Rows L2 Pi
namespace LawK80
theorem numS_cps (n : Nat) : (numS n).cps.toList = TL.numL n := TL.tl_num n
theorem numL_cons (n : Nat) : ∃ c r, TL.numL n = c :: r ∧ (n ≠ 0 → c ≠ 48) ∧ (n = 0 → c = 48 ∧ r = []) := by
  induction n using Nat.strongRecOn with
  | _ n ih =>
    by_cases h : n < 10
    · exact ⟨48 + n, [], TL.numL_lt h, fun h0 => by omega, fun h0 => ⟨by omega, rfl⟩⟩
    · obtain ⟨c, r, h1, h2, h3⟩ := ih (n / 10) (by omega)
      refine ⟨c, r ++ [48 + n % 10], by rw [TL.numL_step (by omega), h1]; rfl, fun _ => h2 (by omega), fun h0 => absurd h0 (by omega)⟩
theorem numS_len {n k : Nat} (hk : 0 < k) (h : n < 10 ^ k) : 1 ≤ (numS n).length ∧ (numS n).length ≤ k := by
  refine ⟨?_, num_len hk h⟩
  obtain ⟨c, r, h1, _⟩ := numL_cons n
  rw [TL.len_tl, show TL.tl (numS n) = TL.numL n from TL.tl_num n, h1]
  simp
theorem len_run {x : Str} {M : Mh} (h : x.length ≤ 16777216) : biF .len [.str x] M = .ok (.int x.length) M := by
  show (if x.length ≤ sizeLine then _ else _) = _
  rw [if_pos (by rw [sizeLine_eq]; exact h)]
theorem first_run {x : Str} {c : Nat} {r : List Nat} {M : Mh} (h : x.length ≤ 16777216) (e : x.cps.toList = c :: r) : ixop M (.str x) (.int 0) = .ok (.str ⟨#[c]⟩) M := by
  unfold ixop
  dsimp only
  rw [if_pos (by rw [sizeLine_eq]; exact h), e]
  have : atI (c :: r) 0 = some c := by
    unfold atI ixN
    simp
  rw [this]
theorem digit_in {c : Nat} {M : Mh} (h : 48 ≤ c ∧ c ≤ 57) : cmpop .inn (.str ⟨#[c]⟩) (.str "0123456789") M = .ok (.bl true) M := by
  unfold cmpop Pi.inR
  dsimp only
  have e : (("0123456789" : Str)).cps.toList = [48, 49, 50, 51, 52, 53, 54, 55, 56, 57] := by decide +kernel
  rw [e]
  have : c ∈ [48, 49, 50, 51, 52, 53, 54, 55, 56, 57] := by
    simp only [List.mem_cons, List.mem_nil_iff, or_false]
    omega
  simp only [decide_eq_true this]
  rfl
theorem bls_true : ∀ (l : List Nat), blsOf (l.map fun _ => .bl true) = some (l.map fun _ => true)
  | [] => rfl
  | _ :: l => by
    show (blsOf (l.map fun _ => .bl true)).map (true :: ·) = _
    rw [bls_true l]
    rfl
theorem all_run {M : Mh} {l : List Nat} : biF .all [.ref M.length] (M ++ [.lst (l.map fun _ => .bl true)]) = .ok (.bl true) (M ++ [.lst (l.map fun _ => .bl true)]) := by
  show (match (lstOf (M ++ [.lst (l.map fun _ => .bl true)]) (.ref M.length)).bind blsOf with
    | some bs => _
    | none => _) = _
  have : lstOf (M ++ [.lst (l.map fun _ => PV.bl true)]) (.ref M.length) = some (l.map fun _ => .bl true) := by
    unfold lstOf
    dsimp only
    rw [last_of]
  rw [this, Option.bind_some, bls_true]
  dsimp only
  congr 2
  induction l with
  | nil => rfl
  | cons a l ih => exact ih (by
      unfold lstOf
      dsimp only
      rw [last_of])
theorem zero_str : numS 0 = "0" := by decide +kernel
theorem one_str {c : Nat} (h : c ≠ 48) : ((⟨#[c]⟩ : Str) == ("0" : Str)) = false := by
  refine beq_eq_false_iff_ne.mpr fun e => h ?_
  have := congrArg (fun x : Str => x.cps.toList) e
  have e2 : (("0" : Str)).cps.toList = [48] := by decide +kernel
  simp only [e2] at this
  simpa using this
theorem cmp_lt {i j : Int} {M : Mh} : cmpop .lt (.int i) (.int j) M = .ok (.bl (decide (i < j))) M := by unfold cmpop; rfl
theorem cmp_gt {i j : Int} {M : Mh} : cmpop .gt (.int i) (.int j) M = .ok (.bl (decide (j < i))) M := by unfold cmpop; rfl
theorem number_in_run {n k : Nat} {M : Mh} (hW : Wf M) (hk : k = 9 ∨ k = 10) (h : n < 10 ^ k) : m_number_in [.str (numS n), .int (k : Int)] M = .ok (nat n) M := by
  obtain ⟨l1, l2⟩ := numS_len (by omega) h
  have l3 : (numS n).length ≤ 16777216 := by omega
  obtain ⟨c, r, h1, h2, h3⟩ := numL_cons n
  have hc : (numS n).cps.toList = c :: r := by rw [numS_cps, h1]
  have d1 : decide (((numS n).length : Int) < 1) = false := decide_eq_false (by omega)
  have d2 : decide ((k : Int) < ((numS n).length : Int)) = false := decide_eq_false (by omega)
  have dg : ∀ c ∈ TL.numL n, 48 ≤ c ∧ c ≤ 57 := TL.numL_digits n
  have hck : PyData.strOk ⟨#[c]⟩ = true := by
    have := dg c (by rw [h1]; exact List.mem_cons_self)
    unfold PyData.strOk
    simp
    omega
  have hz : PyData.strOk "0" = true := by decide +kernel
  have e1 : cmpop .eq (.str ⟨#[c]⟩) (.str "0") M = .ok (.bl (decide (n = 0))) M := by
    rw [eq_word hck hz]
    by_cases h0 : n = 0
    · rw [(h3 h0).1, decide_eq_true h0]
      rfl
    · rw [one_str (h2 h0), decide_eq_false h0]
  have e2 : n = 0 → cmpop .ne (.str (numS n)) (.str "0") M = .ok (.bl false) M := fun h0 => by
    rw [ne_word (num_ok n) hz, h0, zero_str]
    rfl
  have hlc : lcGo (fun x M2 => (gcE M2.length (cmpop .inn x (.str "0123456789") M2)).bind fun y M4 => .ok (some y) M4) (Walk.same ⟨(numS n).cps.toList.map fun c => .str ⟨#[c]⟩, none, none⟩) ((numS n).cps.toList.map fun c => .str ⟨#[c]⟩) M = .ok ((numS n).cps.toList.map fun _ => .bl true) M :=
    lcGo_of (fun c : Nat => PV.str ⟨#[c]⟩) (fun _ => .bl true) ⟨trivial, trivial⟩ fun c hc => by
      rw [digit_in (dg c (by rw [← numS_cps]; exact hc)), gcE_same, bind_ok]
  have hl4 : (numS n).cps.toList.length ≤ sizeLine := by
    have : (numS n).cps.toList.length = (numS n).length := by rw [TL.len_tl]
    rw [this, sizeLine_eq]; exact l3
  have hall : gcE M.length (biF .all [.ref M.length] (M ++ [.lst ((numS n).cps.toList.map fun _ => .bl true)])) = .ok (.bl true) M := by
    rw [all_run]
    exact gcE_app hW rfl
  have hint : biF .int [.str (numS n)] M = .ok (nat n) M := by
    show (if (numS n).length ≤ 640 then match intText? (numS n) with
      | some n => _
      | none => _ else _) = _
    rw [if_pos (by omega)]
    have : intText? (numS n) = some (n : Int) := TL.int_num (by rw [← TL.tl_num, ← TL.len_tl]; show (numS n).length ≤ 4300; omega)
    rw [this]
  have hw : walkOf M (.str (numS n)) = some ⟨(numS n).cps.toList.map fun c => .str ⟨#[c]⟩, none, none⟩ := rfl
  have hlc2 : lcGo (fun x M2 => (gcE M2.length (cmpop .inn x (.str "0123456789") M2)).bind fun y M4 => .ok (some y) M4) (Walk.same ⟨(numS n).cps.toList.map fun c => .str ⟨#[c]⟩, none, none⟩) ((numS n).cps.toList.map fun c => .str ⟨#[c]⟩) M = .ok ((numS n).cps.toList.map fun _ => .bl true) M := hlc
  unfold m_number_in runF c_number_in
  by_cases h0 : n = 0
  · simp only [decide_eq_true h0] at e1
    simp only [evSs, evS, evE, evL, evO, evI, evT, bind_ok, Rs.sb, Res.sb, List.getElem?_cons_succ, List.getElem?_cons_zero, List.map_cons, List.map_nil, List.replicate, List.cons_append, List.nil_append, List.singleton_append, List.length_singleton, List.length_cons, List.length_nil, Nat.reduceAdd, Nat.reduceLeDiff, if_true, if_false, oW, oP, oB, setT, setMany, wipeL, List.set_cons_zero, List.set_cons_succ, gcB_same, gcE_same, gcX_same, gcX_ok, bmOk, noX_ok, Rs.res, truth, newL, and_self, len_run l3, cmp_lt, cmp_gt, d1, d2, first_run l3 hc, e1, e2 h0, hw, hlc2, List.length_map, hl4, hall, hint, Bool.not_true]
  · simp only [decide_eq_false h0] at e1
    simp only [evSs, evS, evE, evL, evO, evI, evT, bind_ok, Rs.sb, Res.sb, List.getElem?_cons_succ, List.getElem?_cons_zero, List.map_cons, List.map_nil, List.replicate, List.cons_append, List.nil_append, List.singleton_append, List.length_singleton, List.length_cons, List.length_nil, Nat.reduceAdd, Nat.reduceLeDiff, if_true, if_false, oW, oP, oB, setT, setMany, wipeL, List.set_cons_zero, List.set_cons_succ, gcB_same, gcE_same, gcX_same, gcX_ok, bmOk, noX_ok, Rs.res, truth, newL, and_self, len_run l3, cmp_lt, cmp_gt, d1, d2, first_run l3 hc, e1, hw, hlc2, List.length_map, hl4, hall, hint, Bool.not_true]
end LawK80
end
section
open PySem PySem.Spec PyProof.Rows L2 Pi
namespace LawK80
theorem gcE_ref {M E : Mh} : gcE M.length (.ok (.ref M.length) (M ++ E)) = .ok (.ref M.length) (M ++ E) := by
  unfold Pi.gcE
  dsimp only
  split
  · rfl
  · have e : PV.low M.length (.ref M.length) = false := by
      simp only [PV.low]
      exact Bool.eq_false_iff.mpr fun h => Nat.lt_irrefl M.length (by simpa using h)
    rw [e]
    rfl
theorem gcX_ref {M E : Mh} : gcX M.length (.ok (.ref M.length) (M ++ E)) = .ok (.ref M.length) (M ++ E) := gcE_ref
def NN (M : Mh) (n : Nat) (p : PV) : Prop := ∃ d, pvD n M p = some d ∧ PyData.canLay0 d = true ∧ PyData.depth d ≤ n ∧ PyData.eqv d .none = false
theorem nn_int {M : Mh} {n : Nat} {i : Int} : NN M n (.int i) := ⟨.int i, by cases n <;> rfl, by rw [PyData.canLay0], by rw [PyData.depth]; exact Nat.zero_le _, by rw [PyData.eqv]⟩
theorem nn_all {M : Mh} {n : Nat} : ∀ {l : List PV}, (∀ p ∈ l, NN M n p) → ∃ ds, l.mapM (pvD n M) = some ds ∧ PyData.canLayAll0 ds = true ∧ PyData.depthAll ds ≤ n ∧ ∀ d ∈ ds, PyData.eqv d .none = false
  | [], _ => ⟨[], rfl, by rw [PyData.canLayAll0], by rw [PyData.depthAll]; exact Nat.zero_le _, fun _ h => by cases h⟩
  | p :: l, h => by
    obtain ⟨d, h1, h2, h3, h4⟩ := h p List.mem_cons_self
    obtain ⟨ds, k1, k2, k3, k4⟩ := nn_all fun q hq => h q (List.mem_cons_of_mem _ hq)
    refine ⟨d :: ds, ?_, by rw [PyData.canLayAll0, h2, k2]; rfl, by rw [PyData.depthAll]; omega, fun x hx => ?_⟩
    · rw [List.mapM_cons, h1, k1]
      rfl
    · rcases List.mem_cons.mp hx with rfl | hx
      · exact h4
      · exact k4 x hx
theorem nn_tup {M : Mh} {n : Nat} {l : List PV} (h : ∀ p ∈ l, NN M n p) : NN M (n + 1) (.tup l) := by
  obtain ⟨ds, k1, k2, k3, k4⟩ := nn_all h
  refine ⟨.tuple ds, ?_, by rw [PyData.canLay0]; exact k2, by rw [PyData.depth]; omega, by rw [PyData.eqv]⟩
  show (l.mapM (pvD n M)).map PyData.tuple = _
  rw [k1]
  rfl
theorem in_none {M : Mh} {l : List PV} (h : ∀ p ∈ l, NN M 63 p) : cmpop .inn .non (.tup l) M = .ok (.bl false) M := by
  obtain ⟨ds, k1, k2, k3, k4⟩ := nn_all h
  have e : inPV M .non l = some false := by
    unfold inPV
    have e0 : pvD 64 M .non = some .none := rfl
    rw [e0, k1]
    dsimp only
    have s1 : SeqAt.shaped .none = true := by
      unfold SeqAt.shaped
      rw [PyData.canLay0, PyData.depth]
      rfl
    have s2 : SeqAt.shaped (.list ds) = true := by
      unfold SeqAt.shaped
      rw [PyData.canLay0, k2, PyData.depth, decide_eq_true (by omega)]
      rfl
    rw [s1, s2, if_pos (show (true && true) = true from rfl)]
    congr 1
    exact List.any_eq_false.mpr fun d hd => by rw [k4 d hd]; simp
  unfold cmpop Pi.inR
  dsimp only
  rw [e]
  rfl
theorem nn_let {M : Mh} {n : Nat} {q : Nat × Nat} : NN M (n + 1) (letP q) := nn_tup fun p hp => by
  simp only [List.mem_cons, List.mem_nil_iff, or_false] at hp
  rcases hp with rfl | rfl <;> exact nn_int
theorem split2 {a b m : Str} {s : Nat} (hm : TL.tl m = [s]) (hk : m.cps.all (· < 256) = true) (ha : s ∉ TL.tl a) (hb : s ∉ TL.tl b) : Txt.split (a ++ m ++ b) m = [a, b] := by
  have e : a ++ m ++ b = Txt.join m [a, b] := by rw [TL.join_eq]; rfl
  rw [e]
  exact TL.split_join hm hk (by simp) fun p hp => by
    simp only [List.mem_cons, List.mem_nil_iff, or_false] at hp
    rcases hp with rfl | rfl
    · exact ha
    · exact hb
theorem pair_in_run {a b m : Str} {s : Nat} {M : Mh} (hm : TL.tl m = [s]) (hk : m.cps.all (· < 256) = true) (ha : s ∉ TL.tl a) (hb : s ∉ TL.tl b) (hl : (a ++ m ++ b).length ≤ 1000) : m_pair_in [.str (a ++ m ++ b), .str m] M = .ok (.ref M.length) (M ++ [.lst [.str a, .str b]]) := by
  have hml : (m.length == 0) = false := by rw [TL.len_tl, hm]; rfl
  have e : bmf .split (.str (a ++ m ++ b)) [.str m] M = .ok (.ref M.length) (M ++ [.lst [.str a, .str b]]) := by
    unfold bmf
    dsimp only
    rw [if_pos ⟨hml, by rw [sizeLine_eq]; omega⟩, split2 hm hk ha hb]
    rfl
  have e2 : biF .len [.ref M.length] (M ++ [.lst [.str a, .str b]]) = .ok (.int 2) (M ++ [.lst [.str a, .str b]]) := by
    unfold biF
    dsimp only
    rw [last_of]
    rfl
  have e3 : cmpop .eq (.int 2) (.int 2) (M ++ [.lst [.str a, .str b]]) = .ok (.bl true) (M ++ [.lst [.str a, .str b]]) := by
    show oB (eqPV (M ++ [.lst [.str a, .str b]]) (.int 2) (.int 2)) (M ++ [.lst [.str a, .str b]]) = _
    rw [Pi.eq_int]
    rfl
  unfold m_pair_in runF c_pair_in
  simp only [evSs, evS, evE, evL, evO, evI, evT, bind_ok, Rs.sb, Res.sb, List.getElem?_cons_succ, List.getElem?_cons_zero, List.map_cons, List.map_nil, List.replicate, List.cons_append, List.nil_append, List.singleton_append, List.length_singleton, List.length_cons, List.length_nil, Nat.reduceAdd, Nat.reduceLeDiff, if_true, if_false, oW, oP, oB, setT, setMany, wipeL, List.set_cons_zero, List.set_cons_succ, gcB_same, gcE_same, gcX_same, gcX_ok, bmOk, noX_ok, Rs.res, truth, newL, and_self, e, gcE_ref, e2, e3, gcX_ref]
theorem ix_lst {M : Mh} {n : Nat} {l : List PV} {i : Int} {p : PV} (h : M[n]? = some (.lst l)) (e : atI l i = some p) : ixop M (.ref n) (.int i) = .ok p M := by
  unfold ixop
  dsimp only
  rw [h]
  dsimp only
  rw [e]
  rfl
theorem is_ref {M : Mh} {n : Nat} : cmpop .is (.ref n) .non M = .ok (.bl false) M := by
  unfold cmpop
  rfl
theorem numS_free {n s : Nat} (h : s < 48 ∨ 57 < s) : s ∉ TL.tl (numS n) := by
  rw [show TL.tl (numS n) = TL.numL n from TL.tl_num n]
  exact TL.numL_free h
theorem wf_two {M : Mh} (hW : Wf M) (a b : Str) : Wf (M ++ [.lst [.str a, .str b]]) := wf_strs hW [a, b]
theorem letter_in_run {q : Nat × Nat} {M : Mh} (hW : Wf M) (h : letOk q) : m_letter_in [.str (letS q)] M = .ok (letP q) M := by
  have hW1 := wf_two hW (numS q.1) (numS q.2)
  have hp : m_pair_in [.str (letS q), .str "."] M = .ok (.ref M.length) (M ++ [.lst [.str (numS q.1), .str (numS q.2)]]) := by
    refine pair_in_run (s := 46) (by decide +kernel) (by decide +kernel) (numS_free (by omega)) (numS_free (by omega)) ?_
    have := let_len h
    unfold letS at this
    omega
  have hg : (M ++ [.lst [.str (numS q.1), .str (numS q.2)]])[M.length]? = some (.lst [.str (numS q.1), .str (numS q.2)]) := last_of
  have n1 : m_number_in [.str (numS q.1), .int 9] (M ++ [.lst [.str (numS q.1), .str (numS q.2)]]) = .ok (nat q.1) (M ++ [.lst [.str (numS q.1), .str (numS q.2)]]) := number_in_run (k := 9) hW1 (.inl rfl) h.1
  have n2 : m_number_in [.str (numS q.2), .int 10] (M ++ [.lst [.str (numS q.1), .str (numS q.2)]]) = .ok (nat q.2) (M ++ [.lst [.str (numS q.1), .str (numS q.2)]]) := number_in_run (k := 10) hW1 (.inr rfl) h.2
  have hi : cmpop .inn .non (.tup [nat q.1, nat q.2]) (M ++ [.lst [.str (numS q.1), .str (numS q.2)]]) = .ok (.bl false) (M ++ [.lst [.str (numS q.1), .str (numS q.2)]]) := in_none fun p hp => by
    simp only [List.mem_cons, List.mem_nil_iff, or_false] at hp
    rcases hp with rfl | rfl <;> exact nn_int
  have two : (2 : Nat) ≤ sizeLine := by rw [sizeLine_eq]; decide
  unfold m_letter_in runF c_letter_in
  simp only [evSs, evS, evE, evL, evO, evI, evT, bind_ok, Rs.sb, Res.sb, List.getElem?_cons_succ, List.getElem?_cons_zero, List.map_cons, List.map_nil, List.replicate, List.cons_append, List.nil_append, List.singleton_append, List.length_singleton, List.length_cons, List.length_nil, Nat.reduceAdd, Nat.reduceLeDiff, if_true, if_false, oW, oP, oB, setT, setMany, wipeL, List.set_cons_zero, List.set_cons_succ, gcB_same, gcE_same, gcX_same, gcX_ok, bmOk, noX_ok, Rs.res, truth, newL, and_self, at_letter_in_pair_in, hp, is_ref, ix_lst hg at0, ix_lst hg at1, at_letter_in_number_in, n1, n2, two, hi]
  exact gcX_app hW rfl
theorem small_in_run {n : Nat} {M : Mh} (hW : Wf M) (h : n < 10 ^ 9) : m_small_in [.str (numS n)] M = .ok (nat n) M := by
  have e : m_number_in [.str (numS n), .int 9] M = .ok (nat n) M := number_in_run (k := 9) hW (.inl rfl) h
  unfold m_small_in runF c_small_in
  simp only [evSs, evS, evE, evL, evO, evI, evT, bind_ok, Rs.sb, Res.sb, List.getElem?_cons_succ, List.getElem?_cons_zero, List.map_cons, List.map_nil, List.replicate, List.cons_append, List.nil_append, List.singleton_append, List.length_singleton, List.length_cons, List.length_nil, Nat.reduceAdd, Nat.reduceLeDiff, if_true, if_false, oW, oP, oB, setT, setMany, wipeL, List.set_cons_zero, List.set_cons_succ, gcB_same, gcE_same, gcX_same, gcX_ok, bmOk, noX_ok, Rs.res, truth, newL, and_self, at_small_in_number_in, e]
theorem comma_ok : TL.tl ("," : Str) = [44] := by decide +kernel
theorem let_free {q : Nat × Nat} {s : Nat} (h : (s < 48 ∨ 57 < s) ∧ s ≠ 46) : s ∉ TL.tl (letS q) := by
  unfold letS
  rw [TL.tl_append, TL.tl_append]
  intro hm
  rcases List.mem_append.mp hm with hm | hm
  · rcases List.mem_append.mp hm with hm | hm
    · exact numS_free h.1 hm
    · have : TL.tl ("." : Str) = [46] := by decide +kernel
      rw [this] at hm
      exact h.2 (by simpa using hm)
  · exact numS_free h.1 hm
/-- all_in of a def that reads each part -/
theorem all_in_run {α : Type} {f : Str} {j : Nat} {m : Mf} {l : List α} {g : α → Str} {v : α → PV} {M : Mh} (hW : Wf M) (hf : ([("small_in", 9), ("letter_in", 8)] : List (Str × Nat)).lookup f = some j) (hm : F_10.at_ j = m) (hne : l ≠ []) (hl : l.length ≤ 100) (hlen : (Txt.join "," (l.map g)).length ≤ 10000)
    (hfree : ∀ x ∈ l, 44 ∉ TL.tl (g x)) (hrun : ∀ x ∈ l, ∀ M', Wf M' → m [.str (g x)] M' = .ok (v x) M') (hv : ∀ x ∈ l, (v x).low 0 = true) (hn : ∀ x ∈ l, NN M 63 (v x)) : m_all_in [.str (Txt.join "," (l.map g)), .fn f] M = .ok (.tup (l.map v)) M := by
  have hsp : bmf .split (.str (Txt.join "," (l.map g))) [.str ","] M = .ok (.ref M.length) (M ++ [.lst ((l.map g).map .str)]) := by
    unfold bmf
    dsimp only
    have h1 : ((("," : Str)).length == 0) = false := by decide +kernel
    rw [if_pos ⟨h1, by rw [sizeLine_eq]; omega⟩, TL.split_join comma_ok (by decide +kernel) (fun e => hne (List.map_eq_nil_iff.mp e)) fun p hp => by
      obtain ⟨x, hx, rfl⟩ := List.mem_map.mp hp
      exact hfree x hx]
    rfl
  generalize hM1 : M ++ [.lst ((l.map g).map .str)] = M1 at hsp
  have hW1 : Wf M1 := by rw [← hM1]; exact wf_strs hW _
  have hg1 : M1[M.length]? = some (.lst ((l.map g).map .str)) := by rw [← hM1]; exact last_of
  have hw : walkOf M1 (.ref M.length) = some ⟨(l.map g).map .str, some (M.length, .lst ((l.map g).map .str)), none⟩ := by
    unfold walkOf
    dsimp only
    rw [hg1]
  have hgc : gcE M.length (.ok (.ref M.length) M1) = .ok (.ref M.length) M1 := by rw [← hM1]; exact gcE_ref
  have hlc : lcGo (fun x M2 => (m [x] M2).bind fun y M4 => .ok (some y) M4) (Walk.same ⟨(l.map g).map .str, some (M.length, .lst ((l.map g).map .str)), none⟩) ((l.map g).map .str) M1 = .ok (l.map v) M1 := by
    have e : (l.map g).map PV.str = l.map fun x => .str (g x) := by rw [List.map_map]; rfl
    rw [e]
    refine lcGo_of (fun x => PV.str (g x)) v ⟨by rw [← e]; exact hg1, trivial⟩ fun x hx => ?_
    rw [hrun x hx M1 hW1, bind_ok]
  have hsz : l.length ≤ sizeLine := by rw [sizeLine_eq]; omega
  have hlow : ∀ n, lows n (l.map v) = true := fun n => lows_mem fun p hp => by
    obtain ⟨x, hx, rfl⟩ := List.mem_map.mp hp
    exact PV.low_mono (Nat.zero_le _) (hv x hx)
  have htup : biF .tuple [.ref M1.length] (M1 ++ [.lst (l.map v)]) = .ok (.tup (l.map v)) (M1 ++ [.lst (l.map v)]) := by
    unfold biF
    dsimp only
    rw [seq_last]
  have hgc2 : gcE M.length (.ok (.tup (l.map v)) (M1 ++ [.lst (l.map v)])) = .ok (.tup (l.map v)) M := by
    rw [← hM1, List.append_assoc]
    exact gcE_app hW (by simp only [PV.low]; exact hlow _)
  have hin : cmpop .inn .non (.tup (l.map v)) M = .ok (.bl false) M := in_none fun p hp => by
    obtain ⟨x, hx, rfl⟩ := List.mem_map.mp hp
    exact hn x hx
  unfold m_all_in runF c_all_in
  simp only [evSs, evS, evE, evL, evO, evI, evT, bind_ok, Rs.sb, Res.sb, List.getElem?_cons_succ, List.getElem?_cons_zero, List.map_cons, List.map_nil, List.replicate, List.cons_append, List.nil_append, List.singleton_append, List.length_singleton, List.length_cons, List.length_nil, Nat.reduceAdd, Nat.reduceLeDiff, if_true, if_false, oW, oP, oB, setT, setMany, wipeL, List.set_cons_zero, List.set_cons_succ, gcB_same, gcE_same, gcX_same, gcX_ok, bmOk, noX_ok, Rs.res, truth, newL, and_self, hsp, hgc, hw, hf, hm, hlc, List.length_map, hsz, htup, hgc2, hin]
end LawK80
end
section
open PySem PySem.Spec PyProof.Rows L2 Pi
namespace LawK80
theorem look_small : ([("small_in", 9), ("letter_in", 8)] : List (Str × Nat)).lookup ("small_in" : Str) = some 9 := by decide +kernel
theorem look_letter : ([("small_in", 9), ("letter_in", 8)] : List (Str × Nat)).lookup ("letter_in" : Str) = some 8 := by decide +kernel
theorem smalls_run {l : List Nat} {M : Mh} (hW : Wf M) (h : lstOk l) : m_all_in [.str (comS l), .fn "small_in"] M = .ok (.tup (l.map nat)) M :=
  all_in_run hW look_small at_all_in_small_in h.1 (by have := h.2.1; omega) (by have := com_len h; unfold comS at this; omega) (fun x _ => numS_free (by omega)) (fun x hx M' hW' => small_in_run hW' (h.2.2 x hx)) (fun x _ => rfl) fun x _ => nn_int
theorem letters_run {l : List (Nat × Nat)} {M : Mh} (hW : Wf M) (hne : l ≠ []) (hl : l.length ≤ 3) (h : ∀ z ∈ l, letOk z) (hlen : (Txt.join "," (l.map letS)).length ≤ 1000) : m_all_in [.str (Txt.join "," (l.map letS)), .fn "letter_in"] M = .ok (.tup (l.map letP)) M :=
  all_in_run hW look_letter at_all_in_letter_in hne (by omega) (by omega) (fun x _ => let_free (by omega)) (fun x hx M' hW' => letter_in_run hW' (h x hx)) (fun x _ => by simp [letP, PV.low, lows]) fun x _ => nn_let
theorem way_free {q : Nat × List (Nat × Nat)} {s : Nat} (h : (s < 48 ∨ 57 < s) ∧ s ≠ 46 ∧ s ≠ 44) : s ∉ TL.tl (Txt.join "," (q.2.map letS)) := by
  rw [TL.join_eq, TL.tl_join, comma_ok]
  have : ∀ l : List (List Nat), (∀ p ∈ l, s ∉ p) → s ∉ TL.joinL [44] l := by
    intro l
    induction l with
    | nil => intro _ hm; cases hm
    | cons p l ih =>
      intro hp hm
      cases l with
      | nil => exact hp p List.mem_cons_self hm
      | cons q r =>
        have hm : s ∈ p ++ ([44] ++ TL.joinL [44] (q :: r)) := hm
        rcases List.mem_append.mp hm with hm | hm
        · exact hp p List.mem_cons_self hm
        · rcases List.mem_append.mp hm with hm | hm
          · exact h.2.2 (by simpa using hm)
          · exact ih (fun z hz => hp z (List.mem_cons_of_mem _ hz)) hm
  refine this _ fun p hp => ?_
  obtain ⟨y, hy, rfl⟩ := List.mem_map.mp hp
  obtain ⟨z, hz, rfl⟩ := List.mem_map.mp hy
  exact let_free ⟨h.1, h.2.1⟩
theorem way_in_run {q : Nat × List (Nat × Nat)} {M : Mh} (hW : Wf M) (h : wayOk q) : m_way_in [.str (wayS q)] M = .ok (wayP q) M := by
  obtain ⟨h1, h2, h3, h4⟩ := h
  have hl := way_len (q := q) ⟨h1, h2, h3, h4⟩
  have hW1 := wf_two hW (numS q.1) (Txt.join "," (q.2.map letS))
  have hp : m_pair_in [.str (wayS q), .str ":"] M = .ok (.ref M.length) (M ++ [.lst [.str (numS q.1), .str (Txt.join "," (q.2.map letS))]]) := by
    refine pair_in_run (s := 58) (by decide +kernel) (by decide +kernel) (numS_free (by omega)) (way_free (by omega)) ?_
    unfold wayS at hl
    omega
  generalize hM1 : M ++ [.lst [.str (numS q.1), .str (Txt.join "," (q.2.map letS))]] = M1 at hp hW1
  have hg : M1[M.length]? = some (.lst [.str (numS q.1), .str (Txt.join "," (q.2.map letS))]) := by rw [← hM1]; exact last_of
  have n1 : m_small_in [.str (numS q.1)] M1 = .ok (nat q.1) M1 := small_in_run hW1 h1
  have hjl : (Txt.join "," (q.2.map letS)).length ≤ 1000 := by
    unfold wayS at hl
    rw [app_len] at hl
    omega
  have n2 : m_all_in [.str (Txt.join "," (q.2.map letS)), .fn "letter_in"] M1 = .ok (.tup (q.2.map letP)) M1 := letters_run hW1 h2 h3 h4 hjl
  have hi : cmpop .inn .non (.tup [nat q.1, .tup (q.2.map letP)]) M1 = .ok (.bl false) M1 := in_none fun p hp => by
    simp only [List.mem_cons, List.mem_nil_iff, or_false] at hp
    rcases hp with rfl | rfl
    · exact nn_int
    · exact nn_tup fun p hp => by
        obtain ⟨z, _, rfl⟩ := List.mem_map.mp hp
        exact nn_let
  have two : (2 : Nat) ≤ sizeLine := by rw [sizeLine_eq]; decide
  unfold m_way_in runF c_way_in
  simp only [evSs, evS, evE, evL, evO, evI, evT, bind_ok, Rs.sb, Res.sb, List.getElem?_cons_succ, List.getElem?_cons_zero, List.map_cons, List.map_nil, List.replicate, List.cons_append, List.nil_append, List.singleton_append, List.length_singleton, List.length_cons, List.length_nil, Nat.reduceAdd, Nat.reduceLeDiff, if_true, if_false, oW, oP, oB, setT, setMany, wipeL, List.set_cons_zero, List.set_cons_succ, gcB_same, gcE_same, gcX_same, gcX_ok, bmOk, noX_ok, Rs.res, truth, newL, and_self, at_way_in_pair_in, hp, is_ref, ix_lst hg at0, ix_lst hg at1, at_way_in_small_in, n1, at_way_in_all_in, n2, two, hi]
  rw [← hM1]
  refine gcX_app hW ?_
  simp only [PV.low, lows, Bool.and_true, Bool.true_and]
  exact lows_mem fun p hp => by
    obtain ⟨z, _, rfl⟩ := List.mem_map.mp hp
    simp [letP, PV.low, lows]
theorem sign_in_run {c : Str} {M : Mh} (h : c = "a" ∨ c = "b" ∨ c = "z") : m_sign_in [.str c] M = .ok (.str c) M := by
  have e1 : biF .len [.str c] M = .ok (.int 1) M := by
    rw [len_run (by rcases h with rfl | rfl | rfl <;> decide +kernel)]
    rcases h with rfl | rfl | rfl <;> rfl
  have e2 : cmpop .inn (.str c) (.str "abcdefghijklmnopqrstuvwxyz") M = .ok (.bl true) M := by
    unfold cmpop Pi.inR
    rcases h with rfl | rfl | rfl
    · show (Res.ok (PV.bl (xor false (decide ((97 : Nat) ∈ (("abcdefghijklmnopqrstuvwxyz" : Str)).cps.toList)))) M : Res PV) = _
      rw [show decide ((97 : Nat) ∈ (("abcdefghijklmnopqrstuvwxyz" : Str)).cps.toList) = true by decide +kernel]
      rfl
    · show (Res.ok (PV.bl (xor false (decide ((98 : Nat) ∈ (("abcdefghijklmnopqrstuvwxyz" : Str)).cps.toList)))) M : Res PV) = _
      rw [show decide ((98 : Nat) ∈ (("abcdefghijklmnopqrstuvwxyz" : Str)).cps.toList) = true by decide +kernel]
      rfl
    · show (Res.ok (PV.bl (xor false (decide ((122 : Nat) ∈ (("abcdefghijklmnopqrstuvwxyz" : Str)).cps.toList)))) M : Res PV) = _
      rw [show decide ((122 : Nat) ∈ (("abcdefghijklmnopqrstuvwxyz" : Str)).cps.toList) = true by decide +kernel]
      rfl
  have e3 : cmpop .eq (.int 1) (.int 1) M = .ok (.bl true) M := by
    show oB (eqPV M (.int 1) (.int 1)) M = _
    rw [Pi.eq_int]
    rfl
  unfold m_sign_in runF c_sign_in
  simp only [evSs, evS, evE, evL, evO, evI, evT, bind_ok, Rs.sb, Res.sb, List.getElem?_cons_succ, List.getElem?_cons_zero, List.map_cons, List.map_nil, List.replicate, List.cons_append, List.nil_append, List.singleton_append, List.length_singleton, List.length_cons, List.length_nil, Nat.reduceAdd, Nat.reduceLeDiff, if_true, if_false, oW, oP, oB, setT, setMany, wipeL, List.set_cons_zero, List.set_cons_succ, gcB_same, gcE_same, gcX_same, gcX_ok, bmOk, noX_ok, Rs.res, truth, newL, and_self, e1, e3, e2]
theorem thing_number {n : Nat} {M : Mh} (hW : Wf M) (h : n < 10 ^ 9) : m_thing_in [.str "number", .str (numS n)] M = .ok (nat n) M := by
  have e : m_small_in [.str (numS n)] M = .ok (nat n) M := small_in_run hW h
  unfold m_thing_in runF c_thing_in
  simp only [evSs, evS, evE, evL, evO, evI, evT, bind_ok, Rs.sb, Res.sb, List.getElem?_cons_succ, List.getElem?_cons_zero, List.map_cons, List.map_nil, List.replicate, List.cons_append, List.nil_append, List.singleton_append, List.length_singleton, List.length_cons, List.length_nil, Nat.reduceAdd, Nat.reduceLeDiff, if_true, if_false, oW, oP, oB, setT, setMany, wipeL, List.set_cons_zero, List.set_cons_succ, gcB_same, gcE_same, gcX_same, gcX_ok, bmOk, noX_ok, Rs.res, truth, newL, and_self, eqc "number" "number" true (by decide +kernel), at_thing_in_small_in, e]
theorem thing_numbers {l : List Nat} {M : Mh} (hW : Wf M) (h : lstOk l) : m_thing_in [.str "numbers", .str (comS l)] M = .ok (.tup (l.map nat)) M := by
  have e : m_all_in [.str (comS l), .fn "small_in"] M = .ok (.tup (l.map nat)) M := smalls_run hW h
  unfold m_thing_in runF c_thing_in
  simp only [evSs, evS, evE, evL, evO, evI, evT, bind_ok, Rs.sb, Res.sb, List.getElem?_cons_succ, List.getElem?_cons_zero, List.map_cons, List.map_nil, List.replicate, List.cons_append, List.nil_append, List.singleton_append, List.length_singleton, List.length_cons, List.length_nil, Nat.reduceAdd, Nat.reduceLeDiff, if_true, if_false, oW, oP, oB, setT, setMany, wipeL, List.set_cons_zero, List.set_cons_succ, gcB_same, gcE_same, gcX_same, gcX_ok, bmOk, noX_ok, Rs.res, truth, newL, and_self, eqc "numbers" "number" false (by decide +kernel), eqc "numbers" "numbers" true (by decide +kernel), at_thing_in_all_in, e]
theorem thing_sign {c : Str} {M : Mh} (h : c = "a" ∨ c = "b" ∨ c = "z") : m_thing_in [.str "sign", .str c] M = .ok (.str c) M := by
  have e : m_sign_in [.str c] M = .ok (.str c) M := sign_in_run h
  unfold m_thing_in runF c_thing_in
  simp only [evSs, evS, evE, evL, evO, evI, evT, bind_ok, Rs.sb, Res.sb, List.getElem?_cons_succ, List.getElem?_cons_zero, List.map_cons, List.map_nil, List.replicate, List.cons_append, List.nil_append, List.singleton_append, List.length_singleton, List.length_cons, List.length_nil, Nat.reduceAdd, Nat.reduceLeDiff, if_true, if_false, oW, oP, oB, setT, setMany, wipeL, List.set_cons_zero, List.set_cons_succ, gcB_same, gcE_same, gcX_same, gcX_ok, bmOk, noX_ok, Rs.res, truth, newL, and_self, eqc "sign" "number" false (by decide +kernel), eqc "sign" "numbers" false (by decide +kernel), eqc "sign" "sign" true (by decide +kernel), at_thing_in_sign_in, e]
theorem thing_letter {q : Nat × Nat} {M : Mh} (hW : Wf M) (h : letOk q) : m_thing_in [.str "letter", .str (letS q)] M = .ok (letP q) M := by
  have e : m_letter_in [.str (letS q)] M = .ok (letP q) M := letter_in_run hW h
  unfold m_thing_in runF c_thing_in
  simp only [evSs, evS, evE, evL, evO, evI, evT, bind_ok, Rs.sb, Res.sb, List.getElem?_cons_succ, List.getElem?_cons_zero, List.map_cons, List.map_nil, List.replicate, List.cons_append, List.nil_append, List.singleton_append, List.length_singleton, List.length_cons, List.length_nil, Nat.reduceAdd, Nat.reduceLeDiff, if_true, if_false, oW, oP, oB, setT, setMany, wipeL, List.set_cons_zero, List.set_cons_succ, gcB_same, gcE_same, gcX_same, gcX_ok, bmOk, noX_ok, Rs.res, truth, newL, and_self, eqc "letter" "number" false (by decide +kernel), eqc "letter" "numbers" false (by decide +kernel), eqc "letter" "sign" false (by decide +kernel), eqc "letter" "letter" true (by decide +kernel), at_thing_in_letter_in, e]
theorem thing_way {q : Nat × List (Nat × Nat)} {M : Mh} (hW : Wf M) (h : wayOk q) : m_thing_in [.str "way", .str (wayS q)] M = .ok (wayP q) M := by
  have e : m_way_in [.str (wayS q)] M = .ok (wayP q) M := way_in_run hW h
  unfold m_thing_in runF c_thing_in
  simp only [evSs, evS, evE, evL, evO, evI, evT, bind_ok, Rs.sb, Res.sb, List.getElem?_cons_succ, List.getElem?_cons_zero, List.map_cons, List.map_nil, List.replicate, List.cons_append, List.nil_append, List.singleton_append, List.length_singleton, List.length_cons, List.length_nil, Nat.reduceAdd, Nat.reduceLeDiff, if_true, if_false, oW, oP, oB, setT, setMany, wipeL, List.set_cons_zero, List.set_cons_succ, gcB_same, gcE_same, gcX_same, gcX_ok, bmOk, noX_ok, Rs.res, truth, newL, and_self, eqc "way" "number" false (by decide +kernel), eqc "way" "numbers" false (by decide +kernel), eqc "way" "sign" false (by decide +kernel), eqc "way" "letter" false (by decide +kernel), at_thing_in_way_in, e]
end LawK80
end
section
open PySem PySem.Spec PyProof.Rows L2 Pi
namespace LawK80
theorem atI_nat {α : Type} {l : List α} {k : Nat} {x : α} (h : l[k]? = some x) {i : Int} (hi : i = (k : Int)) : atI l i = some x := by
  have hl := (List.getElem?_eq_some_iff.mp h).1
  subst hi
  unfold atI ixN
  rw [if_pos (by omega), Int.toNat_natCast, if_pos (Int.ofNat_lt.mpr hl)]
  exact h
theorem cmp_ge {i j : Int} {M : Mh} : cmpop .ge (.int i) (.int j) M = .ok (.bl (decide (j ≤ i))) M := by unfold cmpop; rfl
theorem is_non {p : PV} {M : Mh} : cmpop .is p .non M = .ok (.bl (decide (p = .non))) M := by unfold cmpop; rfl
theorem len_lst {M : Mh} {n : Nat} {l : List PV} (h : M[n]? = some (.lst l)) : biF .len [.ref n] M = .ok (.int l.length) M := by
  unfold biF
  dsimp only
  rw [h]
theorem sub_int {i j : Int} {M : Mh} : binop .sub (.int i) (.int j) M = .ok (.int (i - j)) M := rfl
theorem add_int {i j : Int} {M : Mh} : binop .add (.int i) (.int j) M = .ok (.int (i + j)) M := rfl
/-- a shape, the word for it, what is read -/
abbrev Tri : Type := Str × Str × PV
def triOk (t : Tri) : Prop := (∀ M, Wf M → m_thing_in [.str t.1, .str t.2.1] M = .ok t.2.2 M) ∧ t.2.2.low 0 = true ∧ t.2.2 ≠ .non
section
variable {B : Mh} {L : List Tri} {w0 : Str} {a b : Nat} {x0 : PV}
theorem read_body {k : Nat} {acc : List PV} {t : Tri} {x5 x6 x4 : Option PV} (hW : Wf (B ++ [.lst acc])) (hW2 : ∀ acc, (∀ p ∈ acc, p.low 0 = true) → Wf (B ++ [.lst acc])) (hacc : ∀ p ∈ acc, p.low 0 = true) (ha : B[a]? = some (.lst ((w0 :: L.map fun t => t.2.1).map .str))) (hb : B[b]? = some (.lst (L.map fun t => .str t.1))) (ht : L[k]? = some t) (hok : triOk t) (hl : acc.length < 1000) :
    evSs 0 F_14 cb1_read_deed [some x0, some (.ref a), some (.ref b), some (.ref B.length), some (.int (1 + (k : Int))), x5, x6] (B ++ [.lst acc]) =
      .nx [some x0, some (.ref a), some (.ref b), some (.ref B.length), some (.int (1 + (k : Int))), some t.2.2, x6] (B ++ [.lst (acc ++ [t.2.2])]) := by
  have hk := (List.getElem?_eq_some_iff.mp ht).1
  have ha' : (B ++ [.lst acc])[a]? = some (.lst ((w0 :: L.map fun t => t.2.1).map .str)) := get_app ha
  have hb' : (B ++ [.lst acc])[b]? = some (.lst (L.map fun t => .str t.1)) := get_app hb
  have e1 : biF .len [.ref a] (B ++ [.lst acc]) = .ok (.int ((L.length : Int) + 1)) (B ++ [.lst acc]) := by
    rw [len_lst ha']
    simp
  have e2 : decide ((L.length : Int) + 1 ≤ 1 + (k : Int)) = false := decide_eq_false (by omega)
  have e3 : ixop (B ++ [.lst acc]) (.ref b) (.int (1 + (k : Int) - 1)) = .ok (.str t.1) (B ++ [.lst acc]) := by
    refine ix_lst hb' (atI_nat (k := k) ?_ (by omega))
    rw [List.getElem?_map, ht]
    rfl
  have e4 : ixop (B ++ [.lst acc]) (.ref a) (.int (1 + (k : Int))) = .ok (.str t.2.1) (B ++ [.lst acc]) := by
    refine ix_lst ha' (atI_nat (k := k + 1) ?_ (by omega))
    rw [List.map_cons, List.getElem?_cons_succ, List.getElem?_map, List.getElem?_map, ht]
    rfl
  have e5 := hok.1 _ hW
  have e6 : decide (t.2.2 = .non) = false := decide_eq_false hok.2.2
  have hlast : (B ++ [.lst acc])[B.length]? = some (.lst acc) := last_of
  have e7 : bmf .append (.ref B.length) [t.2.2] (B ++ [.lst acc]) = .ok .non (B ++ [.lst (acc ++ [t.2.2])]) := append_here (by omega)
  have e8 : gcE (B ++ [MO.lst acc]).length (.ok .non (B ++ [.lst (acc ++ [t.2.2])])) = .ok .non (B ++ [.lst (acc ++ [t.2.2])]) := gcE_le (by simp)
  unfold cb1_read_deed
  simp only [evSs, evS, evE, evL, evO, evI, evT, bind_ok, Rs.sb, Res.sb, List.getElem?_cons_succ, List.getElem?_cons_zero, List.map_cons, List.map_nil, List.replicate, List.cons_append, List.nil_append, List.singleton_append, List.length_singleton, List.length_cons, List.length_nil, Nat.reduceAdd, Nat.reduceLeDiff, if_true, if_false, oW, oP, oB, setT, setMany, wipeL, List.set_cons_zero, List.set_cons_succ, gcB_same, gcE_same, gcX_same, gcX_ok, bmOk, noX_ok, Rs.res, truth, newL, and_self, e1, cmp_ge, e2, sub_int, e3, e4, at_read_deed_thing_in, e5, is_non, e6, hlast, e7, e8]
theorem rng_drop {n k : Nat} (h : k < n) : ((rngL 1 ((n : Int) + 1)).drop k) = .int (1 + (k : Int)) :: ((rngL 1 ((n : Int) + 1)).drop (k + 1)) := by
  have e : ((n : Int) + 1 - 1).toNat = n := by omega
  have hl : k < (rngL 1 ((n : Int) + 1)).length := by unfold rngL; simp; omega
  rw [List.drop_eq_getElem_cons hl]
  congr 1
  unfold rngL
  simp
theorem rng_end {n : Nat} : ((rngL 1 ((n : Int) + 1)).drop n) = [] := by
  apply List.drop_eq_nil_of_le
  unfold rngL
  simp
theorem read_loop (hW2 : ∀ acc, (∀ p ∈ acc, p.low 0 = true) → Wf (B ++ [.lst acc])) (ha : B[a]? = some (.lst ((w0 :: L.map fun t => t.2.1).map .str))) (hb : B[b]? = some (.lst (L.map fun t => .str t.1))) (hok : ∀ t ∈ L, triOk t) (hl : L.length < 500) {g : Mh → Prop} (hg : ∀ M, g M) : ∀ (m k : Nat) (x4 x5 x6 : Option PV), m + k = L.length →
    ∃ y4 y5, forGo (.one 4) (evSs 0 F_14 cb1_read_deed) g ((rngL 1 ((L.length : Int) + 1)).drop k) [some x0, some (.ref a), some (.ref b), some (.ref B.length), x4, x5, x6] (B ++ [.lst ((L.take k).map fun t => t.2.2)]) =
      .nx [some x0, some (.ref a), some (.ref b), some (.ref B.length), y4, y5, x6] (B ++ [.lst (L.map fun t => t.2.2)])
  | 0, k, x4, x5, x6, hk => by
    have : k = L.length := by omega
    subst this
    refine ⟨x4, x5, ?_⟩
    rw [rng_end, forGo_nil (hg _), List.take_length]
  | m + 1, k, x4, x5, x6, hk => by
    have hlt : k < L.length := by omega
    obtain ⟨y4, y5, ih⟩ := read_loop hW2 ha hb hok hl hg m (k + 1) (some (.int (1 + (k : Int)))) (some (L[k]).2.2) x6 (by omega)
    refine ⟨y4, y5, ?_⟩
    have hacc : ∀ p ∈ (L.take k).map (fun t : Tri => t.2.2), p.low 0 = true := fun p hp => by
      obtain ⟨t, ht, rfl⟩ := List.mem_map.mp hp
      exact (hok t (List.mem_of_mem_take ht)).2.1
    rw [rng_drop hlt, forGo_cons (r1 := [some x0, some (.ref a), some (.ref b), some (.ref B.length), some (.int (1 + (k : Int))), x5, x6]) (hg _) rfl]
    rw [read_body (L := L) (w0 := w0) (k := k) (t := L[k]) (x4 := none) (hW2 _ hacc) hW2 hacc ha hb (List.getElem?_eq_getElem hlt) (hok _ (List.getElem_mem hlt)) (by rw [List.length_map, List.length_take]; omega)]
    show forGo _ _ _ _ _ _ = _
    have e : (L.take k).map (fun t : Tri => t.2.2) ++ [(L[k]).2.2] = (L.take (k + 1)).map fun t => t.2.2 := by
      rw [List.take_add_one, List.getElem?_eq_getElem hlt, List.map_append]
      rfl
    rw [e]
    exact ih
end
theorem deed_by_come {M : Mh} {n : Nat} {r k : Nat} (h : M[n]? = some (.lst [letP (r, k)])) (hW : Wf M) : m_deed_by [.str "come", .ref n] M = .ok ((Dd.come r k).pv 0) M := by
  have e1 : ixop M (.ref n) (.int 0) = .ok (.tup [nat r, nat k]) M := ix_lst h at0
  have e2 : binop .add (.tup [.str "come"]) (.tup [nat r, nat k]) M = .ok (.tup [.str "come", nat r, nat k]) M := add_tup (by simp)
  unfold m_deed_by runF c_deed_by
  simp only [evSs, evS, evE, evL, evO, evI, evT, bind_ok, Rs.sb, Res.sb, List.getElem?_cons_succ, List.getElem?_cons_zero, List.map_cons, List.map_nil, List.replicate, List.cons_append, List.nil_append, List.singleton_append, List.length_singleton, List.length_cons, List.length_nil, Nat.reduceAdd, Nat.reduceLeDiff, if_true, if_false, oW, oP, oB, setT, setMany, wipeL, List.set_cons_zero, List.set_cons_succ, gcB_same, gcE_same, gcX_same, gcX_ok, bmOk, noX_ok, Rs.res, truth, newL, and_self, eqc "come" "come" true (by decide +kernel), e1, e2, one_line, Dd.pv]
theorem tuple_lst {M : Mh} {n : Nat} {l : List PV} (h : M[n]? = some (.lst l)) : biF .tuple [.ref n] M = .ok (.tup l) M := by
  unfold biF
  dsimp only
  unfold seqOf
  dsimp only
  rw [h]
theorem deed_by_throw {M : Mh} {n : Nat} {l : List Nat} (h : M[n]? = some (.lst (l.map nat))) (hW : Wf M) : m_deed_by [.str "throw", .ref n] M = .ok ((Dd.throw l).pv 0) M := by
  have two : (2 : Nat) ≤ sizeLine := by rw [sizeLine_eq]; decide
  unfold m_deed_by runF c_deed_by
  simp only [evSs, evS, evE, evL, evO, evI, evT, bind_ok, Rs.sb, Res.sb, List.getElem?_cons_succ, List.getElem?_cons_zero, List.map_cons, List.map_nil, List.replicate, List.cons_append, List.nil_append, List.singleton_append, List.length_singleton, List.length_cons, List.length_nil, Nat.reduceAdd, Nat.reduceLeDiff, if_true, if_false, oW, oP, oB, setT, setMany, wipeL, List.set_cons_zero, List.set_cons_succ, gcB_same, gcE_same, gcX_same, gcX_ok, bmOk, noX_ok, Rs.res, truth, newL, and_self, eqc "throw" "come" false (by decide +kernel), eqc "throw" "throw" true (by decide +kernel), tuple_lst h, two, Dd.pv]
theorem deed_by_other {M : Mh} {n : Nat} {w : Str} {l : List PV} (h : M[n]? = some (.lst l)) (hl : l.length ≤ 10) (h1 : (PyData.strOk w && PyData.strOk "come" && ((w == "come") == false)) = true) (h2 : (PyData.strOk w && PyData.strOk "throw" && ((w == "throw") == false)) = true) (h3 : (PyData.strOk w && PyData.strOk "fall" && ((w == "fall") == false)) = true) : m_deed_by [.str w, .ref n] M = .ok (.tup (.str w :: l)) M := by
  have e2 : binop .add (.tup [.str w]) (.tup l) M = .ok (.tup (.str w :: l)) M := add_tup (by rw [List.length_singleton]; omega)
  unfold m_deed_by runF c_deed_by
  simp only [evSs, evS, evE, evL, evO, evI, evT, bind_ok, Rs.sb, Res.sb, List.getElem?_cons_succ, List.getElem?_cons_zero, List.map_cons, List.map_nil, List.replicate, List.cons_append, List.nil_append, List.singleton_append, List.length_singleton, List.length_cons, List.length_nil, Nat.reduceAdd, Nat.reduceLeDiff, if_true, if_false, oW, oP, oB, setT, setMany, wipeL, List.set_cons_zero, List.set_cons_succ, gcB_same, gcE_same, gcX_same, gcX_ok, bmOk, noX_ok, Rs.res, truth, newL, and_self, eqc w "come" false h1, eqc w "throw" false h2, eqc w "fall" false h3, tuple_lst h, e2, one_line]
theorem deed_by_fall {M : Mh} {n : Nat} {ms ln : List Nat} {ws : List (Nat × List (Nat × Nat))} (h : M[n]? = some (.lst (.tup (ms.map nat) :: .tup (ln.map nat) :: ws.map wayP))) : m_deed_by [.str "fall", .ref n] M = .ok ((Dd.fall ms ln ws).pv M.length) (M ++ [.lst (ws.map wayP)]) := by
  have e1 : ixop M (.ref n) (.int 0) = .ok (.tup (ms.map nat)) M := ix_lst h at0
  have e2 : ixop M (.ref n) (.int 1) = .ok (.tup (ln.map nat)) M := ix_lst h at1
  have e3 : slop M (.ref n) (some 2) none = .ok (.ref M.length) (M ++ [.lst (ws.map wayP)]) := by
    unfold slop
    dsimp only
    rw [h]
    dsimp only
    have : cut (PV.tup (ms.map nat) :: PV.tup (ln.map nat) :: ws.map wayP) (some 2) none = ws.map wayP := by
      unfold Pi.cut HT.sIx
      simp
      exact List.take_of_length_le (by simp)
    rw [this]
  have four : (4 : Nat) ≤ sizeLine := by rw [sizeLine_eq]; decide
  have hlow : gcX M.length (.ok (.tup [.str "fall", .tup (ms.map nat), .tup (ln.map nat), .ref M.length]) (M ++ [.lst (ws.map wayP)])) = .ok (.tup [.str "fall", .tup (ms.map nat), .tup (ln.map nat), .ref M.length]) (M ++ [.lst (ws.map wayP)]) := by
    rw [gcX_ok]
    unfold Pi.gcE
    dsimp only
    split
    · rfl
    · have e : PV.low M.length (.tup [.str "fall", .tup (ms.map nat), .tup (ln.map nat), .ref M.length]) = false := by
        simp only [PV.low, lows, Bool.and_true, Bool.true_and]
        rw [show Nat.blt M.length M.length = false from Bool.eq_false_iff.mpr fun h => Nat.lt_irrefl M.length (by simpa using h)]
        simp
      rw [e]
      rfl
  unfold m_deed_by runF c_deed_by
  simp only [evSs, evS, evE, evL, evO, evI, evT, bind_ok, Rs.sb, Res.sb, List.getElem?_cons_succ, List.getElem?_cons_zero, List.map_cons, List.map_nil, List.replicate, List.cons_append, List.nil_append, List.singleton_append, List.length_singleton, List.length_cons, List.length_nil, Nat.reduceAdd, Nat.reduceLeDiff, if_true, if_false, oW, oP, oB, setT, setMany, wipeL, List.set_cons_zero, List.set_cons_succ, gcB_same, gcE_same, gcX_same, gcX_ok, bmOk, noX_ok, Rs.res, truth, newL, and_self, eqc "fall" "come" false (by decide +kernel), eqc "fall" "throw" false (by decide +kernel), eqc "fall" "fall" true (by decide +kernel), e1, e2, e3, four, Dd.pv]
  exact hlow
end LawK80
end
section
open PySem PySem.Spec PyProof.Rows L2 Pi
namespace LawK80
abbrev SH : List (PV × PV) := [((.str "own"), (.ct [(.str "number")])), ((.str "hear"), (.ct [(.str "number"), (.str "sign")])), ((.str "come"), (.ct [(.str "letter")])), ((.str "keep"), (.ct [(.str "number")])), ((.str "note"), (.ct [(.str "number"), (.str "number")])), ((.str "tell"), (.ct [(.str "number"), (.str "number")])), ((.str "throw"), (.ct [(.str "number")])), ((.str "fall"), (.ct [(.str "numbers"), (.str "numbers")]))]
abbrev MS : List (PV × PV) := [((.str "throw"), (.str "number")), ((.str "fall"), (.str "way"))]
theorem blank_ok : TL.tl (" " : Str) = [32] := by decide +kernel
theorem words_split {ys : List Str} {M : Mh} (hne : ys ≠ []) (hfree : ∀ y ∈ ys, 32 ∉ TL.tl y) (hlen : (Txt.join " " ys).length ≤ 100000) : bmf .split (.str (Txt.join " " ys)) [.str " "] M = .ok (.ref M.length) (M ++ [.lst (ys.map .str)]) := by
  unfold bmf
  dsimp only
  have h1 : (((" " : Str)).length == 0) = false := by decide +kernel
  rw [if_pos ⟨h1, by rw [sizeLine_eq]; omega⟩, TL.split_join blank_ok (by decide +kernel) hne hfree]
  rfl
theorem list_ct {M : Mh} {l : List PV} : biF .list [.ct l] M = .ok (.ref M.length) (M ++ [.lst l]) := by
  unfold biF
  rfl
theorem seq_nx {n : Nat} {F : Fs} {s : CS} {t : CSs} {r r' : Lv} {M M' : Mh} (h : evS n F s r M = .nx r' M') : evSs n F (.cons s t) r M = evSs n F t r' M' := by
  rw [evSs, h]
  rfl
theorem cmp_gt' {i j : Int} {M : Mh} : cmpop .gt (.int i) (.int j) M = .ok (.bl (decide (j < i))) M := cmp_gt
section
variable {w0 : Str} {L : List Tri} {M : Mh}
/-- the heap behind the reading -/
abbrev Mw (M : Mh) (w0 : Str) (L : List Tri) : Mh := M ++ [.lst ((w0 :: L.map fun t => t.2.1).map .str)]
abbrev Ms (M : Mh) (w0 : Str) (L : List Tri) : Mh := Mw M w0 L ++ [.lst (L.map fun t => .str t.1)]
abbrev Mt (M : Mh) (w0 : Str) (L : List Tri) : Mh := Ms M w0 L ++ [.lst (L.map fun t => t.2.2)]
theorem wf_w (hW : Wf M) : Wf (Mw M w0 L) := wf_strs hW _
theorem wf_s (hW : Wf M) : Wf (Ms M w0 L) := (wf_w hW).push (lows_mem fun p hp => by
  obtain ⟨t, _, rfl⟩ := List.mem_map.mp hp
  rfl)
theorem wf_acc (hW : Wf M) : ∀ acc : List PV, (∀ p ∈ acc, p.low 0 = true) → Wf (Ms M w0 L ++ [.lst acc]) := fun acc h => (wf_s hW).push (lows_mem fun p hp => PV.low_mono (Nat.zero_le _) (h p hp))
theorem len_w : (Mw M w0 L).length = M.length + 1 := by simp
theorem len_s : (Ms M w0 L).length = M.length + 2 := by simp
/-- the words, the shapes, the things: all read -/
theorem read_end (hW : Wf M) (hok : ∀ t ∈ L, triOk t) (hL : L.length < 100) {x0 : PV} {p : PV} {M' : Mh} (hres : m_deed_by [.str w0, .ref (M.length + 2)] (Mt M w0 L) = .ok p M') :
    ((evS 0 F_14 (.forr (.one 4) (.rng (.some (.lit (.int (1)))) (.bin .add (.bi .len (.cons (.var 2) .nil)) (.lit (.int (1))))) cb1_read_deed) [some x0, some (.ref M.length), some (.ref (M.length + 1)), some (.ref (M.length + 2)), none, none, none] (Ms M w0 L ++ [.lst []])).sb fun r1 M1 => evSs 0 F_14 (.cons (.iff (.val (.cmp .gt (.bi .len (.cons (.var 1) .nil)) (.bin .add (.bi .len (.cons (.var 2) .nil)) (.lit (.int (1)))))) (.cons .stuck .nil) .nil) (.cons (.ret (.call 13 (.cons (.ix (.var 1) (.lit (.int (0)))) (.cons (.var 3) .nil)))) .nil)) r1 M1) = .rt p M' := by
  have ga : (Ms M w0 L)[M.length]? = some (.lst ((w0 :: L.map fun t => t.2.1).map .str)) := get_app last_of
  have gb : (Ms M w0 L)[M.length + 1]? = some (.lst (L.map fun t => .str t.1)) := by
    have := last_of (M := Mw M w0 L) (o := .lst (L.map fun t => .str t.1))
    rw [len_w] at this
    exact this
  obtain ⟨y4, y5, hloop⟩ := read_loop (B := Ms M w0 L) (L := L) (w0 := w0) (a := M.length) (b := M.length + 1) (x0 := x0) (wf_acc hW) ga gb hok (by omega) (g := Walk.same ⟨rngL 1 ((L.length : Int) + 1), none, none⟩) (fun _ => ⟨trivial, trivial⟩) L.length 0 none none none (by omega)
  rw [List.drop_zero, List.take_zero, List.map_nil, len_s] at hloop
  have e1 : biF .len [.ref (M.length + 1)] (Ms M w0 L ++ [.lst []]) = .ok (.int (L.length : Int)) (Ms M w0 L ++ [.lst []]) := by
    rw [len_lst (get_app gb)]
    simp
  have hr : (-(2 ^ 62) ≤ (1 : Int) ∧ (1 : Int) < 2 ^ 62 ∧ -(2 ^ 62) ≤ (L.length : Int) + 1 ∧ (L.length : Int) + 1 < 2 ^ 62) := ⟨by omega, by omega, by omega, by omega⟩
  have hif : ∀ x y : Res Walk, (if (-(2 ^ 62) ≤ (1 : Int) ∧ (1 : Int) < 2 ^ 62 ∧ -(2 ^ 62) ≤ (L.length : Int) + 1 ∧ (L.length : Int) + 1 < 2 ^ 62) then x else y) = x := fun x y => if_pos hr
  have e2 : biF .len [.ref M.length] (Mt M w0 L) = .ok (.int ((L.length : Int) + 1)) (Mt M w0 L) := by
    rw [len_lst (get_app ga)]
    simp
  have e3 : biF .len [.ref (M.length + 1)] (Mt M w0 L) = .ok (.int (L.length : Int)) (Mt M w0 L) := by
    rw [len_lst (get_app gb)]
    simp
  have e4 : decide ((L.length : Int) + 1 < (L.length : Int) + 1) = false := decide_eq_false (by omega)
  have e5 : ixop (Mt M w0 L) (.ref M.length) (.int 0) = .ok (.str w0) (Mt M w0 L) := ix_lst (get_app ga) at0
  have eI : evI F_14 (.rng (.some (.lit (.int (1)))) (.bin .add (.bi .len (.cons (.var 2) .nil)) (.lit (.int (1))))) [some x0, some (.ref M.length), some (.ref (M.length + 1)), some (.ref (M.length + 2)), none, none, none] (Ms M w0 L ++ [.lst []]) = .ok ⟨rngL 1 ((L.length : Int) + 1), none, none⟩ (Ms M w0 L ++ [.lst []]) := by
    have eb : evE F_14 (.bin .add (.bi .len (.cons (.var 2) .nil)) (.lit (.int (1)))) [some x0, some (.ref M.length), some (.ref (M.length + 1)), some (.ref (M.length + 2)), none, none, none] (Ms M w0 L ++ [.lst []]) = .ok (.int ((L.length : Int) + 1)) (Ms M w0 L ++ [.lst []]) := by
      simp only [evSs, evS, evE, evL, evO, evI, evT, bind_ok, Rs.sb, Res.sb, List.getElem?_cons_succ, List.getElem?_cons_zero, List.map_cons, List.map_nil, List.replicate, List.cons_append, List.nil_append, List.singleton_append, List.length_singleton, List.length_cons, List.length_nil, Nat.reduceAdd, Nat.reduceLeDiff, if_true, if_false, oW, oP, oB, setT, setMany, wipeL, List.set_cons_zero, List.set_cons_succ, gcB_same, gcE_same, gcX_same, gcX_ok, bmOk, noX_ok, Rs.res, truth, newL, and_self, e1, add_int]
    rw [evI, evE, bind_ok, eb, bind_ok]
    exact if_pos hr
  rw [evS, eI]
  simp only [Res.sb, Rs.sb]
  rw [hloop]
  simp only [evSs, evS, evE, evL, evO, evI, evT, bind_ok, Rs.sb, Res.sb, List.getElem?_cons_succ, List.getElem?_cons_zero, List.map_cons, List.map_nil, List.replicate, List.cons_append, List.nil_append, List.singleton_append, List.length_singleton, List.length_cons, List.length_nil, Nat.reduceAdd, Nat.reduceLeDiff, if_true, if_false, oW, oP, oB, setT, setMany, wipeL, List.set_cons_zero, List.set_cons_succ, gcB_same, gcE_same, gcX_same, gcX_ok, bmOk, noX_ok, Rs.res, truth, newL, and_self, e2, e3, add_int, cmp_gt', e4, e5, at_read_deed_deed_by, hres]
/-- a deed's text read: its shapes stand in one table -/
theorem read_plain (hW : Wf M) (hS : dGet SH (.str w0) = some (.ct (L.map fun t => .str t.1))) (hM : dGet MS (.str w0) = none) (hok : ∀ t ∈ L, triOk t) (hL : L.length < 100) (hfree : ∀ y ∈ w0 :: L.map fun t => t.2.1, 32 ∉ TL.tl y) (hlen : (Txt.join " " (w0 :: L.map fun t => t.2.1)).length ≤ 100000) {p : PV} {M' : Mh}
    (hres : m_deed_by [.str w0, .ref (M.length + 2)] (Mt M w0 L) = .ok p M') : m_read_deed [.str (Txt.join " " (w0 :: L.map fun t => t.2.1))] M = gcX M.length (.ok p M') := by
  have e1 : bmf .split (.str (Txt.join " " (w0 :: L.map fun t => t.2.1))) [.str " "] M = .ok (.ref M.length) (Mw M w0 L) := words_split (by simp) hfree hlen
  have e2 : gcE M.length (.ok (.ref M.length) (Mw M w0 L)) = .ok (.ref M.length) (Mw M w0 L) := gcE_ref
  have ga : (Mw M w0 L)[M.length]? = some (.lst ((w0 :: L.map fun t => t.2.1).map .str)) := last_of
  have e3 : ixop (Mw M w0 L) (.ref M.length) (.int 0) = .ok (.str w0) (Mw M w0 L) := ix_lst ga at0
  have e4 : biF .list [.ct (L.map fun t => .str t.1)] (Mw M w0 L) = .ok (.ref (M.length + 1)) (Ms M w0 L) := by
    rw [list_ct, len_w]
  have e5 : gcE (Mw M w0 L).length (.ok (.ref (M.length + 1)) (Ms M w0 L)) = .ok (.ref (M.length + 1)) (Ms M w0 L) := by
    have := gcE_ref (M := Mw M w0 L) (E := [.lst (L.map fun t => .str t.1)])
    rw [len_w] at this ⊢
    exact this
  have ga2 : (Ms M w0 L)[M.length]? = some (.lst ((w0 :: L.map fun t => t.2.1).map .str)) := get_app last_of
  have e6 : ixop (Ms M w0 L) (.ref M.length) (.int 0) = .ok (.str w0) (Ms M w0 L) := ix_lst ga2 at0
  have x1 : xor true (some (PV.ct (L.map fun t => .str t.1))).isSome = false := rfl
  have x2 : xor false (none : Option PV).isSome = false := rfl
  have e7 := read_end (x0 := .str (Txt.join " " (w0 :: L.map fun t => t.2.1))) hW hok hL hres
  have key : evSs 0 F_14 c_read_deed [some (.str (Txt.join " " (w0 :: L.map fun t => t.2.1))), none, none, none, none, none, none] M = .rt p M' := by
    unfold c_read_deed
    refine (seq_nx (r' := [some (.str (Txt.join " " (w0 :: L.map fun t => t.2.1))), some (.ref M.length), none, none, none, none, none]) (M' := Mw M w0 L) ?_).trans ?_
    · simp only [evSs, evS, evE, evL, evO, evI, evT, bind_ok, Rs.sb, Res.sb, List.getElem?_cons_succ, List.getElem?_cons_zero, List.map_cons, List.map_nil, List.replicate, List.cons_append, List.nil_append, List.singleton_append, List.length_singleton, List.length_cons, List.length_nil, Nat.reduceAdd, Nat.reduceLeDiff, if_true, if_false, oW, oP, oB, setT, setMany, wipeL, List.set_cons_zero, List.set_cons_succ, gcB_same, gcE_same, gcX_same, gcX_ok, bmOk, noX_ok, Rs.res, truth, newL, and_self, e1, e2]
    refine (seq_nx (r' := [some (.str (Txt.join " " (w0 :: L.map fun t => t.2.1))), some (.ref M.length), none, none, none, none, none]) (M' := Mw M w0 L) ?_).trans ?_
    · simp only [evSs, evS, evE, evL, evO, evI, evT, bind_ok, Rs.sb, Res.sb, List.getElem?_cons_succ, List.getElem?_cons_zero, List.map_cons, List.map_nil, List.replicate, List.cons_append, List.nil_append, List.singleton_append, List.length_singleton, List.length_cons, List.length_nil, Nat.reduceAdd, Nat.reduceLeDiff, if_true, if_false, oW, oP, oB, setT, setMany, wipeL, List.set_cons_zero, List.set_cons_succ, gcB_same, gcE_same, gcX_same, gcX_ok, bmOk, noX_ok, Rs.res, truth, newL, and_self, e3, hS, x1]
    refine (seq_nx (r' := [some (.str (Txt.join " " (w0 :: L.map fun t => t.2.1))), some (.ref M.length), some (.ref (M.length + 1)), none, none, none, none]) (M' := Ms M w0 L) ?_).trans ?_
    · simp only [evSs, evS, evE, evL, evO, evI, evT, bind_ok, Rs.sb, Res.sb, List.getElem?_cons_succ, List.getElem?_cons_zero, List.map_cons, List.map_nil, List.replicate, List.cons_append, List.nil_append, List.singleton_append, List.length_singleton, List.length_cons, List.length_nil, Nat.reduceAdd, Nat.reduceLeDiff, if_true, if_false, oW, oP, oB, setT, setMany, wipeL, List.set_cons_zero, List.set_cons_succ, gcB_same, gcE_same, gcX_same, gcX_ok, bmOk, noX_ok, Rs.res, truth, newL, and_self, e3, hS, e4, e5]
    refine (seq_nx (r' := [some (.str (Txt.join " " (w0 :: L.map fun t => t.2.1))), some (.ref M.length), some (.ref (M.length + 1)), none, none, none, none]) (M' := Ms M w0 L) ?_).trans ?_
    · simp only [evSs, evS, evE, evL, evO, evI, evT, bind_ok, Rs.sb, Res.sb, List.getElem?_cons_succ, List.getElem?_cons_zero, List.map_cons, List.map_nil, List.replicate, List.cons_append, List.nil_append, List.singleton_append, List.length_singleton, List.length_cons, List.length_nil, Nat.reduceAdd, Nat.reduceLeDiff, if_true, if_false, oW, oP, oB, setT, setMany, wipeL, List.set_cons_zero, List.set_cons_succ, gcB_same, gcE_same, gcX_same, gcX_ok, bmOk, noX_ok, Rs.res, truth, newL, and_self, e6, hM, x2]
    refine (seq_nx (r' := [some (.str (Txt.join " " (w0 :: L.map fun t => t.2.1))), some (.ref M.length), some (.ref (M.length + 1)), some (.ref (M.length + 2)), none, none, none]) (M' := Ms M w0 L ++ [.lst []]) ?_).trans ?_
    · simp only [evSs, evS, evE, evL, evO, evI, evT, bind_ok, Rs.sb, Res.sb, List.getElem?_cons_succ, List.getElem?_cons_zero, List.map_cons, List.map_nil, List.replicate, List.cons_append, List.nil_append, List.singleton_append, List.length_singleton, List.length_cons, List.length_nil, Nat.reduceAdd, Nat.reduceLeDiff, if_true, if_false, oW, oP, oB, setT, setMany, wipeL, List.set_cons_zero, List.set_cons_succ, gcB_same, gcE_same, gcX_same, gcX_ok, bmOk, noX_ok, Rs.res, truth, newL, and_self, zero_line, List.length_append]
    rw [evSs]
    exact e7
  unfold m_read_deed runF
  rw [if_pos (show ([PV.str (Txt.join " " (w0 :: L.map fun t => t.2.1))] : List PV).length = 1 from rfl)]
  simp only [List.map_cons, List.map_nil, List.replicate, List.cons_append, List.nil_append]
  rw [key]
  rfl
/-- .. in two tables -/
theorem cut_drop {α : Type} {l : List α} {k : Nat} (h : k ≤ l.length) {i : Int} (hi : i = (k : Int)) : cut l (some i) none = l.drop k := by
  subst hi
  have e1 : HT.sIx l.length 0 (some (k : Int)) = k := by
    rw [HT.sIx_nat]
    omega
  have e2 : HT.sIx l.length l.length none = l.length := rfl
  unfold Pi.cut
  rw [e1, e2]
  exact List.take_of_length_le (by simp)
/-- .. with the shapes of the further words in a second table -/
theorem read_more {bs : List Str} {ms : Str} (hW : Wf M) (hS : dGet SH (.str w0) = some (.ct (bs.map .str))) (hM : dGet MS (.str w0) = some (.str ms)) (hb : bs.length ≤ L.length) (hsh : (L.map fun t => t.1) = bs ++ List.replicate (L.length - bs.length) ms) (hok : ∀ t ∈ L, triOk t) (hL : L.length < 100) (hfree : ∀ y ∈ w0 :: L.map fun t => t.2.1, 32 ∉ TL.tl y) (hlen : (Txt.join " " (w0 :: L.map fun t => t.2.1)).length ≤ 100000) {p : PV} {M' : Mh}
    (hres : m_deed_by [.str w0, .ref (M.length + 2)] (Mt M w0 L) = .ok p M') : m_read_deed [.str (Txt.join " " (w0 :: L.map fun t => t.2.1))] M = gcX M.length (.ok p M') := by
  have e1 : bmf .split (.str (Txt.join " " (w0 :: L.map fun t => t.2.1))) [.str " "] M = .ok (.ref M.length) (Mw M w0 L) := words_split (by simp) hfree hlen
  have e2 : gcE M.length (.ok (.ref M.length) (Mw M w0 L)) = .ok (.ref M.length) (Mw M w0 L) := gcE_ref
  have ga : (Mw M w0 L)[M.length]? = some (.lst ((w0 :: L.map fun t => t.2.1).map .str)) := last_of
  have e3 : ixop (Mw M w0 L) (.ref M.length) (.int 0) = .ok (.str w0) (Mw M w0 L) := ix_lst ga at0
  generalize hM1 : Mw M w0 L ++ [.lst (bs.map .str)] = M1
  have hl1 : M1.length = M.length + 2 := by rw [← hM1]; simp
  have ga1 : M1[M.length]? = some (.lst ((w0 :: L.map fun t => t.2.1).map .str)) := by rw [← hM1]; exact get_app last_of
  have gb1 : M1[M.length + 1]? = some (.lst (bs.map .str)) := by
    rw [← hM1]
    have := last_of (M := Mw M w0 L) (o := .lst (bs.map .str))
    rw [len_w] at this
    exact this
  have e4 : biF .list [.ct (bs.map .str)] (Mw M w0 L) = .ok (.ref (M.length + 1)) M1 := by
    rw [list_ct, len_w, ← hM1]
  have e5 : gcE (Mw M w0 L).length (.ok (.ref (M.length + 1)) M1) = .ok (.ref (M.length + 1)) M1 := by
    rw [← hM1]
    have := gcE_ref (M := Mw M w0 L) (E := [.lst (bs.map .str)])
    rw [len_w] at this ⊢
    exact this
  have e6 : ixop M1 (.ref M.length) (.int 0) = .ok (.str w0) M1 := ix_lst ga1 at0
  have x1 : xor true (some (PV.ct (bs.map .str))).isSome = false := rfl
  have x2 : xor false (some (PV.str ms)).isSome = true := rfl
  have e7 := read_end (x0 := .str (Txt.join " " (w0 :: L.map fun t => t.2.1))) hW hok hL hres
  -- the further shapes
  have f1 : biF .len [.ref (M.length + 1)] M1 = .ok (.int (bs.length : Int)) M1 := by
    rw [len_lst gb1]
    simp
  generalize hrest : ((w0 :: L.map fun t => t.2.1).map PV.str).drop (1 + bs.length) = rest
  have hrl : rest.length = L.length - bs.length := by
    rw [← hrest]
    simp
    omega
  have f2 : slop M1 (.ref M.length) (some (1 + (bs.length : Int))) none = .ok (.ref (M.length + 2)) (M1 ++ [.lst rest]) := by
    unfold slop
    dsimp only
    rw [ga1]
    dsimp only
    rw [cut_drop (k := 1 + bs.length) (by simp; omega) (by omega), hrest, hl1]
  have gr : (M1 ++ [.lst rest])[M.length + 2]? = some (.lst rest) := by
    rw [← hl1]
    exact last_of
  have f3 : walkOf (M1 ++ [.lst rest]) (.ref (M.length + 2)) = some ⟨rest, some (M.length + 2, .lst rest), none⟩ := by
    unfold walkOf
    dsimp only
    rw [gr]
  have f4 : ixop (M1 ++ [.lst rest]) (.ref M.length) (.int 0) = .ok (.str w0) (M1 ++ [.lst rest]) := ix_lst (get_app ga1) at0
  have f5 : ∀ f : PV → Mh → Res (Option PV), (∀ x ∈ rest, f x (M1 ++ [.lst rest]) = .ok (some (.str ms)) (M1 ++ [.lst rest])) → lcGo f (Walk.same ⟨rest, some (M.length + 2, .lst rest), none⟩) rest (M1 ++ [.lst rest]) = .ok (rest.map fun _ => .str ms) (M1 ++ [.lst rest]) := fun f hf => lcGo_map ⟨gr, trivial⟩ (fun _ => .str ms) hf
  have hsz : rest.length ≤ sizeLine := by rw [hrl, sizeLine_eq]; omega
  have hmore : bs.map PV.str ++ rest.map (fun _ => PV.str ms) = L.map fun t => .str t.1 := by
    have : (L.map fun t => PV.str t.1) = (L.map fun t => t.1).map .str := by rw [List.map_map]; rfl
    rw [this, hsh, List.map_append, List.map_replicate]
    congr 1
    rw [← hrl]
    exact List.map_const'
  have gn : (M1 ++ [.lst rest] ++ [.lst (rest.map fun _ => .str ms)])[M.length + 3]? = some (.lst (rest.map fun _ => .str ms)) := by
    have := last_of (M := M1 ++ [.lst rest]) (o := .lst (rest.map fun _ => .str ms))
    rw [List.length_append, List.length_singleton, hl1] at this
    exact this
  have gb2 : (M1 ++ [.lst rest] ++ [.lst (rest.map fun _ => .str ms)])[M.length + 1]? = some (.lst (bs.map .str)) := get_app (get_app gb1)
  have f6 : bmf .extend (.ref (M.length + 1)) [.ref (M.length + 3)] (M1 ++ [.lst rest] ++ [.lst (rest.map fun _ => .str ms)]) = .ok .non (Ms M w0 L ++ [.lst rest] ++ [.lst (rest.map fun _ => .str ms)]) := by
    unfold bmf
    dsimp only
    rw [gb2, gn]
    dsimp only
    rw [if_pos (by rw [sizeLine_eq]; simp only [List.length_map]; omega), hmore]
    unfold setO
    congr 1
    rw [← hM1]
    have hset := set_last (M := Mw M w0 L) (o := .lst (bs.map .str)) (o' := .lst (L.map fun t => .str t.1)) (E := [.lst rest] ++ [.lst (rest.map fun _ => .str ms)])
    rw [len_w, ← List.append_assoc, ← List.append_assoc] at hset
    exact hset
  have f7 : gcE M1.length (.ok .non (Ms M w0 L ++ [.lst rest] ++ [.lst (rest.map fun _ => .str ms)])) = .ok .non (Ms M w0 L) := by
    rw [List.append_assoc, hl1, ← len_s (M := M) (w0 := w0) (L := L)]
    exact gcE_app (wf_s hW) rfl
  have key : evSs 0 F_14 c_read_deed [some (.str (Txt.join " " (w0 :: L.map fun t => t.2.1))), none, none, none, none, none, none] M = .rt p M' := by
    unfold c_read_deed
    refine (seq_nx (r' := [some (.str (Txt.join " " (w0 :: L.map fun t => t.2.1))), some (.ref M.length), none, none, none, none, none]) (M' := Mw M w0 L) ?_).trans ?_
    · simp only [evSs, evS, evE, evL, evO, evI, evT, bind_ok, Rs.sb, Res.sb, List.getElem?_cons_succ, List.getElem?_cons_zero, List.map_cons, List.map_nil, List.replicate, List.cons_append, List.nil_append, List.singleton_append, List.length_singleton, List.length_cons, List.length_nil, Nat.reduceAdd, Nat.reduceLeDiff, if_true, if_false, oW, oP, oB, setT, setMany, wipeL, List.set_cons_zero, List.set_cons_succ, gcB_same, gcE_same, gcX_same, gcX_ok, bmOk, noX_ok, Rs.res, truth, newL, and_self, e1, e2]
    refine (seq_nx (r' := [some (.str (Txt.join " " (w0 :: L.map fun t => t.2.1))), some (.ref M.length), none, none, none, none, none]) (M' := Mw M w0 L) ?_).trans ?_
    · simp only [evSs, evS, evE, evL, evO, evI, evT, bind_ok, Rs.sb, Res.sb, List.getElem?_cons_succ, List.getElem?_cons_zero, List.map_cons, List.map_nil, List.replicate, List.cons_append, List.nil_append, List.singleton_append, List.length_singleton, List.length_cons, List.length_nil, Nat.reduceAdd, Nat.reduceLeDiff, if_true, if_false, oW, oP, oB, setT, setMany, wipeL, List.set_cons_zero, List.set_cons_succ, gcB_same, gcE_same, gcX_same, gcX_ok, bmOk, noX_ok, Rs.res, truth, newL, and_self, e3, hS, x1]
    refine (seq_nx (r' := [some (.str (Txt.join " " (w0 :: L.map fun t => t.2.1))), some (.ref M.length), some (.ref (M.length + 1)), none, none, none, none]) (M' := M1) ?_).trans ?_
    · simp only [evSs, evS, evE, evL, evO, evI, evT, bind_ok, Rs.sb, Res.sb, List.getElem?_cons_succ, List.getElem?_cons_zero, List.map_cons, List.map_nil, List.replicate, List.cons_append, List.nil_append, List.singleton_append, List.length_singleton, List.length_cons, List.length_nil, Nat.reduceAdd, Nat.reduceLeDiff, if_true, if_false, oW, oP, oB, setT, setMany, wipeL, List.set_cons_zero, List.set_cons_succ, gcB_same, gcE_same, gcX_same, gcX_ok, bmOk, noX_ok, Rs.res, truth, newL, and_self, e3, hS, e4, e5]
    refine (seq_nx (r' := [some (.str (Txt.join " " (w0 :: L.map fun t => t.2.1))), some (.ref M.length), some (.ref (M.length + 1)), none, none, none, none]) (M' := Ms M w0 L) ?_).trans ?_
    · simp only [evSs, evS, evE, evL, evO, evI, evT, bind_ok, Rs.sb, Res.sb, List.getElem?_cons_succ, List.getElem?_cons_zero, List.map_cons, List.map_nil, List.replicate, List.cons_append, List.nil_append, List.singleton_append, List.length_singleton, List.length_cons, List.length_nil, Nat.reduceAdd, Nat.reduceLeDiff, if_true, if_false, oW, oP, oB, setT, setMany, wipeL, List.set_cons_zero, List.set_cons_succ, gcB_same, gcE_same, gcX_same, gcX_ok, bmOk, noX_ok, Rs.res, truth, newL, and_self, e6, hM, x2, gb1, f1, add_int, f2, f3]
      rw [f5 _ fun x hx => ?_]
      · simp only [evSs, evS, evE, evL, evO, evI, evT, bind_ok, Rs.sb, Res.sb, List.getElem?_cons_succ, List.getElem?_cons_zero, List.map_cons, List.map_nil, List.replicate, List.cons_append, List.nil_append, List.singleton_append, List.length_singleton, List.length_cons, List.length_nil, Nat.reduceAdd, Nat.reduceLeDiff, if_true, if_false, oW, oP, oB, setT, setMany, wipeL, List.set_cons_zero, List.set_cons_succ, gcB_same, gcE_same, gcX_same, gcX_ok, bmOk, noX_ok, Rs.res, truth, newL, and_self, List.length_map, hsz, List.length_append, hl1, f6]
        rw [← hl1, f7]
      · simp only [evSs, evS, evE, evL, evO, evI, evT, bind_ok, Rs.sb, Res.sb, List.getElem?_cons_succ, List.getElem?_cons_zero, List.map_cons, List.map_nil, List.replicate, List.cons_append, List.nil_append, List.singleton_append, List.length_singleton, List.length_cons, List.length_nil, Nat.reduceAdd, Nat.reduceLeDiff, if_true, if_false, oW, oP, oB, setT, setMany, wipeL, List.set_cons_zero, List.set_cons_succ, gcB_same, gcE_same, gcX_same, gcX_ok, bmOk, noX_ok, Rs.res, truth, newL, and_self, f4, hM]
    refine (seq_nx (r' := [some (.str (Txt.join " " (w0 :: L.map fun t => t.2.1))), some (.ref M.length), some (.ref (M.length + 1)), some (.ref (M.length + 2)), none, none, none]) (M' := Ms M w0 L ++ [.lst []]) ?_).trans ?_
    · simp only [evSs, evS, evE, evL, evO, evI, evT, bind_ok, Rs.sb, Res.sb, List.getElem?_cons_succ, List.getElem?_cons_zero, List.map_cons, List.map_nil, List.replicate, List.cons_append, List.nil_append, List.singleton_append, List.length_singleton, List.length_cons, List.length_nil, Nat.reduceAdd, Nat.reduceLeDiff, if_true, if_false, oW, oP, oB, setT, setMany, wipeL, List.set_cons_zero, List.set_cons_succ, gcB_same, gcE_same, gcX_same, gcX_ok, bmOk, noX_ok, Rs.res, truth, newL, and_self, zero_line, List.length_append]
    rw [evSs]
    exact e7
  unfold m_read_deed runF
  rw [if_pos (show ([PV.str (Txt.join " " (w0 :: L.map fun t => t.2.1))] : List PV).length = 1 from rfl)]
  simp only [List.map_cons, List.map_nil, List.replicate, List.cons_append, List.nil_append]
  rw [key]
  rfl
end
end LawK80
end
section
open PySem PySem.Spec PyProof.Rows L2 Pi
namespace LawK80
theorem tri_num {n : Nat} (h : n < 10 ^ 9) : triOk ("number", numS n, nat n) := ⟨fun M hW => thing_number hW h, rfl, fun e => by cases e⟩
theorem tri_sign {c : Str} (h : c = "a" ∨ c = "b" ∨ c = "z") : triOk ("sign", c, .str c) := ⟨fun M hW => thing_sign h, rfl, fun e => by cases e⟩
theorem lows_let {l : List (Nat × Nat)} {n : Nat} : lows n (l.map letP) = true := lows_mem fun p hp => by
  obtain ⟨z, _, rfl⟩ := List.mem_map.mp hp
  simp [letP, PV.low, lows]
theorem lows_nat {l : List Nat} {n : Nat} : lows n (l.map nat) = true := lows_mem fun p hp => by
  obtain ⟨z, _, rfl⟩ := List.mem_map.mp hp
  rfl
theorem tri_let {q : Nat × Nat} (h : letOk q) : triOk ("letter", letS q, letP q) := ⟨fun M hW => thing_letter hW h, by simp [letP, PV.low, lows], fun e => by cases e⟩
theorem tri_nums {l : List Nat} (h : lstOk l) : triOk ("numbers", comS l, .tup (l.map nat)) := ⟨fun M hW => thing_numbers hW h, by simp only [PV.low]; exact lows_nat, fun e => by cases e⟩
theorem tri_way {q : Nat × List (Nat × Nat)} (h : wayOk q) : triOk ("way", wayS q, wayP q) := ⟨fun M hW => thing_way hW h, by
  simp only [wayP, PV.low, lows, Bool.and_true, Bool.true_and]
  exact lows_let, fun e => by cases e⟩
/-- no blank in a deed's words -/
theorem way_blank {q : Nat × List (Nat × Nat)} : 32 ∉ TL.tl (wayS q) := by
  unfold wayS
  rw [TL.tl_append, TL.tl_append]
  intro hm
  rcases List.mem_append.mp hm with hm | hm
  · rcases List.mem_append.mp hm with hm | hm
    · exact numS_free (by omega) hm
    · have : TL.tl (":" : Str) = [58] := by decide +kernel
      rw [this] at hm
      simp at hm
  · exact way_free (by omega) hm
theorem com_blank {l : List Nat} : 32 ∉ TL.tl (comS l) := by
  have h := way_free (q := (0, [])) (s := 32) (by omega)
  unfold comS
  rw [TL.join_eq, TL.tl_join, comma_ok]
  have : ∀ l : List (List Nat), (∀ p ∈ l, 32 ∉ p) → 32 ∉ TL.joinL [44] l := by
    intro l
    induction l with
    | nil => intro _ hm; cases hm
    | cons p l ih =>
      intro hp hm
      cases l with
      | nil => exact hp p List.mem_cons_self hm
      | cons q r =>
        have hm : 32 ∈ p ++ ([44] ++ TL.joinL [44] (q :: r)) := hm
        rcases List.mem_append.mp hm with hm | hm
        · exact hp p List.mem_cons_self hm
        · rcases List.mem_append.mp hm with hm | hm
          · simp at hm
          · exact ih (fun z hz => hp z (List.mem_cons_of_mem _ hz)) hm
  refine this _ fun p hp => ?_
  obtain ⟨y, hy, rfl⟩ := List.mem_map.mp hp
  obtain ⟨z, hz, rfl⟩ := List.mem_map.mp hy
  exact numS_free (by omega)
theorem text_len {ys : List Str} (h : ∀ y ∈ ys, y.length ≤ 100) (hl : ys.length ≤ 200) : (Txt.join " " ys).length ≤ 100000 := by
  have h1 := sum_join " " ys
  have h2 := sum_le h
  have h3 : ((" " : Str)).length = 1 := by decide +kernel
  have h4 : ys.length * 100 ≤ 200 * 100 := Nat.mul_le_mul_right 100 hl
  rw [h3] at h1
  omega
/-- what reading a deed's text gives -/
def readTo (d : Dd) (M : Mh) : Prop := ∃ (E : Mh) (r : Nat), m_read_deed [.str d.text] M = .ok (d.pv r) (M ++ E) ∧ d.at_ (M ++ E) r ∧ Wf (M ++ E)
theorem gc_tup {M E : Mh} {l : List PV} (hW : Wf M) (h : lows M.length l = true) : gcX M.length (.ok (.tup l) (M ++ E)) = .ok (.tup l) M := gcX_app hW (by simp only [PV.low]; exact h)
theorem read_other {M : Mh} (hW : Wf M) {w : Str} {L : List Tri} (hS : dGet SH (.str w) = some (.ct (L.map fun t => .str t.1))) (hM : dGet MS (.str w) = none) (hok : ∀ t ∈ L, triOk t) (hL : L.length ≤ 10) (hfree : ∀ y ∈ w :: L.map fun t => t.2.1, 32 ∉ TL.tl y) (hy : ∀ y ∈ w :: L.map fun t => t.2.1, y.length ≤ 100)
    (h1 : (PyData.strOk w && PyData.strOk "come" && ((w == "come") == false)) = true) (h2 : (PyData.strOk w && PyData.strOk "throw" && ((w == "throw") == false)) = true) (h3 : (PyData.strOk w && PyData.strOk "fall" && ((w == "fall") == false)) = true) :
    m_read_deed [.str (Txt.join " " (w :: L.map fun t => t.2.1))] M = .ok (.tup (.str w :: L.map fun t => t.2.2)) M := by
  have hg : (Mt M w L)[M.length + 2]? = some (.lst (L.map fun t => t.2.2)) := by
    have := last_of (M := Ms M w L) (o := .lst (L.map fun t => t.2.2))
    rw [len_s] at this
    exact this
  rw [read_plain hW hS hM hok (by omega) hfree (text_len hy (by simp; omega)) (deed_by_other hg (by simp; omega) h1 h2 h3)]
  unfold Mt Ms Mw
  rw [List.append_assoc, List.append_assoc]
  refine gc_tup hW ?_
  simp only [lows, PV.low, Bool.true_and]
  exact lows_mem fun p hp => by
    obtain ⟨t, ht, rfl⟩ := List.mem_map.mp hp
    exact PV.low_mono (Nat.zero_le _) (hok t ht).2.1
end LawK80
end
section
open PySem PySem.Spec PyProof.Rows L2 Pi
namespace LawK80
theorem readTo_of {d : Dd} {M : Mh} (hW : Wf M) (h : m_read_deed [.str d.text] M = .ok (d.pv 0) M) (ha : d.at_ M 0) : readTo d M := ⟨[], 0, by rw [List.append_nil]; exact h, by rw [List.append_nil]; exact ha, by rw [List.append_nil]; exact hW⟩
theorem mem2 {P : Str → Prop} {a b : Str} (h1 : P a) (h2 : P b) : ∀ y ∈ [a, b], P y := fun y hy => by
  simp only [List.mem_cons, List.mem_nil_iff, or_false] at hy
  rcases hy with rfl | rfl
  · exact h1
  · exact h2
theorem mem3 {P : Str → Prop} {a b c : Str} (h1 : P a) (h2 : P b) (h3 : P c) : ∀ y ∈ [a, b, c], P y := fun y hy => by
  simp only [List.mem_cons, List.mem_nil_iff, or_false] at hy
  rcases hy with rfl | rfl | rfl
  · exact h1
  · exact h2
  · exact h3
theorem nblank {n : Nat} : 32 ∉ TL.tl (numS n) := numS_free (by omega)
theorem read_one {M : Mh} (hW : Wf M) {w : Str} {n : Nat} (hw : w = "own" ∨ w = "keep") (h : n < 10 ^ 9) : m_read_deed [.str (Dd.one w n).text] M = .ok ((Dd.one w n).pv 0) M := by
  have hb : 32 ∉ TL.tl w := by rcases hw with rfl | rfl <;> decide +kernel
  have hl : w.length ≤ 100 := by rcases hw with rfl | rfl <;> decide +kernel
  have hok : ∀ t ∈ ([("number", numS n, nat n)] : List Tri), triOk t := fun t ht => by
    rw [List.mem_singleton.mp ht]
    exact tri_num h
  have hf : ∀ y ∈ w :: ([("number", numS n, nat n)] : List Tri).map (fun t => t.2.1), 32 ∉ TL.tl y := mem2 hb nblank
  have hy : ∀ y ∈ w :: ([("number", numS n, nat n)] : List Tri).map (fun t => t.2.1), y.length ≤ 100 := mem2 hl (num9 h)
  rcases hw with rfl | rfl
  · exact read_other (L := [("number", numS n, nat n)]) hW (by rfl) (by rfl) hok (by simp) hf hy (by decide +kernel) (by decide +kernel) (by decide +kernel)
  · exact read_other (L := [("number", numS n, nat n)]) hW (by rfl) (by rfl) hok (by simp) hf hy (by decide +kernel) (by decide +kernel) (by decide +kernel)
theorem read_two {M : Mh} (hW : Wf M) {w : Str} {a b : Nat} (hw : w = "note" ∨ w = "tell") (h : a < 10 ^ 9) (h' : b < 10 ^ 9) : m_read_deed [.str (Dd.two w a b).text] M = .ok ((Dd.two w a b).pv 0) M := by
  have hb : 32 ∉ TL.tl w := by rcases hw with rfl | rfl <;> decide +kernel
  have hl : w.length ≤ 100 := by rcases hw with rfl | rfl <;> decide +kernel
  have hok : ∀ t ∈ ([("number", numS a, nat a), ("number", numS b, nat b)] : List Tri), triOk t := fun t ht => by
    simp only [List.mem_cons, List.mem_nil_iff, or_false] at ht
    rcases ht with rfl | rfl
    · exact tri_num h
    · exact tri_num h'
  have hf : ∀ y ∈ w :: ([("number", numS a, nat a), ("number", numS b, nat b)] : List Tri).map (fun t => t.2.1), 32 ∉ TL.tl y := mem3 hb nblank nblank
  have hy : ∀ y ∈ w :: ([("number", numS a, nat a), ("number", numS b, nat b)] : List Tri).map (fun t => t.2.1), y.length ≤ 100 := mem3 hl (num9 h) (num9 h')
  rcases hw with rfl | rfl
  · exact read_other (L := [("number", numS a, nat a), ("number", numS b, nat b)]) hW (by rfl) (by rfl) hok (by simp) hf hy (by decide +kernel) (by decide +kernel) (by decide +kernel)
  · exact read_other (L := [("number", numS a, nat a), ("number", numS b, nat b)]) hW (by rfl) (by rfl) hok (by simp) hf hy (by decide +kernel) (by decide +kernel) (by decide +kernel)
theorem read_hear {M : Mh} (hW : Wf M) {n : Nat} {c : Str} (h : n < 10 ^ 9) (hc : c = "a" ∨ c = "b" ∨ c = "z") : m_read_deed [.str (Dd.hear n c).text] M = .ok ((Dd.hear n c).pv 0) M := by
  have hb : 32 ∉ TL.tl c := by rcases hc with rfl | rfl | rfl <;> decide +kernel
  have hl : c.length ≤ 100 := by rcases hc with rfl | rfl | rfl <;> decide +kernel
  have hok : ∀ t ∈ ([("number", numS n, nat n), ("sign", c, .str c)] : List Tri), triOk t := fun t ht => by
    simp only [List.mem_cons, List.mem_nil_iff, or_false] at ht
    rcases ht with rfl | rfl
    · exact tri_num h
    · exact tri_sign hc
  have hf : ∀ y ∈ ("hear" : Str) :: ([("number", numS n, nat n), ("sign", c, .str c)] : List Tri).map (fun t => t.2.1), 32 ∉ TL.tl y := mem3 (by decide +kernel) nblank hb
  have hy : ∀ y ∈ ("hear" : Str) :: ([("number", numS n, nat n), ("sign", c, .str c)] : List Tri).map (fun t => t.2.1), y.length ≤ 100 := mem3 (by decide +kernel) (num9 h) hl
  exact read_other (L := [("number", numS n, nat n), ("sign", c, .str c)]) hW (by rfl) (by rfl) hok (by simp) hf hy (by decide +kernel) (by decide +kernel) (by decide +kernel)
theorem let_blank {q : Nat × Nat} : 32 ∉ TL.tl (letS q) := let_free (by omega)
theorem read_come {M : Mh} (hW : Wf M) {r k : Nat} (h : letOk (r, k)) : m_read_deed [.str (Dd.come r k).text] M = .ok ((Dd.come r k).pv 0) M := by
  have hok : ∀ t ∈ ([("letter", letS (r, k), letP (r, k))] : List Tri), triOk t := fun t ht => by
    rw [List.mem_singleton.mp ht]
    exact tri_let h
  have hf : ∀ y ∈ ("come" : Str) :: ([("letter", letS (r, k), letP (r, k))] : List Tri).map (fun t => t.2.1), 32 ∉ TL.tl y := mem2 (by decide +kernel) let_blank
  have hy : ∀ y ∈ ("come" : Str) :: ([("letter", letS (r, k), letP (r, k))] : List Tri).map (fun t => t.2.1), y.length ≤ 100 := mem2 (by decide +kernel) (show (letS (r, k)).length ≤ 100 by have := let_len h; omega)
  have hg : (Mt M "come" [("letter", letS (r, k), letP (r, k))])[M.length + 2]? = some (.lst [letP (r, k)]) := by
    have := last_of (M := Ms M "come" [("letter", letS (r, k), letP (r, k))]) (o := .lst [letP (r, k)])
    rw [len_s] at this
    exact this
  have hWt : Wf (Mt M "come" [("letter", letS (r, k), letP (r, k))]) := wf_acc hW _ fun p hp => by
    obtain ⟨t, ht, rfl⟩ := List.mem_map.mp hp
    exact (hok t ht).2.1
  have e := read_plain (L := [("letter", letS (r, k), letP (r, k))]) hW (by rfl) (by rfl) hok (by simp) hf (text_len hy (by simp)) (deed_by_come hg hWt)
  refine e.trans ?_
  unfold Mt Ms Mw
  rw [List.append_assoc, List.append_assoc]
  exact gc_tup hW (by simp [lows, PV.low])
theorem read_throw {M : Mh} (hW : Wf M) {l : List Nat} (h : lstOk l) : m_read_deed [.str (Dd.throw l).text] M = .ok ((Dd.throw l).pv 0) M := by
  have hok : ∀ t ∈ l.map (fun n => (("number", numS n, nat n) : Tri)), triOk t := fun t ht => by
    obtain ⟨n, hn, rfl⟩ := List.mem_map.mp ht
    exact tri_num (h.2.2 n hn)
  have m1 : (l.map (fun n => (("number", numS n, nat n) : Tri))).map (fun t => t.2.1) = l.map numS := by rw [List.map_map]; rfl
  have m2 : (l.map (fun n => (("number", numS n, nat n) : Tri))).map (fun t => t.2.2) = l.map nat := by rw [List.map_map]; rfl
  have m3 : (l.map (fun n => (("number", numS n, nat n) : Tri))).map (fun t => t.1) = ([("number" : Str)] : List Str) ++ List.replicate ((l.map (fun n => (("number", numS n, nat n) : Tri))).length - [("number" : Str)].length) ("number" : Str) := by
    rw [List.map_map]
    have hne := h.1
    cases l with
    | nil => exact absurd rfl hne
    | cons a t =>
      simp
      exact List.map_const'
  have hf : ∀ y ∈ ("throw" : Str) :: (l.map (fun n => (("number", numS n, nat n) : Tri))).map (fun t => t.2.1), 32 ∉ TL.tl y := fun y hy => by
    rw [m1] at hy
    rcases List.mem_cons.mp hy with rfl | hy
    · decide +kernel
    · obtain ⟨n, hn, rfl⟩ := List.mem_map.mp hy
      exact nblank
  have hy : ∀ y ∈ ("throw" : Str) :: (l.map (fun n => (("number", numS n, nat n) : Tri))).map (fun t => t.2.1), y.length ≤ 100 := by
    rw [m1]
    exact throw_words h
  have hlen : 1 ≤ l.length := by
    have := h.1
    cases l with
    | nil => exact absurd rfl this
    | cons a t => simp
  have hg : (Mt M "throw" (l.map (fun n => (("number", numS n, nat n) : Tri))))[M.length + 2]? = some (.lst (l.map nat)) := by
    have := last_of (M := Ms M "throw" (l.map (fun n => (("number", numS n, nat n) : Tri)))) (o := .lst ((l.map (fun n => (("number", numS n, nat n) : Tri))).map (fun t => t.2.2)))
    rw [len_s] at this
    rw [← m2]
    exact this
  have hWt : Wf (Mt M "throw" (l.map (fun n => (("number", numS n, nat n) : Tri)))) := wf_acc hW _ fun p hp => by
    obtain ⟨t, ht, rfl⟩ := List.mem_map.mp hp
    exact (hok t ht).2.1
  have h4 := h.2.1
  have e := read_more (L := l.map (fun n => (("number", numS n, nat n) : Tri))) (bs := ["number"]) (ms := "number") hW (by rfl) (by rfl) (by simpa using hlen) m3 hok (by simp; omega) hf (text_len hy (by simp; omega)) (deed_by_throw hg hWt)
  rw [m1] at e
  refine e.trans ?_
  unfold Mt Ms Mw
  rw [List.append_assoc, List.append_assoc]
  exact gc_tup hW (by simp only [lows, PV.low, Bool.true_and, Bool.and_true]; exact lows_nat)
theorem read_fall {M : Mh} (hW : Wf M) {ms ln : List Nat} {ws : List (Nat × List (Nat × Nat))} (h : (Dd.fall ms ln ws).ok) : readTo (.fall ms ln ws) M := by
  have hok0 := fall_words_ok h
  obtain ⟨h1, h2, h3, h4⟩ := h
  generalize hL : (("numbers", comS ms, .tup (ms.map nat)) : Tri) :: ("numbers", comS ln, .tup (ln.map nat)) :: ws.map (fun q => (("way", wayS q, wayP q) : Tri)) = L
  have hok : ∀ t ∈ L, triOk t := fun t ht => by
    rw [← hL] at ht
    simp only [List.mem_cons, List.mem_map] at ht
    rcases ht with rfl | rfl | ⟨q, hq, rfl⟩
    · exact tri_nums h1
    · exact tri_nums h2
    · exact tri_way (h4 q hq)
  have m1 : ("fall" : Str) :: L.map (fun t => t.2.1) = (Dd.fall ms ln ws).words := by
    rw [← hL]
    simp only [List.map_cons, List.map_map, Dd.words]
    rfl
  have m2 : L.map (fun t => t.2.2) = .tup (ms.map nat) :: .tup (ln.map nat) :: ws.map wayP := by
    rw [← hL]
    simp only [List.map_cons, List.map_map]
    rfl
  have hLl : L.length = ws.length + 2 := by rw [← hL]; simp
  have m3 : L.map (fun t => t.1) = ([("numbers" : Str), "numbers"] : List Str) ++ List.replicate (L.length - [("numbers" : Str), "numbers"].length) ("way" : Str) := by
    rw [hLl, ← hL]
    simp only [List.map_cons, List.map_map, List.length_cons, List.length_nil, List.cons_append, List.nil_append, Nat.add_sub_cancel]
    congr 2
    exact List.map_const'
  have hf : ∀ y ∈ ("fall" : Str) :: L.map (fun t => t.2.1), 32 ∉ TL.tl y := fun y hy => by
    rw [m1] at hy
    simp only [Dd.words, List.mem_cons, List.mem_map] at hy
    rcases hy with rfl | rfl | rfl | ⟨q, hq, rfl⟩
    · decide +kernel
    · exact com_blank
    · exact com_blank
    · exact way_blank
  have hy : ∀ y ∈ ("fall" : Str) :: L.map (fun t => t.2.1), y.length ≤ 100 := by
    rw [m1]
    exact hok0
  have hg : (Mt M "fall" L)[M.length + 2]? = some (.lst (.tup (ms.map nat) :: .tup (ln.map nat) :: ws.map wayP)) := by
    have := last_of (M := Ms M "fall" L) (o := .lst (L.map (fun t => t.2.2)))
    rw [len_s, m2] at this
    unfold Mt
    rw [m2]
    exact this
  have hWt : Wf (Mt M "fall" L) := wf_acc hW _ fun p hp => by
    obtain ⟨t, ht, rfl⟩ := List.mem_map.mp hp
    exact (hok t ht).2.1
  have e := read_more (L := L) (w0 := "fall") (bs := ["numbers", "numbers"]) (ms := "way") hW (by rfl) (by rfl) (by rw [hLl]; simp) m3 hok (by rw [hLl]; omega) hf (text_len hy (by simp; omega)) (deed_by_fall hg)
  rw [m1] at e
  have hWe : Wf (Mt M "fall" L ++ [.lst (ws.map wayP)]) := hWt.push ways_low
  have hbig : gcX M.length (.ok ((Dd.fall ms ln ws).pv (Mt M "fall" L).length) (Mt M "fall" L ++ [.lst (ws.map wayP)])) = .ok ((Dd.fall ms ln ws).pv (Mt M "fall" L).length) (Mt M "fall" L ++ [.lst (ws.map wayP)]) := by
    rw [gcX_ok]
    unfold Pi.gcE
    dsimp only
    split
    · rfl
    · have e2 : PV.low M.length ((Dd.fall ms ln ws).pv (Mt M "fall" L).length) = false := by
        simp only [Dd.pv, PV.low, lows, Bool.and_true, Bool.true_and]
        have : Nat.blt (Mt M "fall" L).length M.length = false := Bool.eq_false_iff.mpr fun h => by
          have h : (Mt M "fall" L).length < M.length := by simpa using h
          have h5 : (Mt M "fall" L).length = M.length + 3 := by simp
          omega
        rw [this]
        simp
      rw [e2]
      rfl
  rw [hbig] at e
  refine ⟨[.lst ((("fall" : Str) :: L.map fun t => t.2.1).map .str)] ++ [.lst (L.map fun t => .str t.1)] ++ [.lst (L.map fun t => t.2.2)] ++ [.lst (ws.map wayP)], (Mt M "fall" L).length, ?_, ?_, ?_⟩
  · refine e.trans ?_
    simp only [List.append_assoc]
  · show (M ++ _)[(Mt M "fall" L).length]? = some (.lst (ws.map wayP))
    have := last_of (M := Mt M "fall" L) (o := .lst (ws.map wayP))
    simp only [List.append_assoc] at this ⊢
    exact this
  · have := hWe
    simp only [List.append_assoc] at this ⊢
    exact this
/-- the text of a deed, read -/
theorem read_run {M : Mh} (hW : Wf M) {d : Dd} (h : d.ok) : readTo d M := by
  cases d with
  | one w n => exact readTo_of hW (read_one hW h.1 h.2) trivial
  | two w a b => exact readTo_of hW (read_two hW h.1 h.2.1 h.2.2) trivial
  | hear n c => exact readTo_of hW (read_hear hW h.1 h.2) trivial
  | come r k => exact readTo_of hW (read_come hW h) trivial
  | throw l => exact readTo_of hW (read_throw hW h) trivial
  | fall ms ln ws => exact read_fall hW h
end LawK80
end
section
open PySem PySem.Spec PyProof.Rows L2 Pi
namespace LawK80
theorem isi_val {M : Mh} {p : PV} {a t : String} {b : Bool} (h : tyOf M p = some a) (e : isiTy a t = some b) : biF .isi [p, .ty t] M = .ok (.bl b) M := by
  unfold biF
  dsimp only
  rw [h]
  dsimp only
  rw [e]
  rfl
theorem isi_two {M : Mh} {p : PV} {a : String} {b : Bool} (h : tyOf M p = some a) (e : isiAny a [.ty "tuple", .ty "list"] = some b) : biF .isi [p, .tup [.ty "tuple", .ty "list"]] M = .ok (.bl b) M := by
  unfold biF
  dsimp only
  rw [h]
  dsimp only
  rw [e]
  rfl
theorem two_line : (2 : Nat) ≤ sizeLine := by rw [sizeLine_eq]; decide
def Al (M : Mh) (d : Nat) (p q : PV) : Prop := m__law_alike 0 d [p, q] M = .ok (.bl true) M
noncomputable abbrev FA (d : Nat) : Fs := { F_25 with fns := F_25.fns ++ [m__law_alike 0 d] }
theorem al_unfold (d : Nat) : m__law_alike 0 (d + 1) = runF (FA d) 0 2 3 c__law_alike := rfl
theorem ty_ref {M : Mh} {n : Nat} {l : List PV} (h : M[n]? = some (.lst l)) : tyOf M (.ref n) = some "list" := by
  unfold tyOf
  dsimp only
  rw [h]
theorem al_int {M : Mh} {d : Nat} {i : Int} : Al M (d + 1) (.int i) (.int i) := by
  have e1 : biF .isi [.int i, .tup [.ty "tuple", .ty "list"]] M = .ok (.bl false) M := isi_two (a := "int") rfl (by decide +kernel)
  have e2 : biF .isi [.int i, .ty "str"] M = .ok (.bl false) M := isi_val (a := "int") rfl (by decide +kernel)
  have e3 : biF .isi [.int i, .ty "int"] M = .ok (.bl true) M := isi_val (a := "int") rfl (by decide +kernel)
  have e4 : biF .isi [.int i, .ty "bool"] M = .ok (.bl false) M := isi_val (a := "int") rfl (by decide +kernel)
  have e5 : cmpop .eq (.int i) (.int i) M = .ok (.bl true) M := by
    show oB (eqPV M (.int i) (.int i)) M = _
    rw [Pi.eq_int]
    simp [oB]
  unfold Al
  rw [al_unfold]
  unfold runF c__law_alike
  simp only [evSs, evS, evE, evL, evO, evI, evT, bind_ok, Rs.sb, Res.sb, List.getElem?_cons_succ, List.getElem?_cons_zero, List.map_cons, List.map_nil, List.replicate, List.cons_append, List.nil_append, List.singleton_append, List.length_singleton, List.length_cons, List.length_nil, Nat.reduceAdd, Nat.reduceLeDiff, if_true, if_false, oW, oP, oB, setT, setMany, wipeL, List.set_cons_zero, List.set_cons_succ, gcB_same, gcE_same, gcX_same, gcX_ok, bmOk, noX_ok, Rs.res, truth, newL, and_self, two_line, e1, e2, e3, e4, e5, Bool.not_false]
theorem al_str {M : Mh} {d : Nat} {x : Str} (hx : PyData.strOk x = true) : Al M (d + 1) (.str x) (.str x) := by
  have e1 : biF .isi [.str x, .tup [.ty "tuple", .ty "list"]] M = .ok (.bl false) M := isi_two (a := "str") rfl (by decide +kernel)
  have e2 : biF .isi [.str x, .ty "str"] M = .ok (.bl true) M := isi_val (a := "str") rfl (by decide +kernel)
  have e5 : cmpop .eq (.str x) (.str x) M = .ok (.bl true) M := by
    rw [eq_word hx hx]
    simp
  unfold Al
  rw [al_unfold]
  unfold runF c__law_alike
  simp only [evSs, evS, evE, evL, evO, evI, evT, bind_ok, Rs.sb, Res.sb, List.getElem?_cons_succ, List.getElem?_cons_zero, List.map_cons, List.map_nil, List.replicate, List.cons_append, List.nil_append, List.singleton_append, List.length_singleton, List.length_cons, List.length_nil, Nat.reduceAdd, Nat.reduceLeDiff, if_true, if_false, oW, oP, oB, setT, setMany, wipeL, List.set_cons_zero, List.set_cons_succ, gcB_same, gcE_same, gcX_same, gcX_ok, bmOk, noX_ok, Rs.res, truth, newL, and_self, two_line, e1, e2, e5]
theorem bls_true' {α : Type} : ∀ (l : List α), blsOf (l.map fun _ => PV.bl true) = some (l.map fun _ => true)
  | [] => rfl
  | _ :: l => by
    show (blsOf (l.map fun _ => .bl true)).map (true :: ·) = _
    rw [bls_true' l]
    rfl
theorem all_run' {α : Type} {M : Mh} {l : List α} : biF .all [.ref M.length] (M ++ [.lst (l.map fun _ => .bl true)]) = .ok (.bl true) (M ++ [.lst (l.map fun _ => .bl true)]) := by
  have h : (lstOf (M ++ [.lst (l.map fun _ => PV.bl true)]) (.ref M.length)) = some (l.map fun _ => .bl true) := by
    unfold lstOf
    dsimp only
    rw [last_of]
  show (match (lstOf (M ++ [.lst (l.map fun _ => .bl true)]) (.ref M.length)).bind blsOf with
    | some bs => _
    | none => _) = _
  rw [h, Option.bind_some, bls_true']
  dsimp only
  have : (l.map fun _ => true).all id = true := List.all_eq_true.mpr fun x hx => by
    obtain ⟨y, _, rfl⟩ := List.mem_map.mp hx
    rfl
  rw [this]
theorem zip_eq : ∀ l k : List PV, zipPV l k = (l.zip k).map fun q => .tup [q.1, q.2]
  | [], k => by simp [zipPV]
  | _ :: _, [] => by simp [zipPV]
  | a :: l, b :: k => by rw [zipPV, zip_eq l k]; rfl
/-- two things of items, alike item by item -/
theorem al_seq {M : Mh} {d : Nat} {p q : PV} {l k : List PV} {w : Walk} {n m : Int} (hW : Wf M) (hz : zipOf M p q = some w) (hs : w.same M) (hi : w.items = zipPV l k) (hl : l.length ≤ 1000) (hne : cmpop .ne (.int n) (.int m) M = .ok (.bl false) M) (hp : biF .len [p] M = .ok (.int n) M) (hq : biF .len [q] M = .ok (.int m) M) (b : Bool)
    (t1 : biF .isi [q, .tup [.ty "tuple", .ty "list"]] M = .ok (.bl true) M) (t2 : biF .isi [q, .ty "tuple"] M = .ok (.bl b) M) (t3 : b = true → biF .isi [p, .ty "tuple"] M = .ok (.bl true) M) (t4 : b = false → biF .isi [p, .ty "list"] M = .ok (.bl true) M) (h : ∀ z ∈ l.zip k, Al M d z.1 z.2) : Al M (d + 1) p q := by
  have hlc : ∀ f : PV → Mh → Res (Option PV), (∀ z ∈ l.zip k, f (.tup [z.1, z.2]) M = .ok (some (.bl true)) M) → lcGo f w.same w.items M = .ok ((l.zip k).map fun _ => .bl true) M := fun f hf => by
    rw [hi, zip_eq]
    exact lcGo_of (fun q : PV × PV => PV.tup [q.1, q.2]) (fun _ => .bl true) hs hf
  have hsz : (l.zip k).length ≤ sizeLine := by
    rw [List.length_zip, sizeLine_eq]
    omega
  have hall : gcE M.length (biF .all [.ref M.length] (M ++ [.lst ((l.zip k).map fun _ => .bl true)])) = .ok (.bl true) M := by
    rw [all_run']
    exact gcE_app hW rfl
  unfold Al
  rw [al_unfold]
  unfold runF c__law_alike
  cases b with
  | true =>
    simp only [evSs, evS, evE, evL, evO, evI, evT, bind_ok, Rs.sb, Res.sb, List.getElem?_cons_succ, List.getElem?_cons_zero, List.map_cons, List.map_nil, List.replicate, List.cons_append, List.nil_append, List.singleton_append, List.length_singleton, List.length_cons, List.length_nil, Nat.reduceAdd, Nat.reduceLeDiff, if_true, if_false, oW, oP, oB, setT, setMany, wipeL, List.set_cons_zero, List.set_cons_succ, gcB_same, gcE_same, gcX_same, gcX_ok, bmOk, noX_ok, Rs.res, truth, newL, and_self, two_line, t1, t2, t3 rfl, hp, hq, hne, Bool.not_true, hz]
    rw [hlc _ fun z hz => ?_]
    · simp only [evSs, evS, evE, evL, evO, evI, evT, bind_ok, Rs.sb, Res.sb, List.getElem?_cons_succ, List.getElem?_cons_zero, List.map_cons, List.map_nil, List.replicate, List.cons_append, List.nil_append, List.singleton_append, List.length_singleton, List.length_cons, List.length_nil, Nat.reduceAdd, Nat.reduceLeDiff, if_true, if_false, oW, oP, oB, setT, setMany, wipeL, List.set_cons_zero, List.set_cons_succ, gcB_same, gcE_same, gcX_same, gcX_ok, bmOk, noX_ok, Rs.res, truth, newL, and_self, List.length_map, hsz, hall]
    · have e := h z hz
      unfold Al at e
      simp only [evSs, evS, evE, evL, evO, evI, evT, bind_ok, Rs.sb, Res.sb, List.getElem?_cons_succ, List.getElem?_cons_zero, List.map_cons, List.map_nil, List.replicate, List.cons_append, List.nil_append, List.singleton_append, List.length_singleton, List.length_cons, List.length_nil, Nat.reduceAdd, Nat.reduceLeDiff, if_true, if_false, oW, oP, oB, setT, setMany, wipeL, List.set_cons_zero, List.set_cons_succ, gcB_same, gcE_same, gcX_same, gcX_ok, bmOk, noX_ok, Rs.res, truth, newL, and_self, at__law_alike__law_alike, e]
  | false =>
    simp only [evSs, evS, evE, evL, evO, evI, evT, bind_ok, Rs.sb, Res.sb, List.getElem?_cons_succ, List.getElem?_cons_zero, List.map_cons, List.map_nil, List.replicate, List.cons_append, List.nil_append, List.singleton_append, List.length_singleton, List.length_cons, List.length_nil, Nat.reduceAdd, Nat.reduceLeDiff, if_true, if_false, oW, oP, oB, setT, setMany, wipeL, List.set_cons_zero, List.set_cons_succ, gcB_same, gcE_same, gcX_same, gcX_ok, bmOk, noX_ok, Rs.res, truth, newL, and_self, two_line, t1, t2, t4 rfl, hp, hq, hne, Bool.not_true, hz]
    rw [hlc _ fun z hz => ?_]
    · simp only [evSs, evS, evE, evL, evO, evI, evT, bind_ok, Rs.sb, Res.sb, List.getElem?_cons_succ, List.getElem?_cons_zero, List.map_cons, List.map_nil, List.replicate, List.cons_append, List.nil_append, List.singleton_append, List.length_singleton, List.length_cons, List.length_nil, Nat.reduceAdd, Nat.reduceLeDiff, if_true, if_false, oW, oP, oB, setT, setMany, wipeL, List.set_cons_zero, List.set_cons_succ, gcB_same, gcE_same, gcX_same, gcX_ok, bmOk, noX_ok, Rs.res, truth, newL, and_self, List.length_map, hsz, hall]
    · have e := h z hz
      unfold Al at e
      simp only [evSs, evS, evE, evL, evO, evI, evT, bind_ok, Rs.sb, Res.sb, List.getElem?_cons_succ, List.getElem?_cons_zero, List.map_cons, List.map_nil, List.replicate, List.cons_append, List.nil_append, List.singleton_append, List.length_singleton, List.length_cons, List.length_nil, Nat.reduceAdd, Nat.reduceLeDiff, if_true, if_false, oW, oP, oB, setT, setMany, wipeL, List.set_cons_zero, List.set_cons_succ, gcB_same, gcE_same, gcX_same, gcX_ok, bmOk, noX_ok, Rs.res, truth, newL, and_self, at__law_alike__law_alike, e]
theorem ne_same {M : Mh} {n : Int} : cmpop .ne (.int n) (.int n) M = .ok (.bl false) M := by
  show oB ((eqPV M (.int n) (.int n)).map (!·)) M = _
  rw [Pi.eq_int]
  simp [oB]
theorem al_tup {M : Mh} {d : Nat} {l k : List PV} (hW : Wf M) (hlk : l.length = k.length) (hl : l.length ≤ 1000) (h : ∀ z ∈ l.zip k, Al M d z.1 z.2) : Al M (d + 1) (.tup l) (.tup k) :=
  al_seq (w := ⟨zipPV l k, none, none⟩) (n := l.length) (m := k.length) hW rfl ⟨trivial, trivial⟩ rfl hl (by rw [hlk]; exact ne_same) rfl rfl true (isi_two (a := "tuple") rfl (by decide +kernel)) (isi_val (a := "tuple") rfl (by decide +kernel)) (fun _ => isi_val (a := "tuple") rfl (by decide +kernel)) (fun e => by cases e) h
theorem al_lst {M : Mh} {d m n : Nat} {l k : List PV} (hm : M[m]? = some (.lst l)) (hn : M[n]? = some (.lst k)) (hW : Wf M) (hlk : l.length = k.length) (hl : l.length ≤ 1000) (h : ∀ z ∈ l.zip k, Al M d z.1 z.2) : Al M (d + 1) (.ref m) (.ref n) := by
  have hz : zipOf M (.ref m) (.ref n) = some ⟨zipPV l k, some (m, .lst l), some (n, .lst k)⟩ := by
    unfold zipOf
    dsimp only
    rw [hm, hn]
  exact al_seq (n := l.length) (m := k.length) hW hz ⟨hm, hn⟩ rfl hl (by rw [hlk]; exact ne_same) (len_lst hm) (len_lst hn) false (isi_two (ty_ref hn) (by decide +kernel)) (isi_val (ty_ref hn) (by decide +kernel)) (fun e => by cases e) (fun _ => isi_val (ty_ref hm) (by decide +kernel)) h
theorem al_same {α : Type} {M : Mh} {d : Nat} {l : List α} {g : α → PV} (h : ∀ x ∈ l, Al M d (g x) (g x)) : ∀ z ∈ (l.map g).zip (l.map g), Al M d z.1 z.2 := by
  induction l with
  | nil => intro z hz; cases hz
  | cons a l ih =>
    intro z hz
    rw [List.map_cons, List.zip_cons_cons] at hz
    rcases List.mem_cons.mp hz with rfl | hz
    · exact h a List.mem_cons_self
    · exact ih (fun x hx => h x (List.mem_cons_of_mem _ hx)) z hz
theorem al_map {α : Type} {M : Mh} {d : Nat} {l : List α} {g : α → PV} (hW : Wf M) (hl : l.length ≤ 1000) (h : ∀ x ∈ l, Al M d (g x) (g x)) : Al M (d + 1) (.tup (l.map g)) (.tup (l.map g)) := al_tup hW rfl (by simpa using hl) (al_same h)
theorem al_nats {M : Mh} {d : Nat} {l : List Nat} (hW : Wf M) (h : lstOk l) : Al M (d + 2) (.tup (l.map nat)) (.tup (l.map nat)) := al_map hW (by have := h.2.1; omega) fun x _ => al_int
theorem al_let {M : Mh} {d : Nat} {q : Nat × Nat} (hW : Wf M) : Al M (d + 2) (letP q) (letP q) := al_map (l := [q.1, q.2]) (g := nat) hW (by simp) fun x _ => al_int
theorem al_way {M : Mh} {d : Nat} {q : Nat × List (Nat × Nat)} (hW : Wf M) (h : wayOk q) : Al M (d + 4) (wayP q) (wayP q) := by
  refine al_tup hW rfl (by simp) fun z hz => ?_
  simp only [List.zip_cons_cons, List.zip_nil_left, List.mem_cons, List.mem_nil_iff, or_false] at hz
  rcases hz with rfl | rfl
  · exact al_int
  · exact al_map hW (by have := h.2.2.1; omega) fun x _ => al_let hW
theorem al_deed {M : Mh} {d : Dd} {r r' : Nat} (hW : Wf M) (hr : d.at_ M r) (hr' : d.at_ M r') (h : d.ok) : Al M 7 (d.pv r) (d.pv r') := by
  have st : ∀ (x : Str), PyData.strOk x = true → Al M 6 (.str x) (.str x) := fun x hx => al_str hx
  cases d with
  | one w n =>
    have hw : PyData.strOk w = true := by rcases h.1 with rfl | rfl <;> decide +kernel
    refine al_tup hW rfl (by simp) fun z hz => ?_
    simp only [List.zip_cons_cons, List.zip_nil_left, List.mem_cons, List.mem_nil_iff, or_false] at hz
    rcases hz with rfl | rfl
    · exact st _ hw
    · exact al_int
  | two w a b =>
    have hw : PyData.strOk w = true := by rcases h.1 with rfl | rfl <;> decide +kernel
    refine al_tup hW rfl (by simp) fun z hz => ?_
    simp only [List.zip_cons_cons, List.zip_nil_left, List.mem_cons, List.mem_nil_iff, or_false] at hz
    rcases hz with rfl | rfl | rfl
    · exact st _ hw
    · exact al_int
    · exact al_int
  | hear n c =>
    have hw : PyData.strOk c = true := by rcases h.2 with rfl | rfl | rfl <;> decide +kernel
    refine al_tup hW rfl (by simp) fun z hz => ?_
    simp only [List.zip_cons_cons, List.zip_nil_left, List.mem_cons, List.mem_nil_iff, or_false] at hz
    rcases hz with rfl | rfl | rfl
    · exact st _ (by decide +kernel)
    · exact al_int
    · exact st _ hw
  | come x y =>
    refine al_tup hW rfl (by simp) fun z hz => ?_
    simp only [List.zip_cons_cons, List.zip_nil_left, List.mem_cons, List.mem_nil_iff, or_false] at hz
    rcases hz with rfl | rfl | rfl
    · exact st _ (by decide +kernel)
    · exact al_int
    · exact al_int
  | throw l =>
    refine al_tup hW rfl (by simp) fun z hz => ?_
    simp only [List.zip_cons_cons, List.zip_nil_left, List.mem_cons, List.mem_nil_iff, or_false] at hz
    rcases hz with rfl | rfl
    · exact st _ (by decide +kernel)
    · exact al_nats hW h
  | fall ms ln ws =>
    obtain ⟨h1, h2, h3, h4⟩ := h
    refine al_tup hW rfl (by simp) fun z hz => ?_
    simp only [List.zip_cons_cons, List.zip_nil_left, List.mem_cons, List.mem_nil_iff, or_false] at hz
    rcases hz with rfl | rfl | rfl | rfl
    · exact st _ (by decide +kernel)
    · exact al_nats hW h1
    · exact al_nats hW h2
    · exact al_lst hr hr' hW rfl (by rw [List.length_map]; omega) (al_same fun q hq => al_way hW (h4 q hq))
end LawK80
end
section
open PySem PySem.Spec PyProof.Rows L2 Pi
namespace LawK80
abbrev FDd (c t : Int) : List (PV × PV) := [(.str "cells", .ref 1), (.str "cell", .int c), (.str "drawn", .int t)]
/-- the feed's lists and its dict -/
def FD (cs : List Int) (c t : Int) : Mh := [.lst (cs.map .int), .lst (cs.map .int), .dct (FDd c t)]
section
variable {cs : List Int} {c t : Int} {E : Mh}
theorem fd_get : (FD cs c t ++ E)[2]? = some (.dct (FDd c t)) := rfl
theorem fd_set {o : MO} : (FD cs c t ++ E).set 2 o = [.lst (cs.map .int), .lst (cs.map .int), o] ++ E := rfl
theorem ix_drawn : ixop (FD cs c t ++ E) (.ref 2) (.str "drawn") = .ok (.int t) (FD cs c t ++ E) := by kernel_rfl
theorem ix_cell : ixop (FD cs c t ++ E) (.ref 2) (.str "cell") = .ok (.int c) (FD cs c t ++ E) := by kernel_rfl
theorem ix_cells : ixop (FD cs c t ++ E) (.ref 2) (.str "cells") = .ok (.ref 1) (FD cs c t ++ E) := by kernel_rfl
theorem set_drawn {x : Int} : setIx (FD cs c t ++ E) (.ref 2) (.str "drawn") (.int x) = some (FD cs c x ++ E) := by kernel_rfl
theorem set_cell {x : Int} : setIx (FD cs c t ++ E) (.ref 2) (.str "cell") (.int x) = some (FD cs x t ++ E) := by kernel_rfl
theorem mul_int {i j : Int} {M : Mh} (h : (-(2 ^ 64) < i ∧ i < 2 ^ 64) ∨ (-(2 ^ 64) < j ∧ j < 2 ^ 64)) : binop .mul (.int i) (.int j) M = .ok (.int (i * j)) M := by
  unfold binop
  dsimp only
  rw [if_pos h]
theorem mod_int {i j : Int} {M : Mh} (h : 0 < j) : binop .mod (.int i) (.int j) M = .ok (.int (i % j)) M := by
  unfold binop
  dsimp only
  rw [if_pos h]
theorem fdiv_int {i j : Int} {M : Mh} (h : 0 < j ∧ j < 1073741824) : binop .fdiv (.int i) (.int j) M = .ok (.int (i / j)) M := by
  unfold binop
  dsimp only
  rw [if_pos h]
theorem pow_10 {M : Mh} {k : Nat} (h : k ≤ 30) : binop .pow (.int 10) (.int (k : Int)) M = .ok (.int (10 ^ k)) M := by
  unfold binop
  dsimp only
  rw [if_pos ⟨by omega, by omega, by decide⟩, Int.toNat_natCast]
/-- a draw -/
theorem draw_run {n : Int} (hn : 0 < n) (hn2 : n < 1000) (ht : 0 ≤ t) (ht2 : t < 1000000) : ∃ v c', m__law_draw [.ref 2, .int n] (FD cs c t ++ E) = .ok (.int v) (FD cs c' (t + 1) ++ E) ∧ 0 ≤ v ∧ v < n := by
  have p18 : ∀ M, binop .pow (.int 10) (.int 18) M = .ok (.int (10 ^ 18)) M := fun M => pow_10 (k := 18) (by decide)
  have hx : ((evS 0 F_17 (.sets (.var 0) (.lit (.str "drawn")) (.bin .add (.ix (.var 0) (.lit (.str "drawn"))) (.lit (.int (1))))) [some (.ref 2), some (.int n), none, none, none] (FD cs c t ++ E))) = .nx [some (.ref 2), some (.int n), none, none, none] (FD cs c (t + 1) ++ E) := by
    simp only [evSs, evS, evE, evL, evO, evI, evT, bind_ok, Rs.sb, Res.sb, List.getElem?_cons_succ, List.getElem?_cons_zero, List.map_cons, List.map_nil, List.replicate, List.cons_append, List.nil_append, List.singleton_append, List.length_singleton, List.length_cons, List.length_nil, Nat.reduceAdd, Nat.reduceLeDiff, if_true, if_false, oW, oP, oB, setT, setMany, wipeL, List.set_cons_zero, List.set_cons_succ, gcB_same, gcE_same, gcX_same, gcX_ok, bmOk, noX_ok, Rs.res, truth, newL, and_self, ix_drawn, add_int, set_drawn]
  have hy : evS 0 F_17 (.asg 2 (.ix (.var 0) (.lit (.str "cell")))) [some (.ref 2), some (.int n), none, none, none] (FD cs c (t + 1) ++ E) = .nx [some (.ref 2), some (.int n), some (.int c), none, none] (FD cs c (t + 1) ++ E) := by
    simp only [evSs, evS, evE, evL, evO, evI, evT, bind_ok, Rs.sb, Res.sb, List.getElem?_cons_succ, List.getElem?_cons_zero, List.map_cons, List.map_nil, List.replicate, List.cons_append, List.nil_append, List.singleton_append, List.length_singleton, List.length_cons, List.length_nil, Nat.reduceAdd, Nat.reduceLeDiff, if_true, if_false, oW, oP, oB, setT, setMany, wipeL, List.set_cons_zero, List.set_cons_succ, gcB_same, gcE_same, gcX_same, gcX_ok, bmOk, noX_ok, Rs.res, truth, newL, and_self, ix_cell]
  by_cases hc : (10 : Int) ^ 18 ≤ c
  · have hd : decide ((10 : Int) ^ 18 ≤ c) = true := decide_eq_true hc
    refine ⟨c % n, c / n, ?_, Int.emod_nonneg _ (by omega), Int.emod_lt_of_pos _ hn⟩
    have key : evSs 0 F_17 c__law_draw [some (.ref 2), some (.int n), none, none, none] (FD cs c t ++ E) = .rt (.int (c % n)) (FD cs (c / n) (t + 1) ++ E) := by
      unfold c__law_draw
      refine (seq_nx hx).trans ?_
      refine (seq_nx hy).trans ?_
      simp only [evSs, evS, evE, evL, evO, evI, evT, bind_ok, Rs.sb, Res.sb, List.getElem?_cons_succ, List.getElem?_cons_zero, List.map_cons, List.map_nil, List.replicate, List.cons_append, List.nil_append, List.singleton_append, List.length_singleton, List.length_cons, List.length_nil, Nat.reduceAdd, Nat.reduceLeDiff, if_true, if_false, oW, oP, oB, setT, setMany, wipeL, List.set_cons_zero, List.set_cons_succ, gcB_same, gcE_same, gcX_same, gcX_ok, bmOk, noX_ok, Rs.res, truth, newL, and_self, p18, cmp_ge, hd, fdiv_int (i := c) ⟨hn, show n < 1073741824 by omega⟩, set_cell, mod_int (i := c) hn]
    unfold m__law_draw runF
    rw [if_pos (show ([PV.ref 2, PV.int n] : List PV).length = 2 from rfl)]
    simp only [List.map_cons, List.map_nil, List.replicate, List.cons_append, List.nil_append]
    rw [key]
    exact gcE_le (by simp [FD])
  · have hd : decide ((10 : Int) ^ 18 ≤ c) = false := decide_eq_false hc
    have hm0 : 0 ≤ c % 2147483629 := Int.emod_nonneg _ (by decide)
    have hm1 : c % 2147483629 < 2147483629 := Int.emod_lt_of_pos _ (by decide)
    refine ⟨(((c % 2147483629 + 1) * (31 * (t + 1) * (t + 1) + 7919) % 2147483647 + (t + 1)) * 48271 % 2147483629) % n, c, ?_, Int.emod_nonneg _ (by omega), Int.emod_lt_of_pos _ hn⟩
    have key : evSs 0 F_17 c__law_draw [some (.ref 2), some (.int n), none, none, none] (FD cs c t ++ E) = .rt (.int ((((c % 2147483629 + 1) * (31 * (t + 1) * (t + 1) + 7919) % 2147483647 + (t + 1)) * 48271 % 2147483629) % n)) (FD cs c (t + 1) ++ E) := by
      unfold c__law_draw
      refine (seq_nx hx).trans ?_
      refine (seq_nx hy).trans ?_
      simp only [evSs, evS, evE, evL, evO, evI, evT, bind_ok, Rs.sb, Res.sb, List.getElem?_cons_succ, List.getElem?_cons_zero, List.map_cons, List.map_nil, List.replicate, List.cons_append, List.nil_append, List.singleton_append, List.length_singleton, List.length_cons, List.length_nil, Nat.reduceAdd, Nat.reduceLeDiff, if_true, if_false, oW, oP, oB, setT, setMany, wipeL, List.set_cons_zero, List.set_cons_succ, gcB_same, gcE_same, gcX_same, gcX_ok, bmOk, noX_ok, Rs.res, truth, newL, and_self, p18, cmp_ge, hd, ix_drawn, add_int, mod_int (i := c) (j := 2147483629) (by decide), mul_int (i := 31) (j := t + 1) (.inl (by decide)), mul_int (i := 31 * (t + 1)) (j := t + 1) (.inr (by omega)), mul_int (i := c % 2147483629 + 1) (.inl (by omega)), mod_int (j := 2147483647) (by decide), mul_int (j := 48271) (.inr (by decide)), mod_int (j := 2147483629) (by decide), mod_int (j := n) hn]
    unfold m__law_draw runF
    rw [if_pos (show ([PV.ref 2, PV.int n] : List PV).length = 2 from rfl)]
    simp only [List.map_cons, List.map_nil, List.replicate, List.cons_append, List.nil_append]
    rw [key]
    exact gcE_le (by simp [FD])
end
end LawK80
end
section
open PySem PySem.Spec PyProof.Rows L2 Pi
namespace LawK80
/-- what lies behind the feed refers to nothing beyond -/
def EO (E : Mh) : Prop := ∀ o ∈ E, o.low (E.length + 3) = true
theorem EO.nil : EO [] := fun _ h => by cases h
section
variable {cs : List Int} {c t c' t' : Int} {E : Mh}
theorem fd_len : (FD cs c t ++ E).length = E.length + 3 := by simp [FD]
theorem ints_low {n : Nat} : lows n (cs.map PV.int) = true := lows_mem fun p hp => by
  obtain ⟨i, _, rfl⟩ := List.mem_map.mp hp
  rfl
theorem wf_fd (h : EO E) : Wf (FD cs c t ++ E) := by
  intro o ho
  rw [fd_len]
  rcases List.mem_append.mp ho with ho | ho
  · unfold FD at ho
    simp only [List.mem_cons, List.mem_nil_iff, or_false] at ho
    rcases ho with rfl | rfl | rfl
    · exact ints_low
    · exact ints_low
    · simp [MO.low, lows, PV.low]
  · exact h o ho
theorem gcX_fd {p : PV} {T : Mh} (h : EO E) (hp : p.low (E.length + 3) = true) : gcX (FD cs c t ++ E).length (.ok p (FD cs c' t' ++ (E ++ T))) = .ok p (FD cs c' t' ++ E) := by
  have e : (FD cs c t ++ E).length = (FD cs c' t' ++ E).length := by rw [fd_len, fd_len]
  rw [e, ← List.append_assoc]
  exact gcX_app (wf_fd h) (by rw [fd_len]; exact hp)
theorem gcX_fd0 {p : PV} : gcX (FD cs c t ++ E).length (.ok p (FD cs c' t' ++ E)) = .ok p (FD cs c' t' ++ E) := gcE_le (by rw [fd_len, fd_len]; exact Nat.le_refl _)
theorem EO.push {o : MO} (h : EO E) (ho : o.low (E.length + 4) = true) : EO (E ++ [o]) := by
  intro x hx
  rw [List.length_append, List.length_singleton]
  rcases List.mem_append.mp hx with y | y
  · exact MO.low_mono (by omega) (h x y)
  · have : x = o := by simpa using y
    rw [this]
    exact MO.low_mono (by omega) ho
theorem fd_last {o : MO} : (FD cs c t ++ (E ++ [o]))[(FD cs c t ++ E).length]? = some o := by
  rw [← List.append_assoc]
  exact last_of
theorem four_line : (4 : Nat) ≤ sizeLine := by rw [sizeLine_eq]; decide
theorem at_pick {a b d : PV} {v : Int} (h0 : 0 ≤ v) (h4 : v < 4) : ∃ k : Int, atI [PV.int 0, .int 0, .int 1, .int 2] v = some (.int k) ∧ (k = 0 ∨ k = 1 ∨ k = 2) := by
  have : v = 0 ∨ v = 1 ∨ v = 2 ∨ v = 3 := by omega
  rcases this with rfl | rfl | rfl | rfl
  · exact ⟨0, at0, .inl rfl⟩
  · exact ⟨0, at1, .inl rfl⟩
  · exact ⟨1, at2, .inr (.inl rfl)⟩
  · exact ⟨2, at3, .inr (.inr rfl)⟩
/-- a number -/
theorem number_run (h : EO E) (ht : 0 ≤ t) (ht2 : t < 999990) : ∃ (n : Nat) (c' t' : Int), m__law_number [.ref 2] (FD cs c t ++ E) = .ok (nat n) (FD cs c' t' ++ E) ∧ n < 10 ^ 9 ∧ t ≤ t' ∧ t' ≤ t + 4 := by
  obtain ⟨v1, c1, e1, a1, b1⟩ := draw_run (cs := cs) (c := c) (t := t) (E := E) (n := 4) (by decide) (by decide) ht (by omega)
  obtain ⟨v2, c2, e2, a2, b2⟩ := draw_run (cs := cs) (c := c1) (t := t + 1) (E := E) (n := 120) (by decide) (by decide) (by omega) (by omega)
  obtain ⟨v3, c3, e3, a3, b3⟩ := draw_run (cs := cs) (c := c2) (t := t + 1 + 1) (E := E) (n := 3) (by decide) (by decide) (by omega) (by omega)
  generalize hT : ([.lst [.int v1, .int v2, .int (10 ^ 9 - 1 - v3)]] : Mh) = T
  generalize hT2 : ([.lst [.int 0, .int 0, .int 1, .int 2]] : Mh) = T2
  obtain ⟨v4, c4, e4, a4, b4⟩ := draw_run (cs := cs) (c := c3) (t := t + 1 + 1 + 1) (E := E ++ (T ++ T2)) (n := 4) (by decide) (by decide) (by omega) (by omega)
  obtain ⟨k, hk1, hk2⟩ := at_pick (a := .non) (b := .non) (d := .non) a4 b4
  have hk3 : ∃ w : Int, atI [PV.int v1, .int v2, .int (10 ^ 9 - 1 - v3)] k = some (.int w) ∧ 0 ≤ w ∧ w < 10 ^ 9 := by
    rcases hk2 with rfl | rfl | rfl
    · exact ⟨v1, at0, a1, by omega⟩
    · exact ⟨v2, at1, a2, by omega⟩
    · exact ⟨_, at2, by omega, by omega⟩
  obtain ⟨w, hw1, hw2, hw3⟩ := hk3
  have p9 : ∀ M, binop .pow (.int 10) (.int 9) M = .ok (.int (10 ^ 9)) M := fun M => pow_10 (k := 9) (by decide)
  have g1 : (FD cs c4 (t + 1 + 1 + 1 + 1) ++ (E ++ (T ++ T2)))[(FD cs c3 (t + 1 + 1 + 1) ++ E).length]? = some (.lst [.int v1, .int v2, .int (10 ^ 9 - 1 - v3)]) := by
    have e : (FD cs c3 (t + 1 + 1 + 1) ++ E).length = (FD cs c4 (t + 1 + 1 + 1 + 1) ++ E).length := by rw [fd_len, fd_len]
    rw [e, ← hT, ← List.append_assoc E, ← List.append_assoc]
    exact get_app fd_last
  have g2 : (FD cs c4 (t + 1 + 1 + 1 + 1) ++ (E ++ (T ++ T2)))[(FD cs c3 (t + 1 + 1 + 1) ++ (E ++ T)).length]? = some (.lst [.int 0, .int 0, .int 1, .int 2]) := by
    have e : (FD cs c3 (t + 1 + 1 + 1) ++ (E ++ T)).length = (FD cs c4 (t + 1 + 1 + 1 + 1) ++ (E ++ T)).length := by rw [fd_len, fd_len]
    rw [e, ← hT2, ← List.append_assoc E]
    exact fd_last
  have i2 : ixop (FD cs c4 (t + 1 + 1 + 1 + 1) ++ (E ++ (T ++ T2))) (.ref (FD cs c3 (t + 1 + 1 + 1) ++ (E ++ T)).length) (.int v4) = .ok (.int k) (FD cs c4 (t + 1 + 1 + 1 + 1) ++ (E ++ (T ++ T2))) := ix_lst g2 hk1
  have i1 : ixop (FD cs c4 (t + 1 + 1 + 1 + 1) ++ (E ++ (T ++ T2))) (.ref (FD cs c3 (t + 1 + 1 + 1) ++ E).length) (.int k) = .ok (.int w) (FD cs c4 (t + 1 + 1 + 1 + 1) ++ (E ++ (T ++ T2))) := ix_lst g1 hw1
  refine ⟨w.toNat, c4, t + 1 + 1 + 1 + 1, ?_, by omega, by omega, by omega⟩
  have hnat : nat w.toNat = .int w := by
    show PV.int (w.toNat : Int) = .int w
    rw [Int.toNat_of_nonneg hw2]
  rw [hnat]
  have key : evSs 0 F_21 c__law_number [some (.ref 2), none] (FD cs c t ++ E) = .rt (.int w) (FD cs c4 (t + 1 + 1 + 1 + 1) ++ (E ++ (T ++ T2))) := by
    unfold c__law_number
    refine (seq_nx (r' := [some (.ref 2), some (.ref (FD cs c3 (t + 1 + 1 + 1) ++ E).length)]) (M' := FD cs c3 (t + 1 + 1 + 1) ++ (E ++ T)) ?_).trans ?_
    · simp only [evSs, evS, evE, evL, evO, evI, evT, bind_ok, Rs.sb, Res.sb, List.getElem?_cons_succ, List.getElem?_cons_zero, List.map_cons, List.map_nil, List.replicate, List.cons_append, List.nil_append, List.singleton_append, List.length_singleton, List.length_cons, List.length_nil, Nat.reduceAdd, Nat.reduceLeDiff, if_true, if_false, oW, oP, oB, setT, setMany, wipeL, List.set_cons_zero, List.set_cons_succ, gcB_same, gcE_same, gcX_same, gcX_ok, bmOk, noX_ok, Rs.res, truth, newL, and_self, at__law_number__law_draw, e1, e2, e3, p9, sub_int, three_line, List.append_assoc]
      rw [← hT]
    · simp only [evSs, evS, evE, evL, evO, evI, evT, bind_ok, Rs.sb, Res.sb, List.getElem?_cons_succ, List.getElem?_cons_zero, List.map_cons, List.map_nil, List.replicate, List.cons_append, List.nil_append, List.singleton_append, List.length_singleton, List.length_cons, List.length_nil, Nat.reduceAdd, Nat.reduceLeDiff, if_true, if_false, oW, oP, oB, setT, setMany, wipeL, List.set_cons_zero, List.set_cons_succ, gcB_same, gcE_same, gcX_same, gcX_ok, bmOk, noX_ok, Rs.res, truth, newL, and_self, at__law_number__law_draw, four_line, List.append_assoc]
      rw [hT2]
      simp only [evSs, evS, evE, evL, evO, evI, evT, bind_ok, Rs.sb, Res.sb, List.getElem?_cons_succ, List.getElem?_cons_zero, List.map_cons, List.map_nil, List.replicate, List.cons_append, List.nil_append, List.singleton_append, List.length_singleton, List.length_cons, List.length_nil, Nat.reduceAdd, Nat.reduceLeDiff, if_true, if_false, oW, oP, oB, setT, setMany, wipeL, List.set_cons_zero, List.set_cons_succ, gcB_same, gcE_same, gcX_same, gcX_ok, bmOk, noX_ok, Rs.res, truth, newL, and_self, e4, i2, i1]
  unfold m__law_number runF
  rw [if_pos (show ([PV.ref 2] : List PV).length = 1 from rfl)]
  simp only [List.map_cons, List.map_nil, List.replicate, List.cons_append, List.nil_append]
  rw [key]
  exact gcX_fd h rfl
end
end LawK80
end
section
open PySem PySem.Spec PyProof.Rows L2 Pi
namespace LawK80
section
variable {cs : List Int} {c t : Int} {E : Mh}
/-- a comprehension that draws -/
theorem lcGo_ex {f : PV → Mh → Res (Option PV)} {w : Mh → Prop} {P : PV → Prop} {K : Int} (hw : ∀ M, w M) (hK : 0 ≤ K) (top : Int) (hf : ∀ (x : PV) (c t : Int), 0 ≤ t → t < top → ∃ (y : PV) (c' t' : Int), f x (FD cs c t ++ E) = .ok (some y) (FD cs c' t' ++ E) ∧ P y ∧ t ≤ t' ∧ t' ≤ t + K) :
    ∀ (items : List PV) (c t : Int), 0 ≤ t → t + K * items.length < top → ∃ (ys : List PV) (c' t' : Int), lcGo f w items (FD cs c t ++ E) = .ok ys (FD cs c' t' ++ E) ∧ ys.length = items.length ∧ (∀ y ∈ ys, P y) ∧ t ≤ t' ∧ t' ≤ t + K * items.length
  | [], c, t, h0, h1 => ⟨[], c, t, by rw [lcGo]; exact if_pos (hw _), rfl, (fun y h => by cases h), Int.le_refl _, by simp⟩
  | x :: items, c, t, h0, h1 => by
    have hm : K * ((x :: items).length : Int) = K * (items.length : Int) + K := by
      rw [List.length_cons]
      push_cast
      rw [Int.mul_add, Int.mul_one]
    have hnn : 0 ≤ K * (items.length : Int) := Int.mul_nonneg hK (Int.natCast_nonneg _)
    rw [hm] at h1
    obtain ⟨y, c1, t1, e1, p1, l1, u1⟩ := hf x c t h0 (by omega)
    obtain ⟨ys, c2, t2, e2, n2, p2, l2, u2⟩ := lcGo_ex hw hK top hf items c1 t1 (by omega) (by omega)
    refine ⟨y :: ys, c2, t2, ?_, by rw [List.length_cons, List.length_cons, n2], fun z hz => ?_, by omega, by rw [hm]; omega⟩
    · rw [lcGo]
      rw [if_pos (hw _), e1, bind_ok, e2, bind_ok]
    · rcases List.mem_cons.mp hz with rfl | hz
      · exact p1
      · exact p2 z hz
theorem nats_of : ∀ {ys : List PV}, (∀ y ∈ ys, ∃ n : Nat, y = nat n ∧ n < 10 ^ 9) → ∃ l : List Nat, ys = l.map nat ∧ ∀ n ∈ l, n < 10 ^ 9
  | [], _ => ⟨[], rfl, fun n h => by cases h⟩
  | y :: ys, h => by
    obtain ⟨n, e, hn⟩ := h y List.mem_cons_self
    obtain ⟨l, e2, hl⟩ := nats_of fun z hz => h z (List.mem_cons_of_mem _ hz)
    refine ⟨n :: l, by rw [e, e2]; rfl, fun m hm => ?_⟩
    rcases List.mem_cons.mp hm with rfl | hm
    · exact hn
    · exact hl m hm
theorem tuple_fd {l : List PV} : biF .tuple [.ref (FD cs c t ++ E).length] (FD cs c t ++ (E ++ [.lst l])) = .ok (.tup l) (FD cs c t ++ (E ++ [.lst l])) := tuple_lst fd_last
/-- a range of draws -/
theorem rng_e {F : Fs} {b : CE} {r : Lv} {j : Int} {M M' : Mh} (e : evE F b r M = .ok (.int j) M') (h0 : 0 ≤ j) (h1 : j < 1000) : evI F (.rng .none b) r M = .ok ⟨rngL 0 j, none, none⟩ M' := by
  rw [evI, e, bind_ok]
  exact if_pos ⟨by omega, by omega⟩
theorem rng_len {j : Int} (h0 : 0 ≤ j) : ((rngL 0 j).length : Int) = j := by
  unfold rngL
  simp
  omega
/-- one to four numbers -/
theorem nums_e {F : Fs} (h21 : F.at_ 21 = m__law_number) (h17 : F.at_ 17 = m__law_draw) {r : Lv} {i : Nat} (hr : r[0]? = some (some (.ref 2))) (hi : i ≠ 0) (h : EO E) (ht : 0 ≤ t) (ht2 : t < 900000) : ∃ (l : List Nat) (c' t' : Int),
    evE F (.bi .tuple (.cons (.lc [i] (.call 21 (.cons (.var 0) .nil)) (.one i) (.rng .none (.bin .add (.lit (.int (1))) (.call 17 (.cons (.var 0) (.cons (.lit (.int (4))) .nil))))) (.val (.lit (.bl true)))) .nil)) r (FD cs c t ++ E) = .ok (.tup (l.map nat)) (FD cs c' t' ++ E) ∧ lstOk l ∧ t ≤ t' ∧ t' ≤ t + 20 := by
  obtain ⟨v, c1, e1, a1, b1⟩ := draw_run (cs := cs) (c := c) (t := t) (E := E) (n := 4) (by decide) (by decide) ht (by omega)
  have eb : evE F (.bin .add (.lit (.int (1))) (.call 17 (.cons (.var 0) (.cons (.lit (.int (4))) .nil)))) r (FD cs c t ++ E) = .ok (.int (1 + v)) (FD cs c1 (t + 1) ++ E) := by
    simp only [evSs, evS, evE, evL, evO, evI, evT, bind_ok, Rs.sb, Res.sb, List.getElem?_cons_succ, List.getElem?_cons_zero, List.map_cons, List.map_nil, List.replicate, List.cons_append, List.nil_append, List.singleton_append, List.length_singleton, List.length_cons, List.length_nil, Nat.reduceAdd, Nat.reduceLeDiff, if_true, if_false, oW, oP, oB, setT, setMany, wipeL, List.set_cons_zero, List.set_cons_succ, gcB_same, gcE_same, gcX_same, gcX_ok, bmOk, noX_ok, Rs.res, truth, newL, and_self, hr, h17, e1, add_int]
  have eI := rng_e eb (by omega) (by omega)
  have hlen := rng_len (j := 1 + v) (by omega)
  obtain ⟨ys, c2, t2, e2, n2, p2, l2, u2⟩ := lcGo_ex (cs := cs) (E := E) (K := 4) (P := fun y => ∃ n : Nat, y = nat n ∧ n < 10 ^ 9) (w := Walk.same ⟨rngL 0 (1 + v), none, none⟩) (f := fun x M2 => (m__law_number [.ref 2] M2).bind fun y M4 => .ok (some y) M4) (fun _ => ⟨trivial, trivial⟩) (by decide) 999990 (fun x c t h0 h1 => by
    obtain ⟨n, c', t', e, hn, l, u⟩ := number_run (cs := cs) (c := c) (t := t) (E := E) h h0 h1
    exact ⟨nat n, c', t', by rw [e, bind_ok], ⟨n, rfl, hn⟩, l, u⟩) (rngL 0 (1 + v)) c1 (t + 1) (by omega) (by omega)
  obtain ⟨l, rfl, hl⟩ := nats_of p2
  have hll : l.length = (rngL 0 (1 + v)).length := by rw [← n2, List.length_map]
  have hsz : (l.map nat).length ≤ sizeLine := by rw [sizeLine_eq, List.length_map]; omega
  refine ⟨l, c2, t2, ?_, ⟨fun e => by rw [e] at hll; simp at hll; omega, by omega, hl⟩, by omega, by omega⟩
  have hcong : ∀ f : PV → Mh → Res (Option PV), (∀ x M2, f x M2 = (m__law_number [.ref 2] M2).bind fun y M4 => .ok (some y) M4) → lcGo f (Walk.same ⟨rngL 0 (1 + v), none, none⟩) (rngL 0 (1 + v)) (FD cs c1 (t + 1) ++ E) = .ok (l.map nat) (FD cs c2 t2 ++ E) := fun f hf => by
    have e : f = fun x M2 => (m__law_number [.ref 2] M2).bind fun y M4 => .ok (some y) M4 := funext fun x => funext fun M2 => hf x M2
    rw [e]
    exact e2
  have elc : evE F (.lc [i] (.call 21 (.cons (.var 0) .nil)) (.one i) (.rng .none (.bin .add (.lit (.int (1))) (.call 17 (.cons (.var 0) (.cons (.lit (.int (4))) .nil))))) (.val (.lit (.bl true)))) r (FD cs c t ++ E) = .ok (.ref (FD cs c2 t2 ++ E).length) (FD cs c2 t2 ++ (E ++ [.lst (l.map nat)])) := by
    rw [evE, eI, bind_ok]
    simp only
    rw [hcong _ fun x M2 => ?_]
    · rw [noX_ok, bind_ok, if_pos hsz, newL, List.append_assoc]
    · have hg : (((r.set i none).set i (some x)) : Lv)[0]? = some (some (.ref 2)) := by
        rw [List.getElem?_set_ne hi, List.getElem?_set_ne hi, hr]
      simp only [evSs, evS, evE, evL, evO, evI, evT, bind_ok, Rs.sb, Res.sb, List.getElem?_cons_succ, List.getElem?_cons_zero, List.map_cons, List.map_nil, List.replicate, List.cons_append, List.nil_append, List.singleton_append, List.length_singleton, List.length_cons, List.length_nil, Nat.reduceAdd, Nat.reduceLeDiff, if_true, if_false, oW, oP, oB, setT, setMany, wipeL, List.set_cons_zero, List.set_cons_succ, gcB_same, gcE_same, gcX_same, gcX_ok, bmOk, noX_ok, Rs.res, truth, newL, and_self, hg, h21]
  rw [evE, evL, elc, bind_ok, evL, bind_ok, bind_ok, tuple_fd]
  exact gcX_fd h (by simp only [PV.low]; exact lows_nat)
end
end LawK80
end
section
open PySem PySem.Spec PyProof.Rows L2 Pi
namespace LawK80
section
variable {cs : List Int} {c t : Int} {E : Mh}
theorem throw_drawn (h : EO E) (ht : 0 ≤ t) (ht2 : t < 900000) : ∃ (l : List Nat) (c' t' : Int), m__law_throw [.ref 2] (FD cs c t ++ E) = .ok ((Dd.throw l).pv 0) (FD cs c' t' ++ E) ∧ lstOk l ∧ t ≤ t' ∧ t' ≤ t + 20 := by
  obtain ⟨l, c', t', e, hl, l1, u1⟩ := nums_e (cs := cs) (c := c) (t := t) (E := E) (F := F_22) (r := [some (.ref 2), none]) (i := 1) at__law_throw__law_number at__law_throw__law_draw rfl (by decide) h ht ht2
  refine ⟨l, c', t', ?_, hl, l1, u1⟩
  have key : evSs 0 F_22 c__law_throw [some (.ref 2), none] (FD cs c t ++ E) = .rt ((Dd.throw l).pv 0) (FD cs c' t' ++ E) := by
    unfold c__law_throw
    rw [evSs, evS, evE, evL, evE, bind_ok, evL, e, bind_ok, evL, bind_ok, bind_ok, bind_ok]
    rw [if_pos (by rw [sizeLine_eq]; simp)]
    rfl
  unfold m__law_throw runF
  rw [if_pos (show ([PV.ref 2] : List PV).length = 1 from rfl)]
  simp only [List.map_cons, List.map_nil, List.replicate, List.cons_append, List.nil_append]
  rw [key]
  exact gcX_fd0
/-- letters drawn -/
theorem lets_of : ∀ {ys : List PV}, (∀ y ∈ ys, ∃ q : Nat × Nat, y = letP q ∧ q.1 < 10 ^ 9 ∧ q.2 < 10 ^ 9) → ∃ l : List (Nat × Nat), ys = l.map letP ∧ ∀ q ∈ l, letOk q
  | [], _ => ⟨[], rfl, fun n h => by cases h⟩
  | y :: ys, h => by
    obtain ⟨n, e, hn, hm⟩ := h y List.mem_cons_self
    obtain ⟨l, e2, hl⟩ := lets_of fun z hz => h z (List.mem_cons_of_mem _ hz)
    refine ⟨n :: l, by rw [e, e2]; rfl, fun m hm' => ?_⟩
    rcases List.mem_cons.mp hm' with rfl | hm'
    · exact ⟨hn, n10 hm⟩
    · exact hl m hm'
/-- one way of a fall -/
theorem fall_turn {acc : List PV} {W : Mh} {x1 x3 x4 x5 x6 : Option PV} {k : PV} (h : EO (E ++ [.lst acc] ++ W)) (hacc : acc.length < 100) (ht : 0 ≤ t) (ht2 : t < 900000) : ∃ (q : Nat × List (Nat × Nat)) (c' t' : Int) (y5 : Option PV),
    evSs 0 F_23 cb1__law_fall [some (.ref 2), some (.ref (E.length + 3)), some k, x3, x4, x5, x6] (FD cs c t ++ (E ++ [.lst acc] ++ W)) =
      .nx [some (.ref 2), some (.ref (E.length + 3)), some k, x3, x4, y5, x6] (FD cs c' t' ++ (E ++ [.lst (acc ++ [wayP q])] ++ (W ++ [.lst (q.2.map letP)]))) ∧ wayOk q ∧ t ≤ t' ∧ t' ≤ t + 40 := by
  generalize hE1 : E ++ [.lst acc] ++ W = E1 at h ⊢
  obtain ⟨v, c1, e1, a1, b1⟩ := draw_run (cs := cs) (c := c) (t := t) (E := E1) (n := 3) (by decide) (by decide) ht (by omega)
  have eb : evE F_23 (.bin .add (.lit (.int (1))) (.call 17 (.cons (.var 0) (.cons (.lit (.int (3))) .nil)))) [some (.ref 2), some (.ref (E.length + 3)), some k, x3, x4, x5, x6] (FD cs c t ++ E1) = .ok (.int (1 + v)) (FD cs c1 (t + 1) ++ E1) := by
    simp only [evSs, evS, evE, evL, evO, evI, evT, bind_ok, Rs.sb, Res.sb, List.getElem?_cons_succ, List.getElem?_cons_zero, List.map_cons, List.map_nil, List.replicate, List.cons_append, List.nil_append, List.singleton_append, List.length_singleton, List.length_cons, List.length_nil, Nat.reduceAdd, Nat.reduceLeDiff, if_true, if_false, oW, oP, oB, setT, setMany, wipeL, List.set_cons_zero, List.set_cons_succ, gcB_same, gcE_same, gcX_same, gcX_ok, bmOk, noX_ok, Rs.res, truth, newL, and_self, at__law_fall__law_draw, e1, add_int]
  have eI := rng_e eb (by omega) (by omega)
  have hlen := rng_len (j := 1 + v) (by omega)
  obtain ⟨ys, c2, t2, e2, n2, p2, l2, u2⟩ := lcGo_ex (cs := cs) (E := E1) (K := 8) (P := fun y => ∃ q : Nat × Nat, y = letP q ∧ q.1 < 10 ^ 9 ∧ q.2 < 10 ^ 9) (w := Walk.same ⟨rngL 0 (1 + v), none, none⟩)
    (f := fun x M2 => (((m__law_number [.ref 2] M2).bind fun y M4 => (m__law_number [.ref 2] M4).bind fun z M5 => Res.ok (PV.tup [y, z]) M5)).bind fun y M4 => .ok (some y) M4) (fun _ => ⟨trivial, trivial⟩) (by decide) 999980 (fun x c t h0 h1 => by
    obtain ⟨n, c', t', e, hn, l, u⟩ := number_run (cs := cs) (c := c) (t := t) (E := E1) h h0 (by omega)
    obtain ⟨m, c'', t'', e', hm, l', u'⟩ := number_run (cs := cs) (c := c') (t := t') (E := E1) h (by omega) (by omega)
    exact ⟨letP (n, m), c'', t'', by rw [e, bind_ok, e', bind_ok, bind_ok]; rfl, ⟨(n, m), rfl, hn, hm⟩, by omega, by omega⟩) (rngL 0 (1 + v)) c1 (t + 1) (by omega) (by omega)
  obtain ⟨l, rfl, hl⟩ := lets_of p2
  have hll : l.length = (rngL 0 (1 + v)).length := by rw [← n2, List.length_map]
  have hsz : (l.map letP).length ≤ sizeLine := by rw [sizeLine_eq, List.length_map]; omega
  have hEO2 : EO (E1 ++ [.lst (l.map letP)]) := h.push lows_let
  obtain ⟨n, c3, t3, e3, hn, l3, u3⟩ := number_run (cs := cs) (c := c2) (t := t2) (E := E1 ++ [.lst (l.map letP)]) hEO2 (by omega) (by omega)
  have hcong : ∀ f : PV → Mh → Res (Option PV), (∀ x M2, f x M2 = (((m__law_number [.ref 2] M2).bind fun y M4 => (m__law_number [.ref 2] M4).bind fun z M5 => Res.ok (PV.tup [y, z]) M5)).bind fun y M4 => .ok (some y) M4) → lcGo f (Walk.same ⟨rngL 0 (1 + v), none, none⟩) (rngL 0 (1 + v)) (FD cs c1 (t + 1) ++ E1) = .ok (l.map letP) (FD cs c2 t2 ++ E1) := fun f hf => by
    have e : f = _ := funext fun x => funext fun M2 => hf x M2
    rw [e]
    exact e2
  have hne : l ≠ [] := fun e => by
    rw [e] at hll
    simp at hll
    omega
  have hl3 : l.length ≤ 3 := by omega
  refine ⟨(n, l), c3, t3, some (.ref (FD cs c2 t2 ++ E1).length), ?_, ⟨hn, hne, hl3, hl⟩, by omega, by omega⟩
  have elc : evE F_23 (.lc [6] (.tup (.cons (.call 21 (.cons (.var 0) .nil)) (.cons (.call 21 (.cons (.var 0) .nil)) .nil))) (.one 6) (.rng .none (.bin .add (.lit (.int (1))) (.call 17 (.cons (.var 0) (.cons (.lit (.int (3))) .nil))))) (.val (.lit (.bl true)))) [some (.ref 2), some (.ref (E.length + 3)), some k, x3, x4, x5, x6] (FD cs c t ++ E1) = .ok (.ref (FD cs c2 t2 ++ E1).length) (FD cs c2 t2 ++ (E1 ++ [.lst (l.map letP)])) := by
    rw [evE, eI, bind_ok]
    simp only
    rw [hcong _ fun x M2 => ?_]
    · rw [noX_ok, bind_ok, if_pos hsz, newL, List.append_assoc]
    · simp only [evSs, evS, evE, evL, evO, evI, evT, bind_ok, Rs.sb, Res.sb, List.getElem?_cons_succ, List.getElem?_cons_zero, List.map_cons, List.map_nil, List.replicate, List.cons_append, List.nil_append, List.singleton_append, List.length_singleton, List.length_cons, List.length_nil, Nat.reduceAdd, Nat.reduceLeDiff, if_true, if_false, oW, oP, oB, setT, setMany, wipeL, List.set_cons_zero, List.set_cons_succ, gcB_same, gcE_same, gcX_same, gcX_ok, bmOk, noX_ok, Rs.res, truth, newL, and_self, at__law_fall__law_number, two_line]
      cases m__law_number [.ref 2] M2 with
      | ok p M3 =>
        simp only [bind_ok]
        cases m__law_number [.ref 2] M3 <;> rfl
      | _ => rfl
  have hn3 : (FD cs c3 t3 ++ E).length = E.length + 3 := fd_len
  have hsplit : ∀ (c t : Int) (z : MO), FD cs c t ++ (E ++ [z] ++ W ++ [.lst (l.map letP)]) = FD cs c t ++ E ++ [z] ++ (W ++ [.lst (l.map letP)]) := fun c t z => by simp only [List.append_assoc]
  have g1 : (FD cs c2 t2 ++ (E1 ++ [.lst (l.map letP)]))[E.length + 3]? = some (.lst acc) := by
    rw [← hE1, hsplit]
    refine get_app ?_
    have := last_of (M := FD cs c2 t2 ++ E) (o := .lst acc)
    rw [fd_len] at this
    exact this
  have g5 : (FD cs c3 t3 ++ (E1 ++ [.lst (l.map letP)]))[(FD cs c2 t2 ++ E1).length]? = some (.lst (l.map letP)) := by
    have e : (FD cs c2 t2 ++ E1).length = (FD cs c3 t3 ++ E1).length := by rw [fd_len, fd_len]
    rw [e]
    exact fd_last
  have htup := tuple_lst g5
  have hap : bmf .append (.ref (E.length + 3)) [wayP (n, l)] (FD cs c3 t3 ++ (E1 ++ [.lst (l.map letP)])) = .ok .non (FD cs c3 t3 ++ (E ++ [.lst (acc ++ [wayP (n, l)])] ++ (W ++ [.lst (l.map letP)]))) := by
    rw [← hE1, hsplit, ← hn3, append_last (by omega)]
    simp only [List.append_assoc]
  have hgc : gcE (FD cs c2 t2 ++ (E1 ++ [MO.lst (l.map letP)])).length (.ok .non (FD cs c3 t3 ++ (E ++ [.lst (acc ++ [wayP (n, l)])] ++ (W ++ [.lst (l.map letP)])))) = .ok .non (FD cs c3 t3 ++ (E ++ [.lst (acc ++ [wayP (n, l)])] ++ (W ++ [.lst (l.map letP)]))) := gcE_le (by
    rw [fd_len, fd_len, ← hE1]
    simp only [List.length_append, List.length_cons, List.length_nil]
    omega)
  unfold cb1__law_fall
  refine (seq_nx (r' := [some (.ref 2), some (.ref (E.length + 3)), some k, x3, x4, some (.ref (FD cs c2 t2 ++ E1).length), x6]) (M' := FD cs c2 t2 ++ (E1 ++ [.lst (l.map letP)])) ?_).trans ?_
  · rw [evS, elc]
    rfl
  · have hap' : bmf .append (.ref (E.length + 3)) [.tup [nat n, .tup (l.map letP)]] (FD cs c3 t3 ++ (E1 ++ [.lst (l.map letP)])) = .ok .non (FD cs c3 t3 ++ (E ++ [.lst (acc ++ [wayP (n, l)])] ++ (W ++ [.lst (l.map letP)]))) := hap
    simp only [evSs, evS, evE, evL, evO, evI, evT, bind_ok, Rs.sb, Res.sb, List.getElem?_cons_succ, List.getElem?_cons_zero, List.map_cons, List.map_nil, List.replicate, List.cons_append, List.nil_append, List.singleton_append, List.length_singleton, List.length_cons, List.length_nil, Nat.reduceAdd, Nat.reduceLeDiff, if_true, if_false, oW, oP, oB, setT, setMany, wipeL, List.set_cons_zero, List.set_cons_succ, gcB_same, gcE_same, gcX_same, gcX_ok, bmOk, noX_ok, Rs.res, truth, newL, and_self, g1, at__law_fall__law_number, e3, htup, two_line, hap', hgc]
end
end LawK80
end
section
open PySem PySem.Spec PyProof.Rows L2 Pi
namespace LawK80
section
variable {cs : List Int} {E : Mh}
theorem eo_ways {W : Mh} {a b : List (Nat × List (Nat × Nat))} (h : EO (E ++ [.lst (a.map wayP)] ++ W)) (l : List (Nat × Nat)) : EO (E ++ [.lst (b.map wayP)] ++ (W ++ [.lst (l.map letP)])) := by
  intro o ho
  have hl : (E ++ [MO.lst (b.map wayP)] ++ (W ++ [MO.lst (l.map letP)])).length + 3 = (E ++ [MO.lst (a.map wayP)] ++ W).length + 4 := by
    simp only [List.length_append, List.length_cons, List.length_nil]
    omega
  rw [hl]
  simp only [List.mem_append, List.mem_singleton] at ho
  rcases ho with (ho | rfl) | ho | rfl
  · exact MO.low_mono (by omega) (h o (by simp [ho]))
  · exact ways_low
  · exact MO.low_mono (by omega) (h o (by simp [ho]))
  · exact lows_let
theorem fall_turns {x3 x4 x6 : Option PV} {its : List PV} : ∀ (items : List PV) (a : List (Nat × List (Nat × Nat))) (W : Mh) (c t : Int) (x2 x5 : Option PV), EO (E ++ [.lst (a.map wayP)] ++ W) → a.length + items.length ≤ 50 → (∀ q ∈ a, wayOk q) → 0 ≤ t → t + 40 * items.length < 900000 →
    ∃ (ws : List (Nat × List (Nat × Nat))) (W' : Mh) (c' t' : Int) (y2 y5 : Option PV), forGo (.one 2) (evSs 0 F_23 cb1__law_fall) (Walk.same ⟨its, none, none⟩) items [some (.ref 2), some (.ref (E.length + 3)), x2, x3, x4, x5, x6] (FD cs c t ++ (E ++ [.lst (a.map wayP)] ++ W)) =
      .nx [some (.ref 2), some (.ref (E.length + 3)), y2, x3, x4, y5, x6] (FD cs c' t' ++ (E ++ [.lst (ws.map wayP)] ++ W')) ∧ EO (E ++ [.lst (ws.map wayP)] ++ W') ∧ ws.length = a.length + items.length ∧ (∀ q ∈ ws, wayOk q) ∧ t ≤ t' ∧ t' ≤ t + 40 * items.length
  | [], a, W, c, t, x2, x5, h, hl, ha, h0, h1 => ⟨a, W, c, t, x2, x5, forGo_nil ⟨trivial, trivial⟩, h, by simp, ha, Int.le_refl _, by simp⟩
  | k :: items, a, W, c, t, x2, x5, h, hl, ha, h0, h1 => by
    rw [List.length_cons] at hl h1
    obtain ⟨q, c1, t1, y5, e1, q1, l1, u1⟩ := fall_turn (cs := cs) (c := c) (t := t) (x1 := none) (x3 := x3) (x4 := x4) (x5 := x5) (x6 := x6) (k := k) h (by rw [List.length_map]; omega) h0 (by omega)
    have e0 : a.map wayP ++ [wayP q] = (a ++ [q]).map wayP := by rw [List.map_append]; rfl
    rw [e0] at e1
    obtain ⟨ws, W', c2, t2, y2, z5, e2, h2, n2, k2, l2, u2⟩ := fall_turns (x3 := x3) (x4 := x4) (x6 := x6) (its := its) items (a ++ [q]) (W ++ [.lst (q.2.map letP)]) c1 t1 (some k) y5 (eo_ways h q.2) (by rw [List.length_append, List.length_singleton]; omega) (fun z hz => by
      rcases List.mem_append.mp hz with hz | hz
      · exact ha z hz
      · rw [List.mem_singleton.mp hz]; exact q1) (by omega) (by omega)
    refine ⟨ws, W', c2, t2, y2, z5, ?_, h2, by rw [n2, List.length_append, List.length_singleton, List.length_cons]; omega, k2, by omega, by rw [List.length_cons]; omega⟩
    rw [forGo_cons (r1 := [some (.ref 2), some (.ref (E.length + 3)), some k, x3, x4, x5, x6]) ⟨trivial, trivial⟩ rfl, e1]
    exact e2
theorem fall_drawn {c t : Int} (h : EO E) (ht : 0 ≤ t) (ht2 : t < 800000) : ∃ (ms ln : List Nat) (ws : List (Nat × List (Nat × Nat))) (W : Mh) (c' t' : Int), m__law_fall [.ref 2] (FD cs c t ++ E) = .ok ((Dd.fall ms ln ws).pv (E.length + 3)) (FD cs c' t' ++ (E ++ [.lst (ws.map wayP)] ++ W)) ∧ (Dd.fall ms ln ws).ok ∧ EO (E ++ [.lst (ws.map wayP)] ++ W) ∧ t ≤ t' ∧ t' ≤ t + 300 := by
  have h1 : EO (E ++ [.lst ([].map wayP)] ++ []) := by
    rw [List.append_nil]
    exact h.push rfl
  obtain ⟨v, c1, e1, a1, b1⟩ := draw_run (cs := cs) (c := c) (t := t) (E := E ++ [.lst []]) (n := 4) (by decide) (by decide) ht (by omega)
  have eb : evE F_23 (.call 17 (.cons (.var 0) (.cons (.lit (.int (4))) .nil))) [some (.ref 2), some (.ref (E.length + 3)), none, none, none, none, none] (FD cs c t ++ (E ++ [.lst []])) = .ok (.int v) (FD cs c1 (t + 1) ++ (E ++ [.lst []])) := by
    simp only [evSs, evS, evE, evL, evO, evI, evT, bind_ok, Rs.sb, Res.sb, List.getElem?_cons_succ, List.getElem?_cons_zero, List.map_cons, List.map_nil, List.replicate, List.cons_append, List.nil_append, List.singleton_append, List.length_singleton, List.length_cons, List.length_nil, Nat.reduceAdd, Nat.reduceLeDiff, if_true, if_false, oW, oP, oB, setT, setMany, wipeL, List.set_cons_zero, List.set_cons_succ, gcB_same, gcE_same, gcX_same, gcX_ok, bmOk, noX_ok, Rs.res, truth, newL, and_self, at__law_fall__law_draw, e1]
  have eI := rng_e eb (by omega) (by omega)
  have hlen := rng_len (j := v) (by omega)
  obtain ⟨ws, W, c2, t2, y2, y5, e2, h2, n2, k2, l2, u2⟩ := fall_turns (cs := cs) (E := E) (x3 := none) (x4 := none) (x6 := none) (its := rngL 0 v) (rngL 0 v) [] [] c1 (t + 1) none none h1 (by simp; omega) (fun q hq => by cases hq) (by omega) (by omega)
  rw [List.append_nil] at e2
  generalize hE2 : E ++ [.lst (ws.map wayP)] ++ W = E2 at e2 h2
  obtain ⟨ms, c3, t3, e3, o3, l3, u3⟩ := nums_e (cs := cs) (c := c2) (t := t2) (E := E2) (F := F_23) (r := [some (.ref 2), some (.ref (E.length + 3)), y2, none, none, y5, none]) (i := 2) at__law_fall__law_number at__law_fall__law_draw rfl (by decide) h2 (by omega) (by omega)
  obtain ⟨ln, c4, t4, e4, o4, l4, u4⟩ := nums_e (cs := cs) (c := c3) (t := t3) (E := E2) (F := F_23) (r := [some (.ref 2), some (.ref (E.length + 3)), y2, some (.tup (ms.map nat)), none, y5, none]) (i := 2) at__law_fall__law_number at__law_fall__law_draw rfl (by decide) h2 (by omega) (by omega)
  have hws : ws.length ≤ 3 := by
    rw [n2]
    simp only [List.length_nil]
    omega
  refine ⟨ms, ln, ws, W, c4, t4, ?_, ⟨o3, o4, hws, k2⟩, by rw [hE2]; exact h2, by omega, by omega⟩
  rw [hE2]
  have hnew : (FD cs c t ++ E).length = E.length + 3 := fd_len
  have key : evSs 0 F_23 c__law_fall [some (.ref 2), none, none, none, none, none, none] (FD cs c t ++ E) = .rt ((Dd.fall ms ln ws).pv (E.length + 3)) (FD cs c4 t4 ++ E2) := by
    unfold c__law_fall
    refine (seq_nx (r' := [some (.ref 2), some (.ref (E.length + 3)), none, none, none, none, none]) (M' := FD cs c t ++ (E ++ [.lst []])) ?_).trans ?_
    · simp only [evSs, evS, evE, evL, evO, evI, evT, bind_ok, Rs.sb, Res.sb, List.getElem?_cons_succ, List.getElem?_cons_zero, List.map_cons, List.map_nil, List.replicate, List.cons_append, List.nil_append, List.singleton_append, List.length_singleton, List.length_cons, List.length_nil, Nat.reduceAdd, Nat.reduceLeDiff, if_true, if_false, oW, oP, oB, setT, setMany, wipeL, List.set_cons_zero, List.set_cons_succ, gcB_same, gcE_same, gcX_same, gcX_ok, bmOk, noX_ok, Rs.res, truth, newL, and_self, zero_line, hnew, List.append_assoc]
    refine (seq_nx (r' := [some (.ref 2), some (.ref (E.length + 3)), y2, none, none, y5, none]) (M' := FD cs c2 t2 ++ E2) ?_).trans ?_
    · rw [evS, eI]
      exact e2
    refine (seq_nx (r' := [some (.ref 2), some (.ref (E.length + 3)), y2, some (.tup (ms.map nat)), none, y5, none]) (M' := FD cs c3 t3 ++ E2) ?_).trans ?_
    · rw [evS, e3]
      rfl
    refine (seq_nx (r' := [some (.ref 2), some (.ref (E.length + 3)), y2, some (.tup (ms.map nat)), some (.tup (ln.map nat)), y5, none]) (M' := FD cs c4 t4 ++ E2) ?_).trans ?_
    · rw [evS, e4]
      rfl
    simp only [evSs, evS, evE, evL, evO, evI, evT, bind_ok, Rs.sb, Res.sb, List.getElem?_cons_succ, List.getElem?_cons_zero, List.map_cons, List.map_nil, List.replicate, List.cons_append, List.nil_append, List.singleton_append, List.length_singleton, List.length_cons, List.length_nil, Nat.reduceAdd, Nat.reduceLeDiff, if_true, if_false, oW, oP, oB, setT, setMany, wipeL, List.set_cons_zero, List.set_cons_succ, gcB_same, gcE_same, gcX_same, gcX_ok, bmOk, noX_ok, Rs.res, truth, newL, and_self, four_line, Dd.pv]
  unfold m__law_fall runF
  rw [if_pos (show ([PV.ref 2] : List PV).length = 1 from rfl)]
  simp only [List.map_cons, List.map_nil, List.replicate, List.cons_append, List.nil_append]
  rw [key]
  show gcX _ (.ok _ _) = _
  rw [gcX_ok]
  unfold Pi.gcE
  dsimp only
  split
  · rfl
  · have e2 : PV.low (FD cs c t ++ E).length ((Dd.fall ms ln ws).pv (E.length + 3)) = false := by
      simp only [Dd.pv, PV.low, lows, Bool.and_true, Bool.true_and, hnew]
      have : Nat.blt (E.length + 3) (E.length + 3) = false := Bool.eq_false_iff.mpr fun h => Nat.lt_irrefl (E.length + 3) (by simpa using h)
      rw [this]
      simp
    rw [e2]
    rfl
end
end LawK80
end
section
open PySem PySem.Spec PyProof.Rows L2 Pi
namespace LawK80
section
variable {cs : List Int} {E : Mh}
/-- what a drawn deed leaves -/
def Drawn (cs : List Int) (E : Mh) (c t : Int) (r0 : Res PV) : Prop := ∃ (d : Dd) (E' : Mh) (r : Nat) (c' t' : Int), r0 = .ok (d.pv r) (FD cs c' t' ++ E') ∧ d.ok ∧ d.at_ (FD cs c' t' ++ E') r ∧ EO E' ∧ t ≤ t' ∧ t' ≤ t + 400
theorem gcE_fd0 {c t c' t' : Int} {X : Mh} {p : PV} : gcE (FD cs c t ++ X).length (.ok p (FD cs c' t' ++ X)) = .ok p (FD cs c' t' ++ X) := gcX_fd0
theorem ix_new {c t c' t' : Int} {l : List PV} {i : Int} {p : PV} (e : atI l i = some p) : ixop (FD cs c t ++ (E ++ [.lst l])) (.ref (FD cs c' t' ++ E).length) (.int i) = .ok p (FD cs c t ++ (E ++ [.lst l])) := by
  have e2 : (FD cs c' t' ++ E).length = (FD cs c t ++ E).length := by rw [fd_len, fd_len]
  rw [e2]
  exact ix_lst fd_last e
theorem eq_ints {M : Mh} {i j : Int} : cmpop .eq (.int i) (.int j) M = .ok (.bl (decide (i = j))) M := by
  show oB (eqPV M (.int i) (.int j)) M = _
  rw [Pi.eq_int]
  by_cases h : i = j
  · simp [oB, h]
  · simp [oB, h]
theorem any_drawn {c t : Int} (h : EO E) (ht : 0 ≤ t) (ht2 : t < 700000) : Drawn cs E c t (m__law_any_deed [.ref 2] (FD cs c t ++ E)) := by
  obtain ⟨v, c1, e1, a1, b1⟩ := draw_run (cs := cs) (c := c) (t := t) (E := E) (n := 9) (by decide) (by decide) ht (by omega)
  have hv : v = 0 ∨ v = 1 ∨ v = 2 ∨ v = 3 ∨ v = 4 ∨ v = 5 ∨ 6 ≤ v := by omega
  rcases hv with rfl | rfl | hv
  · obtain ⟨ms, ln, ws, W, c2, t2, e2, o2, h2, l2, u2⟩ := fall_drawn (cs := cs) (c := c1) (t := t + 1) (E := E) h (by omega) (by omega)
    refine ⟨.fall ms ln ws, E ++ [.lst (ws.map wayP)] ++ W, E.length + 3, c2, t2, ?_, o2, ?_, h2, by omega, by omega⟩
    · have hgc : gcX (FD cs c t ++ E).length (.ok ((Dd.fall ms ln ws).pv (E.length + 3)) (FD cs c2 t2 ++ (E ++ [.lst (ws.map wayP)] ++ W))) = .ok ((Dd.fall ms ln ws).pv (E.length + 3)) (FD cs c2 t2 ++ (E ++ [.lst (ws.map wayP)] ++ W)) := by
        rw [gcX_ok]
        unfold Pi.gcE
        dsimp only
        split
        · rfl
        · have e3 : PV.low (FD cs c t ++ E).length ((Dd.fall ms ln ws).pv (E.length + 3)) = false := by
            simp only [Dd.pv, PV.low, lows, Bool.and_true, Bool.true_and]
            rw [fd_len]
            have : Nat.blt (E.length + 3) (E.length + 3) = false := Bool.eq_false_iff.mpr fun h => Nat.lt_irrefl (E.length + 3) (by simpa using h)
            rw [this]
            simp
          rw [e3]
          rfl
      unfold m__law_any_deed runF c__law_any_deed
      simp only [evSs, evS, evE, evL, evO, evI, evT, bind_ok, Rs.sb, Res.sb, List.getElem?_cons_succ, List.getElem?_cons_zero, List.map_cons, List.map_nil, List.replicate, List.cons_append, List.nil_append, List.singleton_append, List.length_singleton, List.length_cons, List.length_nil, Nat.reduceAdd, Nat.reduceLeDiff, if_true, if_false, oW, oP, oB, setT, setMany, wipeL, List.set_cons_zero, List.set_cons_succ, gcB_same, gcE_same, gcX_same, gcX_ok, bmOk, noX_ok, Rs.res, truth, newL, and_self, at__law_any_deed__law_draw, e1, cmp_lt, eq_ints, at__law_any_deed__law_fall, e2, hgc, show decide ((0 : Int) < 2) = true from rfl, show decide ((0 : Int) = 1) = false from rfl]
    · show (FD cs c2 t2 ++ (E ++ [.lst (ws.map wayP)] ++ W))[E.length + 3]? = some (.lst (ws.map wayP))
      have := last_of (M := FD cs c2 t2 ++ E) (o := .lst (ws.map wayP))
      rw [fd_len] at this
      simp only [← List.append_assoc]
      exact get_app this
  · obtain ⟨l, c2, t2, e2, o2, l2, u2⟩ := throw_drawn (cs := cs) (c := c1) (t := t + 1) (E := E) h (by omega) (by omega)
    refine ⟨.throw l, E, 0, c2, t2, ?_, o2, trivial, h, by omega, by omega⟩
    unfold m__law_any_deed runF c__law_any_deed
    simp only [evSs, evS, evE, evL, evO, evI, evT, bind_ok, Rs.sb, Res.sb, List.getElem?_cons_succ, List.getElem?_cons_zero, List.map_cons, List.map_nil, List.replicate, List.cons_append, List.nil_append, List.singleton_append, List.length_singleton, List.length_cons, List.length_nil, Nat.reduceAdd, Nat.reduceLeDiff, if_true, if_false, oW, oP, oB, setT, setMany, wipeL, List.set_cons_zero, List.set_cons_succ, gcB_same, gcE_same, gcX_same, gcX_ok, bmOk, noX_ok, Rs.res, truth, newL, and_self, at__law_any_deed__law_draw, e1, cmp_lt, eq_ints, at__law_any_deed__law_throw, e2, show decide ((1 : Int) < 2) = true from rfl, show decide ((1 : Int) = 1) = true from rfl]
    exact gcX_fd0
  · have d2 : decide (v < 2) = false := decide_eq_false (by omega)
    rcases (show v = 2 ∨ v = 3 ∨ v = 4 ∨ v = 5 ∨ v = 6 ∨ v = 7 ∨ v = 8 by omega) with rfl | rfl | hv
    · -- hear
      obtain ⟨n, c2, t2, e2, hn, l2, u2⟩ := number_run (cs := cs) (c := c1) (t := t + 1) (E := E) h (by omega) (by omega)
      obtain ⟨w, c3, e3, a3, b3⟩ := draw_run (cs := cs) (c := c2) (t := t2) (E := E) (n := 3) (by decide) (by decide) (by omega) (by omega)
      have hz : ∃ z : Str, ixop (FD cs c3 (t2 + 1) ++ E) (.str "abz") (.int w) = .ok (.str z) (FD cs c3 (t2 + 1) ++ E) ∧ (z = "a" ∨ z = "b" ∨ z = "z") := by
        rcases (show w = 0 ∨ w = 1 ∨ w = 2 by omega) with rfl | rfl | rfl
        · exact ⟨"a", by kernel_rfl, .inl rfl⟩
        · exact ⟨"b", by kernel_rfl, .inr (.inl rfl)⟩
        · exact ⟨"z", by kernel_rfl, .inr (.inr rfl)⟩
      obtain ⟨z, ez, hz⟩ := hz
      refine ⟨.hear n z, E, 0, c3, t2 + 1, ?_, ⟨hn, hz⟩, trivial, h, by omega, by omega⟩
      unfold m__law_any_deed runF c__law_any_deed
      simp only [evSs, evS, evE, evL, evO, evI, evT, bind_ok, Rs.sb, Res.sb, List.getElem?_cons_succ, List.getElem?_cons_zero, List.map_cons, List.map_nil, List.replicate, List.cons_append, List.nil_append, List.singleton_append, List.length_singleton, List.length_cons, List.length_nil, Nat.reduceAdd, Nat.reduceLeDiff, if_true, if_false, oW, oP, oB, setT, setMany, wipeL, List.set_cons_zero, List.set_cons_succ, gcB_same, gcE_same, gcX_same, gcX_ok, bmOk, noX_ok, Rs.res, truth, newL, and_self, at__law_any_deed__law_draw, e1, cmp_lt, eq_ints, d2, at__law_any_deed__law_number, e2, e3, ez, three_line, Dd.pv, show decide ((2 : Int) = 2) = true from rfl]
      exact gcX_fd0
    · -- come
      obtain ⟨n, c2, t2, e2, hn, l2, u2⟩ := number_run (cs := cs) (c := c1) (t := t + 1) (E := E) h (by omega) (by omega)
      obtain ⟨m, c3, t3, e3, hm, l3, u3⟩ := number_run (cs := cs) (c := c2) (t := t2) (E := E) h (by omega) (by omega)
      obtain ⟨w, c4, e4, a4, b4⟩ := draw_run (cs := cs) (c := c3) (t := t3) (E := E ++ [.lst [nat m, .int (10 ^ 10 - 1)]]) (n := 6) (by decide) (by decide) (by omega) (by omega)
      have p10 : ∀ M, binop .pow (.int 10) (.int 10) M = .ok (.int (10 ^ 10)) M := fun M => pow_10 (k := 10) (by decide)
      have hint : ∀ M, biF .int [.bl (decide (w = 0))] M = .ok (.int (if decide (w = 0) then 1 else 0)) M := fun M => rfl
      have hk : ∃ k : Nat, ixop (FD cs c4 (t3 + 1) ++ (E ++ [.lst [nat m, .int (10 ^ 10 - 1)]])) (.ref (FD cs c3 t3 ++ E).length) (.int (if decide (w = 0) then 1 else 0)) = .ok (nat k) (FD cs c4 (t3 + 1) ++ (E ++ [.lst [nat m, .int (10 ^ 10 - 1)]])) ∧ k < 10 ^ 10 := by
        by_cases hw : w = 0
        · rw [decide_eq_true hw]
          exact ⟨9999999999, ix_new at1, by decide⟩
        · rw [decide_eq_false hw]
          exact ⟨m, ix_new at0, by omega⟩
      obtain ⟨k, ek, hk⟩ := hk
      refine ⟨.come n k, E, 0, c4, t3 + 1, ?_, ⟨hn, hk⟩, trivial, h, by omega, by omega⟩
      unfold m__law_any_deed runF c__law_any_deed
      simp only [evSs, evS, evE, evL, evO, evI, evT, bind_ok, Rs.sb, Res.sb, List.getElem?_cons_succ, List.getElem?_cons_zero, List.map_cons, List.map_nil, List.replicate, List.cons_append, List.nil_append, List.singleton_append, List.length_singleton, List.length_cons, List.length_nil, Nat.reduceAdd, Nat.reduceLeDiff, if_true, if_false, oW, oP, oB, setT, setMany, wipeL, List.set_cons_zero, List.set_cons_succ, gcB_same, gcE_same, gcX_same, gcX_ok, bmOk, noX_ok, Rs.res, truth, newL, and_self, at__law_any_deed__law_draw, e1, cmp_lt, eq_ints, d2, at__law_any_deed__law_number, e2, e3, p10, sub_int, two_line, List.append_assoc, e4, gcE_fd0, hint, ek, three_line, Dd.pv, show decide ((3 : Int) = 2) = false from rfl, show decide ((3 : Int) = 3) = true from rfl]
      exact gcX_fd h rfl
    · have d3 : decide (v = 2) = false := decide_eq_false (by omega)
      have d4 : decide (v = 3) = false := decide_eq_false (by omega)
      by_cases h6 : v < 6
      · have d5 : decide (v < 6) = true := decide_eq_true h6
        have hT : EO (E ++ [.lst [.str "own", .str "keep"]]) := h.push rfl
        obtain ⟨n, c2, t2, e2, hn, l2, u2⟩ := number_run (cs := cs) (c := c1) (t := t + 1) (E := E ++ [.lst [.str "own", .str "keep"]]) hT (by omega) (by omega)
        have hz : ∃ z : Str, ixop (FD cs c1 (t + 1) ++ (E ++ [.lst [.str "own", .str "keep"]])) (.ref (FD cs c1 (t + 1) ++ E).length) (.int (v - 4)) = .ok (.str z) (FD cs c1 (t + 1) ++ (E ++ [.lst [.str "own", .str "keep"]])) ∧ (z = "own" ∨ z = "keep") := by
          rcases (show v - 4 = 0 ∨ v - 4 = 1 by omega) with hv | hv
          · rw [hv]; exact ⟨"own", ix_new at0, .inl rfl⟩
          · rw [hv]; exact ⟨"keep", ix_new at1, .inr rfl⟩
        obtain ⟨z, ez, hz⟩ := hz
        refine ⟨.one z n, E, 0, c2, t2, ?_, ⟨hz, hn⟩, trivial, h, by omega, by omega⟩
        unfold m__law_any_deed runF c__law_any_deed
        simp only [evSs, evS, evE, evL, evO, evI, evT, bind_ok, Rs.sb, Res.sb, List.getElem?_cons_succ, List.getElem?_cons_zero, List.map_cons, List.map_nil, List.replicate, List.cons_append, List.nil_append, List.singleton_append, List.length_singleton, List.length_cons, List.length_nil, Nat.reduceAdd, Nat.reduceLeDiff, if_true, if_false, oW, oP, oB, setT, setMany, wipeL, List.set_cons_zero, List.set_cons_succ, gcB_same, gcE_same, gcX_same, gcX_ok, bmOk, noX_ok, Rs.res, truth, newL, and_self, at__law_any_deed__law_draw, e1, cmp_lt, eq_ints, d2, d3, d4, d5, at__law_any_deed__law_number, e2, sub_int, two_line, List.append_assoc, ez, Dd.pv]
        exact gcX_fd h rfl
      · have d5 : decide (v < 6) = false := decide_eq_false h6
        have hT : EO (E ++ [.lst [.str "note", .str "tell", .str "tell"]]) := h.push rfl
        obtain ⟨n, c2, t2, e2, hn, l2, u2⟩ := number_run (cs := cs) (c := c1) (t := t + 1) (E := E ++ [.lst [.str "note", .str "tell", .str "tell"]]) hT (by omega) (by omega)
        obtain ⟨m, c3, t3, e3, hm, l3, u3⟩ := number_run (cs := cs) (c := c2) (t := t2) (E := E ++ [.lst [.str "note", .str "tell", .str "tell"]]) hT (by omega) (by omega)
        have hz : ∃ z : Str, ixop (FD cs c1 (t + 1) ++ (E ++ [.lst [.str "note", .str "tell", .str "tell"]])) (.ref (FD cs c1 (t + 1) ++ E).length) (.int (v - 6)) = .ok (.str z) (FD cs c1 (t + 1) ++ (E ++ [.lst [.str "note", .str "tell", .str "tell"]])) ∧ (z = "note" ∨ z = "tell") := by
          rcases (show v - 6 = 0 ∨ v - 6 = 1 ∨ v - 6 = 2 by omega) with hv | hv | hv
          · rw [hv]; exact ⟨"note", ix_new at0, .inl rfl⟩
          · rw [hv]; exact ⟨"tell", ix_new at1, .inr rfl⟩
          · rw [hv]; exact ⟨"tell", ix_new at2, .inr rfl⟩
        obtain ⟨z, ez, hz⟩ := hz
        refine ⟨.two z n m, E, 0, c3, t3, ?_, ⟨hz, hn, hm⟩, trivial, h, by omega, by omega⟩
        unfold m__law_any_deed runF c__law_any_deed
        simp only [evSs, evS, evE, evL, evO, evI, evT, bind_ok, Rs.sb, Res.sb, List.getElem?_cons_succ, List.getElem?_cons_zero, List.map_cons, List.map_nil, List.replicate, List.cons_append, List.nil_append, List.singleton_append, List.length_singleton, List.length_cons, List.length_nil, Nat.reduceAdd, Nat.reduceLeDiff, if_true, if_false, oW, oP, oB, setT, setMany, wipeL, List.set_cons_zero, List.set_cons_succ, gcB_same, gcE_same, gcX_same, gcX_ok, bmOk, noX_ok, Rs.res, truth, newL, and_self, at__law_any_deed__law_draw, e1, cmp_lt, eq_ints, d2, d3, d4, d5, at__law_any_deed__law_number, e2, e3, sub_int, three_line, List.append_assoc, ez, Dd.pv]
        exact gcX_fd h rfl
end
end LawK80
end
section
open PySem PySem.Spec PyProof.Rows L2 Pi
namespace LawK80
section
variable {cs : List Int} {E : Mh}
theorem pv_ints {M : Mh} {n : Nat} : ∀ {l : List Int}, (l.map PV.int).mapM (pvD n M) = some (l.map PyData.int)
  | [] => rfl
  | i :: l => by
    have e : pvD n M (.int i) = some (.int i) := by cases n <;> rfl
    rw [List.map_cons, List.mapM_cons, e, pv_ints]
    rfl
theorem lay_ints : ∀ {l : List Int}, PyData.canLayAll0 (l.map PyData.int) = true ∧ PyData.depthAll (l.map PyData.int) = 0
  | [] => ⟨by rw [List.map_nil, PyData.canLayAll0], by rw [List.map_nil, PyData.depthAll]⟩
  | i :: l => by
    obtain ⟨h1, h2⟩ := lay_ints (l := l)
    exact ⟨by rw [List.map_cons, PyData.canLayAll0, PyData.canLay0, h1]; rfl, by rw [List.map_cons, PyData.depthAll, h2, PyData.depth]; rfl⟩
theorem shaped_ints {l : List Int} : SeqAt.shaped (.list (l.map PyData.int)) = true := by
  unfold SeqAt.shaped
  rw [PyData.canLay0, lay_ints.1, PyData.depth, lay_ints.2]
  rfl
/-- a list of numbers, not empty -/
theorem ne_empty {M : Mh} {m n : Nat} {l : List Int} (hm : M[m]? = some (.lst (l.map .int))) (hn : M[n]? = some (.lst [])) : cmpop .ne (.ref m) (.ref n) M = .ok (.bl (!l.isEmpty)) M := by
  have e1 : pvD 64 M (.ref m) = some (.list (l.map PyData.int)) := by
    show (match M[m]? with
      | some (.lst l) => (l.mapM (pvD 63 M)).map PyData.list
      | _ => none) = _
    rw [hm]
    dsimp only
    rw [pv_ints]
    rfl
  have e2 : pvD 64 M (.ref n) = some (.list []) := by
    show (match M[n]? with
      | some (.lst l) => (l.mapM (pvD 63 M)).map PyData.list
      | _ => none) = _
    rw [hn]
    rfl
  have s2 : SeqAt.shaped (.list []) = true := shaped_ints (l := [])
  have e : eqPV M (.ref m) (.ref n) = some l.isEmpty := by
    unfold eqPV
    rw [e1, e2]
    dsimp only
    rw [shaped_ints, s2, if_pos (show (true && true) = true from rfl), PyData.eqv]
    cases l with
    | nil => rw [List.map_nil, PyData.eqvAll]; rfl
    | cons a r => rw [List.map_cons, PyData.eqvAll]; rfl
  show oB ((eqPV M (.ref m) (.ref n)).map (!·)) M = _
  rw [e]
  rfl
theorem open_run {c t : Int} {k : Nat} (h : EO E) (hk : k < 10) : ∃ c' : Int, m__law_open [.ref 2, .int (k : Int)] (FD cs c t ++ E) = .ok .non (FD cs c' (100 * (k : Int)) ++ E) := by
  have hm : ∀ M, binop .mul (.int 100) (.int (k : Int)) M = .ok (.int (100 * (k : Int))) M := fun M => mul_int (.inl (by decide))
  have g1 : ∀ (c t : Int) (X : Mh), (FD cs c t ++ X)[1]? = some (.lst (cs.map .int)) := fun c t X => rfl
  have hne : cmpop .ne (.ref 1) (.ref (FD cs 0 (100 * (k : Int)) ++ E).length) (FD cs 0 (100 * (k : Int)) ++ (E ++ [.lst []])) = .ok (.bl (!cs.isEmpty)) (FD cs 0 (100 * (k : Int)) ++ (E ++ [.lst []])) := ne_empty (g1 _ _ _) fd_last
  have hgc : gcE (FD cs 0 (100 * (k : Int)) ++ E).length (.ok (.bl (!cs.isEmpty)) (FD cs 0 (100 * (k : Int)) ++ (E ++ [.lst []]))) = .ok (.bl (!cs.isEmpty)) (FD cs 0 (100 * (k : Int)) ++ E) := gcX_fd h rfl
  cases hcs : cs with
  | nil =>
    subst hcs
    rw [show (!([] : List Int).isEmpty) = false from rfl] at hne hgc
    refine ⟨0, ?_⟩
    unfold m__law_open runF c__law_open
    simp only [evSs, evS, evE, evL, evO, evI, evT, bind_ok, Rs.sb, Res.sb, List.getElem?_cons_succ, List.getElem?_cons_zero, List.map_cons, List.map_nil, List.replicate, List.cons_append, List.nil_append, List.singleton_append, List.length_singleton, List.length_cons, List.length_nil, Nat.reduceAdd, Nat.reduceLeDiff, if_true, if_false, oW, oP, oB, setT, setMany, wipeL, List.set_cons_zero, List.set_cons_succ, gcB_same, gcE_same, gcX_same, gcX_ok, bmOk, noX_ok, Rs.res, truth, newL, and_self, hm, set_drawn, set_cell, ix_cells, zero_line, List.append_assoc, hne, hgc]
    exact gcX_fd0
  | cons a r =>
    have hlen : biF .len [.ref 1] (FD cs 0 (100 * (k : Int)) ++ E) = .ok (.int ((cs.map PV.int).length : Int)) (FD cs 0 (100 * (k : Int)) ++ E) := len_lst (g1 _ _ _)
    have hpos : 0 < ((cs.map PV.int).length : Int) := by rw [hcs]; simp
    have hmod := mod_int (i := (k : Int)) (M := FD cs 0 (100 * (k : Int)) ++ E) hpos
    obtain ⟨x, hx⟩ : ∃ x : Int, ixop (FD cs 0 (100 * (k : Int)) ++ E) (.ref 1) (.int ((k : Int) % ((cs.map PV.int).length : Int))) = .ok (.int x) (FD cs 0 (100 * (k : Int)) ++ E) := by
      have h0 := Int.emod_nonneg (k : Int) (show ((cs.map PV.int).length : Int) ≠ 0 by omega)
      have h1 := Int.emod_lt_of_pos (k : Int) hpos
      have hj : ((k : Int) % ((cs.map PV.int).length : Int)).toNat < cs.length := by
        rw [List.length_map] at h1 ⊢
        omega
      refine ⟨cs[((k : Int) % ((cs.map PV.int).length : Int)).toNat], ix_lst (g1 _ _ _) (atI_nat (k := ((k : Int) % ((cs.map PV.int).length : Int)).toNat) ?_ (by omega))⟩
      rw [List.getElem?_map, List.getElem?_eq_getElem hj]
      rfl
    have hb : (!cs.isEmpty) = true := by rw [hcs]; rfl
    rw [hb] at hne hgc
    rw [← hcs]
    refine ⟨x, ?_⟩
    unfold m__law_open runF c__law_open
    simp only [evSs, evS, evE, evL, evO, evI, evT, bind_ok, Rs.sb, Res.sb, List.getElem?_cons_succ, List.getElem?_cons_zero, List.map_cons, List.map_nil, List.replicate, List.cons_append, List.nil_append, List.singleton_append, List.length_singleton, List.length_cons, List.length_nil, Nat.reduceAdd, Nat.reduceLeDiff, if_true, if_false, oW, oP, oB, setT, setMany, wipeL, List.set_cons_zero, List.set_cons_succ, gcB_same, gcE_same, gcX_same, gcX_ok, bmOk, noX_ok, Rs.res, truth, newL, and_self, hm, set_drawn, set_cell, ix_cells, zero_line, List.append_assoc, hne, hgc, hlen, hmod, hx]
    exact gcX_fd0
end
end LawK80
end
section
open PySem PySem.Spec PyProof.Rows L2 Pi
namespace LawK80
theorem cut63 {l : List PV} (h : l.length ≤ 63) : cut l none (some 63) = l := by
  have e1 : HT.sIx l.length 0 none = 0 := rfl
  have e2 : HT.sIx l.length l.length (some 63) = l.length := by
    have := HT.sIx_nat l.length l.length 63
    rw [show ((63 : Nat) : Int) = 63 from rfl] at this
    rw [this]
    omega
  unfold Pi.cut
  rw [e1, e2]
  simp
theorem feed_run {ns : List Int} (h : ns.length ≤ 63) : m__law_feed [.scr (ns.map .int)] [] = .ok (.ref 2) (FD ns 0 0) := by
  have e1 : slop [] (.scr (ns.map .int)) none (some 63) = .ok (.ref 0) [.lst (ns.map .int)] := by
    show newL (cut (ns.map PV.int) none (some 63)) [] = _
    rw [cut63 (by rw [List.length_map]; exact h)]
    rfl
  have e2 : biF .list [.ref 0] [.lst (ns.map .int)] = .ok (.ref 1) [.lst (ns.map .int), .lst (ns.map .int)] := rfl
  unfold m__law_feed runF c__law_feed
  simp only [evSs, evS, evE, evL, evO, evI, evT, bind_ok, Rs.sb, Res.sb, List.getElem?_cons_succ, List.getElem?_cons_zero, List.map_cons, List.map_nil, List.replicate, List.cons_append, List.nil_append, List.singleton_append, List.length_singleton, List.length_cons, List.length_nil, Nat.reduceAdd, Nat.reduceLeDiff, if_true, if_false, oW, oP, oB, setT, setMany, wipeL, List.set_cons_zero, List.set_cons_succ, gcB_same, gcE_same, gcX_same, gcX_ok, bmOk, noX_ok, Rs.res, truth, newL, and_self, e1, e2]
  kernel_rfl
def okS (x : Str) : Prop := ∀ c ∈ TL.tl x, c < 0x110000
theorem okS_ok {x : Str} (h : okS x) : PyData.strOk x = true := by
  unfold PyData.strOk
  refine Array.all_eq_true'.mpr fun c hc => decide_eq_true (h c ?_)
  exact Array.mem_toList_iff.mpr hc
theorem okS_num (n : Nat) : okS (numS n) := fun c hc => by
  rw [show TL.tl (numS n) = TL.numL n from TL.tl_num n] at hc
  have := TL.numL_digits n c hc
  omega
theorem okS_app {x y : Str} (hx : okS x) (hy : okS y) : okS (x ++ y) := fun c hc => by
  rw [TL.tl_append] at hc
  rcases List.mem_append.mp hc with h | h
  · exact hx c h
  · exact hy c h
theorem okS_join {a : Str} (ha : okS a) : ∀ {ys : List Str}, (∀ y ∈ ys, okS y) → okS (Str.join a ys)
  | [], _ => fun c hc => by cases hc
  | [y], h => h y List.mem_cons_self
  | y :: z :: t, h => okS_app (okS_app (h y List.mem_cons_self) ha) (okS_join ha fun w hw => h w (List.mem_cons_of_mem _ hw))
theorem okS_lit {x : Str} (h : ((TL.tl x).all fun c => decide (c < 0x110000)) = true) : okS x := fun c hc => of_decide_eq_true (List.all_eq_true.mp h c hc)
theorem okS_txt {a : Str} {ys : List Str} (ha : okS a) (h : ∀ y ∈ ys, okS y) : okS (Txt.join a ys) := by
  rw [TL.join_eq]
  exact okS_join ha h
theorem okS_let (q : Nat × Nat) : okS (letS q) := okS_app (okS_app (okS_num _) (okS_lit (by decide +kernel))) (okS_num _)
theorem okS_com (l : List Nat) : okS (comS l) := okS_txt (okS_lit (by decide +kernel)) fun y hy => by
  obtain ⟨n, _, rfl⟩ := List.mem_map.mp hy
  exact okS_num n
theorem okS_way (q : Nat × List (Nat × Nat)) : okS (wayS q) := okS_app (okS_app (okS_num _) (okS_lit (by decide +kernel))) (okS_txt (okS_lit (by decide +kernel)) fun y hy => by
  obtain ⟨n, _, rfl⟩ := List.mem_map.mp hy
  exact okS_let n)
theorem text_ok {d : Dd} (h : d.ok) : PyData.strOk d.text = true := by
  refine okS_ok (okS_txt (okS_lit (by decide +kernel)) fun y hy => ?_)
  cases d with
  | one w n =>
    simp only [Dd.words, List.mem_cons, List.mem_nil_iff, or_false] at hy
    rcases hy with rfl | rfl
    · rcases h.1 with rfl | rfl <;> exact okS_lit (by decide +kernel)
    · exact okS_num _
  | two w a b =>
    simp only [Dd.words, List.mem_cons, List.mem_nil_iff, or_false] at hy
    rcases hy with rfl | rfl | rfl
    · rcases h.1 with rfl | rfl <;> exact okS_lit (by decide +kernel)
    · exact okS_num _
    · exact okS_num _
  | hear n c =>
    simp only [Dd.words, List.mem_cons, List.mem_nil_iff, or_false] at hy
    rcases hy with rfl | rfl | rfl
    · exact okS_lit (by decide +kernel)
    · exact okS_num _
    · rcases h.2 with rfl | rfl | rfl <;> exact okS_lit (by decide +kernel)
  | come r k =>
    simp only [Dd.words, List.mem_cons, List.mem_nil_iff, or_false] at hy
    rcases hy with rfl | rfl
    · exact okS_lit (by decide +kernel)
    · exact okS_let _
  | throw l =>
    simp only [Dd.words, List.mem_cons, List.mem_map] at hy
    rcases hy with rfl | ⟨n, _, rfl⟩
    · exact okS_lit (by decide +kernel)
    · exact okS_num _
  | fall ms ln ws =>
    simp only [Dd.words, List.mem_cons, List.mem_map] at hy
    rcases hy with rfl | rfl | rfl | ⟨q, _, rfl⟩
    · exact okS_lit (by decide +kernel)
    · exact okS_com _
    · exact okS_com _
    · exact okS_way _
theorem eo_of {cs : List Int} {c t : Int} {X : Mh} (h : Wf (FD cs c t ++ X)) : EO X := fun o ho => by
  have := h o (List.mem_append_right _ ho)
  rw [fd_len] at this
  exact this
/-- one turn of the law -/
theorem law_turn {cs : List Int} {E : Mh} {c t : Int} {k : Nat} {x0 x3 x4 : Option PV} (h : EO E) (hk : k < 10) : ∃ (E' : Mh) (c' t' : Int) (y3 y4 : Option PV),
    evSs 0 F_26 cb1_law [x0, some (.ref 2), some (.int (k : Int)), x3, x4] (FD cs c t ++ E) = .nx [x0, some (.ref 2), some (.int (k : Int)), y3, y4] (FD cs c' t' ++ E') ∧ EO E' := by
  obtain ⟨c1, e1⟩ := open_run (cs := cs) (c := c) (t := t) (E := E) h hk
  obtain ⟨d, E', r, c2, t2, e2, hd, hat, hE', _, _⟩ := any_drawn (cs := cs) (c := c1) (t := 100 * (k : Int)) h (by omega) (by omega)
  have hW := wf_fd (cs := cs) (c := c2) (t := t2) hE'
  have e3 := deed_text_run hW hat hd
  have e4 := ldeed_text_run hW hat hd
  obtain ⟨E2, r', e5, hat', hW'⟩ := read_run hW hd
  have hat2 : d.at_ (FD cs c2 t2 ++ E' ++ E2) r := by
    cases d with
    | fall ms ln ws => exact get_app hat
    | _ => trivial
  have e6 : m__law_alike 0 7 [d.pv r', d.pv r] (FD cs c2 t2 ++ E' ++ E2) = .ok (.bl true) (FD cs c2 t2 ++ E' ++ E2) := al_deed hW' hat' hat2 hd
  have e7 : biF .isi [.str d.text, .ty "str"] (FD cs c2 t2 ++ E') = .ok (.bl true) (FD cs c2 t2 ++ E') := isi_val (a := "str") rfl (by decide +kernel)
  have hok : PyData.strOk d.text = true := text_ok hd
  have e8 : cmpop .ne (.str d.text) (.str d.text) (FD cs c2 t2 ++ E') = .ok (.bl false) (FD cs c2 t2 ++ E') := by
    rw [ne_word hok hok]
    simp
  have e9 : gcB (FD cs c2 t2 ++ E').length (.ok true (FD cs c2 t2 ++ E' ++ E2)) = .ok true (FD cs c2 t2 ++ E') := gcB_app hW
  refine ⟨E', c2, t2, some (d.pv r), some (.str d.text), ?_, hE'⟩
  unfold cb1_law
  simp only [evSs, evS, evE, evL, evO, evI, evT, bind_ok, Rs.sb, Res.sb, List.getElem?_cons_succ, List.getElem?_cons_zero, List.map_cons, List.map_nil, List.replicate, List.cons_append, List.nil_append, List.singleton_append, List.length_singleton, List.length_cons, List.length_nil, Nat.reduceAdd, Nat.reduceLeDiff, if_true, if_false, oW, oP, oB, setT, setMany, wipeL, List.set_cons_zero, List.set_cons_succ, gcB_same, gcE_same, gcX_same, gcX_ok, bmOk, noX_ok, Rs.res, truth, newL, and_self, at_law__law_open, e1, at_law__law_any_deed, e2, at_law_deed_text, e3, e7, at_law__law_deed_text, e4, e8, at_law_read_deed, e5, at_law__law_alike, e6, e9, Bool.not_true]
theorem law_loop {cs : List Int} {x0 : Option PV} {its : List PV} : ∀ (m k : Nat) (E : Mh) (c t : Int) (x2 x3 x4 : Option PV), EO E → m + k = 6 → ∃ (E' : Mh) (c' t' : Int) (y2 y3 y4 : Option PV),
    forGo (.one 2) (evSs 0 F_26 cb1_law) (Walk.same ⟨its, none, none⟩) ((rngL 0 6).drop k) [x0, some (.ref 2), x2, x3, x4] (FD cs c t ++ E) = .nx [x0, some (.ref 2), y2, y3, y4] (FD cs c' t' ++ E')
  | 0, k, E, c, t, x2, x3, x4, h, hk => by
    have : k = 6 := by omega
    subst this
    exact ⟨E, c, t, x2, x3, x4, forGo_nil ⟨trivial, trivial⟩⟩
  | m + 1, k, E, c, t, x2, x3, x4, h, hk => by
    obtain ⟨E1, c1, t1, y3, y4, e1, h1⟩ := law_turn (cs := cs) (c := c) (t := t) (k := k) (x0 := x0) (x3 := x3) (x4 := x4) h (by omega)
    obtain ⟨E2, c2, t2, z2, z3, z4, e2⟩ := law_loop (cs := cs) (x0 := x0) (its := its) m (k + 1) E1 c1 t1 (some (.int (k : Int))) y3 y4 h1 (by omega)
    refine ⟨E2, c2, t2, z2, z3, z4, ?_⟩
    have hd : (rngL 0 6).drop k = .int (k : Int) :: (rngL 0 6).drop (k + 1) := by
      have hk6 : k = 0 ∨ k = 1 ∨ k = 2 ∨ k = 3 ∨ k = 4 ∨ k = 5 := by omega
      rcases hk6 with rfl | rfl | rfl | rfl | rfl | rfl <;> rfl
    rw [hd, forGo_cons (r1 := [x0, some (.ref 2), some (.int (k : Int)), x3, x4]) ⟨trivial, trivial⟩ rfl, e1]
    exact e2
theorem law_spec (ns : List Int) (h : ns.length ≤ 63) : ∃ M, m_law [.scr (ns.map .int)] [] = .ok (.bl true) M := by
  obtain ⟨E', c', t', y2, y3, y4, e⟩ := law_loop (cs := ns) (x0 := some (.scr (ns.map .int))) (its := rngL 0 6) 6 0 [] 0 0 none none none EO.nil rfl
  rw [List.append_nil, List.drop_zero] at e
  have e0 := feed_run h
  have eI : evI F_26 (.rng .none (.lit (.int (6)))) [some (.scr (ns.map .int)), some (.ref 2), none, none, none] (FD ns 0 0) = .ok ⟨rngL 0 6, none, none⟩ (FD ns 0 0) := rng_e (by rw [evE]) (by decide) (by decide)
  have key : evSs 0 F_26 c_law [some (.scr (ns.map .int)), none, none, none, none] [] = .rt (.bl true) (FD ns c' t' ++ E') := by
    unfold c_law
    refine (seq_nx (r' := [some (.scr (ns.map .int)), some (.ref 2), none, none, none]) (M' := FD ns 0 0) ?_).trans ?_
    · simp only [evSs, evS, evE, evL, evO, evI, evT, bind_ok, Rs.sb, Res.sb, List.getElem?_cons_succ, List.getElem?_cons_zero, List.map_cons, List.map_nil, List.replicate, List.cons_append, List.nil_append, List.singleton_append, List.length_singleton, List.length_cons, List.length_nil, Nat.reduceAdd, Nat.reduceLeDiff, if_true, if_false, oW, oP, oB, setT, setMany, wipeL, List.set_cons_zero, List.set_cons_succ, gcB_same, gcE_same, gcX_same, gcX_ok, bmOk, noX_ok, Rs.res, truth, newL, and_self, at_law__law_feed, e0]
    refine (seq_nx (r' := [some (.scr (ns.map .int)), some (.ref 2), y2, y3, y4]) (M' := FD ns c' t' ++ E') ?_).trans ?_
    · rw [evS, eI]
      exact e
    simp only [evSs, evS, evE, evL, evO, evI, evT, bind_ok, Rs.sb, Res.sb, List.getElem?_cons_succ, List.getElem?_cons_zero, List.map_cons, List.map_nil, List.replicate, List.cons_append, List.nil_append, List.singleton_append, List.length_singleton, List.length_cons, List.length_nil, Nat.reduceAdd, Nat.reduceLeDiff, if_true, if_false, oW, oP, oB, setT, setMany, wipeL, List.set_cons_zero, List.set_cons_succ, gcB_same, gcE_same, gcX_same, gcX_ok, bmOk, noX_ok, Rs.res, truth, newL, and_self]
  have : ∃ M, gcX 0 (.ok (.bl true) (FD ns c' t' ++ E')) = .ok (.bl true) M := by
    rw [gcX_ok]
    unfold Pi.gcE
    dsimp only
    split
    · exact ⟨_, rfl⟩
    · split
      · exact ⟨_, rfl⟩
      · exact ⟨_, rfl⟩
  obtain ⟨M, hM⟩ := this
  refine ⟨M, ?_⟩
  unfold m_law runF
  rw [if_pos (show ([PV.scr (ns.map .int)] : List PV).length = 1 from rfl)]
  simp only [List.map_cons, List.map_nil, List.replicate, List.cons_append, List.nil_append]
  rw [key]
  exact hM
end LawK80
end
section
namespace LawK80
open PySem PySem.Spec PyProof.Rows L2 Pi
def loose0 : List Str := ["line_of", "listed", "letter_text", "fall_text", "deed_text", "CutError", "NoText", "FIGURES", "LETTERS", "FEW_FIGURES", "MANY_FIGURES", "SHAPES", "MORE_SHAPES", "number_in", "sign_in", "pair_in", "letter_in", "all_in", "small_in", "way_in", "thing_in", "deed_by", "read_deed", "_law_feed"]
def loose1 : List Str := ["_law_open", "_law_draw", "_law_line", "_law_commas", "_law_deed_text", "_law_number", "_law_any_deed", "_law_throw", "_law_fall", "_law_alike"]
abbrev loose : List Str := loose0 ++ loose1
abbrev R : PySem.W.OpenRow := PySem.W.OpenLaw.row PySem.Challenge.rw_cutstand_k80_deeds_written
abbrev hk : PySem.W.Hook := hookP 4 ft
def ob (s : PySem.W.SharedT) : AlP := obsPG 4 ft (HandSHeadRun.getT s)
theorem ob_eq (s : PySem.W.SharedT) : ob s = hk.obs s.abs := obsPG_eq (HandSHeadRun.getT_eq s)
theorem run_false (w : World) : HandSHeadRun.RunEq R (PySem.W.view R.prog [38]) hk ob 3000 loose (w.withFollow "special-get-raises" false) := by
  intro os
  kernel_rfl
theorem run_true (w : World) : HandSHeadRun.RunEq R (PySem.W.view R.prog [38]) hk ob 3000 loose (w.withFollow "special-get-raises" true) := by
  intro os
  kernel_rfl
theorem run (w : World) : HandSHeadRun.RunEq R (PySem.W.view R.prog [38]) hk ob 3000 loose w := PySem.W.byRow2 "special-get-raises" run_false run_true w
end LawK80
end
section
open PySem PySem.W PySem.Calls PyProof.Rows
theorem PySem.Challenge.cw_cutstand_k80_deeds_written_holds : PySem.Challenge.rw_cutstand_k80_deeds_written.Holds := by
  w_on; o_law
  refine HandSHeadRun.head_any (r := OpenLaw.row PySem.Challenge.rw_cutstand_k80_deeds_written) (q := view (OpenLaw.row PySem.Challenge.rw_cutstand_k80_deeds_written).prog [38]) (H := LawK80.hk) (ob := LawK80.ob) (M := 3000) (loose := LawK80.loose) (d := HandSHeadRun.topDef (OpenLaw.row PySem.Challenge.rw_cutstand_k80_deeds_written).prog 38) (kwd := []) LawK80.ob_eq
    (by kernel_rfl) (fun s => by kernel_rfl) LawK80.run (by kernel_rfl) (by kernel_rfl) (by kernel_rfl) (by rfl) (by first | assumption | decide +kernel) (by decide +kernel) ⟨rfl, rfl, rfl, rfl, rfl, by decide +kernel⟩ ?hw ?hc
  case hw => w_witness2
  case hc =>
    refine L2.walk_ofE (l := PySem.Challenge.rw_cutstand_k80_deeds_written) (n := 63) (k := 33) (x := "_law_script") (CX := L2.CX0) rfl (by decide) (by kernel_rfl) ⟨rfl, by decide, by decide⟩ ?F (fun _ _ _ _ z => z)
    intro w mg fa h Y G hmg0
    obtain ⟨K, KX, c⟩ := Y
    have hmg : mg ("law" : PySem.Str) = some (.ref fa) := by
      have e : (HandSHeadRun.topDef (OpenLaw.row PySem.Challenge.rw_cutstand_k80_deeds_written).prog 38).name = ("law" : PySem.Str) := by kernel_rfl
      rw [← e]
      exact hmg0
    have H : Pi.HdF PySem.Challenge.rw_cutstand_k80_deeds_written.prog w K mg LawK80.ft LawK80.nms := Pi.hd_of KX G c (fun x hx => List.mem_append_left _ (List.mem_map_of_mem hx)) (fun x hx => List.mem_append_right _ (List.mem_map_of_mem hx))
    obtain ⟨fd, hb, hF⟩ := Pi.law_ok (n := 32) (T := LawK80.T_law) (F := LawK80.F_26) (m := 0) H LawK80.mem_law.1 rfl rfl rfl LawK80.b_law LawK80.sc_law rfl rfl LawK80.cc_law
    have efa : fa = He.ga K "law" := by
      have e2 := hmg.symm.trans (H.glo "law" LawK80.mem_law.2)
      cases e2
      rfl
    subst efa
    refine ⟨K, fd, fun vs H Q _ => Pi.spM (Pi.SyK K) LawK80.m_law vs H Q fun _ _ _ => False, KX, hb, fun H a is hl hO hS => ?_, fun base KB GB => Pi.fnOk_calm (hF base (LawK80.l_law H))⟩
    obtain ⟨M, hM⟩ := LawK80.law_spec is hl
    exact Pi.law_says hM hO hS
end
