import PyProof.Rows.All
import Wide.All
import OpenK.AllK
import Wide.FinOn
import HandS.TupMul
import HandS.ForExc
import HandS.Comp
import HandS.Wide
import HandS.TupAny
import HandS.Text
import HandS.Iter
import HandS.More
import HandS.IsInst
import HandS.Property
import HandS.SortKw
import HandS.Zip
import HandS.Deep
import HandS.Dict
import KE.KDictKeyed
import KE.KTupSum
import HandS.Style
import KE.KIndexOf
import KE.DatumOrd
import HandS.DictComp
import HandS.WordsDict
import HandS.WideBits
import HandS.ExcInit
import HandS.ExcOwn
import HandS.ExcIs
import HandS.ExcField
import KE.KExcIs
import HandS.MakeKwOnly
import HandS.OwnEq
import HandS.TryOnly
import KE.GoesMore
import HandS.ExcValue
import HandS.WordsExc
import PyProof.DictUpdate
import HandS.HeadHook3
import HandS.WrittenGet
import PySem.Challenge.RW_wholerows_k02_expressions_written
import HandS.Ends
section
set_option Elab.async false
set_option linter.all false
set_option maxRecDepth 100000
set_option maxHeartbeats 4000000
/-! Z0: a tuple times one is that tuple. -/
namespace L2
open PySem PySem.Spec PyProof.Rows
theorem tuple_mul1 (l : Addr) (items : Array Value) (n : Nat) (dd : Option Addr) (sl : Array (Option Value)) (x : Int) (u : Tok) (c0 : (decide (x < -(2 ^ 63)) || decide (x ≥ 2 ^ 63)) = false) (c1 : (items.isEmpty || x == 1) = true) :
    Meets (Builtin.«tuple.__mul__» ⟨[.ref l, .int x u], []⟩) (fun _ R s => s.heap.get? l = some { cls := .type "tuple", dict := dd, data := .seq items n, slots := sl } ∧
      R (.ok (.ret (Value.ref l))) s) :=
  .of_wp fun prog w A R s h => by
    obtain ⟨hp, g, d, tk, os⟩ := s
    obtain ⟨hl, h⟩ := h
    have f1 := AutoSeq1.idx_int
    wp_walk using wpAny_loadPart' hl
    repeat (first
      | (refine wpAny_ite_false (decide_eq_false (by rw [c0]; exact Bool.false_ne_true)) ?_; wp_walk using wpAny_loadPart' hl)
      | (refine wpAny_ite_true (decide_eq_true c1) ?_; wp_walk using wpAny_loadPart' hl))
    exact ⟨_, rfl, h⟩
def rRepT1 (K : PySem.W.Frag) : R2 := fun x y H Q => ∃ l xs, x = .ref l ∧ y = .int 1 ∧ SqT K H l xs ∧ Q (.ref l) H
section
variable {X : Cx}
theorem op_repT1 : OpR X (binaryOp .Mult) (rRepT1 X.K) := by
  intro pins s σ H x y v u Q I rx ry h
  obtain ⟨l, xs, rfl, rfl, hT, q⟩ := h
  cases rx
  obtain ⟨t, rfl⟩ := ry
  obtain ⟨its, r, ⟨⟨cls, dd, data, sl⟩, ho, hc, n, hd⟩, hs⟩ := I.tuple hT
  simp only at hc hd
  subst hc hd
  have c0 : (decide ((1 : Int) < -(2 ^ 63)) || decide ((1 : Int) ≥ 2 ^ 63)) = false := by decide
  have c1 : (its.toArray.isEmpty || (1 : Int) == 1) = true := by simp
  refine wpAny_binaryOp_repeat_ref (T := "tuple") (U := "int") (by decide) ⟨_, ho, rfl⟩ (fun s' => typeIs_int s' 1 t) noFill_tuple_mul F.fills_int_mul F.slot_int_rmul repeat_tuple F.slot_int_index.lookup
    (call_meets F.slot_int_rmul (typeIs_int s 1 t) F.entry_int_rmul (F.args_int_rmul_2 _ _) (int_rmul_tuple 1 t l its.toArray n dd sl)
      ⟨ho, rfl, ⟨_, ho, rfl⟩, call_meets F.slot_tuple_mul ⟨_, ho, rfl⟩ F.entry_tuple_mul (F.args_tuple_mul_2 _ _) (tuple_mul1 l its.toArray n dd sl 1 t c0 c1) ⟨ho, ?_⟩⟩)
  exact ⟨.ref l, _, I, rfl, q⟩
end
end L2
end
section
set_option Elab.async false
set_option linter.all false
set_option maxRecDepth 100000
set_option maxHeartbeats 4000000
/-! Z1: values by content, a store of what may change, and what relates them to the abstract heap. -/
namespace Z
open PySem PySem.Spec PyProof.Rows L2

/-- a value: tuples by content, what may change by its place in the store -/
inductive D where
  | non | bl (b : Bool) | int (i : Int) | str (s : Str) | tup (xs : List D) | loc (n : Nat) | ty (n : String) | cls (c : Nat)
/-- what stands in the store: a list, a list that is only read, a place kept free, an instance -/
inductive O where
  | lst (xs : List D) | ro (xs : List D) | hole | ins (c : Nat) (fs : List (Str × D)) | dic (kvs : List (Key × D)) | dro (kvs : List (Key × D)) | dkn (kvs : List (NestedKey × D))
abbrev S := List O
inductive R (α : Type) where
  | ok (a : α) (s : S) | exc (c : Nat) (fs : List (Str × D)) (s : S) | bad
def R.bind {α β : Type} (r : R α) (f : α → S → R β) : R β := match r with
  | .ok a s => f a s
  | .exc c fs s => .exc c fs s
  | .bad => .bad
abbrev Ev := List (Option D)
abbrev M (α : Type) := Ev → S → R α

/-- the written part, the classes by number -/
structure G where
  K : PySem.W.Frag
  cad : Nat → Addr

/-- tuples stay -/
structure TLe (g : G) (H H' : Hp) : Prop where
  tup : ∀ a vs, SqT g.K H a vs → SqT g.K H' a vs
  frz : ∀ b o u, H b = some (.frz o u) → H' b = some (.frz o u)
theorem TLe.refl {g : G} {H : Hp} : TLe g H H := ⟨fun _ _ h => h, fun _ _ _ h => h⟩
theorem TLe.trans {g : G} {H H1 H2 : Hp} (a : TLe g H H1) (b : TLe g H1 H2) : TLe g H H2 := ⟨fun x vs h => b.tup x vs (a.tup x vs h), fun x o u h => b.frz x o u (a.frz x o u h)⟩

mutual
def Rep (g : G) (ρ : List Addr) (H : Hp) : D → V → Prop
  | .non, v => v = .non
  | .bl b, v => v = .bl b
  | .int i, v => v = .int i
  | .str s, v => v = .str s
  | .tup xs, v => ∃ a vs, v = .ref a ∧ SqT g.K H a vs ∧ Reps g ρ H xs vs
  | .loc n, v => ∃ a, ρ[n]? = some a ∧ v = .ref a
  | .ty n, v => v = .ty n
  | .cls c, v => v = .ref (g.cad c)
def Reps (g : G) (ρ : List Addr) (H : Hp) : List D → List V → Prop
  | [], vs => vs = []
  | d :: ds, vs => ∃ v r, vs = v :: r ∧ Rep g ρ H d v ∧ Reps g ρ H ds r
end

theorem pre_get {α : Type} {l l' : List α} {n : Nat} {a : α} (e : l <+: l') (h : l[n]? = some a) : l'[n]? = some a := by
  obtain ⟨t, rfl⟩ := e
  have hn : n < l.length := (List.getElem?_eq_some_iff.mp h).1
  rw [List.getElem?_append_left hn]
  exact h

section
variable {g : G} {ρ ρ' : List Addr} {H H' : Hp}
mutual
theorem Rep.mono (e : ρ <+: ρ') (t : TLe g H H') : ∀ {d : D} {v : V}, Rep g ρ H d v → Rep g ρ' H' d v
  | .non, _, h => by unfold Rep at h ⊢; exact h
  | .bl _, _, h => by unfold Rep at h ⊢; exact h
  | .int _, _, h => by unfold Rep at h ⊢; exact h
  | .str _, _, h => by unfold Rep at h ⊢; exact h
  | .ty _, _, h => by unfold Rep at h ⊢; exact h
  | .cls _, _, h => by unfold Rep at h ⊢; exact h
  | .loc _, _, h => by
    unfold Rep at h ⊢
    obtain ⟨a, h1, h2⟩ := h
    exact ⟨a, pre_get e h1, h2⟩
  | .tup xs, _, h => by
    unfold Rep at h ⊢
    obtain ⟨a, vs, h1, h2, h3⟩ := h
    exact ⟨a, vs, h1, t.tup _ _ h2, Reps.mono e t h3⟩
theorem Reps.mono (e : ρ <+: ρ') (t : TLe g H H') : ∀ {ds : List D} {vs : List V}, Reps g ρ H ds vs → Reps g ρ' H' ds vs
  | [], _, h => by unfold Reps at h ⊢; exact h
  | _ :: _, _, h => by
    unfold Reps at h ⊢
    obtain ⟨v, r, h1, h2, h3⟩ := h
    exact ⟨v, r, h1, Rep.mono e t h2, Reps.mono e t h3⟩
end
theorem rep_non : Rep g ρ H .non .non := by unfold Rep; rfl
theorem rep_bl {b : Bool} : Rep g ρ H (.bl b) (.bl b) := by unfold Rep; rfl
theorem rep_int {i : Int} : Rep g ρ H (.int i) (.int i) := by unfold Rep; rfl
theorem rep_str {s : Str} : Rep g ρ H (.str s) (.str s) := by unfold Rep; rfl
theorem rep_cls {c : Nat} : Rep g ρ H (.cls c) (.ref (g.cad c)) := by unfold Rep; rfl
theorem Rep.cls {c : Nat} {v : V} (h : Rep g ρ H (.cls c) v) : v = .ref (g.cad c) := by unfold Rep at h; exact h
theorem rep_tup {xs : List D} {a : Addr} {vs : List V} (h : SqT g.K H a vs) (r : Reps g ρ H xs vs) : Rep g ρ H (.tup xs) (.ref a) := by unfold Rep; exact ⟨a, vs, rfl, h, r⟩
theorem rep_loc {n : Nat} {a : Addr} (h : ρ[n]? = some a) : Rep g ρ H (.loc n) (.ref a) := by unfold Rep; exact ⟨a, h, rfl⟩
theorem reps_nil : Reps g ρ H [] [] := by unfold Reps; rfl
theorem reps_cons {d : D} {ds : List D} {v : V} {vs : List V} (h : Rep g ρ H d v) (r : Reps g ρ H ds vs) : Reps g ρ H (d :: ds) (v :: vs) := by unfold Reps; exact ⟨v, vs, rfl, h, r⟩
theorem Rep.non {v : V} (h : Rep g ρ H .non v) : v = .non := by unfold Rep at h; exact h
theorem Rep.bl {b : Bool} {v : V} (h : Rep g ρ H (.bl b) v) : v = .bl b := by unfold Rep at h; exact h
theorem Rep.int {i : Int} {v : V} (h : Rep g ρ H (.int i) v) : v = .int i := by unfold Rep at h; exact h
theorem Rep.str {s : Str} {v : V} (h : Rep g ρ H (.str s) v) : v = .str s := by unfold Rep at h; exact h
theorem Rep.ty {n : String} {v : V} (h : Rep g ρ H (.ty n) v) : v = .ty n := by unfold Rep at h; exact h
theorem Rep.tup {xs : List D} {v : V} (h : Rep g ρ H (.tup xs) v) : ∃ a vs, v = .ref a ∧ SqT g.K H a vs ∧ Reps g ρ H xs vs := by unfold Rep at h; exact h
theorem Rep.loc {n : Nat} {v : V} (h : Rep g ρ H (.loc n) v) : ∃ a, ρ[n]? = some a ∧ v = .ref a := by unfold Rep at h; exact h
theorem Reps.nil {vs : List V} (h : Reps g ρ H [] vs) : vs = [] := by unfold Reps at h; exact h
theorem Reps.cons {d : D} {ds : List D} {vs : List V} (h : Reps g ρ H (d :: ds) vs) : ∃ v r, vs = v :: r ∧ Rep g ρ H d v ∧ Reps g ρ H ds r := by unfold Reps at h; exact h
theorem Reps.length : ∀ {ds : List D} {vs : List V}, Reps g ρ H ds vs → vs.length = ds.length
  | [], _, h => by rw [h.nil]; rfl
  | _ :: _, _, h => by
    obtain ⟨v, r, rfl, _, h3⟩ := h.cons
    rw [List.length_cons, List.length_cons, h3.length]
theorem Reps.get : ∀ {ds : List D} {vs : List V} {n : Nat} {d : D}, Reps g ρ H ds vs → ds[n]? = some d → ∃ v, vs[n]? = some v ∧ Rep g ρ H d v
  | [], _, _, _, _, e => by simp at e
  | _ :: _, _, 0, _, h, e => by
    obtain ⟨v, r, rfl, h2, _⟩ := h.cons
    simp at e
    subst e
    exact ⟨v, rfl, h2⟩
  | _ :: ds, _, n + 1, d, h, e => by
    obtain ⟨v, r, rfl, _, h3⟩ := h.cons
    obtain ⟨u, q1, q2⟩ := h3.get (n := n) (d := d) (by simpa using e)
    exact ⟨u, by simpa using q1, q2⟩
theorem Reps.append : ∀ {ds es : List D} {vs ws : List V}, Reps g ρ H ds vs → Reps g ρ H es ws → Reps g ρ H (ds ++ es) (vs ++ ws)
  | [], _, _, _, h, k => by rw [h.nil]; exact k
  | _ :: _, _, _, _, h, k => by
    obtain ⟨v, r, rfl, h2, h3⟩ := h.cons
    exact reps_cons h2 (h3.append k)
theorem Reps.one {d : D} {v : V} (h : Rep g ρ H d v) : Reps g ρ H [d] [v] := reps_cons h reps_nil
theorem Reps.take : ∀ {ds : List D} {vs : List V} (n : Nat), Reps g ρ H ds vs → Reps g ρ H (ds.take n) (vs.take n)
  | _, _, 0, _ => by simp; exact reps_nil
  | [], _, n + 1, h => by rw [h.nil]; exact reps_nil
  | _ :: _, _, n + 1, h => by
    obtain ⟨v, r, rfl, h2, h3⟩ := h.cons
    exact reps_cons h2 (h3.take n)
theorem Reps.drop : ∀ {ds : List D} {vs : List V} (n : Nat), Reps g ρ H ds vs → Reps g ρ H (ds.drop n) (vs.drop n)
  | _, _, 0, h => h
  | [], _, n + 1, h => by rw [h.nil]; exact reps_nil
  | _ :: _, _, n + 1, h => by
    obtain ⟨v, r, rfl, h2, h3⟩ := h.cons
    exact h3.drop n
theorem Reps.set {d : D} {v : V} (k : Rep g ρ H d v) : ∀ {ds : List D} {vs : List V} (n : Nat), Reps g ρ H ds vs → Reps g ρ H (ds.set n d) (vs.set n v)
  | [], _, _, h => by rw [h.nil]; exact reps_nil
  | _ :: _, _, 0, h => by
    obtain ⟨u, r, rfl, h2, h3⟩ := h.cons
    exact reps_cons k h3
  | _ :: _, _, n + 1, h => by
    obtain ⟨u, r, rfl, h2, h3⟩ := h.cons
    exact reps_cons h2 (Reps.set k n h3)
/-- fields -/
def RepF (g : G) (ρ : List Addr) (H : Hp) : List (Str × D) → List (Str × V) → Prop
  | [], vs => vs = []
  | d :: ds, vs => ∃ v r, vs = (d.1, v) :: r ∧ Rep g ρ H d.2 v ∧ RepF g ρ H ds r
theorem RepF.mono (e : ρ <+: ρ') (t : TLe g H H') : ∀ {ds : List (Str × D)} {vs : List (Str × V)}, RepF g ρ H ds vs → RepF g ρ' H' ds vs
  | [], _, h => h
  | _ :: _, _, h => by
    obtain ⟨v, r, h1, h2, h3⟩ := h
    exact ⟨v, r, h1, h2.mono e t, h3.mono e t⟩
def RepK (g : G) (ρ : List Addr) (H : Hp) : List (Key × D) → List (Key × V) → Prop
  | [], vs => vs = []
  | d :: ds, vs => ∃ v r, vs = (d.1, v) :: r ∧ Rep g ρ H d.2 v ∧ RepK g ρ H ds r
theorem RepK.mono (e : ρ <+: ρ') (t : TLe g H H') : ∀ {ds : List (Key × D)} {vs : List (Key × V)}, RepK g ρ H ds vs → RepK g ρ' H' ds vs
  | [], _, h => h
  | _ :: _, _, h => by
    obtain ⟨v, r, h1, h2, h3⟩ := h
    exact ⟨v, r, h1, h2.mono e t, h3.mono e t⟩
theorem RepF.lookup {f : Str} : ∀ {ds : List (Str × D)} {vs : List (Str × V)}, RepF g ρ H ds vs → (∀ d, ds.lookup f = some d → ∃ v, vs.lookup f = some v ∧ Rep g ρ H d v) ∧ (ds.lookup f = none → vs.lookup f = none)
  | [], _, h => by
    have h' : _ = [] := h
    subst h'
    exact ⟨fun d e => by simp at e, fun _ => rfl⟩
  | (x, d) :: ds, _, h => by
    obtain ⟨v, r, rfl, h2, h3⟩ := h
    obtain ⟨a, b⟩ := RepF.lookup (f := f) h3
    show (∀ d', List.lookup f ((x, d) :: ds) = some d' → ∃ v', List.lookup f ((x, v) :: r) = some v' ∧ Rep g ρ H d' v') ∧ (List.lookup f ((x, d) :: ds) = none → List.lookup f ((x, v) :: r) = none)
    rw [List.lookup_cons, List.lookup_cons]
    cases hx : (f == x) with
    | true =>
      simp only []
      exact ⟨fun d' e => ⟨v, rfl, by cases e; exact h2⟩, fun e => nomatch e⟩
    | false => exact ⟨a, b⟩
theorem RepF.length : ∀ {ds : List (Str × D)} {vs : List (Str × V)}, RepF g ρ H ds vs → vs.length = ds.length
  | [], _, h => by
    have h' : _ = [] := h
    rw [h']; rfl
  | _ :: _, _, h => by
    obtain ⟨v, r, rfl, _, h3⟩ := h
    rw [List.length_cons, List.length_cons, h3.length]
/-- a key of nested tuples of ints, as a value -/
def deN : NestedKey → D
  | .none => .non
  | .num i => .int i
  | .text x => .str x
  | .tup ks => .tup (deNs ks)
where deNs : List NestedKey → List D
  | [] => []
  | k :: ks => deN k :: deNs ks
/-- the entries of a dict whose keys are nested tuples -/
def RepN (g : G) (ρ : List Addr) (H : Hp) : List (NestedKey × D) → List (NestedKey × Addr × Value) → Prop
  | [], xs => xs = []
  | p :: ds, xs => ∃ a u v r, xs = (p.1, a, u) :: r ∧ Rep g ρ H (deN p.1) (.ref a) ∧ Rep g ρ H p.2 v ∧ RelV v u ∧ RepN g ρ H ds r
theorem RepN.mono (e : ρ <+: ρ') (t : TLe g H H') : ∀ {ds : List (NestedKey × D)} {xs : List (NestedKey × Addr × Value)}, RepN g ρ H ds xs → RepN g ρ' H' ds xs
  | [], _, h => h
  | _ :: _, _, h => by
    obtain ⟨a, u, v, r, h1, h2, h3, h4, h5⟩ := h
    exact ⟨a, u, v, r, h1, h2.mono e t, h3.mono e t, h4, h5.mono e t⟩
/-- what is stored at a field -/
def putD (f : Str) (v : D) : List (Str × D) → List (Str × D)
  | [] => [(f, v)]
  | (x, u) :: r => if x = f then (x, v) :: r else (x, u) :: putD f v r
theorem RepF.put {f : Str} {d : D} {v : V} (k : Rep g ρ H d v) : ∀ {ds : List (Str × D)} {vs : List (Str × V)}, RepF g ρ H ds vs → RepF g ρ H (putD f d ds) (putF f v vs)
  | [], _, h => by
    have h' : _ = [] := h
    subst h'
    exact ⟨v, [], rfl, k, rfl⟩
  | (x, u) :: ds, _, h => by
    obtain ⟨w, r, rfl, h2, h3⟩ := h
    show RepF g ρ H (if x = f then (x, d) :: ds else (x, u) :: putD f d ds) (if x = f then (x, v) :: r else (x, w) :: putF f v r)
    by_cases hx : x = f
    · rw [if_pos hx, if_pos hx]
      exact ⟨v, r, rfl, k, h3⟩
    · rw [if_neg hx, if_neg hx]
      exact ⟨w, _, rfl, h2, RepF.put k h3⟩

/-! ### the store -/
def ObjR (g : G) (ρ : List Addr) (H : Hp) (a : Addr) : O → Prop
  | .lst xs => ∃ vs, H a = some (.lst vs) ∧ Reps g ρ H xs vs
  | .ro xs => ∃ vs, SqL g.K H a vs ∧ Reps g ρ H xs vs
  | .hole => ∃ vs, H a = some (.lst vs)
  | .ins c fs => ∃ dx vs, H a = some (.ins (g.cad c) dx vs) ∧ RepF g ρ H fs vs
  | .dic kvs => ∃ vs, H a = some (.dK vs) ∧ RepK g ρ H kvs vs
  | .dro kvs => ∃ vs, Rd H a (.dK vs) ∧ RepK g ρ H kvs vs
  | .dkn kvs => ∃ (o : Obj) (es : Array DictEntry) (ep : Nat) (xs : List (NestedKey × Addr × Value)), H a = some (.ext fun h => h.get? a = some o) ∧ (a == sysModules) = false ∧ o.ExactDict ∧ o.data = .dict es ep ∧ (∀ (P : Program) (w : World), es.toList = xs.map (entryOfKey (nestedKind P w))) ∧ (xs.map (·.1)).Nodup ∧ RepN g ρ H kvs xs
/-- a list of the written part -/
def KL (K : PySem.W.Frag) (a : Addr) (vs : List V) : Prop := ∃ (o : Obj) (its : Array Value) (n : Nat), K.lookup a = some o ∧ o.cls = .type "list" ∧ o.dict = none ∧ o.data = .seq its n ∧ its.size ≤ sizeLine ∧ Vals vs its.toList
def KP (g : G) (ρ : List Addr) (H : Hp) (a : Addr) : O → Prop
  | .ro xs => ∃ vs, KL g.K a vs ∧ Reps g ρ H xs vs
  | _ => False
theorem KP.mono {a : Addr} {o : O} (h : KP g ρ H a o) (e : ρ <+: ρ') (t : TLe g H H') : KP g ρ' H' a o := by
  cases o with
  | ro xs => obtain ⟨vs, k, r⟩ := h; exact ⟨vs, k, r.mono e t⟩
  | _ => exact h
theorem KP.ob {a : Addr} {o : O} (h : KP g ρ H a o) : ObjR g ρ H a o := by
  cases o with
  | ro xs => obtain ⟨vs, k, r⟩ := h; exact ⟨vs, .inr k, r⟩
  | _ => exact h.elim
theorem ObjR.trk {a : Addr} {o : O} (h : ObjR g ρ H a o) : (∃ u, H a = some u) ∨ KP g ρ H a o := by
  cases o with
  | lst xs => obtain ⟨vs, e, _⟩ := h; exact .inl ⟨_, e⟩
  | ro xs =>
    obtain ⟨vs, (e | ⟨o, e⟩) | e, r⟩ := h
    · exact .inl ⟨_, e⟩
    · exact .inl ⟨_, e⟩
    · exact .inr ⟨vs, e, r⟩
  | hole => obtain ⟨vs, e⟩ := h; exact .inl ⟨_, e⟩
  | ins c fs => obtain ⟨dx, vs, e, _⟩ := h; exact .inl ⟨_, e⟩
  | dic kvs => obtain ⟨vs, e, _⟩ := h; exact .inl ⟨_, e⟩
  | dro kvs =>
    obtain ⟨vs, e | ⟨o, e⟩, _⟩ := h
    · exact .inl ⟨_, e⟩
    · exact .inl ⟨_, e⟩
  | dkn kvs => obtain ⟨o, es, ep, xs, e, _⟩ := h; exact .inl ⟨_, e⟩
theorem ObjR.mono {a : Addr} {o : O} (h : ObjR g ρ H a o) (e : ρ <+: ρ') (t : TLe g H H') (k : H' a = H a) : ObjR g ρ' H' a o := by
  cases o with
  | lst xs => obtain ⟨vs, q, r⟩ := h; exact ⟨vs, k.trans q, r.mono e t⟩
  | ro xs =>
    obtain ⟨vs, q, r⟩ := h
    refine ⟨vs, ?_, r.mono e t⟩
    unfold SqL Rd at q ⊢
    rw [k]
    exact q
  | hole => obtain ⟨vs, q⟩ := h; exact ⟨vs, k.trans q⟩
  | ins c fs => obtain ⟨dx, vs, q, r⟩ := h; exact ⟨dx, vs, k.trans q, r.mono e t⟩
  | dic kvs => obtain ⟨vs, q, r⟩ := h; exact ⟨vs, k.trans q, r.mono e t⟩
  | dro kvs =>
    obtain ⟨vs, q, r⟩ := h
    refine ⟨vs, ?_, r.mono e t⟩
    unfold Rd at q ⊢
    rw [k]
    exact q
  | dkn kvs => obtain ⟨o, es, ep, xs, q, h1, h2, h3, h4, h5, r⟩ := h; exact ⟨o, es, ep, xs, k.trans q, h1, h2, h3, h4, h5, r.mono e t⟩
/-- the store is that of the heap -/
structure SR (g : G) (ρ : List Addr) (st : S) (H : Hp) : Prop where
  len : ρ.length = st.length
  nd : ∀ (i j : Nat) (a : Addr) (oi oj : O), i ≠ j → ρ[i]? = some a → ρ[j]? = some a → st[i]? = some oi → st[j]? = some oj → KP g ρ H a oi ∨ KP g ρ H a oj
  ob : ∀ (n : Nat) (o : O) (a : Addr), st[n]? = some o → ρ[n]? = some a → ObjR g ρ H a o
theorem SR.at_ {st : S} (h : SR g ρ st H) {n : Nat} {o : O} (e : st[n]? = some o) : ∃ a, ρ[n]? = some a ∧ ObjR g ρ H a o := by
  have hn : n < st.length := (List.getElem?_eq_some_iff.mp e).1
  have hn' : n < ρ.length := by rw [h.len]; exact hn
  exact ⟨ρ[n], List.getElem?_eq_getElem hn', h.ob n o _ e (List.getElem?_eq_getElem hn')⟩
theorem TLe.of_same (h : ∀ b o, H b = some o → H' b = some o) : TLe g H H' := by
  refine ⟨?_, fun b o u q => h _ _ q⟩
  intro a vs q
  rcases q with (q | ⟨o, q⟩) | q
  · exact .inl (.inl (h _ _ q))
  · exact .inl (.inr ⟨o, h _ _ q⟩)
  · exact .inr q
theorem TLe.new {p : Addr} {u : HO} (hp : H p = none) : TLe g H (upd H p u) := TLe.of_same fun b o e => by rw [upd_ne (ne_of_none e hp)]; exact e
theorem TLe.put {p : Addr} {u0 u : HO} (hp : H p = some u0) (h1 : ∀ vs, u0 ≠ .tup vs) (h2 : ∀ o vs, u0 ≠ .frz o vs) : TLe g H (upd H p u) := by
  refine ⟨?_, fun b o u q => ?_⟩
  rotate_left
  · by_cases e : b = p
    · subst e
      rw [hp] at q
      exact (h2 o u (Option.some.inj q)).elim
    · rw [upd_ne e]
      exact q
  intro a vs q
  have ne : ∀ w, H a = some w → w ≠ u0 → a ≠ p := fun w e d z => by
    subst z
    rw [hp] at e
    exact d (Option.some.inj e).symm
  rcases q with (q | ⟨o, q⟩) | q
  · exact .inl (.inl (by rw [upd_ne (ne _ q (h1 vs).symm)]; exact q))
  · exact .inl (.inr ⟨o, by rw [upd_ne (ne _ q (h2 o _).symm)]; exact q⟩)
  · exact .inr q
theorem SR.same {st : S} (h : SR g ρ st H) (k : ∀ b o, H b = some o → H' b = some o) : SR g ρ st H' := by
  have tl : TLe g H H' := TLe.of_same k
  refine ⟨h.len, fun i j a oi oj ne r1 r2 s1 s2 => (h.nd i j a oi oj ne r1 r2 s1 s2).imp (fun z => z.mono (List.prefix_refl _) tl) (fun z => z.mono (List.prefix_refl _) tl), fun n o a e q => ?_⟩
  have ob := h.ob n o a e q
  rcases ob.trk with ⟨u, hu⟩ | kp
  · exact ob.mono (List.prefix_refl _) tl ((k _ _ hu).trans hu.symm)
  · exact (kp.mono (List.prefix_refl _) tl).ob
theorem get_snoc {α : Type} {l : List α} {x y : α} {n : Nat} (h : (l ++ [x])[n]? = some y) : (n < l.length ∧ l[n]? = some y) ∨ (n = l.length ∧ y = x) := by
  by_cases hn : n < l.length
  · rw [List.getElem?_append_left hn] at h
    exact .inl ⟨hn, h⟩
  · have hl : n < l.length + 1 := by
      have := (List.getElem?_eq_some_iff.mp h).1
      rw [List.length_append] at this
      exact this
    have en : n = l.length := by omega
    subst en
    rw [List.getElem?_append_right (Nat.le_refl _), Nat.sub_self] at h
    cases h
    exact .inr ⟨rfl, rfl⟩
theorem SR.new {st : S} (h : SR g ρ st H) {p : Addr} {u : HO} {o : O} (hp : H p = none) (ho : ObjR g (ρ ++ [p]) (upd H p u) p o) : SR g (ρ ++ [p]) (st ++ [o]) (upd H p u) := by
  have tl : TLe g H (upd H p u) := TLe.new hp
  have pre : ρ <+: ρ ++ [p] := List.prefix_append _ _
  have kp : ∀ (n : Nat) (o' : O), st[n]? = some o' → ρ[n]? = some p → KP g ρ H p o' := fun n o' e q => by
    rcases (h.ob n o' p e q).trk with ⟨u, hu⟩ | z
    · rw [hp] at hu
      cases hu
    · exact z
  refine ⟨by rw [List.length_append, List.length_append, h.len]; rfl, fun i j a oi oj ne r1 r2 s1 s2 => ?_, fun n o' a e q => ?_⟩
  · have hl := h.len
    rcases get_snoc r1 with ⟨l1, q1⟩ | ⟨l1, q1⟩ <;> rcases get_snoc r2 with ⟨l2, q2⟩ | ⟨l2, q2⟩ <;> rcases get_snoc s1 with ⟨m1, t1⟩ | ⟨m1, t1⟩ <;> rcases get_snoc s2 with ⟨m2, t2⟩ | ⟨m2, t2⟩ <;> clear r1 r2 s1 s2 <;> first
      | (exact (h.nd i j a oi oj ne q1 q2 t1 t2).imp (fun z => z.mono pre tl) (fun z => z.mono pre tl))
      | omega
      | (subst q2; exact .inl ((kp i oi t1 q1).mono pre tl))
      | (subst q1; exact .inr ((kp j oj t2 q2).mono pre tl))
  · have hl := h.len
    rcases get_snoc e with ⟨l1, x1⟩ | ⟨l1, x1⟩ <;> rcases get_snoc q with ⟨l2, x2⟩ | ⟨l2, x2⟩ <;> clear e q
    · by_cases ne : a = p
      · subst ne
        exact ((kp n o' x1 x2).mono pre tl).ob
      · exact (h.ob n o' a x1 x2).mono pre tl (upd_ne ne)
    · omega
    · omega
    · subst x1 x2
      exact ho
theorem SR.put {st : S} (h : SR g ρ st H) {n : Nat} {a : Addr} {u0 u : HO} {o o0 : O} (hn : ρ[n]? = some a) (h0 : st[n]? = some o0) (hro : ∀ xs, o0 ≠ .ro xs) (hp : H a = some u0) (h1 : ∀ vs, u0 ≠ .tup vs) (h2 : ∀ o vs, u0 ≠ .frz o vs) (ho : ObjR g ρ (upd H a u) a o) : SR g ρ (st.set n o) (upd H a u) := by
  have tl : TLe g H (upd H a u) := TLe.put hp h1 h2
  have nk : ¬ KP g ρ H a o0 := fun z => by
    cases o0 with
    | ro xs => exact hro xs rfl
    | _ => exact z
  have hl : n < st.length := (List.getElem?_eq_some_iff.mp h0).1
  have kp : ∀ (m : Nat) (o' : O), n ≠ m → st[m]? = some o' → ρ[m]? = some a → KP g ρ H a o' := fun m o' ne e q => (h.nd n m a o0 o' ne hn q h0 e).resolve_left nk
  refine ⟨by rw [List.length_set]; exact h.len, fun i j b oi oj ne r1 r2 s1 s2 => ?_, fun m o' b e q => ?_⟩
  · by_cases hi : n = i
    · subst hi
      rw [hn] at r1
      cases r1
      rw [List.getElem?_set_ne ne] at s2
      exact .inr ((kp j oj ne s2 r2).mono (List.prefix_refl _) tl)
    · rw [List.getElem?_set_ne hi] at s1
      by_cases hj : n = j
      · subst hj
        rw [hn] at r2
        cases r2
        exact .inl ((kp i oi hi s1 r1).mono (List.prefix_refl _) tl)
      · rw [List.getElem?_set_ne hj] at s2
        exact (h.nd i j b oi oj ne r1 r2 s1 s2).imp (fun z => z.mono (List.prefix_refl _) tl) (fun z => z.mono (List.prefix_refl _) tl)
  · by_cases hm : n = m
    · subst hm
      rw [List.getElem?_set_self hl] at e
      rw [hn] at q
      cases e
      cases q
      exact ho
    · rw [List.getElem?_set_ne hm] at e
      by_cases ne : b = a
      · subst ne
        exact ((kp m o' hm e q).mono (List.prefix_refl _) tl).ob
      · exact (h.ob m o' b e q).mono (List.prefix_refl _) tl (upd_ne ne)

def getL (s : S) (n : Nat) : Option (List D) := match s[n]? with
  | some (.lst xs) => some xs
  | some (.ro xs) => some xs
  | _ => none
def getW (s : S) (n : Nat) : Option (List D) := match s[n]? with
  | some (.lst xs) => some xs
  | _ => none
def seqOf (d : D) (s : S) : Option (List D) := match d with
  | .tup xs => some xs
  | .loc n => getL s n
  | _ => none
theorem SR.getL {st : S} (h : SR g ρ st H) {n : Nat} {xs : List D} (e : getL st n = some xs) : ∃ a vs, ρ[n]? = some a ∧ SqL g.K H a vs ∧ Reps g ρ H xs vs := by
  unfold Z.getL at e
  split at e
  · rename_i ys q
    cases e
    obtain ⟨a, r, vs, hv, rs⟩ := h.at_ q
    exact ⟨a, vs, r, .inl (.inl hv), rs⟩
  · rename_i ys q
    cases e
    obtain ⟨a, r, vs, hv, rs⟩ := h.at_ q
    exact ⟨a, vs, r, hv, rs⟩
  · cases e
theorem getW_eq {s : S} {n : Nat} {xs : List D} (e : getW s n = some xs) : s[n]? = some (.lst xs) := by
  unfold getW at e
  split at e
  · cases e
    assumption
  · cases e
theorem SR.getW {st : S} (h : SR g ρ st H) {n : Nat} {xs : List D} (e : getW st n = some xs) : ∃ a vs, ρ[n]? = some a ∧ H a = some (.lst vs) ∧ Reps g ρ H xs vs := by
  unfold Z.getW at e
  split at e
  · rename_i ys q
    cases e
    obtain ⟨a, r, vs, hv, rs⟩ := h.at_ q
    exact ⟨a, vs, r, hv, rs⟩
  · cases e
theorem SR.seq {st : S} (h : SR g ρ st H) {d : D} {v : V} {xs : List D} (e : seqOf d st = some xs) (r : Rep g ρ H d v) : ∃ a vs, v = .ref a ∧ (SqL g.K H a vs ∨ SqT g.K H a vs) ∧ Reps g ρ H xs vs := by
  unfold seqOf at e
  split at e
  · cases e
    obtain ⟨a, vs, e1, e2, e3⟩ := r.tup
    exact ⟨a, vs, e1, .inr e2, e3⟩
  · obtain ⟨a, vs, e1, e2, e3⟩ := h.getL e
    obtain ⟨b, q1, q2⟩ := r.loc
    rw [e1] at q1
    cases q1
    exact ⟨a, vs, q2, .inl e2, e3⟩
  · cases e

/-! ### what is wanted of an outcome -/
variable {α β α' β' : Type}
/-- what an exception's own fields are: none where its class has no __init__ -/
def RepX (g : G) (ρ : List Addr) (H : Hp) (fs : List (Str × D)) : Option Addr → Prop
  | none => fs = []
  | some dx => fs ≠ [] ∧ ∃ vs, H dx = some (.xd vs) ∧ RepF g ρ H fs vs
def PoE (g : G) (ρ : List Addr) (H : Hp) (E : XK) (rel : List Addr → Hp → α → β → Prop) (Q : β → Hp → Prop) : R α → Prop
  | .ok a st => ∀ ρ' H' b, ρ <+: ρ' → TLe g H H' → SR g ρ' st H' → rel ρ' H' a b → Q b H'
  | .exc c fs st => ∀ ρ' H' d, ρ <+: ρ' → TLe g H H' → SR g ρ' st H' → RepX g ρ' H' fs d → E (.ref (g.cad c)) d H'
  | .bad => False
section
variable {E : XK} {rel : List Addr → Hp → α → β → Prop} {rel' : List Addr → Hp → α' → β' → Prop} {Q : β → Hp → Prop} {Q' : β' → Hp → Prop}
theorem PoE.mono {r : R α} (p : PoE g ρ H E rel Q r) (e : ρ <+: ρ') (t : TLe g H H') : PoE g ρ' H' E rel Q r := by
  cases r with
  | ok a st => exact fun ρ2 H2 b e2 t2 s r => p ρ2 H2 b (e.trans e2) (t.trans t2) s r
  | exc c fs st => exact fun ρ2 H2 d e2 t2 s r => p ρ2 H2 d (e.trans e2) (t.trans t2) s r
  | bad => exact p
theorem PoE.bind {r : R α'} {f : α' → S → R α} (p : PoE g ρ H E rel Q (r.bind f))
    (k : ∀ ρ' H' a b st, ρ <+: ρ' → TLe g H H' → SR g ρ' st H' → rel' ρ' H' a b → PoE g ρ' H' E rel Q (f a st) → Q' b H') : PoE g ρ H E rel' Q' r := by
  cases r with
  | ok a st => exact fun ρ' H' b e t s r => k ρ' H' a b st e t s r (PoE.mono p e t)
  | exc c fs st => exact p
  | bad => exact p
theorem PoE.imp {r : R α} {Q1 : β → Hp → Prop} (p : PoE g ρ H E rel Q r) (k : ∀ b H', TLe g H H' → Q b H' → Q1 b H') : PoE g ρ H E rel Q1 r := by
  cases r with
  | ok a st => exact fun ρ' H' b e t s r => k _ _ t (p ρ' H' b e t s r)
  | exc c fs st => exact p
  | bad => exact p
theorem PoE.here {a : α} {st : S} {b : β} (p : PoE g ρ H E rel Q (.ok a st)) (s : SR g ρ st H) (r : rel ρ H a b) : Q b H := p ρ H b (List.prefix_refl _) TLe.refl s r
/-- a new object -/
theorem PoE.new {a : α} {st : S} {b : β} {p : Addr} {u : HO} (q : PoE g ρ H E rel Q (.ok a st)) (hp : H p = none) (s : SR g (ρ ++ [p]) st (upd H p u)) (r : rel (ρ ++ [p]) (upd H p u) a b) : Q b (upd H p u) :=
  q _ _ b (List.prefix_append _ _) (TLe.new hp) s r
end
end
/-- the slots -/
def Slo (g : G) (ρ : List Addr) (H : Hp) (es : Ev) (σ : L2.St) : Prop := es.length = σ.length ∧ ∀ (i : Nat) (d : D), es[i]? = some (some d) → ∃ v, σ[i]? = some (some v) ∧ Rep g ρ H d v
section
variable {g : G} {ρ ρ' : List Addr} {H H' : Hp} {es : Ev} {σ : L2.St}
theorem Slo.mono (h : Slo g ρ H es σ) (e : ρ <+: ρ') (t : TLe g H H') : Slo g ρ' H' es σ := ⟨h.1, fun i d q => by
  obtain ⟨v, q1, q2⟩ := h.2 i d q
  exact ⟨v, q1, q2.mono e t⟩⟩
theorem Slo.set (h : Slo g ρ H es σ) {d : D} {v : V} (i : Nat) (r : Rep g ρ H d v) : Slo g ρ H (es.set i (some d)) (σ.set i (some v)) := by
  refine ⟨by rw [List.length_set, List.length_set]; exact h.1, fun j d' q => ?_⟩
  by_cases hj : i = j
  · subst hj
    have l : i < es.length := by
      have := (List.getElem?_eq_some_iff.mp q).1
      rw [List.length_set] at this
      exact this
    rw [List.getElem?_set_self l] at q
    cases q
    exact ⟨v, List.getElem?_set_self (h.1 ▸ l), r⟩
  · rw [List.getElem?_set_ne hj] at q
    rw [List.getElem?_set_ne hj]
    exact h.2 j d' q
end
/-- readings by an outcome -/
def tG {α β : Type} (g : G) (E : XK) (rel : List Addr → Hp → α → β → Prop) (m : M α) : L2.St → Hp → (β → Hp → Prop) → Prop := fun σ H Q =>
  ∃ ρ es st, SR g ρ st H ∧ Slo g ρ H es σ ∧ PoE g ρ H E rel Q (m es st)
def tM (g : G) (E : XK) (m : M D) : TE := tG g E (Rep g) m
def tT (g : G) (E : XK) (m : M Bool) : TT := tG g E (fun _ _ a b => a = b) m
def tA (g : G) (E : XK) (m : M (List D)) : TA := tG g E (Reps g) m
theorem PE.imp {X : Cx} {e : Expr} {t t' : TE} (h : PE X e t) (k : ∀ σ H Q, t' σ H Q → t σ H Q) : PE X e t' := ⟨fun pins s σ H Q I q => h.run pins s σ H Q I (k σ H Q q)⟩
theorem PT.imp {X : Cx} {e : Expr} {t t' : TT} (h : PT X e t) (k : ∀ σ H Q, t' σ H Q → t σ H Q) : PT X e t' := ⟨fun pins s σ H Q I q => h.run pins s σ H Q I (k σ H Q q)⟩
theorem PA.imp {X : Cx} {e : List Expr} {t t' : TA} (h : PA X e t) (k : ∀ σ H Q, t' σ H Q → t σ H Q) : PA X e t' := ⟨fun pos pins s σ H Q I q => h.run pos pins s σ H Q I (k σ H Q q)⟩
theorem PW.imp {X : Cx} {e : Expr} {t t' : TT} (h : PW X e t) (k : ∀ σ H Q, t' σ H Q → t σ H Q) : PW X e t' := ⟨fun w pins s σ H Q I q => h.run w pins s σ H Q I (k σ H Q q)⟩
theorem PS.imp {X : Cx} {e : Stmt} {t t' : TS} (h : PS X e t) (k : ∀ D σ H, t' D σ H → t D σ H) : PS X e t' := ⟨fun pins s σ H D I q => h.run pins s σ H D I (k D σ H q)⟩
theorem PSs.imp {X : Cx} {e : List Stmt} {t t' : TS} (h : PSs X e t) (k : ∀ D σ H, t' D σ H → t D σ H) : PSs X e t' := ⟨fun pins s σ H D I q => h.run pins s σ H D I (k D σ H q)⟩
end Z
end
section
set_option Elab.async false
set_option linter.all false
set_option maxRecDepth 100000
set_option maxHeartbeats 4000000
/-! Z2: expressions. -/
namespace Z
open PySem PySem.Spec PyProof.Rows L2
theorem sz {n : Nat} (h : n ≤ 1000000) : n ≤ sizeLine := by rw [sizeLine_eq]; omega
theorem szS {n : Nat} (h : n ≤ 16000000) : n ≤ sizeLine := by rw [sizeLine_eq]; omega
theorem sz1 {n : Nat} (h : n < 1000000) : n < sizeLine := by rw [sizeLine_eq]; omega
abbrev gX (X : Cx) (cad : Nat → Addr) : G := ⟨X.K, cad⟩

/-! ### names, constants -/
def cVar (i : Nat) : M D := fun es st => match es[i]? with
  | some (some d) => .ok d st
  | _ => .bad
def cC (d : D) : M D := fun _ st => .ok d st
section
variable {X : Cx} {cad : Nat → Addr} {E : XK} {x : Str} {pos p : Pos}
theorem e_var (i : Nat) (hN : X.N[i]? = some x := by rfl) (hv : Vis X.env.scope x := by first | exact Or.inl rfl | exact Or.inr (Or.inl rfl) | exact Or.inr (Or.inr rfl)) (hd : (x == ("__debug__" : Str)) = false := by decide)
    (hcd : (x == ("__classdict__" : Str)) = false := by decide) : PE X (.Name x pos) (tM (gX X cad) E (cVar i)) := by
  refine PE.imp (pe_var hN hv hd hcd) fun σ H Q h => ?_
  obtain ⟨ρ, es, st, sr, sl, p⟩ := h
  unfold cVar at p
  split at p
  · rename_i d e
    obtain ⟨v, q1, q2⟩ := sl.2 i d e
    exact ⟨v, q1, p.here sr q2⟩
  · exact p.elim
theorem tC_imp {d : D} {v : V} (hd : ∀ ρ H, Rep (gX X cad) ρ H d v) : ∀ σ H Q, tM (gX X cad) E (cC d) σ H Q → tC v σ H Q := by
  intro σ H Q h
  obtain ⟨ρ, es, st, sr, sl, p⟩ := h
  exact PoE.here p sr (hd ρ H)
theorem e_int {i j} : PE X (.Constant (.int i) j pos) (tM (gX X cad) E (cC (.int i))) := PE.imp pe_int (tC_imp fun _ _ => rep_int)
theorem e_bl {b j} : PE X (.Constant (.bool b) j pos) (tM (gX X cad) E (cC (.bl b))) := PE.imp pe_bl (tC_imp fun _ _ => rep_bl)
theorem e_non {j} : PE X (.Constant .none j pos) (tM (gX X cad) E (cC .non)) := PE.imp pe_non (tC_imp fun _ _ => rep_non)
theorem e_str {s j} : PE X (.Constant (.str s) j pos) (tM (gX X cad) E (cC (.str s))) := PE.imp pe_str (tC_imp fun _ _ => rep_str)
/-- a constant of a module -/
theorem e_glob {d : D} {v : V} {u : Value} (hg : Gl X x) (hm : X.mg x = some u) (r : RelV v u) (hd : ∀ ρ H, Rep (gX X cad) ρ H d v) (hdb : (x == ("__debug__" : Str)) = false := by decide) : PE X (.Name x pos) (tM (gX X cad) E (cC d)) :=
  PE.imp (pe_glob hg hm r hdb) (tC_imp hd)
end

/-! ### operators by values -/
def c2 {α : Type} (ma mb : M D) (f : D → D → S → R α) : M α := fun es st => (ma es st).bind fun x s => (mb es s).bind fun y s => f x y s
def c1 {α : Type} (ma : M D) (f : D → S → R α) : M α := fun es st => (ma es st).bind fun x s => f x s
def OpM (X : Cx) (cad : Nat → Addr) (E : XK) (f : Value → Value → Sem Value) (b : D → D → S → R D) : Prop :=
  OpR X f (fun x y H Q => ∃ ρ st dx dy, SR (gX X cad) ρ st H ∧ Rep (gX X cad) ρ H dx x ∧ Rep (gX X cad) ρ H dy y ∧ PoE (gX X cad) ρ H E (Rep (gX X cad)) Q (b dx dy st))
def OpK (X : Cx) (cad : Nat → Addr) (E : XK) (f : Value → Value → Sem Value) (b : D → D → S → R Bool) : Prop :=
  OpR X f (fun x y H Q => ∃ ρ st dx dy, SR (gX X cad) ρ st H ∧ Rep (gX X cad) ρ H dx x ∧ Rep (gX X cad) ρ H dy y ∧ PoE (gX X cad) ρ H E (fun _ _ (a : Bool) (z : V) => z = .bl a) Q (b dx dy st))
section
variable {X : Cx} {cad : Nat → Addr} {E : XK} {a b c : Expr} {ma mb mc : M D} {pos : Pos}
theorem e_bin {op : Operator} {f : D → D → S → R D} (ho : OpM X cad E (binaryOp op) f) (ha : PE X a (tM (gX X cad) E ma)) (hb : PE X b (tM (gX X cad) E mb)) : PE X (.BinOp a op b pos) (tM (gX X cad) E (c2 ma mb f)) := by
  refine PE.imp (pe_op ho ha hb) fun σ H Q h => ?_
  obtain ⟨ρ, es, st, sr, sl, p⟩ := h
  refine ⟨ρ, es, st, sr, sl, p.bind fun ρ1 H1 x v1 st1 e1 t1 sr1 rx p1 => ⟨ρ1, es, st1, sr1, sl.mono e1 t1, p1.bind fun ρ2 H2 y v2 st2 e2 t2 sr2 ry p2 => ?_⟩⟩
  exact ⟨ρ2, st2, x, y, sr2, rx.mono e2 t2, ry, p2⟩
theorem e_cmp {op : CmpOp} {f : D → D → S → R Bool} (ho : OpK X cad E (compareOp op) f) (ha : PE X a (tM (gX X cad) E ma)) (hb : PE X b (tM (gX X cad) E mb)) (hm : behindInMarks op b = false := by first | exact nomark _ | rfl) :
    PE X (.Compare a [op] [b] pos) (tM (gX X cad) E (c2 ma mb fun x y s => (f x y s).bind fun k s => .ok (.bl k) s)) := by
  refine PE.imp (pe_cmpR ho ha hb hm) fun σ H Q h => ?_
  obtain ⟨ρ, es, st, sr, sl, p⟩ := h
  refine ⟨ρ, es, st, sr, sl, p.bind fun ρ1 H1 x v1 st1 e1 t1 sr1 rx p1 => ⟨ρ1, es, st1, sr1, sl.mono e1 t1, p1.bind fun ρ2 H2 y v2 st2 e2 t2 sr2 ry p2 => ?_⟩⟩
  refine ⟨ρ2, st2, x, y, sr2, rx.mono e2 t2, ry, p2.bind fun ρ3 H3 k z st3 e3 t3 sr3 rz p3 => ?_⟩
  subst rz
  exact p3.here sr3 rep_bl
theorem t_cmp {op : CmpOp} {f : D → D → S → R Bool} (ho : OpK X cad E (compareOp op) f) (ha : PE X a (tM (gX X cad) E ma)) (hb : PE X b (tM (gX X cad) E mb)) (hm : behindInMarks op b = false := by first | exact nomark _ | rfl) :
    PT X (.Compare a [op] [b] pos) (tT (gX X cad) E (c2 ma mb f)) := by
  refine PT.imp (pt_cmpR ho ha hb hm) fun σ H Q h => ?_
  obtain ⟨ρ, es, st, sr, sl, p⟩ := h
  refine ⟨ρ, es, st, sr, sl, p.bind fun ρ1 H1 x v1 st1 e1 t1 sr1 rx p1 => ⟨ρ1, es, st1, sr1, sl.mono e1 t1, p1.bind fun ρ2 H2 y v2 st2 e2 t2 sr2 ry p2 => ?_⟩⟩
  refine ⟨ρ2, st2, x, y, sr2, rx.mono e2 t2, ry, ?_⟩
  cases hf : f x y st2 with
  | ok k s3 =>
    rw [hf] at p2
    intro ρ' H' z e t s r
    exact ⟨k, r, p2 ρ' H' k e t s rfl⟩
  | exc c fs s3 => rw [hf] at p2; exact p2
  | bad => rw [hf] at p2; exact p2
end

/-! ### the arithmetic -/
/-- a new object -/
def nw (o : O) (s : S) : R D := .ok (.loc s.length) (s ++ [o])
def bAdd : D → D → S → R D
  | .int i, .int j, s => .ok (.int (i + j)) s
  | .str i, .str j, s => if i.length + j.length ≤ 16000000 then .ok (.str (i ++ j)) s else .bad
  | .tup xs, .tup ys, s => if xs.length + ys.length ≤ 1000000 then .ok (.tup (xs ++ ys)) s else .bad
  | .loc n, .loc m, s => match getW s n, getW s m with
    | some xs, some ys => if xs.length + ys.length ≤ 1000000 then nw (.lst (xs ++ ys)) s else .bad
    | _, _ => .bad
  | _, _, _ => .bad
def bSub : D → D → S → R D
  | .int i, .int j, s => .ok (.int (i - j)) s
  | _, _, _ => .bad
def bMul : D → D → S → R D
  | .int i, .int j, s => if ((-(2 ^ 64) < i ∧ i < 2 ^ 64) ∨ (-(2 ^ 64) < j ∧ j < 2 ^ 64)) ∨ i.natAbs.log2 + j.natAbs.log2 < 1000000 then .ok (.int (i * j)) s else .bad
  | .tup xs, .int k, s => if k = 1 then .ok (.tup xs) s else if xs ≠ [] ∧ 2 ≤ k ∧ k ≤ 1000 ∧ xs.length ≤ 1000 then .ok (.tup (List.replicate k.toNat xs).flatten) s else .bad
  | .loc n, .int k, s => match getW s n with
    | some xs => if -(2 ^ 63) ≤ k ∧ k < 2 ^ 63 ∧ xs.length * k.toNat ≤ 1000000 then nw (.lst (List.replicate k.toNat xs).flatten) s else .bad
    | none => .bad
  | _, _, _ => .bad
def bDiv : D → D → S → R D
  | .int i, .int j, s => if (j ≠ 0 ∧ j.natAbs < 1073741824) ∨ (0 < j ∧ j.natAbs.log2 < 9000) then .ok (.int (i.fdiv j)) s else .bad
  | _, _, _ => .bad
def bMod : D → D → S → R D
  | .int i, .int j, s => if j ≠ 0 then .ok (.int (i.fmod j)) s else .bad
  | _, _, _ => .bad
def bPow : D → D → S → R D
  | .int i, .int j, s => if 0 ≤ j ∧ j ≤ 1000000 ∧ i.natAbs < 2 ^ 64 then .ok (.int (i ^ j.toNat)) s else .bad
  | _, _, _ => .bad
section
variable {X : Cx} {cad : Nat → Addr} {E : XK}
theorem o_sub : OpM X cad E (binaryOp .Sub) bSub := by
  intro pins s σ H x y v u Q I rx ry h
  obtain ⟨ρ, st, dx, dy, sr, r1, r2, p⟩ := h
  unfold bSub at p
  split at p
  · cases r1.int
    cases r2.int
    exact op_sub pins s σ H _ _ v u Q I rx ry ⟨_, _, rfl, rfl, p.here sr rep_int⟩
  · exact p.elim
theorem o_mod : OpM X cad E (binaryOp .Mod) bMod := by
  intro pins s σ H x y v u Q I rx ry h
  obtain ⟨ρ, st, dx, dy, sr, r1, r2, p⟩ := h
  unfold bMod at p
  split at p
  · split at p
    · rename_i hj
      cases r1.int
      cases r2.int
      exact op_modN pins s σ H _ _ v u Q I rx ry ⟨_, _, rfl, rfl, hj, p.here sr rep_int⟩
    · exact p.elim
  · exact p.elim
theorem o_pow : OpM X cad E (binaryOp .Pow) bPow := by
  intro pins s σ H x y v u Q I rx ry h
  obtain ⟨ρ, st, dx, dy, sr, r1, r2, p⟩ := h
  unfold bPow at p
  split at p
  · split at p
    · rename_i hj
      cases r1.int
      cases r2.int
      exact op_pow pins s σ H _ _ v u Q I rx ry ⟨_, _, rfl, rfl, hj, p.here sr rep_int⟩
    · exact p.elim
  · exact p.elim
theorem lst_new {ρ : List Addr} {st : S} {H : Hp} {Q : VK} {zs : List D} {ws : List V} (sr : SR (gX X cad) ρ st H) (rz : Reps (gX X cad) ρ H zs ws) (p : PoE (gX X cad) ρ H E (Rep (gX X cad)) Q (nw (.lst zs) st)) :
    ∀ q, H q = none → Q (.ref q) (upd H q (.lst ws)) := fun q hq => by
  have t := TLe.new (g := gX X cad) (u := HO.lst ws) hq
  refine PoE.new p hq (sr.new hq ⟨ws, upd_same, rz.mono (List.prefix_append _ _) t⟩) (rep_loc ?_)
  rw [← sr.len, List.getElem?_append_right (Nat.le_refl _), Nat.sub_self]
  rfl
theorem tup_new {ρ : List Addr} {st : S} {H : Hp} {Q : VK} {zs : List D} {ws : List V} (sr : SR (gX X cad) ρ st H) (rz : Reps (gX X cad) ρ H zs ws) (p : PoE (gX X cad) ρ H E (Rep (gX X cad)) Q (.ok (.tup zs) st)) :
    ∀ q, H q = none → Q (.ref q) (upd H q (.tup ws)) := fun q hq => by
  have t := TLe.new (g := gX X cad) (u := HO.tup ws) hq
  exact p ρ _ _ (List.prefix_refl _) t (sr.same fun b o e => by rw [upd_ne (ne_of_none e hq)]; exact e) (rep_tup (.inl (.inl upd_same)) (rz.mono (List.prefix_refl _) t))
theorem o_add : OpM X cad E (binaryOp .Add) bAdd := by
  intro pins s σ H x y v u Q I rx ry h
  obtain ⟨ρ, st, dx, dy, sr, r1, r2, p⟩ := h
  unfold bAdd at p
  split at p
  · cases r1.int
    cases r2.int
    exact op_add pins s σ H _ _ v u Q I rx ry ⟨_, _, rfl, rfl, p.here sr rep_int⟩
  · split at p
    · rename_i hz
      cases r1.str
      cases r2.str
      exact op_add_str pins s σ H _ _ v u Q I rx ry ⟨_, _, rfl, rfl, szS hz, p.here sr rep_str⟩
    · exact p.elim
  · split at p
    · rename_i hz
      obtain ⟨a, vs, rfl, h1, k1⟩ := r1.tup
      obtain ⟨b, ws, rfl, h2, k2⟩ := r2.tup
      have ap := k1.append k2
      refine op_catA pins s σ H _ _ v u Q I rx ry ⟨a, b, vs, ws, rfl, rfl, h1, h2, by rw [k1.length, k2.length]; exact sz hz, fun e => ?_, fun _ e => ?_, fun _ _ => tup_new sr ap p⟩
      · subst e
        exact p.here sr (rep_tup h2 ap)
      · subst e
        rw [List.append_nil] at ap
        exact p.here sr (rep_tup h1 ap)
    · exact p.elim
  · split at p
    · rename_i xs ys e1 e2
      split at p
      · rename_i hz
        obtain ⟨a, q1, rfl⟩ := r1.loc
        obtain ⟨b, q2, rfl⟩ := r2.loc
        obtain ⟨a', vs, w1, h1, k1⟩ := sr.getW e1
        obtain ⟨b', ws, w2, h2, k2⟩ := sr.getW e2
        rw [q1] at w1
        rw [q2] at w2
        cases w1
        cases w2
        exact op_cat pins s σ H _ _ v u Q I rx ry ⟨a, b, vs, ws, rfl, rfl, h1, h2, by rw [k1.length, k2.length]; exact sz hz, lst_new sr (k1.append k2) p⟩
      · exact p.elim
    · exact p.elim
  · exact p.elim
theorem Reps.flat {g : G} {ρ : List Addr} {H : Hp} {xs : List D} {vs : List V} (h : Reps g ρ H xs vs) : ∀ k : Nat, Reps g ρ H (List.replicate k xs).flatten (List.replicate k vs).flatten
  | 0 => reps_nil
  | k + 1 => by
    rw [List.replicate_succ, List.replicate_succ, List.flatten_cons, List.flatten_cons]
    exact h.append (h.flat k)
theorem o_mul : OpM X cad E (binaryOp .Mult) bMul := by
  intro pins s σ H x y v u Q I rx ry h
  obtain ⟨ρ, st, dx, dy, sr, r1, r2, p⟩ := h
  unfold bMul at p
  split at p
  · split at p
    · rename_i hz
      cases r1.int
      cases r2.int
      rcases hz with hz | hz
      · exact op_mul pins s σ H _ _ v u Q I rx ry ⟨_, _, rfl, rfl, hz, p.here sr rep_int⟩
      · exact op_mulW pins s σ H _ _ v u Q I rx ry ⟨_, _, rfl, rfl, hz, p.here sr rep_int⟩
    · exact p.elim
  · split at p
    · rename_i hz
      subst hz
      obtain ⟨a, vs, rfl, h1, k1⟩ := r1.tup
      cases r2.int
      exact op_repT1 pins s σ H _ _ v u Q I rx ry ⟨a, vs, rfl, rfl, h1, p.here sr (rep_tup h1 k1)⟩
    split at p
    · rename_i hz
      obtain ⟨a, vs, rfl, h1, k1⟩ := r1.tup
      cases r2.int
      refine op_repT pins s σ H _ _ v u Q I rx ry ⟨a, _, vs, rfl, rfl, h1, fun e => hz.1 (List.eq_nil_of_length_eq_zero (by rw [← k1.length, e]; rfl)), hz.2.1, hz.2.2.1, by rw [k1.length]; exact hz.2.2.2, tup_new sr (k1.flat _) p⟩
    · exact p.elim
  · split at p
    · rename_i xs e1
      split at p
      · rename_i hz
        obtain ⟨a, q1, rfl⟩ := r1.loc
        cases r2.int
        obtain ⟨a', vs, w1, h1, k1⟩ := sr.getW e1
        rw [q1] at w1
        cases w1
        exact op_rep pins s σ H _ _ v u Q I rx ry ⟨a, _, vs, rfl, rfl, h1, hz.1, hz.2.1, by rw [k1.length]; exact sz hz.2.2, lst_new sr (k1.flat _) p⟩
      · exact p.elim
    · exact p.elim
  · exact p.elim
def uNeg : D → S → R D
  | .int i, s => .ok (.int (-i)) s
  | _, _ => .bad
end
end Z
end
section
set_option Elab.async false
set_option linter.all false
set_option maxRecDepth 100000
set_option maxHeartbeats 4000000
/-! Z3: comparisons, tests, displays, subscripts. -/
namespace Z
open PySem PySem.Spec PyProof.Rows L2

/-! ### data for == -/
def mapO {α β : Type} (f : α → Option β) : List α → Option (List β)
  | [] => some []
  | x :: xs => match f x, mapO f xs with
    | some y, some ys => some (y :: ys)
    | _, _ => none
def toP : Nat → S → D → Option PyData
  | 0, _, _ => none
  | _ + 1, _, .non => some .none
  | _ + 1, _, .bl b => some (.bool b)
  | _ + 1, _, .int i => some (.int i)
  | _ + 1, _, .str x => some (.str x)
  | k + 1, s, .tup xs => (mapO (toP k s) xs).map .tuple
  | k + 1, s, .loc n => (getL s n).bind fun xs => (mapO (toP k s) xs).map .list
  | _ + 1, _, .ty _ => none
  | _ + 1, _, .cls _ => none
section
variable {X : Cx} {cad : Nat → Addr} {E : XK} {g : G} {ρ : List Addr} {st : S} {H : Hp}
theorem toP_all (sr : SR g ρ st H) (k : Nat) (ih : ∀ (d : D) (v : V) (q : PyData), toP k st d = some q → Rep g ρ H d v → Dp g.K H v q) : ∀ (xs : List D) (vs : List V) (qs : List PyData), mapO (toP k st) xs = some qs → Reps g ρ H xs vs → DpAll g.K H vs qs
  | [], vs, qs, e, r => by
    unfold mapO at e
    cases e
    rw [r.nil]
    exact .nil
  | x :: xs, vs, qs, e, r => by
    unfold mapO at e
    split at e
    · rename_i y ys e1 e2
      cases e
      obtain ⟨v, ws, rfl, r1, r2⟩ := r.cons
      exact .cons (ih _ _ _ e1 r1) (toP_all sr k ih xs ws _ e2 r2)
    · cases e
theorem toP_ok (sr : SR g ρ st H) : ∀ (k : Nat) (d : D) (v : V) (q : PyData), toP k st d = some q → Rep g ρ H d v → Dp g.K H v q
  | 0, d, v, q, e, r => by simp [toP] at e
  | k + 1, .non, v, q, e, r => by simp [toP] at e; subst e; rw [r.non]; exact .non
  | k + 1, .bl b, v, q, e, r => by simp [toP] at e; subst e; rw [r.bl]; exact .bl _
  | k + 1, .int i, v, q, e, r => by simp [toP] at e; subst e; rw [r.int]; exact .int _
  | k + 1, .str i, v, q, e, r => by simp [toP] at e; subst e; rw [r.str]; exact .str _
  | k + 1, .ty i, v, q, e, r => by simp [toP] at e
  | k + 1, .cls i, v, q, e, r => by simp [toP] at e
  | k + 1, .tup xs, v, q, e, r => by
    simp only [toP, Option.map_eq_some_iff] at e
    obtain ⟨qs, e1, rfl⟩ := e
    obtain ⟨a, vs, rfl, h1, h2⟩ := r.tup
    exact .tup h1 (toP_all sr k (toP_ok sr k) xs vs qs e1 h2)
  | k + 1, .loc n, v, q, e, r => by
    simp only [toP, Option.bind_eq_some_iff, Option.map_eq_some_iff] at e
    obtain ⟨xs, e0, qs, e1, rfl⟩ := e
    obtain ⟨a, q1, rfl⟩ := r.loc
    obtain ⟨a', vs, w1, h1, h2⟩ := sr.getL e0
    rw [q1] at w1
    cases w1
    exact .lst h1 (toP_all sr k (toP_ok sr k) xs vs qs e1 h2)
def kEqD (x y : D) (s : S) : R Bool := match toP 40 s x, toP 40 s y with
  | some d, some e => if SeqAt.shaped d = true ∧ SeqAt.shaped e = true then .ok (PyData.eqv d e) s else .bad
  | _, _ => .bad
def kEq : D → D → S → R Bool
  | .int i, .int j, s => .ok (decide (i = j)) s
  | .str i, .str j, s => .ok (decide (i = j)) s
  | .bl i, .bl j, s => .ok (decide (i = j)) s
  | x, y, s => kEqD x y s
def rNot (r : R Bool) : R Bool := r.bind fun b s => .ok (!b) s
def kNe (x y : D) (s : S) : R Bool := rNot (kEq x y s)
def kLt : D → D → S → R Bool
  | .int i, .int j, s => .ok (decide (i < j)) s
  | .str i, .str j, s => .ok (decide (i.cps.toList < j.cps.toList)) s
  | _, _, _ => .bad
def kLe : D → D → S → R Bool
  | .int i, .int j, s => .ok (decide (i ≤ j)) s
  | _, _, _ => .bad
def kGt : D → D → S → R Bool
  | .int i, .int j, s => .ok (decide (j < i)) s
  | _, _, _ => .bad
def kGe : D → D → S → R Bool
  | .int i, .int j, s => .ok (decide (j ≤ i)) s
  | _, _, _ => .bad
def isNonD : D → Bool
  | .non => true
  | _ => false
def kIs : D → D → S → R Bool
  | x, .non, s => .ok (isNonD x) s
  | _, _, _ => .bad
def kIsNot (x y : D) (s : S) : R Bool := rNot (kIs x y s)
def flatD : D → Bool
  | .non => true
  | .bl _ => true
  | .int _ => true
  | .str _ => true
  | _ => false
def eqF : D → D → Bool
  | .non, .non => true
  | .bl a, .bl b => a == b
  | .bl a, .int b => (if a then 1 else 0) == b
  | .int a, .bl b => a == (if b then 1 else 0)
  | .int a, .int b => a == b
  | .str a, .str b => a == b
  | _, _ => false
def kIn (x y : D) (s : S) : R Bool := match seqOf y s with
  | some xs => if flatD x = true ∧ xs.all flatD = true then .ok (xs.any fun z => eqF z x) s else .bad
  | none => match x, y with
    | .str a, .str b => match a.cps.toList with
      | [c] => .ok (decide (c ∈ b.cps.toList)) s
      | _ => .bad
    | _, _ => .bad
def kNotIn (x y : D) (s : S) : R Bool := rNot (kIn x y s)
theorem flat_V {d : D} {v : V} (f : flatD d = true) (r : Rep g ρ H d v) : flatV v = true := by
  cases d with
  | non => rw [r.non]; rfl
  | bl b => rw [r.bl]; rfl
  | int b => rw [r.int]; rfl
  | str b => rw [r.str]; rfl
  | _ => exact absurd (show false = true from f) Bool.false_ne_true
theorem flats_V : ∀ {ds : List D} {vs : List V}, ds.all flatD = true → Reps g ρ H ds vs → vs.all flatV = true
  | [], _, _, r => by rw [r.nil]; rfl
  | d :: ds, _, f, r => by
    obtain ⟨v, ws, rfl, r1, r2⟩ := r.cons
    rw [List.all_cons, Bool.and_eq_true] at f
    rw [List.all_cons, flat_V f.1 r1, flats_V f.2 r2]
    rfl
theorem eqF_V {d e : D} {v w : V} (fd : flatD d = true) (fe : flatD e = true) (r : Rep g ρ H d v) (q : Rep g ρ H e w) : eqV v w = eqF d e := by
  cases d with
  | non => rw [r.non]; cases e with
    | non => rw [q.non]; rfl
    | bl b => rw [q.bl]; rfl
    | int b => rw [q.int]; rfl
    | str b => rw [q.str]; rfl
    | _ => exact absurd (show false = true from fe) Bool.false_ne_true
  | bl a => rw [r.bl]; cases e with
    | non => rw [q.non]; rfl
    | bl b => rw [q.bl]; rfl
    | int b => rw [q.int]; rfl
    | str b => rw [q.str]; rfl
    | _ => exact absurd (show false = true from fe) Bool.false_ne_true
  | int a => rw [r.int]; cases e with
    | non => rw [q.non]; rfl
    | bl b => rw [q.bl]; rfl
    | int b => rw [q.int]; rfl
    | str b => rw [q.str]; rfl
    | _ => exact absurd (show false = true from fe) Bool.false_ne_true
  | str a => rw [r.str]; cases e with
    | non => rw [q.non]; rfl
    | bl b => rw [q.bl]; rfl
    | int b => rw [q.int]; rfl
    | str b => rw [q.str]; rfl
    | _ => exact absurd (show false = true from fe) Bool.false_ne_true
  | _ => exact absurd (show false = true from fd) Bool.false_ne_true
theorem inF_V {d : D} {v : V} (fd : flatD d = true) (r : Rep g ρ H d v) : ∀ {ds : List D} {vs : List V}, ds.all flatD = true → Reps g ρ H ds vs → (vs.any fun z => eqV z v) = ds.any fun z => eqF z d
  | [], _, _, q => by rw [q.nil]; rfl
  | e :: ds, _, f, q => by
    obtain ⟨w, ws, rfl, r1, r2⟩ := q.cons
    rw [List.all_cons, Bool.and_eq_true] at f
    rw [List.any_cons, List.any_cons, eqF_V f.1 fd r1 r, inF_V fd r f.2 r2]
theorem isNon_V {d : D} {v : V} (r : Rep g ρ H d v) : decide (v = .non) = isNonD d := by
  cases d with
  | non => rw [r.non]; rfl
  | bl b => rw [r.bl]; rfl
  | int b => rw [r.int]; rfl
  | str b => rw [r.str]; rfl
  | ty b => rw [r.ty]; rfl
  | cls b => rw [r.cls]; rfl
  | tup xs => obtain ⟨a, vs, rfl, _⟩ := r.tup; rfl
  | loc n => obtain ⟨a, _, rfl⟩ := r.loc; rfl
end
section
variable {X : Cx} {cad : Nat → Addr} {E : XK}
theorem k_eqD {pins : List (Addr × Obj)} {s : Shared} {σ : L2.St} {H : Hp} {x y : V} {v u : Value} {Q : VK} {ρ : List Addr} {st : S} {dx dy : D} (hu : X.A.units + 64 < cLine) (I : Inv X pins σ H s) (rx : RelV x v) (ry : RelV y u)
    (sr : SR (gX X cad) ρ st H) (r1 : Rep (gX X cad) ρ H dx x) (r2 : Rep (gX X cad) ρ H dy y) (p : PoE (gX X cad) ρ H E (fun _ _ (a : Bool) (z : V) => z = .bl a) Q (kEqD dx dy st)) : wpAny (model X.prog X.w) X.A (compareOp .Eq v u) (EP X pins σ Q) X.xe s := by
  unfold kEqD at p
  split at p
  · rename_i d e e1 e2
    split at p
    · rename_i hz
      exact op_eqD hu pins s σ H _ _ v u Q I rx ry ⟨d, e, toP_ok sr _ _ _ _ e1 r1, toP_ok sr _ _ _ _ e2 r2, hz.1, hz.2, p.here sr rfl⟩
    · exact p.elim
  · exact p.elim
theorem k_eq (hu : X.A.units + 64 < cLine) : OpK X cad E (compareOp .Eq) kEq := by
  intro pins s σ H x y v u Q I rx ry h
  obtain ⟨ρ, st, dx, dy, sr, r1, r2, p⟩ := h
  unfold kEq at p
  split at p
  · cases r1.int
    cases r2.int
    exact op_eq pins s σ H _ _ v u Q I rx ry ⟨rfl, p.here sr (by simp)⟩
  · cases r1.str
    cases r2.str
    exact op_eq pins s σ H _ _ v u Q I rx ry ⟨rfl, p.here sr (by simp)⟩
  · cases r1.bl
    cases r2.bl
    exact op_eq pins s σ H _ _ v u Q I rx ry ⟨rfl, p.here sr (by simp)⟩
  · exact k_eqD hu I rx ry sr r1 r2 p
theorem PoE.not {ρ : List Addr} {H : Hp} {Q : VK} {g : G} {r : R Bool} (p : PoE g ρ H E (fun _ _ (a : Bool) (z : V) => z = .bl a) Q (rNot r)) : PoE g ρ H E (fun _ _ (a : Bool) (z : V) => z = .bl a) (fun z H' => ∃ k, z = .bl k ∧ Q (.bl (!k)) H') r :=
  PoE.bind p fun ρ1 H1 a b s1 e1 t1 sr1 rb p1 => ⟨a, rb, p1.here sr1 rfl⟩
theorem k_neD {pins : List (Addr × Obj)} {s : Shared} {σ : L2.St} {H : Hp} {x y : V} {v u : Value} {Q : VK} {ρ : List Addr} {st : S} {dx dy : D} (hu : X.A.units + 64 < cLine) (I : Inv X pins σ H s) (rx : RelV x v) (ry : RelV y u)
    (sr : SR (gX X cad) ρ st H) (r1 : Rep (gX X cad) ρ H dx x) (r2 : Rep (gX X cad) ρ H dy y) (p : PoE (gX X cad) ρ H E (fun _ _ (a : Bool) (z : V) => z = .bl a) Q (rNot (kEqD dx dy st))) : wpAny (model X.prog X.w) X.A (compareOp .NotEq v u) (EP X pins σ Q) X.xe s := by
  unfold kEqD at p
  split at p
  · rename_i d e e1 e2
    split at p
    · rename_i hz
      exact op_neD hu pins s σ H _ _ v u Q I rx ry ⟨d, e, toP_ok sr _ _ _ _ e1 r1, toP_ok sr _ _ _ _ e2 r2, hz.1, hz.2, p.here sr rfl⟩
    · exact p.elim
  · exact p.elim
theorem k_ne (hu : X.A.units + 64 < cLine) : OpK X cad E (compareOp .NotEq) kNe := by
  intro pins s σ H x y v u Q I rx ry h
  obtain ⟨ρ, st, dx, dy, sr, r1, r2, p⟩ := h
  unfold kNe kEq at p
  split at p
  · cases r1.int
    cases r2.int
    exact op_ne pins s σ H _ _ v u Q I rx ry ⟨rfl, p.here sr (by simp)⟩
  · cases r1.str
    cases r2.str
    exact op_ne pins s σ H _ _ v u Q I rx ry ⟨rfl, p.here sr (by simp)⟩
  · cases r1.bl
    cases r2.bl
    exact op_ne pins s σ H _ _ v u Q I rx ry ⟨rfl, p.here sr (by simp)⟩
  · exact k_neD hu I rx ry sr r1 r2 p
theorem k_lt : OpK X cad E (compareOp .Lt) kLt := by
  intro pins s σ H x y v u Q I rx ry h
  obtain ⟨ρ, st, dx, dy, sr, r1, r2, p⟩ := h
  unfold kLt at p
  split at p
  · cases r1.int
    cases r2.int
    exact op_lt pins s σ H _ _ v u Q I rx ry ⟨_, _, rfl, rfl, p.here sr rfl⟩
  · cases r1.str
    cases r2.str
    exact op_lt_str pins s σ H _ _ v u Q I rx ry ⟨_, _, rfl, rfl, p.here sr rfl⟩
  · exact p.elim
theorem k_le : OpK X cad E (compareOp .LtE) kLe := by
  intro pins s σ H x y v u Q I rx ry h
  obtain ⟨ρ, st, dx, dy, sr, r1, r2, p⟩ := h
  unfold kLe at p
  split at p
  · cases r1.int
    cases r2.int
    exact op_le pins s σ H _ _ v u Q I rx ry ⟨_, _, rfl, rfl, p.here sr rfl⟩
  · exact p.elim
theorem k_gt : OpK X cad E (compareOp .Gt) kGt := by
  intro pins s σ H x y v u Q I rx ry h
  obtain ⟨ρ, st, dx, dy, sr, r1, r2, p⟩ := h
  unfold kGt at p
  split at p
  · cases r1.int
    cases r2.int
    exact op_gt pins s σ H _ _ v u Q I rx ry ⟨_, _, rfl, rfl, p.here sr rfl⟩
  · exact p.elim
theorem k_ge : OpK X cad E (compareOp .GtE) kGe := by
  intro pins s σ H x y v u Q I rx ry h
  obtain ⟨ρ, st, dx, dy, sr, r1, r2, p⟩ := h
  unfold kGe at p
  split at p
  · cases r1.int
    cases r2.int
    exact op_ge pins s σ H _ _ v u Q I rx ry ⟨_, _, rfl, rfl, p.here sr rfl⟩
  · exact p.elim
theorem kq_is : OpK X cad E (compareOp .Is) kIs := by
  intro pins s σ H x y v u Q I rx ry h
  obtain ⟨ρ, st, dx, dy, sr, r1, r2, p⟩ := h
  unfold kIs at p
  split at p
  · cases r2.non
    exact op_isN pins s σ H _ _ v u Q I rx ry ⟨rfl, by rw [isNon_V r1]; exact p.here sr rfl⟩
  · exact p.elim
theorem kq_isNot : OpK X cad E (compareOp .IsNot) kIsNot := by
  intro pins s σ H x y v u Q I rx ry h
  obtain ⟨ρ, st, dx, dy, sr, r1, r2, p⟩ := h
  unfold kIsNot kIs at p
  split at p
  · cases r2.non
    exact op_notN pins s σ H _ _ v u Q I rx ry ⟨rfl, by rw [isNon_V r1]; exact p.here sr rfl⟩
  · exact p.elim
theorem kq_in : OpK X cad E (compareOp .In) kIn := by
  intro pins s σ H x y v u Q I rx ry h
  obtain ⟨ρ, st, dx, dy, sr, r1, r2, p⟩ := h
  unfold kIn at p
  split at p
  · rename_i xs e1
    split at p
    · rename_i hz
      obtain ⟨a, vs, rfl, h1, k1⟩ := sr.seq e1 r2
      refine op_in_seq pins s σ H _ _ v u Q I rx ry ⟨a, vs, rfl, h1, flat_V hz.1 r1, flats_V hz.2 k1, ?_⟩
      have e := inF_V hz.1 r1 hz.2 k1
      show Q (.bl (vs.any fun z => eqV z x)) H
      rw [e]
      exact p.here sr rfl
    · exact p.elim
  · split at p
    · rename_i a b _
      split at p
      · rename_i c e2
        cases r1.str
        cases r2.str
        have ea : a = ⟨#[c]⟩ := by
          obtain ⟨l⟩ := a
          have e3 : l.toList = [c] := e2
          congr 1
          exact Array.ext' (by simpa using e3)
        subst ea
        exact op_in_sign pins s σ H _ _ v u Q I rx ry ⟨c, b, rfl, rfl, p.here sr rfl⟩
      · exact p.elim
    · exact p.elim
theorem kq_notIn : OpK X cad E (compareOp .NotIn) kNotIn := by
  intro pins s σ H x y v u Q I rx ry h
  obtain ⟨ρ, st, dx, dy, sr, r1, r2, p⟩ := h
  unfold kNotIn kIn at p
  split at p
  · rename_i xs e1
    split at p
    · rename_i hz
      obtain ⟨a, vs, rfl, h1, k1⟩ := sr.seq e1 r2
      refine op_notIn_seq pins s σ H _ _ v u Q I rx ry ⟨a, vs, rfl, h1, flat_V hz.1 r1, flats_V hz.2 k1, ?_⟩
      have e := inF_V hz.1 r1 hz.2 k1
      show Q (.bl (!(vs.any fun z => eqV z x))) H
      rw [e]
      exact p.here sr rfl
    · exact p.elim
  · split at p
    · rename_i a b _
      split at p
      · rename_i c e2
        cases r1.str
        cases r2.str
        have ea : a = ⟨#[c]⟩ := by
          obtain ⟨l⟩ := a
          have e3 : l.toList = [c] := e2
          congr 1
          exact Array.ext' (by simpa using e3)
        subst ea
        exact op_notIn_sign pins s σ H _ _ v u Q I rx ry ⟨c, b, rfl, rfl, p.here sr rfl⟩
      · exact p.elim
    · exact p.elim
end
end Z
end
section
set_option Elab.async false
set_option linter.all false
set_option maxRecDepth 100000
set_option maxHeartbeats 4000000
/-! Z4: and, or, not, tests, displays, subscripts, slices, builtins, methods of lists, fields. -/
namespace Z
open PySem PySem.Spec PyProof.Rows L2

/-! ### and, or, not; tests -/
def vAnd (ma mb : M D) : M D := fun es st => (ma es st).bind fun x s => match x with
  | .bl true => mb es s
  | .bl false => .ok (.bl false) s
  | _ => .bad
def vOr (ma mb : M D) : M D := fun es st => (ma es st).bind fun x s => match x with
  | .bl true => .ok (.bl true) s
  | .bl false => mb es s
  | _ => .bad
def vNot (ma : M D) : M D := fun es st => (ma es st).bind fun x s => match x with
  | .bl k => .ok (.bl (!k)) s
  | _ => .bad
def cAnd (ma mb : M Bool) : M Bool := fun es st => (ma es st).bind fun k s => match k with
  | true => mb es s
  | false => .ok false s
def cOr (ma mb : M Bool) : M Bool := fun es st => (ma es st).bind fun k s => match k with
  | true => .ok true s
  | false => mb es s
def cNot (ma : M Bool) : M Bool := fun es st => (ma es st).bind fun k s => .ok (!k) s
def cIf {α : Type} (mc : M Bool) (ma mb : M α) : M α := fun es st => (mc es st).bind fun k s => match k with
  | true => ma es s
  | false => mb es s
def truD : D → S → R Bool
  | .non, s => .ok false s
  | .bl b, s => .ok b s
  | .int i, s => .ok (i != 0) s
  | .tup xs, s => .ok (!xs.isEmpty) s
  | .loc n, s => match getL s n with
    | some xs => .ok (!xs.isEmpty) s
    | none => .bad
  | _, _ => .bad
theorem Reps.empty {g : G} {ρ : List Addr} {H : Hp} {ds : List D} {vs : List V} (h : Reps g ρ H ds vs) : vs.isEmpty = ds.isEmpty := by
  cases ds with
  | nil => rw [h.nil]; rfl
  | cons d ds => obtain ⟨v, r, rfl, _, _⟩ := h.cons; rfl
section
variable {X : Cx} {cad : Nat → Addr} {E : XK} {a b c : Expr} {rest : List Expr} {ma mb mc : M D} {ta tb : M Bool} {pos : Pos}
theorem e_one {op} (h : PE X a (tM (gX X cad) E ma)) : PE X (.BoolOp op [a] pos) (tM (gX X cad) E ma) := pe_one h
theorem e_and (ha : PE X a (tM (gX X cad) E ma)) (hb : PE X (.BoolOp .And (b :: rest) pos) (tM (gX X cad) E mb)) : PE X (.BoolOp .And (a :: b :: rest) pos) (tM (gX X cad) E (vAnd ma mb)) := by
  refine PE.imp (pe_and ha hb) fun σ H Q h => ?_
  obtain ⟨ρ, es, st, sr, sl, p⟩ := h
  refine ⟨ρ, es, st, sr, sl, p.bind fun ρ1 H1 x v1 st1 e1 t1 sr1 rx p1 => ?_⟩
  split at p1
  · exact ⟨true, rx.bl, iteT ⟨ρ1, es, st1, sr1, sl.mono e1 t1, p1⟩⟩
  · exact ⟨false, rx.bl, iteF (p1.here sr1 rep_bl)⟩
  · exact p1.elim
theorem e_not (ha : PE X a (tM (gX X cad) E ma)) : PE X (.UnaryOp .Not a pos) (tM (gX X cad) E (vNot ma)) := by
  refine PE.imp (pe_not ha) fun σ H Q h => ?_
  obtain ⟨ρ, es, st, sr, sl, p⟩ := h
  refine ⟨ρ, es, st, sr, sl, p.bind fun ρ1 H1 x v1 st1 e1 t1 sr1 rx p1 => ?_⟩
  split at p1
  · exact ⟨_, rx.bl, p1.here sr1 rep_bl⟩
  · exact p1.elim
theorem w_and1 (ha : PT X a (tT (gX X cad) E ta)) : PW X (.BoolOp .And [a] pos) (tT (gX X cad) E ta) := pw_and1 ha
theorem w_or1 (ha : PT X a (tT (gX X cad) E ta)) : PW X (.BoolOp .Or [a] pos) (tT (gX X cad) E ta) := pw_or1 ha
theorem w_and (ha : PT X a (tT (gX X cad) E ta)) (hb : PW X (.BoolOp .And (b :: rest) pos) (tT (gX X cad) E tb)) : PW X (.BoolOp .And (a :: b :: rest) pos) (tT (gX X cad) E (cAnd ta tb)) := by
  refine PW.imp (pw_and ha hb) fun σ H Q h => ?_
  obtain ⟨ρ, es, st, sr, sl, p⟩ := h
  refine ⟨ρ, es, st, sr, sl, p.bind fun ρ1 H1 k v1 st1 e1 t1 sr1 rx p1 => ?_⟩
  subst rx
  cases k with
  | true => exact iteT ⟨ρ1, es, st1, sr1, sl.mono e1 t1, p1⟩
  | false => exact iteF (p1.here sr1 rfl)
theorem w_or (ha : PT X a (tT (gX X cad) E ta)) (hb : PW X (.BoolOp .Or (b :: rest) pos) (tT (gX X cad) E tb)) : PW X (.BoolOp .Or (a :: b :: rest) pos) (tT (gX X cad) E (cOr ta tb)) := by
  refine PW.imp (pw_or ha hb) fun σ H Q h => ?_
  obtain ⟨ρ, es, st, sr, sl, p⟩ := h
  refine ⟨ρ, es, st, sr, sl, p.bind fun ρ1 H1 k v1 st1 e1 t1 sr1 rx p1 => ?_⟩
  subst rx
  cases k with
  | true => exact iteT (p1.here sr1 rfl)
  | false => exact iteF ⟨ρ1, es, st1, sr1, sl.mono e1 t1, p1⟩
theorem t_w {e : Expr} (h : PW X e (tT (gX X cad) E ta)) : PT X e (tT (gX X cad) E ta) := h.pt
theorem t_not (ha : PT X a (tT (gX X cad) E ta)) : PT X (.UnaryOp .Not a pos) (tT (gX X cad) E (cNot ta)) := by
  refine PT.imp (pt_not ha) fun σ H Q h => ?_
  obtain ⟨ρ, es, st, sr, sl, p⟩ := h
  refine ⟨ρ, es, st, sr, sl, p.bind fun ρ1 H1 k v1 st1 e1 t1 sr1 rx p1 => ?_⟩
  subst rx
  exact p1.here sr1 rfl
theorem t_val (ha : PE X a (tM (gX X cad) E ma)) (he : ∀ whole, isTrue a X.env whole = (do let v ← whole; standAt a.pos; holding [v] (truthy v)) := by intro _; rfl) : PT X a (tT (gX X cad) E (c1 ma truD)) := by
  refine PT.imp (pt_truth ha he) fun σ H Q h => ?_
  obtain ⟨ρ, es, st, sr, sl, p⟩ := h
  refine ⟨ρ, es, st, sr, sl, p.bind fun ρ1 H1 x v1 st1 e1 t1 sr1 rx p1 => ?_⟩
  unfold truD at p1
  split at p1
  · exact ⟨false, by rw [rx.non]; rfl, p1.here sr1 rfl⟩
  · exact ⟨_, by rw [rx.bl]; rfl, p1.here sr1 rfl⟩
  · exact ⟨_, by rw [rx.int]; rfl, p1.here sr1 rfl⟩
  · obtain ⟨a, vs, rfl, h1, h2⟩ := rx.tup
    refine ⟨!vs.isEmpty, .inr (.inl ⟨vs, h1, rfl⟩), p1.here sr1 ?_⟩
    rw [h2.empty]
  · split at p1
    · rename_i xs e2
      obtain ⟨a, q1, rfl⟩ := rx.loc
      obtain ⟨a', vs, w1, h1, h2⟩ := sr1.getL e2
      rw [q1] at w1
      cases w1
      refine ⟨!vs.isEmpty, .inl ⟨vs, h1, rfl⟩, p1.here sr1 ?_⟩
      rw [h2.empty]
    · exact p1.elim
  · exact p1.elim
end

/-! ### displays -/
def cNil : M (List D) := fun _ st => .ok [] st
def cCons (ma : M D) (mr : M (List D)) : M (List D) := fun es st => (ma es st).bind fun x s => (mr es s).bind fun xs s => .ok (x :: xs) s
def cTup (mA : M (List D)) : M D := fun es st => (mA es st).bind fun xs s => if xs.length ≤ 1000000 then .ok (.tup xs) s else .bad
def cLst (mA : M (List D)) : M D := fun es st => (mA es st).bind fun xs s => if xs.length ≤ 1000000 then nw (.lst xs) s else .bad
section
variable {X : Cx} {cad : Nat → Addr} {E : XK} {e : Expr} {es : List Expr} {ma : M D} {mA : M (List D)} {pos : Pos}
theorem a_nil : PA X [] (tA (gX X cad) E cNil) := PA.imp pa_nil fun σ H Q h => by
  obtain ⟨ρ, es, st, sr, sl, p⟩ := h
  exact PoE.here p sr reps_nil
theorem a_cons (ha : PE X e (tM (gX X cad) E ma)) (hr : PA X es (tA (gX X cad) E mA)) (hs : starEach (e :: es) X.env = (false, eval e X.env) :: starEach es X.env := by rfl) : PA X (e :: es) (tA (gX X cad) E (cCons ma mA)) := by
  refine PA.imp (pa_cons ha hr hs) fun σ H Q h => ?_
  obtain ⟨ρ, es, st, sr, sl, p⟩ := h
  refine ⟨ρ, es, st, sr, sl, p.bind fun ρ1 H1 x v1 st1 e1 t1 sr1 rx p1 => ⟨ρ1, es, st1, sr1, sl.mono e1 t1, p1.bind fun ρ2 H2 xs vs st2 e2 t2 sr2 rxs p2 => ?_⟩⟩
  exact p2.here sr2 (reps_cons (rx.mono e2 t2) rxs)
theorem e_tup {x1} (h : PA X es (tA (gX X cad) E mA)) : PE X (.Tuple es x1 pos) (tM (gX X cad) E (cTup mA)) := by
  refine PE.imp (pe_tup h) fun σ H Q h => ?_
  obtain ⟨ρ, es, st, sr, sl, p⟩ := h
  refine ⟨ρ, es, st, sr, sl, p.bind fun ρ1 H1 xs vs st1 e1 t1 sr1 rx p1 => ?_⟩
  split at p1
  · rename_i hz
    exact ⟨by rw [rx.length]; exact sz hz, tup_new sr1 rx p1⟩
  · exact p1.elim
theorem e_lst (h : PA X es (tA (gX X cad) E mA)) : PE X (.List es pos) (tM (gX X cad) E (cLst mA)) := by
  refine PE.imp (pe_lst h) fun σ H Q h => ?_
  obtain ⟨ρ, es, st, sr, sl, p⟩ := h
  refine ⟨ρ, es, st, sr, sl, p.bind fun ρ1 H1 xs vs st1 e1 t1 sr1 rx p1 => ?_⟩
  split at p1
  · rename_i hz
    exact ⟨by rw [rx.length]; exact sz hz, lst_new sr1 rx p1⟩
  · exact p1.elim
end

/-! ### subscripts, slices -/
def ixD : D → D → S → R D
  | .tup xs, .int i, s => match atI xs i with
    | some d => .ok d s
    | none => .bad
  | .loc n, .int i, s => match getL s n with
    | some xs => match atI xs i with
      | some d => .ok d s
      | none => .bad
    | none => .bad
  | .str z, .int i, s => if z.length ≤ 16000000 then match atI z.cps.toList i with
      | some c => .ok (.str ⟨#[c]⟩) s
      | none => .bad
    else .bad
  | _, _, _ => .bad
theorem Reps.atI {g : G} {ρ : List Addr} {H : Hp} {ds : List D} {vs : List V} {i : Int} {d : D} (h : Reps g ρ H ds vs) (e : atI ds i = some d) : ∃ v, L2.atI vs i = some v ∧ Rep g ρ H d v := by
  unfold L2.atI at e ⊢
  rw [h.length]
  cases q : ixN ds.length i with
  | none => rw [q] at e; cases e
  | some j =>
    rw [q] at e
    exact h.get e
def cutD (xs : List D) (lo hi : Option Int) : List D := (xs.drop (HT.sIx xs.length 0 lo)).take (HT.sIx xs.length xs.length hi - HT.sIx xs.length 0 lo)
theorem Reps.cut {g : G} {ρ : List Addr} {H : Hp} {ds : List D} {vs : List V} (h : Reps g ρ H ds vs) (lo hi : Option Int) : Reps g ρ H (cutD ds lo hi) (cutV vs lo hi) := by
  unfold cutD cutV
  rw [h.length]
  exact (h.drop _).take _
def tO (g : G) (E : XK) (m : M (Option Int)) : TO := tG g E (fun _ _ a b => a = b) m
def cNoPart : M (Option Int) := fun _ st => .ok none st
def cPart (ma : M D) : M (Option Int) := fun es st => (ma es st).bind fun d s => match d with
  | .int i => .ok (some i) s
  | _ => .bad
def slD (d : D) (lo hi : Option Int) (s : S) : R D := match d with
  | .tup xs => .ok (.tup (cutD xs lo hi)) s
  | .loc n => match getL s n with
    | some xs => nw (.lst (cutD xs lo hi)) s
    | none => .bad
  | .str z => if z.length ≤ 16000000 then .ok (.str (cutS z lo hi)) s else .bad
  | _ => .bad
def cSlice (ma : M D) (ml mh : M (Option Int)) : M D := fun es st => (ma es st).bind fun d s => (ml es s).bind fun lo s => (mh es s).bind fun hi s => slD d lo hi s
section
variable {X : Cx} {cad : Nat → Addr} {E : XK} {a b e : Expr} {ma mb : M D} {ml mh : M (Option Int)} {lo hi : Option Expr} {pos p2 : Pos}
theorem o_ix : IxR X (fun x y H Q => ∃ ρ st dx dy, SR (gX X cad) ρ st H ∧ Rep (gX X cad) ρ H dx x ∧ Rep (gX X cad) ρ H dy y ∧ PoE (gX X cad) ρ H E (Rep (gX X cad)) Q (ixD dx dy st)) := by
  intro value slice pins s σ H x y v u Q I rx ry h hs
  obtain ⟨ρ, st, dx, dy, sr, r1, r2, p⟩ := h
  unfold ixD at p
  split at p
  · split at p
    · rename_i d e1
      obtain ⟨a, vs, rfl, h1, h2⟩ := r1.tup
      cases r2.int
      obtain ⟨w, q1, q2⟩ := h2.atI e1
      exact ix_tup value slice pins s σ H _ _ v u Q I rx ry ⟨a, vs, _, w, rfl, rfl, h1, q1, p.here sr q2⟩ hs
    · exact p.elim
  · split at p
    · rename_i xs e0
      split at p
      · rename_i d e1
        obtain ⟨a, q0, rfl⟩ := r1.loc
        cases r2.int
        obtain ⟨a', vs, w1, h1, h2⟩ := sr.getL e0
        rw [q0] at w1
        cases w1
        obtain ⟨w, q1, q2⟩ := h2.atI e1
        exact ix_list value slice pins s σ H _ _ v u Q I rx ry ⟨a, vs, _, w, rfl, rfl, h1, q1, p.here sr q2⟩ hs
      · exact p.elim
    · exact p.elim
  · split at p
    · rename_i hz
      split at p
      · rename_i c e1
        cases r1.str
        cases r2.int
        exact ix_str value slice pins s σ H _ _ v u Q I rx ry ⟨_, _, c, rfl, rfl, szS hz, e1, p.here sr rep_str⟩ hs
      · exact p.elim
    · exact p.elim
  · exact p.elim
theorem e_ix (ha : PE X a (tM (gX X cad) E ma)) (hb : PE X b (tM (gX X cad) E mb)) (hs : PlainIx b := by exact fun _ _ => rfl) : PE X (.Subscript a b pos) (tM (gX X cad) E (c2 ma mb ixD)) := by
  refine PE.imp (pe_ix (o_ix (cad := cad) (E := E)) ha hb hs) fun σ H Q h => ?_
  obtain ⟨ρ, es, st, sr, sl, p⟩ := h
  refine ⟨ρ, es, st, sr, sl, p.bind fun ρ1 H1 x v1 st1 e1 t1 sr1 rx p1 => ⟨ρ1, es, st1, sr1, sl.mono e1 t1, p1.bind fun ρ2 H2 y v2 st2 e2 t2 sr2 ry p2 => ?_⟩⟩
  exact ⟨ρ2, st2, x, y, sr2, rx.mono e2 t2, ry, p2⟩
theorem PO.imp {e : Option Expr} {t t' : TO} (h : PO X e t) (k : ∀ σ H Q, t' σ H Q → t σ H Q) : PO X e t' := ⟨fun pins s σ H Q I q => h.run pins s σ H Q I (k σ H Q q)⟩
theorem o_none : PO X none (tO (gX X cad) E cNoPart) := PO.imp po_none fun σ H Q h => by
  obtain ⟨ρ, es, st, sr, sl, p⟩ := h
  exact PoE.here p sr rfl
theorem o_some (ha : PE X a (tM (gX X cad) E ma)) : PO X (some a) (tO (gX X cad) E (cPart ma)) := by
  refine PO.imp (po_some ha) fun σ H Q h => ?_
  obtain ⟨ρ, es, st, sr, sl, p⟩ := h
  refine ⟨ρ, es, st, sr, sl, p.bind fun ρ1 H1 x v1 st1 e1 t1 sr1 rx p1 => ?_⟩
  split at p1
  · exact ⟨_, rx.int, p1.here sr1 rfl⟩
  · exact p1.elim
theorem o_sl : L2.SlR X (fun x lo hi H Q => ∃ ρ st dx, SR (gX X cad) ρ st H ∧ Rep (gX X cad) ρ H dx x ∧ PoE (gX X cad) ρ H E (Rep (gX X cad)) Q (slD dx lo hi st)) := by
  intro pins s σ H x v vl vu lo hi sl Q I rx hs pl pu h
  obtain ⟨ρ, st, dx, sr, r1, p⟩ := h
  unfold slD at p
  split at p
  · obtain ⟨a, vs, rfl, h1, h2⟩ := r1.tup
    have ap := h2.cut lo hi
    refine sl_tupA pins s σ H _ v vl vu lo hi sl Q I rx hs pl pu ⟨a, vs, rfl, h1, fun e => ?_, fun _ => tup_new sr ap p⟩
    refine p.here sr (rep_tup h1 ?_)
    have e2 : cutV vs lo hi = vs := by
      unfold cutV
      rw [e.1, e.2, List.drop_zero, Nat.sub_zero, List.take_length]
    rw [e2] at ap
    exact ap
  · split at p
    · rename_i xs e0
      obtain ⟨a, q0, rfl⟩ := r1.loc
      obtain ⟨a', vs, w1, h1, h2⟩ := sr.getL e0
      rw [q0] at w1
      cases w1
      exact sl_list pins s σ H _ v vl vu lo hi sl Q I rx hs pl pu ⟨a, vs, rfl, h1, lst_new sr (h2.cut lo hi) p⟩
    · exact p.elim
  · split at p
    · rename_i hz
      cases r1.str
      exact sl_str pins s σ H _ v vl vu lo hi sl Q I rx hs pl pu ⟨_, rfl, szS hz, p.here sr rep_str⟩
    · exact p.elim
  · exact p.elim
theorem e_slice (ha : PE X e (tM (gX X cad) E ma)) (hl : PO X lo (tO (gX X cad) E ml)) (hh : PO X hi (tO (gX X cad) E mh)) : PE X (.Subscript e (.Slice lo hi none p2) pos) (tM (gX X cad) E (cSlice ma ml mh)) := by
  refine PE.imp (pe_slice (o_sl (cad := cad) (E := E)) ha hl hh) fun σ H Q h => ?_
  obtain ⟨ρ, es, st, sr, sl, p⟩ := h
  refine ⟨ρ, es, st, sr, sl, p.bind fun ρ1 H1 x v1 st1 e1 t1 sr1 rx p1 => ⟨ρ1, es, st1, sr1, sl.mono e1 t1, p1.bind fun ρ2 H2 y v2 st2 e2 t2 sr2 ry p2 => ⟨ρ2, es, st2, sr2, (sl.mono e1 t1).mono e2 t2, p2.bind fun ρ3 H3 z v3 st3 e3 t3 sr3 rz p3 => ?_⟩⟩⟩
  subst ry rz
  exact ⟨ρ3, st3, x, sr3, (rx.mono e2 t2).mono e3 t3, p3⟩
end
end Z
end
section
set_option Elab.async false
set_option linter.all false
set_option maxRecDepth 100000
set_option maxHeartbeats 4000000
/-! Z5: builtins, methods of lists, fields, calls. -/
namespace Z
open PySem PySem.Spec PyProof.Rows L2

def CallM (X : Cx) (cad : Nat → Addr) (E : XK) (f : Value) (fD : List D → S → R D) : Prop :=
  CallR X f (fun vs H Q => ∃ ρ st ds, SR (gX X cad) ρ st H ∧ Reps (gX X cad) ρ H ds vs ∧ PoE (gX X cad) ρ H E (Rep (gX X cad)) Q (fD ds st))
def cCall (mA : M (List D)) (f : List D → S → R D) : M D := fun es st => (mA es st).bind fun ds s => f ds s
section
variable {X : Cx} {cad : Nat → Addr} {E : XK} {x : Str} {e : Expr} {es : List Expr} {mA : M (List D)} {pos p : Pos} {f : List D → S → R D}
theorem cCall_imp {r : List V → Hp → VK → Prop} (hr : ∀ vs H Q, (∃ ρ st ds, SR (gX X cad) ρ st H ∧ Reps (gX X cad) ρ H ds vs ∧ PoE (gX X cad) ρ H E (Rep (gX X cad)) Q (f ds st)) → r vs H Q) :
    ∀ σ H Q, tM (gX X cad) E (cCall mA f) σ H Q → tCB r (tA (gX X cad) E mA) σ H Q := by
  intro σ H Q h
  obtain ⟨ρ, es, st, sr, sl, p⟩ := h
  exact ⟨ρ, es, st, sr, sl, p.bind fun ρ1 H1 xs vs st1 e1 t1 sr1 rx p1 => hr _ _ _ ⟨ρ1, st1, xs, sr1, rx, p1⟩⟩
theorem e_callB {id : String} (hc : CallM X cad E (.builtin id) f) (hg : Gl X x) (hm : X.mg x = none) (hv : bootBuiltins x = some (.builtin id)) (ha : PA X (e :: es) (tA (gX X cad) E mA)) (hn : x ≠ "__name__" := by decide) (hdb : (x == ("__debug__" : Str)) = false := by decide)
    (he : starEach (e :: es) X.env = (false, eval e X.env) :: starEach es X.env := by rfl) (hpl : (backTo pos (starEach es X.env)).any (·.1) = false := by rfl) : PE X (.Call (.Name x p) (e :: es) [] pos) (tM (gX X cad) E (cCall mA f)) :=
  PE.imp (pe_callB hc hg hm hv ha hn hdb he hpl) (cCall_imp fun _ _ _ h => h)
theorem e_callTy {T : String} (hc : CallM X cad E (.type T) f) (hg : Gl X x) (hm : X.mg x = none) (hv : bootBuiltins x = some (.type T)) (ha : PA X (e :: es) (tA (gX X cad) E mA)) (hn : x ≠ "__name__" := by decide) (hdb : (x == ("__debug__" : Str)) = false := by decide)
    (he : starEach (e :: es) X.env = (false, eval e X.env) :: starEach es X.env := by rfl) (hpl : (backTo pos (starEach es X.env)).any (·.1) = false := by rfl) : PE X (.Call (.Name x p) (e :: es) [] pos) (tM (gX X cad) E (cCall mA f)) :=
  PE.imp (pe_callTy hc hg hm hv ha hn hdb he hpl) (cCall_imp fun _ _ _ h => h)
end

/-! ### builtins -/
def fLen : List D → S → R D
  | [.str z], s => if z.length ≤ 16000000 then .ok (.int z.length) s else .bad
  | [d], s => match seqOf d s with
    | some xs => .ok (.int xs.length) s
    | none => .bad
  | _, _ => .bad
def fList : List D → S → R D
  | [d], s => match seqOf d s with
    | some xs => nw (.lst xs) s
    | none => .bad
  | _, _ => .bad
def fTuple : List D → S → R D
  | [.tup xs], s => .ok (.tup xs) s
  | [.loc n], s => match getL s n with
    | some xs => .ok (.tup xs) s
    | none => .bad
  | _, _ => .bad
def fInt : List D → S → R D
  | [.int i], s => .ok (.int i) s
  | [.bl b], s => .ok (.int (if b then 1 else 0)) s
  | _, _ => .bad
def intsD : List D → Option (List Int)
  | [] => some []
  | .int i :: r => (intsD r).map (i :: ·)
  | _ :: _ => none
def maxI : List Int → Int
  | [] => 0
  | i :: r => r.foldl (fun a b => if b > a then b else a) i
def minI : List Int → Int
  | [] => 0
  | i :: r => r.foldl (fun a b => if b < a then b else a) i
def listI (d : D) (s : S) : Option (List Int) := match d with
  | .loc n => (getL s n).bind intsD
  | _ => none
def fMax : List D → S → R D
  | [.int i, .int j], s => .ok (.int (if j > i then j else i)) s
  | [d], s => match listI d s with
    | some (i :: r) => .ok (.int (maxI (i :: r))) s
    | _ => .bad
  | _, _ => .bad
def fMin : List D → S → R D
  | [.int i, .int j], s => .ok (.int (if j < i then j else i)) s
  | [d], s => match listI d s with
    | some (i :: r) => .ok (.int (minI (i :: r))) s
    | _ => .bad
  | _, _ => .bad
theorem maxF_ok : ∀ (r : List Int) (i : Int), (r.foldl (fun a b => if b > a then b else a) i = i ∨ r.foldl (fun a b => if b > a then b else a) i ∈ r) ∧ i ≤ r.foldl (fun a b => if b > a then b else a) i ∧ ∀ y ∈ r, y ≤ r.foldl (fun a b => if b > a then b else a) i
  | [], i => ⟨.inl rfl, Int.le_refl _, fun y hy => nomatch hy⟩
  | j :: r, i => by
    rw [List.foldl_cons]
    obtain ⟨a, b, c⟩ := maxF_ok r (if j > i then j else i)
    generalize List.foldl (fun a b => if b > a then b else a) (if j > i then j else i) r = m at a b c
    refine ⟨?_, by split at b <;> omega, fun y hy => ?_⟩
    · rcases a with a | a
      · split at a
        · exact .inr (by rw [a]; simp)
        · exact .inl a
      · exact .inr (List.mem_cons_of_mem _ a)
    · rcases List.mem_cons.mp hy with hy | hy
      · subst hy
        split at b <;> omega
      · exact c y hy
theorem minF_ok : ∀ (r : List Int) (i : Int), (r.foldl (fun a b => if b < a then b else a) i = i ∨ r.foldl (fun a b => if b < a then b else a) i ∈ r) ∧ r.foldl (fun a b => if b < a then b else a) i ≤ i ∧ ∀ y ∈ r, r.foldl (fun a b => if b < a then b else a) i ≤ y
  | [], i => ⟨.inl rfl, Int.le_refl _, fun y hy => nomatch hy⟩
  | j :: r, i => by
    rw [List.foldl_cons]
    obtain ⟨a, b, c⟩ := minF_ok r (if j < i then j else i)
    generalize List.foldl (fun a b => if b < a then b else a) (if j < i then j else i) r = m at a b c
    refine ⟨?_, by split at b <;> omega, fun y hy => ?_⟩
    · rcases a with a | a
      · split at a
        · exact .inr (by rw [a]; simp)
        · exact .inl a
      · exact .inr (List.mem_cons_of_mem _ a)
    · rcases List.mem_cons.mp hy with hy | hy
      · subst hy
        split at b <;> omega
      · exact c y hy
theorem maxI_ok (i : Int) (r : List Int) : maxI (i :: r) ∈ i :: r ∧ ∀ y ∈ i :: r, y ≤ maxI (i :: r) := by
  obtain ⟨a, b, c⟩ := maxF_ok r i
  refine ⟨?_, fun y hy => ?_⟩
  · rcases a with a | a
    · exact List.mem_cons.mpr (.inl a)
    · exact List.mem_cons.mpr (.inr a)
  · rcases List.mem_cons.mp hy with hy | hy
    · subst hy
      exact b
    · exact c y hy
theorem minI_ok (i : Int) (r : List Int) : minI (i :: r) ∈ i :: r ∧ ∀ y ∈ i :: r, minI (i :: r) ≤ y := by
  obtain ⟨a, b, c⟩ := minF_ok r i
  refine ⟨?_, fun y hy => ?_⟩
  · rcases a with a | a
    · exact List.mem_cons.mpr (.inl a)
    · exact List.mem_cons.mpr (.inr a)
  · rcases List.mem_cons.mp hy with hy | hy
    · subst hy
      exact b
    · exact c y hy
section
variable {g : G} {ρ : List Addr} {st : S} {H : Hp}
theorem ints_V : ∀ {ds : List D} {ns : List Int} {vs : List V}, intsD ds = some ns → Reps g ρ H ds vs → vs = ns.map V.int
  | [], ns, vs, e, r => by
    cases e
    rw [r.nil]
    rfl
  | .int i :: ds, ns, vs, e, r => by
    simp only [intsD, Option.map_eq_some_iff] at e
    obtain ⟨ms, e1, rfl⟩ := e
    obtain ⟨v, ws, rfl, r1, r2⟩ := r.cons
    rw [r1.int, ints_V e1 r2]
    rfl
  | .non :: _, _, _, e, _ => by cases e
  | .bl _ :: _, _, _, e, _ => by cases e
  | .str _ :: _, _, _, e, _ => by cases e
  | .tup _ :: _, _, _, e, _ => by cases e
  | .loc _ :: _, _, _, e, _ => by cases e
  | .ty _ :: _, _, _, e, _ => by cases e
  | .cls _ :: _, _, _, e, _ => by cases e
theorem SR.locL (sr : SR g ρ st H) {n : Nat} {v : V} {xs : List D} (r : Rep g ρ H (.loc n) v) (e : Z.getL st n = some xs) : ∃ a vs, v = .ref a ∧ SqL g.K H a vs ∧ Reps g ρ H xs vs := by
  obtain ⟨a, q0, rfl⟩ := r.loc
  obtain ⟨a', vs, w1, h1, h2⟩ := sr.getL e
  rw [q0] at w1
  cases w1
  exact ⟨a, vs, rfl, h1, h2⟩
theorem SR.locW (sr : SR g ρ st H) {n : Nat} {v : V} {xs : List D} (r : Rep g ρ H (.loc n) v) (e : Z.getW st n = some xs) : ∃ a vs, v = .ref a ∧ ρ[n]? = some a ∧ H a = some (.lst vs) ∧ Reps g ρ H xs vs := by
  obtain ⟨a, q0, rfl⟩ := r.loc
  obtain ⟨a', vs, w1, h1, h2⟩ := sr.getW e
  rw [q0] at w1
  cases w1
  exact ⟨a, vs, rfl, q0, h1, h2⟩
theorem SR.listI (sr : SR g ρ st H) {d : D} {v : V} {ns : List Int} (r : Rep g ρ H d v) (e : Z.listI d st = some ns) : ∃ a, v = .ref a ∧ SqL g.K H a (ns.map V.int) := by
  unfold Z.listI at e
  split at e
  · simp only [Option.bind_eq_some_iff] at e
    obtain ⟨xs, e1, e2⟩ := e
    obtain ⟨a, vs, rfl, h1, h2⟩ := sr.locL r e1
    rw [ints_V e2 h2] at h1
    exact ⟨a, rfl, h1⟩
  · cases e
theorem Reps.uno {d : D} {vs : List V} (r : Reps g ρ H [d] vs) : ∃ v, vs = [v] ∧ Rep g ρ H d v := by
  obtain ⟨v, ws, rfl, r1, r2⟩ := r.cons
  rw [r2.nil]
  exact ⟨v, rfl, r1⟩
theorem Reps.duo {d e : D} {vs : List V} (r : Reps g ρ H [d, e] vs) : ∃ v w, vs = [v, w] ∧ Rep g ρ H d v ∧ Rep g ρ H e w := by
  obtain ⟨v, ws, rfl, r1, r2⟩ := r.cons
  obtain ⟨w, rfl, r3⟩ := r2.uno
  exact ⟨v, w, rfl, r1, r3⟩
end
section
variable {X : Cx} {cad : Nat → Addr} {E : XK}
theorem q_len : CallM X cad E (.builtin "len") fLen := by
  intro pins s σ H vs us Q I r h
  obtain ⟨ρ, st, ds, sr, rs, p⟩ := h
  unfold fLen at p
  split at p
  · split at p
    · rename_i hz
      obtain ⟨v, rfl, r1⟩ := rs.uno
      cases r1.str
      exact call_len_str pins s σ H _ us Q I r ⟨_, rfl, szS hz, p.here sr rep_int⟩
    · exact p.elim
  · split at p
    · rename_i xs e1
      obtain ⟨v, rfl, r1⟩ := rs.uno
      obtain ⟨a, ws, rfl, h1, h2⟩ := sr.seq e1 r1
      refine call_len_seq pins s σ H _ us Q I r ⟨a, ws, rfl, h1, ?_⟩
      rw [h2.length]
      exact p.here sr rep_int
    · exact p.elim
  · exact p.elim
theorem q_list : CallM X cad E (.type "list") fList := by
  intro pins s σ H vs us Q I r h
  obtain ⟨ρ, st, ds, sr, rs, p⟩ := h
  unfold fList at p
  split at p
  · split at p
    · rename_i xs e1
      obtain ⟨v, rfl, r1⟩ := rs.uno
      obtain ⟨a, ws, rfl, h1, h2⟩ := sr.seq e1 r1
      exact call_list_of pins s σ H _ us Q I r ⟨a, ws, rfl, h1, lst_new sr h2 p⟩
    · exact p.elim
  · exact p.elim
theorem q_tuple : CallM X cad E (.type "tuple") fTuple := by
  intro pins s σ H vs us Q I r h
  obtain ⟨ρ, st, ds, sr, rs, p⟩ := h
  unfold fTuple at p
  split at p
  · obtain ⟨v, rfl, r1⟩ := rs.uno
    obtain ⟨a, ws, rfl, h1, h2⟩ := r1.tup
    exact call_tuple_of pins s σ H _ us Q I r ⟨a, ws, rfl, .inr ⟨h1, p.here sr (rep_tup h1 h2)⟩⟩
  · split at p
    · rename_i xs e1
      obtain ⟨v, rfl, r1⟩ := rs.uno
      obtain ⟨a, ws, rfl, h1, h2⟩ := sr.locL r1 e1
      exact call_tuple_of pins s σ H _ us Q I r ⟨a, ws, rfl, .inl ⟨h1, tup_new sr h2 p⟩⟩
    · exact p.elim
  · exact p.elim
theorem q_int : CallM X cad E (.type "int") fInt := by
  intro pins s σ H vs us Q I r h
  obtain ⟨ρ, st, ds, sr, rs, p⟩ := h
  unfold fInt at p
  split at p
  · obtain ⟨v, rfl, r1⟩ := rs.uno
    cases r1.int
    exact call_int1 pins s σ H _ us Q I r (.inl ⟨_, rfl, p.here sr rep_int⟩)
  · obtain ⟨v, rfl, r1⟩ := rs.uno
    cases r1.bl
    exact call_int1 pins s σ H _ us Q I r (.inr ⟨_, rfl, p.here sr rep_int⟩)
  · exact p.elim
theorem q_max (hc : X.calm = true) : CallM X cad E (.builtin "max") fMax := by
  intro pins s σ H vs us Q I r h
  obtain ⟨ρ, st, ds, sr, rs, p⟩ := h
  unfold fMax at p
  split at p
  · obtain ⟨v, w, rfl, r1, r2⟩ := rs.duo
    cases r1.int
    cases r2.int
    exact call_max2 hc pins s σ H _ us Q I r ⟨_, _, rfl, p.here sr rep_int⟩
  · split at p
    · rename_i i rr e1
      obtain ⟨v, rfl, r1⟩ := rs.uno
      obtain ⟨a, rfl, h1⟩ := sr.listI r1 e1
      refine cr_max hc pins s σ H _ us Q I r ⟨a, _, rfl, h1, by simp, fun m hm hl => ?_⟩
      obtain ⟨m1, m2⟩ := maxI_ok i rr
      have e : m = maxI (i :: rr) := Int.le_antisymm (m2 m hm) (hl _ m1)
      rw [e]
      exact p.here sr rep_int
    · exact p.elim
  · exact p.elim
theorem q_min (hc : X.calm = true) : CallM X cad E (.builtin "min") fMin := by
  intro pins s σ H vs us Q I r h
  obtain ⟨ρ, st, ds, sr, rs, p⟩ := h
  unfold fMin at p
  split at p
  · obtain ⟨v, w, rfl, r1, r2⟩ := rs.duo
    cases r1.int
    cases r2.int
    exact call_min2 hc pins s σ H _ us Q I r ⟨_, _, rfl, p.here sr rep_int⟩
  · split at p
    · rename_i i rr e1
      obtain ⟨v, rfl, r1⟩ := rs.uno
      obtain ⟨a, rfl, h1⟩ := sr.listI r1 e1
      refine cr_min hc pins s σ H _ us Q I r ⟨a, _, rfl, h1, by simp, fun m hm hl => ?_⟩
      obtain ⟨m1, m2⟩ := minI_ok i rr
      have e : m = minI (i :: rr) := Int.le_antisymm (hl _ m1) (m2 m hm)
      rw [e]
      exact p.here sr rep_int
    · exact p.elim
  · exact p.elim
end

/-! ### isinstance -/
inductive Ty where
  | non | bl | int | str | lst | tup | dic | own (c : Nat)
  deriving DecidableEq
def Ty.nm : Ty → String
  | .non => "NoneType"
  | .bl => "bool"
  | .int => "int"
  | .str => "str"
  | .lst => "list"
  | .tup => "tuple"
  | .dic => "dict"
  | .own _ => ""
def tyD : D → S → Option Ty
  | .non, _ => some .non
  | .bl _, _ => some .bl
  | .int _, _ => some .int
  | .str _, _ => some .str
  | .tup _, _ => some .tup
  | .loc n, s => match s[n]? with
    | some (.lst _) => some .lst
    | some (.ro _) => some .lst
    | some (.dic _) => some .dic
    | some (.ins c _) => some (.own c)
    | _ => none
  | _, _ => none
/-- what is asked: an int and no other, .. -/
def isTy (m n : Ty) : Option Bool := match m, n with
  | .own _, _ => none
  | _, .own _ => none
  | .bl, .int => some true
  | a, b => some (decide (a = b))
theorem isTy_ok {m n : Ty} {b : Bool} (h : isTy m n = some b) : kitB m.nm n.nm = some b := by
  cases m <;> cases n <;> first
    | (cases h; done)
    | (have e : b = _ := (Option.some.inj h).symm; subst e; decide +kernel)
section
variable {g : G} {ρ : List Addr} {st : S} {H : Hp}
theorem tyD_ok (sr : SR g ρ st H) {d : D} {v : V} {m : Ty} (r : Rep g ρ H d v) (e : tyD d st = some m) (ho : ∀ c, m ≠ .own c) : TyX g.K H v (.type m.nm) := by
  unfold tyD at e
  split at e
  · cases e; rw [r.non]; exact .base .non
  · cases e; rw [r.bl]; exact .base (.bl _)
  · cases e; rw [r.int]; exact .base (.int _)
  · cases e; rw [r.str]; exact .base (.str _)
  · cases e
    obtain ⟨a, vs, rfl, h1, h2⟩ := r.tup
    rcases h1 with (h1 | ⟨o, h1⟩) | ⟨o, its, n, h1, h2, _⟩
    · exact .base (.tup h1)
    · exact .fTuple h1
    · exact .kTuple h1 h2
  · obtain ⟨a, q0, rfl⟩ := r.loc
    split at e
    · rename_i xs e1
      cases e
      obtain ⟨vs, h1, _⟩ := sr.ob _ _ a e1 q0
      exact .base (.lst h1)
    · rename_i xs e1
      cases e
      obtain ⟨vs, (h1 | ⟨o, h1⟩) | ⟨o, its, n, h1, h2, _⟩, _⟩ := sr.ob _ _ a e1 q0
      · exact .base (.lst h1)
      · exact .base (.frz h1)
      · exact .kList h1 h2
    · rename_i xs e1
      cases e
      obtain ⟨vs, h1, _⟩ := sr.ob _ _ a e1 q0
      exact .base (.dK h1)
    · cases e
      exact absurd rfl (ho _)
    · cases e
  · cases e
end
section
variable {X : Cx} {cad : Nat → Addr} {E : XK} {e : Expr} {ma : M D} {p1 p2 pos : Pos} {T : Str}
def cIs (n : Ty) (ma : M D) : M D := fun es st => (ma es st).bind fun d s => match tyD d s with
  | some m => match isTy m n with
    | some b => .ok (.bl b) s
    | none => .bad
  | none => .bad
theorem e_isTy {n : Ty} (hg : Gl X "isinstance") (hm : X.mg "isinstance" = none) (hgT : Gl X T) (hmT : X.mg T = none) (hvT : bootBuiltins T = some (.type n.nm)) (ha : PE X e (tM (gX X cad) E ma)) (hn : T ≠ "__name__" := by decide) (hd : (T == ("__debug__" : Str)) = false := by decide)
    (he : starEach (e :: [.Name T p2]) X.env = (false, eval e X.env) :: starEach [.Name T p2] X.env := by rfl) (hpl : (backTo pos (starEach [.Name T p2] X.env)).any (·.1) = false := by rfl) :
    PE X (.Call (.Name "isinstance" p1) [e, .Name T p2] [] pos) (tM (gX X cad) E (cIs n ma)) := by
  refine PE.imp (pe_callB call_isi hg hm (by decide +kernel) (pa_cons ha (pa_cons (pe_bltn (v := .ty n.nm) hgT hmT hvT rfl hn hd) pa_nil) he) (by decide) (by decide) he hpl) fun σ H Q h => ?_
  obtain ⟨ρ, es, st, sr, sl, p⟩ := h
  refine ⟨ρ, es, st, sr, sl, p.bind fun ρ1 H1 x v1 st1 e1 t1 sr1 rx p1 => ?_⟩
  split at p1
  · rename_i m em
    split at p1
    · rename_i b eb
      have ho : ∀ c, m ≠ .own c := fun c z => by subst z; cases n <;> cases eb
      exact ⟨v1, .ty n.nm, .type m.nm, .type n.nm, b, rfl, .ty _, tyD_ok sr1 rx em ho, kit_ty (isTy_ok eb), p1.here sr1 rep_bl⟩
    · exact p1.elim
  · exact p1.elim
/-- what isinstance asks of an own class -/
structure IsCls (K : PySem.W.Frag) (C : Addr) : Prop where
  cl : Cls K C
  ha : PySem.W.findIn K (.ref C) "__class__" = some (some (.builtin "object.__class__"))
  hm : PySem.W.mroIn K C (.type "object") = some true
  hn : PySem.W.specialIn K (.builtin "object.__class__") "__get__" = some (some (.builtin "getset_descriptor.__get__"))
  htk : PySem.W.takesIn K (.builtin "object.__class__") = some true
  k1 : PySem.W.kitOne K (.ref C) (.ref C) = some true
end
end Z
end
section
set_option Elab.async false
set_option linter.all false
set_option maxRecDepth 100000
set_option maxHeartbeats 4000000
/-! Z6: methods of lists, fields, calls of own defs. -/
namespace Z
open PySem PySem.Spec PyProof.Rows L2

def isL (d : D) (s : S) : Bool := match d with
  | .loc n => (getL s n).isSome
  | _ => false
def cMeth (mo : M D) (mA : M (List D)) (f : D → List D → S → R D) : M D := fun es st => (mo es st).bind fun o s => if isL o s = true then (mA es s).bind fun ds s => f o ds s else .bad
def MtD (X : Cx) (cad : Nat → Addr) (E : XK) (id : String) (f : D → List D → S → R D) : Prop :=
  MtR X id (fun x vs H Q => ∃ ρ st d ds, SR (gX X cad) ρ st H ∧ Rep (gX X cad) ρ H d x ∧ Reps (gX X cad) ρ H ds vs ∧ PoE (gX X cad) ρ H E (Rep (gX X cad)) Q (f d ds st))
section
variable {X : Cx} {cad : Nat → Addr} {E : XK} {o e : Expr} {es : List Expr} {mo : M D} {mA : M (List D)} {name : Str} {apos cpos : Pos} {id : String} {f : D → List D → S → R D}
theorem isL_ty {ρ : List Addr} {st : S} {H : Hp} {d : D} {v : V} (sr : SR (gX X cad) ρ st H) (r : Rep (gX X cad) ρ H d v) (h : isL d st = true) : tyV X.K "list" v H := by
  unfold isL at h
  split at h
  · obtain ⟨xs, hx⟩ := Option.isSome_iff_exists.mp h
    obtain ⟨a, vs, rfl, h1, _⟩ := sr.locL r hx
    exact .inl ⟨rfl, vs, h1⟩
  · cases h
theorem e_meth (slot : Slot "list" name id) (hty : typeOf (.builtin id) = pure (.type "method_descriptor")) (hm : MtD X cad E id f) (ho : PE X o (tM (gX X cad) E mo)) (ha : PA X (e :: es) (tA (gX X cad) E mA))
    (hbase : attributeBase o name X.env (eval o X.env) = eval o X.env := by rfl)
    (hfew : ((backTo cpos (starEach (e :: es) X.env)).all (fun x => !x.1) && (backToKw cpos (keywordEach [] X.env)).all (fun x => x.1.isSome)
      && decide ((e :: es).length + ([] : List Keyword).length + (if ([] : List Keyword).isEmpty then 0 else 1) < 30)) = true := by rfl)
    (hline : (apos.endLine == cpos.line) = true := by rfl) (he : starEach (e :: es) X.env = (false, eval e X.env) :: starEach es X.env := by rfl) (hpl : (backTo cpos (starEach es X.env)).any (·.1) = false := by rfl) :
    PE X (.Call (.Attribute o name apos) (e :: es) [] cpos) (tM (gX X cad) E (cMeth mo mA f)) := by
  refine PE.imp (pe_bm PySem.F.plainAttrs_list slot hty hm ho ha hbase hfew hline he hpl) fun σ H Q h => ?_
  obtain ⟨ρ, es, st, sr, sl, p⟩ := h
  refine ⟨ρ, es, st, sr, sl, p.bind fun ρ1 H1 x v1 st1 e1 t1 sr1 rx p1 => ?_⟩
  split at p1
  · rename_i hl
    refine ⟨isL_ty sr1 rx hl, ρ1, es, st1, sr1, sl.mono e1 t1, p1.bind fun ρ2 H2 y v2 st2 e2 t2 sr2 ry p2 => ?_⟩
    exact ⟨ρ2, st2, x, y, sr2, rx.mono e2 t2, ry, p2⟩
  · exact p1.elim
end
/-- a list is changed -/
def setL (n : Nat) (xs : List D) (r : D) (s : S) : R D := .ok r (s.set n (.lst xs))
def mAppend : D → List D → S → R D
  | .loc n, [y], s => match getW s n with
    | some xs => if xs.length < 1000000 then setL n (xs ++ [y]) .non s else .bad
    | none => .bad
  | _, _, _ => .bad
section
variable {X : Cx} {cad : Nat → Addr} {E : XK}
theorem lst_put {ρ : List Addr} {st : S} {H : Hp} {Q : VK} {n : Nat} {a : Addr} {us : List V} {zs : List D} {ws : List V} {r : D} {rv : V} {xs0 : List D} (sr : SR (gX X cad) ρ st H) (e0 : Z.getW st n = some xs0) (hn : ρ[n]? = some a) (ha : H a = some (.lst us)) (rz : Reps (gX X cad) ρ H zs ws) (rr : Rep (gX X cad) ρ H r rv)
    (p : PoE (gX X cad) ρ H E (Rep (gX X cad)) Q (setL n zs r st)) : Q rv (upd H a (.lst ws)) := by
  have t : TLe (gX X cad) H (upd H a (.lst ws)) := TLe.put ha (fun _ z => nomatch z) (fun _ _ z => nomatch z)
  exact p ρ _ _ (List.prefix_refl _) t (sr.put hn (getW_eq e0) (fun _ z => nomatch z) ha (fun _ z => nomatch z) (fun _ _ z => nomatch z) ⟨ws, upd_same, rz.mono (List.prefix_refl _) t⟩) (rr.mono (List.prefix_refl _) t)
theorem d_append : MtD X cad E "list.append" mAppend := by
  intro pins s σ H x vs v us Q I rx rv h
  obtain ⟨ρ, st, d, ds, sr, r1, rs, p⟩ := h
  unfold mAppend at p
  split at p
  · split at p
    · rename_i xs e1
      split at p
      · rename_i hz
        obtain ⟨w, rfl, r2⟩ := rs.uno
        obtain ⟨a, ws, rfl, q0, h1, h2⟩ := sr.locW r1 e1
        exact mt_append pins s σ H _ _ v us Q I rx rv ⟨a, ws, w, rfl, rfl, h1, by rw [h2.length]; exact sz1 hz, lst_put sr e1 q0 h1 (h2.append (Reps.one r2)) rep_non p⟩
      · exact p.elim
    · exact p.elim
  · exact p.elim
end

/-! ### fields of instances -/
def getI (s : S) (n : Nat) : Option (Nat × List (Str × D)) := match s[n]? with
  | some (.ins c fs) => some (c, fs)
  | _ => none
def fldD (c : Nat) (f : Str) (d : D) (s : S) : R D := match d with
  | .loc n => match getI s n with
    | some (c', fs) => if c' = c then match fs.lookup f with
        | some v => .ok v s
        | none => .bad
      else .bad
    | none => .bad
  | _ => .bad
/-- the attributes that are no class's -/
structure Fl (K : PySem.W.Frag) (C : Addr) (f : Str) : Prop where
  cl : Cls K C
  no : NoAttr K C f
section
variable {X : Cx} {cad : Nat → Addr} {E : XK} {o value : Expr} {mo mv : M D} {f : Str} {pos pos' : Pos}
end

/-! ### defs -/
def spF (g : G) (F : List D → S → R D) : Sp := fun vs H Q E => ∃ ρ st ds, SR g ρ st H ∧ Reps g ρ H ds vs ∧ PoE g ρ H E (Rep g) Q (F ds st)
section
variable {X : Cx} {CX : CXT} {cad : Nat → Addr} {k : Nat} {f C : Addr} {fd : FuncData} {ps ks : List Str} {E : XK} {x m : Str} {p pos apos : Pos} {e o : Expr} {es : List Expr} {mA mK : M (List D)} {mo : M D} {F : List D → S → R D}
theorem e_call (Fo : FnOk X.prog X.w X.K X.mg X.base CX k f fd ps (spF (gX X cad) F)) (hr : Room k X.A) (hg : Gl X x) (hm : X.mg x = some (.ref f)) (hk : PySem.W.keepIn X.K (.ref f) = true) (hb : Binds X.K fd ps []) (hx : Passes CX X E) (ha : PA X (e :: es) (tA (gX X cad) E mA))
    (hdb : (x == ("__debug__" : Str)) = false := by decide) (he : starEach (e :: es) X.env = (false, eval e X.env) :: starEach es X.env := by rfl) (hpl : (backTo pos (starEach es X.env)).any (·.1) = false := by rfl) :
    PE X (.Call (.Name x p) (e :: es) [] pos) (tM (gX X cad) E (cCall mA F)) := by
  refine PE.imp (pe_call Fo hr hg hm hk hb .nil hx ha hdb he hpl) fun σ H Q h => ?_
  obtain ⟨ρ, es, st, sr, sl, p⟩ := h
  refine ⟨ρ, es, st, sr, sl, p.bind fun ρ1 H1 xs vs st1 e1 t1 sr1 rx p1 => ?_⟩
  rw [List.append_nil]
  exact ⟨ρ1, st1, xs, sr1, rx, p1⟩
theorem kw_nil : PK X [] (tA (gX X cad) E cNil) := ⟨fun pos pins s σ H Q I h => pk_nil.run pos pins s σ H Q I (by
  obtain ⟨ρ, es, st, sr, sl, p⟩ := h
  exact PoE.here p sr reps_nil)⟩
theorem kw_cons {kws : List Keyword} {nm : Option Str} {kpos : Pos} {ma : M D} (ha : PE X e (tM (gX X cad) E ma)) (hr : PK X kws (tA (gX X cad) E mK)) : PK X (⟨nm, e, kpos⟩ :: kws) (tA (gX X cad) E (cCons ma mK)) := ⟨fun pos pins s σ H Q I h => (pk_cons ha hr).run pos pins s σ H Q I (by
  obtain ⟨ρ, es, st, sr, sl, p⟩ := h
  refine ⟨ρ, es, st, sr, sl, p.bind fun ρ1 H1 x v1 st1 e1 t1 sr1 rx p1 => ⟨ρ1, es, st1, sr1, sl.mono e1 t1, p1.bind fun ρ2 H2 xs vs st2 e2 t2 sr2 rxs p2 => ?_⟩⟩
  exact p2.here sr2 (reps_cons (rx.mono e2 t2) rxs))⟩
def cCallK (mA mK : M (List D)) (gD : List D → List D → List D) (f : List D → S → R D) : M D := fun es st => (mA es st).bind fun ds s => (mK es s).bind fun zs s => f (gD ds zs) s
theorem e_callK0 {kws : List Keyword} {gU : List Value → List Value → List Value} {gV : List V → List V → List V} {gD : List D → List D → List D} (hgd : ∀ ρ H ds zs vs ws, Reps (gX X cad) ρ H ds vs → Reps (gX X cad) ρ H zs ws → Reps (gX X cad) ρ H (gD ds zs) (gV vs ws))
    (Fo : FnOk X.prog X.w X.K X.mg X.base CX k f fd ps (spF (gX X cad) F)) (hr : Room k X.A) (hg : Gl X x) (hm : X.mg x = some (.ref f)) (hk : PySem.W.keepIn X.K (.ref f) = true) (hb : KBinds X.K fd ps ks gU gV) (hx : Passes CX X E) (hkw : PK X kws (tA (gX X cad) E mK))
    (hall : (backToKw pos (keywordEach kws X.env)).all (·.1.isSome) = true := by rfl) (hks : (backToKw pos (keywordEach kws X.env)).filterMap (·.1) = ks := by rfl)
    (hdb : (x == ("__debug__" : Str)) = false := by decide)
    (hpl : ((backTo pos (starEach [] X.env)).any (·.1) || (backToKw pos (keywordEach kws X.env)).any (·.1.isNone)) = false := by rfl) :
    PE X (.Call (.Name x p) [] kws pos) (tM (gX X cad) E (cCallK cNil mK gD F)) := by
  refine ⟨fun pins s σ H Q I h => ?_⟩
  obtain ⟨ρ, es, st, sr, sl, p⟩ := h
  refine wpAny_Call_Name_kw (ld_glob I hg hm ?_ hdb)
  refine PySem.W.callWith_KW0 (h₀ := X.base) I.ok.mod.kin hk hall ?_ hpl
  have q : tA (gX X cad) E mK σ H (fun zs H2 => spF (gX X cad) F (gV [] zs) H2 Q E) := ⟨ρ, es, st, sr, sl, PoE.bind (rel' := Reps (gX X cad)) (show PoE (gX X cad) ρ H E (Rep (gX X cad)) Q ((mK es st).bind fun zs s => F (gD [] zs) s) from p) fun ρ2 H2 ys ws st2 e2 t2 sr2 ry p2 =>
    ⟨ρ2, st2, _, sr2, hgd _ _ _ _ _ _ reps_nil ry, p2⟩⟩
  refine thn (hkw.run pos pins s σ H _ I q) fun ws s2 ⟨zs, H2, I2, rz, q2⟩ => ⟨I2.kIn, ?_⟩
  rw [hks]
  exact run_fnk (vs := []) Fo hr hb hx I2 .nil rz q2
/-- C(..) -/
def cMake (c : Nat) (mA : M (List D)) (F : List D → S → R D) : M D := fun es st => (mA es st).bind fun ds s => (F (.loc s.length :: ds) (s ++ [.ins c []])).bind fun d s2 => match d with
  | .non => .ok (.loc s.length) s2
  | _ => .bad
/-- o.f, a property -/
def propD (c : Nat) (F : List D → S → R D) (d : D) (s : S) : R D := match d with
  | .loc n => match getI s n with
    | some (c', _) => if c' = c then F [.loc n] s else .bad
    | none => .bad
  | _ => .bad
end
end Z
end
section
set_option Elab.async false
set_option linter.all false
set_option maxRecDepth 100000
set_option maxHeartbeats 4000000
/-! Z7: statements, loops, defs. -/
namespace Z
open PySem PySem.Spec PyProof.Rows L2

inductive Out where
  | nx (e : Ev) | rt (d : D) | bk (e : Ev) | ct (e : Ev)
def PoS (g : G) (ρ : List Addr) (H : Hp) (E : XK) (Dn : Ends) : R Out → Prop
  | .ok (.nx e) st => ∀ ρ' H' σ', ρ <+: ρ' → TLe g H H' → SR g ρ' st H' → Slo g ρ' H' e σ' → Dn.nx σ' H'
  | .ok (.rt d) st => ∀ ρ' H' v, ρ <+: ρ' → TLe g H H' → SR g ρ' st H' → Rep g ρ' H' d v → Dn.rt v H'
  | .ok (.bk e) st => ∀ ρ' H' σ', ρ <+: ρ' → TLe g H H' → SR g ρ' st H' → Slo g ρ' H' e σ' → Dn.bk σ' H'
  | .ok (.ct e) st => ∀ ρ' H' σ', ρ <+: ρ' → TLe g H H' → SR g ρ' st H' → Slo g ρ' H' e σ' → Dn.ct σ' H'
  | .exc c fs st => ∀ ρ' H' d, ρ <+: ρ' → TLe g H H' → SR g ρ' st H' → RepX g ρ' H' fs d → E (.ref (g.cad c)) d H'
  | .bad => False
def tS (g : G) (E : XK) (m : M Out) : TS := fun Dn σ H => ∃ ρ es st, SR g ρ st H ∧ Slo g ρ H es σ ∧ PoS g ρ H E Dn (m es st)
section
variable {g : G} {ρ ρ' : List Addr} {H H' : Hp} {E : XK} {Dn Dn' : Ends} {α β : Type} {rel : List Addr → Hp → α → β → Prop} {Q : β → Hp → Prop}
theorem PoS.mono {r : R Out} (p : PoS g ρ H E Dn r) (e : ρ <+: ρ') (t : TLe g H H') : PoS g ρ' H' E Dn r := by
  cases r with
  | ok o st => cases o with
    | rt d => exact fun ρ2 H2 b e2 t2 s r => p ρ2 H2 b (e.trans e2) (t.trans t2) s r
    | _ => exact fun ρ2 H2 b e2 t2 s r => p ρ2 H2 b (e.trans e2) (t.trans t2) s r
  | exc c fs st => exact fun ρ2 H2 d e2 t2 s r => p ρ2 H2 d (e.trans e2) (t.trans t2) s r
  | bad => exact p
/-- an expression, then a statement -/
theorem PoS.bind {r : R α} {f : α → S → R Out} (p : PoS g ρ H E Dn (r.bind f))
    (k : ∀ ρ' H' a b st, ρ <+: ρ' → TLe g H H' → SR g ρ' st H' → rel ρ' H' a b → PoS g ρ' H' E Dn (f a st) → Q b H') : PoE g ρ H E rel Q r := by
  cases r with
  | ok a st => exact fun ρ' H' b e t s r => k ρ' H' a b st e t s r (PoS.mono p e t)
  | exc c fs st => exact p
  | bad => exact p
/-- a statement, then what its outcome asks -/
theorem PoS.then {r : R Out} {f : Out → S → R Out} (p : PoS g ρ H E Dn (r.bind f))
    (kn : ∀ e ρ' H' σ' st, ρ <+: ρ' → TLe g H H' → SR g ρ' st H' → Slo g ρ' H' e σ' → PoS g ρ' H' E Dn (f (.nx e) st) → Dn'.nx σ' H')
    (kr : ∀ d ρ' H' v st, ρ <+: ρ' → TLe g H H' → SR g ρ' st H' → Rep g ρ' H' d v → PoS g ρ' H' E Dn (f (.rt d) st) → Dn'.rt v H')
    (kb : ∀ e ρ' H' σ' st, ρ <+: ρ' → TLe g H H' → SR g ρ' st H' → Slo g ρ' H' e σ' → PoS g ρ' H' E Dn (f (.bk e) st) → Dn'.bk σ' H')
    (kc : ∀ e ρ' H' σ' st, ρ <+: ρ' → TLe g H H' → SR g ρ' st H' → Slo g ρ' H' e σ' → PoS g ρ' H' E Dn (f (.ct e) st) → Dn'.ct σ' H') : PoS g ρ H E Dn' r := by
  cases r with
  | ok o st => cases o with
    | nx e => exact fun ρ' H' b e1 t s r => kn e ρ' H' b st e1 t s r (PoS.mono p e1 t)
    | rt d => exact fun ρ' H' b e1 t s r => kr d ρ' H' b st e1 t s r (PoS.mono p e1 t)
    | bk e => exact fun ρ' H' b e1 t s r => kb e ρ' H' b st e1 t s r (PoS.mono p e1 t)
    | ct e => exact fun ρ' H' b e1 t s r => kc e ρ' H' b st e1 t s r (PoS.mono p e1 t)
  | exc c fs st => exact p
  | bad => exact p
theorem PoS.nx {e : Ev} {st : S} {σ : L2.St} (p : PoS g ρ H E Dn (.ok (.nx e) st)) (s : SR g ρ st H) (sl : Slo g ρ H e σ) : Dn.nx σ H := p ρ H σ (List.prefix_refl _) TLe.refl s sl
theorem PoS.rt {d : D} {st : S} {v : V} (p : PoS g ρ H E Dn (.ok (.rt d) st)) (s : SR g ρ st H) (sl : Rep g ρ H d v) : Dn.rt v H := p ρ H v (List.prefix_refl _) TLe.refl s sl
end

/-! ### small statements -/
def sNext : M Out := fun es st => .ok (.nx es) st
def sBreak : M Out := fun es st => .ok (.bk es) st
def sSeq (a b : M Out) : M Out := fun es st => (a es st).bind fun o s => match o with
  | .nx e => b e s
  | o => .ok o s
def sDrop (m : M D) : M Out := fun es st => (m es st).bind fun _ s => .ok (.nx es) s
def sRet (m : M D) : M Out := fun es st => (m es st).bind fun d s => .ok (.rt d) s
def sRetN : M Out := fun _ st => .ok (.rt .non) st
section
variable {X : Cx} {cad : Nat → Addr} {E : XK} {st : Stmt} {rest a b : List Stmt} {e c : Expr} {m : M D} {ma mb : M Out} {mt : M Bool} {pos : Pos}
theorem s_nil : PSs X [] (tS (gX X cad) E sNext) := PSs.imp pss_nil fun Dn σ H h => by
  obtain ⟨ρ, es, st, sr, sl, p⟩ := h
  exact PoS.nx p sr sl
theorem s_cons (h1 : PS X st (tS (gX X cad) E ma)) (h2 : PSs X rest (tS (gX X cad) E mb)) : PSs X (st :: rest) (tS (gX X cad) E (sSeq ma mb)) := PSs.imp (pss_cons h1 h2) fun Dn σ H h => by
  obtain ⟨ρ, es, s0, sr, sl, p⟩ := h
  refine ⟨ρ, es, s0, sr, sl, PoS.then (Dn' := { Dn with nx := tS (gX X cad) E mb Dn }) p (fun e1 ρ1 H1 σ1 s1 x1 t1 sr1 sl1 p1 => ⟨ρ1, e1, s1, sr1, sl1, p1⟩) (fun d ρ1 H1 v s1 x1 t1 sr1 r1 p1 => p1.rt sr1 r1)
    (fun e1 ρ1 H1 σ1 s1 x1 t1 sr1 sl1 p1 => p1 ρ1 H1 σ1 (List.prefix_refl _) TLe.refl sr1 sl1) (fun e1 ρ1 H1 σ1 s1 x1 t1 sr1 sl1 p1 => p1 ρ1 H1 σ1 (List.prefix_refl _) TLe.refl sr1 sl1)⟩
theorem s_one (h1 : PS X st (tS (gX X cad) E ma)) : PSs X [st] (tS (gX X cad) E ma) := pss_one h1
theorem s_expr (he : PE X e (tM (gX X cad) E m)) (hs : swapsWith e none pos.line X.env = pure false := by rfl) : PS X (.Expr e pos) (tS (gX X cad) E (sDrop m)) := PS.imp (ps_expr he hs) fun Dn σ H h => by
  obtain ⟨ρ, es, st, sr, sl, p⟩ := h
  exact ⟨ρ, es, st, sr, sl, p.bind fun ρ1 H1 x v1 st1 e1 t1 sr1 rx p1 => p1.nx sr1 (sl.mono e1 t1)⟩
theorem s_ret (he : PE X e (tM (gX X cad) E m)) : PS X (.Return (some e) pos) (tS (gX X cad) E (sRet m)) := PS.imp (ps_ret he) fun Dn σ H h => by
  obtain ⟨ρ, es, st, sr, sl, p⟩ := h
  exact ⟨ρ, es, st, sr, sl, p.bind fun ρ1 H1 x v1 st1 e1 t1 sr1 rx p1 => p1.rt sr1 rx⟩
theorem s_if (hc : PT X c (tT (gX X cad) E mt)) (ha : PSs X a (tS (gX X cad) E ma)) (hb : PSs X b (tS (gX X cad) E mb)) : PS X (.If c a b pos) (tS (gX X cad) E (cIf mt ma mb)) := PS.imp (ps_if hc ha hb) fun Dn σ H h => by
  obtain ⟨ρ, es, st, sr, sl, p⟩ := h
  refine ⟨ρ, es, st, sr, sl, p.bind fun ρ1 H1 k v1 st1 e1 t1 sr1 rx p1 => ?_⟩
  subst rx
  cases k with
  | true => exact iteT ⟨ρ1, es, st1, sr1, sl.mono e1 t1, p1⟩
  | false => exact iteF ⟨ρ1, es, st1, sr1, sl.mono e1 t1, p1⟩
end

/-! ### targets -/
def setN (i : Nat) : Ev → D → Option Ev := fun es d => some (es.set i (some d))
def setAll : List Nat → List D → Ev → Ev
  | i :: is, d :: ds, es => setAll is ds (es.set i (some d))
  | _, _, es => es
def setT (is : List Nat) : Ev → D → Option Ev := fun es d => match d with
  | .tup xs => if xs.length = is.length then some (setAll is xs es) else none
  | _ => none
def gOf : List Nat → TGs
  | [] => gNil
  | i :: is => gCons (gName i) (gOf is)
def TgR (g : G) (tg : TG) (set : Ev → D → Option Ev) : Prop := ∀ ρ st H es es1 d v σ (Q : L2.St → Hp → Prop), SR g ρ st H → Slo g ρ H es σ → Rep g ρ H d v → set es d = some es1 → (∀ σ1, Slo g ρ H es1 σ1 → Q σ1 H) → tg v σ H Q
structure PGd (X : Cx) (cad : Nat → Addr) (target : Expr) (set : Ev → D → Option Ev) : Prop where
  ex : ∃ tg, PG X target tg ∧ TgR (gX X cad) tg set
section
variable {X : Cx} {cad : Nat → Addr} {E : XK} {x : Str} {pos : Pos}
theorem g_name {i : Nat} (hN : X.N.Nodup) (hi : X.N[i]? = some x := by rfl) (hx : Loc X.env.scope x := by first | exact Or.inl rfl | exact Or.inr rfl) (hf : X.fn x = true ∨ X.env.scope.names.lookup x = some .local := by first | exact .inl rfl | exact .inr rfl | assumption) : PGd X cad (.Name x pos) (setN i) :=
  ⟨_, pg_name hN hi hx hf, fun ρ st H es es1 d v σ Q sr sl r e q => by
    cases e
    exact q _ (sl.set i r)⟩
theorem gOf_ok {g : G} : ∀ {is : List Nat} {ρ : List Addr} {H : Hp} {es : Ev} {ds : List D} {vs : List V} {σ : L2.St} {Q : L2.St → Hp → Prop}, Slo g ρ H es σ → Reps g ρ H ds vs → ds.length = is.length → (∀ σ1, Slo g ρ H (setAll is ds es) σ1 → Q σ1 H) → gOf is vs σ H Q
  | [], ρ, H, es, ds, vs, σ, Q, sl, r, hl, q => by
    cases ds with
    | nil => exact ⟨r.nil, q _ sl⟩
    | cons d ds => cases hl
  | i :: is, ρ, H, es, ds, vs, σ, Q, sl, r, hl, q => by
    cases ds with
    | nil => cases hl
    | cons d ds =>
      obtain ⟨v, ws, rfl, r1, r2⟩ := r.cons
      exact ⟨v, ws, rfl, gOf_ok (sl.set i r1) r2 (Nat.succ.inj hl) q⟩
theorem g_tup {es : List Expr} {k : Nat} {is : List Nat} (hc : X.calm = true) (h : PGs X es (gOf is)) (hl : is.length = es.length := by rfl) (hn : (assignEach es X.env).length = is.length := by rfl) (hst : (assignEach es X.env).findIdx? (·.1) = none := by rfl) : PGd X cad (.Tuple es k pos) (setT is) :=
  ⟨_, pg_tup hc h hn hst, fun ρ st H es es1 d v σ Q sr sl r e q => by
    unfold setT at e
    split at e
    · split at e
      · rename_i hz
        cases e
        obtain ⟨a, vs, rfl, h1, h2⟩ := r.tup
        exact ⟨a, vs, rfl, h1, by rw [h2.length]; exact hz, gOf_ok sl h2 hz q⟩
      · cases e
    · cases e⟩
def sAsg (set : Ev → D → Option Ev) (m : M D) : M Out := fun es st => (m es st).bind fun d s => match set es d with
  | some e => .ok (.nx e) s
  | none => .bad
def sSet (i : Nat) (m : M D) : M Out := fun es st => (m es st).bind fun d s => .ok (.nx (es.set i (some d))) s
variable {e o ie : Expr} {m mo mi : M D} {tg : Expr}
theorem s_set {i : Nat} {pos' : Pos} (hN : X.N.Nodup) (he : PE X e (tM (gX X cad) E m)) (hi : X.N[i]? = some x := by rfl) (hx : Loc X.env.scope x := by first | exact Or.inl rfl | exact Or.inr rfl) (hs : swapsWith e (some (.Name x pos')) pos.line X.env = pure false := by rfl)
    (hf : X.fn x = true ∨ X.env.scope.names.lookup x = some .local := by first | exact .inl rfl | exact .inr rfl | assumption) : PS X (.Assign [.Name x pos'] e pos) (tS (gX X cad) E (sSet i m)) := PS.imp (ps_set hN hi hx he hs hf) fun Dn σ H h => by
  obtain ⟨ρ, es, st, sr, sl, p⟩ := h
  exact ⟨ρ, es, st, sr, sl, p.bind fun ρ1 H1 d v1 st1 e1 t1 sr1 rx p1 => p1.nx sr1 ((sl.mono e1 t1).set i rx)⟩
theorem s_asg {set : Ev → D → Option Ev} (he : PE X e (tM (gX X cad) E m)) (hg : PGd X cad tg set) (hs : swapsWithSole [tg] e pos.line X.env = pure false := by rfl) (hw : swappedStores [tg] e X.env = pure none := by rfl)
    (h1 : (assignEach [tg] X.env).map (·.2) = [assign tg X.env] := by rfl) : PS X (.Assign [tg] e pos) (tS (gX X cad) E (sAsg set m)) := by
  obtain ⟨t, h2, h3⟩ := hg.ex
  refine PS.imp (ps_asg he h2 hs hw h1) fun Dn σ H h => ?_
  obtain ⟨ρ, es, st, sr, sl, p⟩ := h
  refine ⟨ρ, es, st, sr, sl, p.bind fun ρ1 H1 d v1 st1 e1 t1 sr1 rx p1 => ?_⟩
  split at p1
  · rename_i es1 e2
    exact h3 _ _ _ _ _ _ _ _ _ sr1 (sl.mono e1 t1) rx e2 fun σ1 sl1 => p1.nx sr1 sl1
  · exact p1.elim
/-- o[i] = e, a list -/
def setIx (o i v : D) (s : S) : R Unit := match o, i with
  | .loc n, .int k => match getW s n with
    | some xs => match ixN xs.length k with
      | some j => .ok () (s.set n (.lst (xs.set j v)))
      | none => .bad
    | none => .bad
  | _, _ => .bad
def sSub (mo mi m : M D) : M Out := fun es st => (m es st).bind fun v s => (mo es s).bind fun o s => (mi es s).bind fun i s => (setIx o i v s).bind fun _ s => .ok (.nx es) s
theorem s_sub {p2 : Pos} (he : PE X e (tM (gX X cad) E m)) (ho : PE X o (tM (gX X cad) E mo)) (hi : PE X ie (tM (gX X cad) E mi))
    (ha : ∀ v, assign (.Subscript o ie p2) X.env v = (do
      let ov ← holding [v] (eval o X.env)
      let iv ← holding [v, ov] (eval ie X.env)
      standAt p2
      holding [v, ov, iv] (setItem ov iv v)
      release [v, ov, iv] []) := by intro _; rfl)
    (hs : swapsWithSole [.Subscript o ie p2] e pos.line X.env = pure false := by rfl) (hw : swappedStores [.Subscript o ie p2] e X.env = pure none := by rfl)
    (h1 : (assignEach [.Subscript o ie p2] X.env).map (·.2) = [assign (.Subscript o ie p2) X.env] := by rfl) : PS X (.Assign [.Subscript o ie p2] e pos) (tS (gX X cad) E (sSub mo mi m)) := by
  refine PS.imp (ps_asg he (pg_sub ho hi set_list ha) hs hw h1) fun Dn σ H h => ?_
  obtain ⟨ρ, es, st, sr, sl, p⟩ := h
  refine ⟨ρ, es, st, sr, sl, p.bind fun ρ1 H1 d v1 st1 e1 t1 sr1 rx p1 => ⟨ρ1, es, st1, sr1, sl.mono e1 t1, p1.bind fun ρ2 H2 od v2 st2 e2 t2 sr2 ro p2 => ⟨ρ2, es, st2, sr2, (sl.mono e1 t1).mono e2 t2, p2.bind fun ρ3 H3 id v3 st3 e3 t3 sr3 ri p3 => ?_⟩⟩⟩
  have rx3 := (rx.mono e2 t2).mono e3 t3
  have ro3 := ro.mono e3 t3
  have sl3 := ((sl.mono e1 t1).mono e2 t2).mono e3 t3
  unfold setIx at p3
  split at p3
  · split at p3
    · rename_i xs ex
      split at p3
      · rename_i j ej
        obtain ⟨a, ws, rfl, q0, h1, h2⟩ := sr3.locW ro3 ex
        cases ri.int
        have t4 : TLe (gX X cad) H3 (upd H3 a (.lst (ws.set j v1))) := TLe.put h1 (fun _ z => nomatch z) (fun _ _ z => nomatch z)
        refine ⟨a, ws, _, j, rfl, rfl, h1, by rw [h2.length]; exact ej, ?_⟩
        exact PoS.nx (PoS.mono p3 (List.prefix_refl _) t4) (sr3.put q0 (getW_eq ex) (fun _ z => nomatch z) h1 (fun _ z => nomatch z) (fun _ _ z => nomatch z) ⟨_, upd_same, (Reps.set rx3 j h2).mono (List.prefix_refl _) t4⟩) (sl3.mono (List.prefix_refl _) t4)
      · exact p3.elim
    · exact p3.elim
  · exact p3.elim
/-- o.f = e -/
def setF (c : Nat) (f : Str) (o v : D) (s : S) : R Unit := match o with
  | .loc n => match getI s n with
    | some (c', fs) => if c' = c ∧ fs.length < 1000 then .ok () (s.set n (.ins c (putD f v fs))) else .bad
    | none => .bad
  | _ => .bad
def sFldD (c : Nat) (f : Str) (mo m : M D) : M Out := fun es st => (m es st).bind fun v s => (mo es s).bind fun o s => (setF c f o v s).bind fun _ s => .ok (.nx es) s
end
end Z
end
section
set_option Elab.async false
set_option linter.all false
set_option maxRecDepth 100000
set_option maxHeartbeats 4000000
/-! Z8: loops, defs. -/
namespace Z
open PySem PySem.Spec PyProof.Rows L2

/-- what follows a turn's outcome -/
def afterTurn (k : Ev → S → R Out) : Out → S → R Out
  | .nx e, s => k e s
  | .ct e, s => k e s
  | .bk e, s => .ok (.nx e) s
  | .rt d, s => .ok (.rt d) s
/-- over items that stand -/
def forT (set : Ev → D → Option Ev) (b : M Out) : List D → M Out
  | [], es, st => .ok (.nx es) st
  | d :: ds, es, st => match set es d with
    | some es1 => (b es1 st).bind (afterTurn (forT set b ds))
    | none => .bad
/-- over a list as it stands at each turn -/
def forL (set : Ev → D → Option Ev) (b : M Out) (n : Nat) : Nat → Nat → M Out
  | 0, _, _, _ => .bad
  | k + 1, i, es, st => match getL st n with
    | none => .bad
    | some xs => match xs[i]? with
      | none => .ok (.nx es) st
      | some d => match set es d with
        | some es1 => (b es1 st).bind (afterTurn (forL set b n k (i + 1)))
        | none => .bad
def sFor (m : M D) (set : Ev → D → Option Ev) (b : M Out) : M Out := fun es st => (m es st).bind fun d s => match d with
  | .tup xs => forT set b xs es s
  | .loc n => forL set b n 1000000 0 es s
  | _ => .bad
def rangeD (lo : Int) (n : Nat) : List D := (List.range n).map fun k => D.int (lo + (k : Nat))
def sForR1 (mA : M (List D)) (set : Ev → D → Option Ev) (b : M Out) : M Out := fun es st => (mA es st).bind fun ds s => match ds with
  | [.int j] => if -(2 ^ 62) ≤ j ∧ j < 2 ^ 62 then forT set b (rangeD 0 j.toNat) es s else .bad
  | _ => .bad
def sForR2 (mA : M (List D)) (set : Ev → D → Option Ev) (b : M Out) : M Out := fun es st => (mA es st).bind fun ds s => match ds with
  | [.int i, .int j] => if (-(2 ^ 62) ≤ i ∧ i < 2 ^ 62) ∧ -(2 ^ 62) ≤ j ∧ j < 2 ^ 62 then forT set b (rangeD i (j - i).toNat) es s else .bad
  | _ => .bad
def whileN (mc : M Bool) (b : M Out) : Nat → M Out
  | 0, _, _ => .bad
  | k + 1, es, st => (mc es st).bind fun t s => match t with
    | true => (b es s).bind (afterTurn (whileN mc b k))
    | false => .ok (.nx es) s
def sWhile (mc : M Bool) (b : M Out) : M Out := whileN mc b 1000000
section
variable {X : Cx} {cad : Nat → Addr} {E : XK} {tg iter c : Expr} {body : List Stmt} {set : Ev → D → Option Ev} {m : M D} {mA : M (List D)} {b : M Out} {mc : M Bool} {pos : Pos}
/-- a turn's outcome -/
theorem turn_ok {g : G} {ρ : List Addr} {H : Hp} {Dn : Ends} {r : R Out} {k : Ev → S → R Out} {N : L2.St → Hp → Prop} (p : PoS g ρ H E Dn (r.bind (afterTurn k)))
    (hN : ∀ e ρ' H' σ' st, ρ <+: ρ' → TLe g H H' → SR g ρ' st H' → Slo g ρ' H' e σ' → PoS g ρ' H' E Dn (k e st) → N σ' H') : PoS g ρ H E { Dn with nx := N, ct := N, bk := Dn.nx } r :=
  PoS.then p hN (fun d ρ1 H1 v s1 x1 t1 sr1 r1 p1 => p1.rt sr1 r1) (fun e1 ρ1 H1 σ1 s1 x1 t1 sr1 sl1 p1 => p1.nx sr1 sl1) hN
/-- the items stand: J's turns are those of xs -/
theorem forT_W (J : It) {tgr : TG} {g : G} {Dn : Ends} {xs : List D} (ht : TgR g tgr set) (P : Hp → Prop) {ρ : List Addr} (hP : ∀ H H', TLe g H H' → P H → P H')
    (hg : ∀ i H d, xs[i]? = some d → P H → J.go i H) (hs : ∀ H, P H → J.stop xs.length H) (hy : ∀ i H d v H' ρ0, ρ <+: ρ0 → xs[i]? = some d → P H → J.yld i H v H' → H' = H ∧ Rep g ρ0 H d v)
    {H : Hp} {es : Ev} {st : S} {σ : L2.St} (sr : SR g ρ st H) (sl : Slo g ρ H es σ) (hp : P H) (p : PoS g ρ H E Dn (forT set b xs es st)) :
    ∃ W : Nat → Nat → L2.St → Hp → Prop, (∃ m, W 0 m σ H) ∧ ∀ i m σ H, W i m σ H → (J.stop i H ∧ Dn.nx σ H) ∨ (J.go i H ∧ ∃ N : L2.St → Hp → Prop, (∀ σ' H', N σ' H' → ∃ m', m' < m ∧ W (i + 1) m' σ' H') ∧
      ∀ x H', J.yld i H x H' → tgr x σ H' fun σ2 H2 => tS g E b { Dn with nx := N, ct := N, bk := Dn.nx } σ2 H2) := by
  refine ⟨fun i m σ H => i + m = xs.length ∧ P H ∧ ∃ ρ1 es st, ρ <+: ρ1 ∧ SR g ρ1 st H ∧ Slo g ρ1 H es σ ∧ PoS g ρ1 H E Dn (forT set b (xs.drop i) es st), ⟨xs.length, by omega, hp, ρ, es, st, List.prefix_refl _, sr, sl, p⟩, ?_⟩
  rintro i m σ1 H1 ⟨him, hp1, ρ1, es1, st1, pre, sr1, sl1, p1⟩
  cases hd : xs[i]? with
  | none =>
    have hi : xs.length ≤ i := List.getElem?_eq_none_iff.mp hd
    have ei : i = xs.length := by omega
    subst ei
    rw [List.drop_length] at p1
    exact .inl ⟨hs H1 hp1, PoS.nx p1 sr1 sl1⟩
  | some d =>
    have hi : i < xs.length := (List.getElem?_eq_some_iff.mp hd).1
    have ed : xs.drop i = d :: xs.drop (i + 1) := by
      rw [List.drop_eq_getElem_cons hi, (List.getElem?_eq_some_iff.mp hd).2]
    rw [ed] at p1
    unfold forT at p1
    refine .inr ⟨hg i H1 d hd hp1, fun σ' H' => P H' ∧ ∃ ρ2 es2 st2, ρ <+: ρ2 ∧ SR g ρ2 st2 H' ∧ Slo g ρ2 H' es2 σ' ∧ PoS g ρ2 H' E Dn (forT set b (xs.drop (i + 1)) es2 st2), fun σ' H' h => ⟨m - 1, by omega, by omega, h⟩, fun x H' hyl => ?_⟩
    obtain ⟨eH, rx⟩ := hy i H1 d x H' ρ1 pre hd hp1 hyl
    subst eH
    split at p1
    · rename_i es2 e2
      refine ht _ _ _ _ _ _ _ _ _ sr1 sl1 rx e2 fun σ2 sl2 => ?_
      exact ⟨ρ1, es2, st1, sr1, sl2, turn_ok p1 fun e3 ρ3 H3 σ3 st3 x3 t3 sr3 sl3 p3 => ⟨hP _ _ t3 hp1, ρ3, e3, st3, pre.trans x3, sr3, sl3, p3⟩⟩
    · exact p1.elim
/-- for over a value -/
theorem s_for (hp : PassesOwn (model X.prog X.w) X.A X.env X.xe) (hc : X.calm = true) (he : PE X iter (tM (gX X cad) E m)) (hg : PGd X cad tg set) (hb : PSs X body (tS (gX X cad) E b)) (hs : ∀ x, foldedSetIterable iter X.env x = pure x := by intro _; rfl) : PS X (.For tg iter body [] pos) (tS (gX X cad) E (sFor m set b)) := by
  obtain ⟨t, h2, h3⟩ := hg.ex
  refine ⟨fun pins s σ H Dn I h => ?_⟩
  obtain ⟨ρ, es, st, sr, sl, p⟩ := h
  unfold sFor at p
  cases hm : m es st with
  | ok d s1 =>
    rw [hm] at p
    simp only [R.bind] at p
    split at p
    · rename_i xs
      refine (ps_for hp hc (pi_tup he) h2 hb hs).run pins s σ H Dn I ⟨ρ, es, st, sr, sl, ?_⟩
      rw [hm]
      intro ρ1 H1 v e1 t1 sr1 rx
      obtain ⟨a, vs, rfl, k1, k2⟩ := rx.tup
      refine ⟨a, rfl, ⟨vs, k1⟩, forT_W (Itt X.K a) (xs := xs) h3 (fun H => SqT X.K H a vs ∧ ∀ ρ0, ρ1 <+: ρ0 → Reps (gX X cad) ρ0 H xs vs) (fun H H' tl h => ⟨tl.tup _ _ h.1, fun ρ0 e => (h.2 ρ0 e).mono (List.prefix_refl _) tl⟩) (fun i H d hd h => ?_)
        (fun H h => ⟨vs, h.1, by rw [(h.2 _ (List.prefix_refl _)).length]; exact Nat.le_refl _⟩) (fun i H d v H' ρ0 e0 hd h hy => ?_) sr1 (sl.mono e1 t1) ⟨k1, fun ρ0 e => k2.mono e TLe.refl⟩ (p.mono e1 t1)⟩
      · obtain ⟨w, w1, _⟩ := (h.2 _ (List.prefix_refl _)).get hd
        exact ⟨vs, w, h.1, w1⟩
      · obtain ⟨w, w1, w2⟩ := (h.2 _ e0).get hd
        have e5 := hy.2 vs h.1
        rw [w1] at e5
        cases e5
        exact ⟨hy.1, w2⟩
    · rename_i n
      refine (ps_for hp hc (pi_list he) h2 hb hs).run pins s σ H Dn I ⟨ρ, es, st, sr, sl, ?_⟩
      rw [hm]
      intro ρ1 H1 v e1 t1 sr1 rx
      obtain ⟨a, q0, rfl⟩ := rx.loc
      have p1 := p.mono e1 t1
      have hx : ∃ vs, SqL X.K H1 a vs := by
        unfold forL at p1
        split at p1
        · exact p1.elim
        · rename_i xs ex
          obtain ⟨a', vs, w1, h1, _⟩ := sr1.getL ex
          rw [q0] at w1
          cases w1
          exact ⟨vs, h1⟩
      refine ⟨a, rfl, hx, fun i m σ H => ∃ ρ2 es2 st2, ρ2[n]? = some a ∧ SR (gX X cad) ρ2 st2 H ∧ Slo (gX X cad) ρ2 H es2 σ ∧ PoS (gX X cad) ρ2 H E Dn (forL set b n m i es2 st2), ⟨1000000, ρ1, es, s1, q0, sr1, sl.mono e1 t1, p1⟩, ?_⟩
      rintro i m σ2 H2 ⟨ρ2, es2, st2, q2, sr2, sl2, p2⟩
      cases m with
      | zero => exact p2.elim
      | succ m =>
        unfold forL at p2
        split at p2
        · exact p2.elim
        · rename_i xs ex
          obtain ⟨a', vs, w1, h1, k2⟩ := sr2.getL ex
          rw [q2] at w1
          cases w1
          split at p2
          · rename_i en
            exact .inl ⟨⟨vs, h1, by rw [k2.length]; exact List.getElem?_eq_none_iff.mp en⟩, PoS.nx p2 sr2 sl2⟩
          · rename_i d ed
            obtain ⟨w, w1, w2⟩ := k2.get ed
            refine .inr ⟨⟨vs, w, h1, w1⟩, fun σ' H' => ∃ ρ3 es3 st3, ρ3[n]? = some a ∧ SR (gX X cad) ρ3 st3 H' ∧ Slo (gX X cad) ρ3 H' es3 σ' ∧ PoS (gX X cad) ρ3 H' E Dn (forL set b n m (i + 1) es3 st3), fun σ' H' h => ⟨m, Nat.lt_succ_self _, h⟩, fun x H' hyl => ?_⟩
            obtain ⟨rfl, hy2⟩ := hyl
            have e5 := hy2 vs h1
            rw [w1] at e5
            cases e5
            split at p2
            · rename_i es3 e3
              refine h3 _ _ _ _ _ _ _ _ _ sr2 sl2 w2 e3 fun σ3 sl3 => ?_
              exact ⟨ρ2, es3, st2, sr2, sl3, turn_ok p2 fun e4 ρ4 H4 σ4 st4 x4 t4 sr4 sl4 p4 => ⟨ρ4, e4, st4, pre_get x4 q2, sr4, sl4, p4⟩⟩
            · exact p2.elim
    · exact p.elim
  | exc c fs s1 =>
    refine (ps_for hp hc (pi_tup he) h2 hb hs).run pins s σ H Dn I ⟨ρ, es, st, sr, sl, ?_⟩
    rw [hm] at p ⊢
    exact p
  | bad =>
    rw [hm] at p
    exact p.elim
theorem rangeD_get {lo : Int} {n i : Nat} {d : D} (h : (rangeD lo n)[i]? = some d) : i < n ∧ d = .int (lo + (i : Nat)) := by
  unfold rangeD at h
  rw [List.getElem?_map] at h
  cases e : (List.range n)[i]? with
  | none => rw [e] at h; cases h
  | some k =>
    rw [e] at h
    obtain ⟨h1, h2⟩ := List.getElem?_eq_some_iff.mp e
    rw [List.length_range] at h1
    rw [List.getElem_range] at h2
    subst h2
    exact ⟨h1, (Option.some.inj h).symm⟩
theorem rangeD_len {lo : Int} {n : Nat} : (rangeD lo n).length = n := by
  unfold rangeD
  rw [List.length_map, List.length_range]
theorem rng_W {tgr : TG} {Dn : Ends} {lo : Int} {n : Nat} (ht : TgR (gX X cad) tgr set) {ρ : List Addr} {H : Hp} {es : Ev} {st : S} {σ : L2.St} (sr : SR (gX X cad) ρ st H) (sl : Slo (gX X cad) ρ H es σ) (p : PoS (gX X cad) ρ H E Dn (forT set b (rangeD lo n) es st)) :
    ∃ W : Nat → Nat → L2.St → Hp → Prop, (∃ m, W 0 m σ H) ∧ ∀ i m σ H, W i m σ H → ((Itr lo n).stop i H ∧ Dn.nx σ H) ∨ ((Itr lo n).go i H ∧ ∃ N : L2.St → Hp → Prop, (∀ σ' H', N σ' H' → ∃ m', m' < m ∧ W (i + 1) m' σ' H') ∧
      ∀ x H', (Itr lo n).yld i H x H' → tgr x σ H' fun σ2 H2 => tS (gX X cad) E b { Dn with nx := N, ct := N, bk := Dn.nx } σ2 H2) :=
  forT_W (Itr lo n) (xs := rangeD lo n) ht (fun _ => True) (fun _ _ _ _ => True.intro) (fun i H d hd _ => (rangeD_get hd).1) (fun H _ => by rw [rangeD_len]; exact Nat.le_refl _) (fun i H d v H' ρ0 _ hd _ hy => by
      obtain ⟨_, rfl⟩ := rangeD_get hd
      rw [hy.2]
      exact ⟨hy.1, rep_int⟩) sr sl True.intro p
theorem s_forR1 {a : Expr} {p1 p2 : Pos} (hp : PassesOwn (model X.prog X.w) X.A X.env X.xe) (hc : X.calm = true) (hgr : Gl X "range") (hmr : X.mg "range" = none) (ha : PA X [a] (tA (gX X cad) E mA)) (hg : PGd X cad tg set) (hb : PSs X body (tS (gX X cad) E b))
    (hs : starEach [a] X.env = [(false, eval a X.env)] := by rfl) : PS X (.For tg (.Call (.Name "range" p1) [a] [] p2) body [] pos) (tS (gX X cad) E (sForR1 mA set b)) := by
  obtain ⟨t, h2, h3⟩ := hg.ex
  refine PS.imp (ps_for hp hc (pi_range1 hgr hmr ha hs) h2 hb) fun Dn σ H h => ?_
  obtain ⟨ρ, es, st, sr, sl, p⟩ := h
  refine ⟨ρ, es, st, sr, sl, p.bind fun ρ1 H1 ds vs s1 e1 t1 sr1 rx p1 => ?_⟩
  split at p1
  · split at p1
    · rename_i hz
      obtain ⟨v, rfl, r1⟩ := rx.uno
      exact ⟨_, by rw [r1.int], hz.1, hz.2, rng_W h3 sr1 (sl.mono e1 t1) p1⟩
    · exact p1.elim
  · exact p1.elim
theorem s_while (hp : PassesOwn (model X.prog X.w) X.A X.env X.xe) (ht : PT X c (tT (gX X cad) E mc)) (hb : PSs X body (tS (gX X cad) E b)) : PS X (.While c body [] pos) (tS (gX X cad) E (sWhile mc b)) := by
  refine PS.imp (ps_while hp ht hb) fun Dn σ H h => ?_
  obtain ⟨ρ, es, st, sr, sl, p⟩ := h
  refine ⟨fun m σ H => ∃ ρ es st, SR (gX X cad) ρ st H ∧ Slo (gX X cad) ρ H es σ ∧ PoS (gX X cad) ρ H E Dn (whileN mc b m es st), ⟨1000000, ρ, es, st, sr, sl, p⟩, ?_⟩
  rintro m σ1 H1 ⟨ρ1, es1, st1, sr1, sl1, p1⟩
  cases m with
  | zero => exact p1.elim
  | succ m =>
    unfold whileN at p1
    refine ⟨ρ1, es1, st1, sr1, sl1, p1.bind fun ρ2 H2 k v st2 e2 t2 sr2 rk p2 => ?_⟩
    subst rk
    cases k with
    | true => exact iteT ⟨fun σ' H' => ∃ ρ es st, SR (gX X cad) ρ st H' ∧ Slo (gX X cad) ρ H' es σ' ∧ PoS (gX X cad) ρ H' E Dn (whileN mc b m es st), fun σ' H' h => ⟨m, Nat.lt_succ_self _, h⟩, ρ2, es1, st2, sr2, sl1.mono e2 t2, turn_ok p2 fun e4 ρ4 H4 σ4 st4 x4 t4 sr4 sl4 p4 => ⟨ρ4, e4, st4, sr4, sl4, p4⟩⟩
    | false => exact iteF (PoS.nx p2 sr2 (sl1.mono e2 t2))
end

/-! ### defs -/
def fnD (N n : Nat) (b : M Out) : List D → S → R D := fun ds st => if ds.length = n then (b (ds.map some ++ List.replicate (N - n) none) st).bind fun o s => match o with
    | .rt d => .ok d s
    | .nx _ => .ok .non s
    | _ => .bad
  else .bad
theorem start_slo {g : G} {ρ : List Addr} {H : Hp} {ds : List D} {vs : List V} (r : Reps g ρ H ds vs) (N : List Str) : Slo g ρ H (ds.map some ++ List.replicate (N.length - ds.length) none) (L2.start N vs) := by
  unfold L2.start
  refine ⟨by simp [r.length], fun i d e => ?_⟩
  by_cases hi : i < ds.length
  · rw [List.getElem?_append_left (by rw [List.length_map]; exact hi), List.getElem?_map] at e
    cases q : ds[i]? with
    | none => rw [q] at e; cases e
    | some d' =>
      rw [q] at e
      cases e
      obtain ⟨v, q1, q2⟩ := r.get q
      refine ⟨v, ?_, q2⟩
      rw [List.getElem?_append_left (by rw [List.length_map, r.length]; exact hi), List.getElem?_map, q1]
      rfl
  · rw [List.getElem?_append_right (by rw [List.length_map]; omega), List.getElem?_replicate] at e
    split at e <;> cases e
section
variable {P : Program} {w : World} {K : PySem.W.Frag} {mg : Str → Option Value} {base : Heap} {cad : Nat → Addr}
theorem fn_ok {x qual : Str} {st : Stmt} {f : Addr} {fd : FuncData} {N ps : List Str} {k : Nat} {b : M Out} (F : Fun K x qual st f fd) (Sc : FnScope N ps (defScope st))
    (hb : ∀ (cdv : Value) (A : Around) (outer : List Env) (s : Shared) (H : Hp) (E : XK), Room k (A.deeper (envOfC qual (defScope st) s.heap.objs.size f cdv)) →
      PSs (cxOf (L2.CX P w) P w K mg base N qual (defScope st) f cdv A outer s H E) (defBody st) (tS ⟨K, cad⟩ E b)) : FnOk P w K mg base (L2.CX P w) (k + 1) f fd ps (spF ⟨K, cad⟩ (fnD N.length ps.length b)) := by
  refine F.okX Sc (fun vs H Q E h => ?_) (fun cdv A outer s H vs Q E hr h => ?_)
  · obtain ⟨ρ, s0, ds, sr, rs, p⟩ := h
    unfold fnD at p
    split at p
    · rename_i hl
      rw [rs.length]
      exact hl
    · exact p.elim
  · obtain ⟨ρ, s0, ds, sr, rs, p⟩ := h
    refine ⟨_, hb cdv A outer s H E hr, ρ, _, s0, sr, start_slo rs N, ?_⟩
    unfold fnD at p
    split at p
    · rename_i hl
      rw [hl]
      cases hm : b (ds.map some ++ List.replicate (N.length - ps.length) none) s0 with
      | ok o s1 =>
        rw [hm] at p
        cases o with
        | nx e => exact fun ρ' H' σ' e1 t1 sr1 sl1 => p ρ' H' .non e1 t1 sr1 rep_non
        | rt d => exact fun ρ' H' v e1 t1 sr1 r1 => p ρ' H' v e1 t1 sr1 r1
        | bk e => exact p.elim
        | ct e => exact p.elim
      | exc c fs s1 =>
        rw [hm] at p
        exact p
      | bad =>
        rw [hm] at p
        exact p.elim
    · exact p.elim
/-- what leaves a def's body, what a call in it hands on -/
theorem own_ok {N : List Str} {qual : Str} {sc : Scope} {f : Addr} {cdv : Value} {A : Around} {outer : List Env} {s : Shared} {H : Hp} {E : XK} :
    PassesOwn (model P w) (cxOf (L2.CX P w) P w K mg base N qual sc f cdv A outer s H E).A (cxOf (L2.CX P w) P w K mg base N qual sc f cdv A outer s H E).env (cxOf (L2.CX P w) P w K mg base N qual sc f cdv A outer s H E).xe := passes_of (X := cxOf (L2.CX P w) P w K mg base N qual sc f cdv A outer s H E) rfl
theorem hand_on {N : List Str} {qual : Str} {sc : Scope} {f : Addr} {cdv : Value} {A : Around} {outer : List Env} {s : Shared} {H : Hp} {E : XK} :
    Passes (L2.CX P w) (cxOf (L2.CX P w) P w K mg base N qual sc f cdv A outer s H E) E := passes_call (X := cxOf (L2.CX P w) P w K mg base N qual sc f cdv A outer s H E) (W := fun cls d _ H => E cls d H) (takes_of rfl rfl rfl rfl) (fun _ _ _ _ h => h)
end
end Z
end
section
set_option Elab.async false
set_option linter.all false
set_option maxRecDepth 100000
set_option maxHeartbeats 4000000
/-! Z9: comprehensions. -/
namespace Z
open PySem PySem.Spec PyProof.Rows L2

def wipeD (es : Ev) : List Nat → Ev
  | [] => es
  | v :: vs => (wipeD es vs).set v none
/-- an item is added to the list at n -/
def addIt (n : Nat) (y : D) (s : S) : R Unit := match getW s n with
  | some acc => if acc.length < 1000000 then .ok () (s.set n (.lst (acc ++ [y]))) else .bad
  | none => .bad
def compTurn (n : Nat) (mt : M Bool) (me : M D) : M Unit := fun es st => (mt es st).bind fun k s => match k with
  | true => (me es s).bind fun y s => addIt n y s
  | false => .ok () s
def compT (n : Nat) (set : Ev → D → Option Ev) (mt : M Bool) (me : M D) : List D → M Unit
  | [], _, st => .ok () st
  | d :: ds, es, st => match set es d with
    | some es1 => (compTurn n mt me es1 st).bind fun _ s => compT n set mt me ds es s
    | none => .bad
def compL (n : Nat) (set : Ev → D → Option Ev) (mt : M Bool) (me : M D) (l : Nat) : Nat → Nat → M Unit
  | 0, _, _, _ => .bad
  | k + 1, i, es, st => match getL st l with
    | none => .bad
    | some xs => match xs[i]? with
      | none => .ok () st
      | some d => match set es d with
        | some es1 => (compTurn n mt me es1 st).bind fun _ s => compL n set mt me l k (i + 1) es s
        | none => .bad
/-- what raises within is not followed -/
def noX {α : Type} (r : R α) : R α := match r with
  | .ok a s => .ok a s
  | _ => .bad
def compV (set : Ev → D → Option Ev) (vs : List Nat) (mt : M Bool) (me : M D) (xs : List D) : M D := fun es s =>
  (noX (compT s.length set mt me xs (wipeD es vs) (s ++ [.lst []]))).bind fun _ s2 => .ok (.loc s.length) s2
def cComp (m : M D) (set : Ev → D → Option Ev) (vs : List Nat) (mt : M Bool) (me : M D) : M D := fun es st => (m es st).bind fun d s => match d with
  | .tup xs => compV set vs mt me xs es s
  | .loc l => (noX (compL s.length set mt me l 1000000 0 (wipeD es vs) (s ++ [.lst []]))).bind fun _ s2 => .ok (.loc s.length) s2
  | _ => .bad
def cCompR1 (mA : M (List D)) (set : Ev → D → Option Ev) (vs : List Nat) (mt : M Bool) (me : M D) : M D := fun es st => (mA es st).bind fun ds s => match ds with
  | [.int j] => if -(2 ^ 62) ≤ j ∧ j < 2 ^ 62 then compV set vs mt me (rangeD 0 j.toNat) es s else .bad
  | _ => .bad
def cCompR2 (mA : M (List D)) (set : Ev → D → Option Ev) (vs : List Nat) (mt : M Bool) (me : M D) : M D := fun es st => (mA es st).bind fun ds s => match ds with
  | [.int i, .int j] => if (-(2 ^ 62) ≤ i ∧ i < 2 ^ 62) ∧ -(2 ^ 62) ≤ j ∧ j < 2 ^ 62 then compV set vs mt me (rangeD i (j - i).toNat) es s else .bad
  | _ => .bad
def cYes : M Bool := fun _ st => .ok true st
/-- a target within own names -/
def OwnT (set : Ev → D → Option Ev) (vs : List Nat) (tg : TG) : Prop := ∀ v (σ : L2.St) H Q, tg v σ H Q → tg v σ H fun σ2 H2 => wipe σ2 vs = wipe σ vs ∧ Q σ2 H2
theorem wipe_get {σ : L2.St} {j : Nat} : ∀ {vs : List Nat}, (wipe σ vs)[j]? = if j ∈ vs ∧ j < σ.length then some none else σ[j]?
  | [] => by simp [wipe]
  | v :: vs => by
    unfold wipe
    by_cases hj : v = j
    · subst hj
      by_cases hl : v < σ.length
      · rw [List.getElem?_set_self (by rw [wipe_length]; exact hl), if_pos ⟨List.mem_cons_self .., hl⟩]
      · rw [if_neg (fun h => hl h.2), List.getElem?_eq_none (by rw [List.length_set, wipe_length]; omega), List.getElem?_eq_none (by omega)]
    · rw [List.getElem?_set_ne hj, wipe_get]
      have e : (j ∈ v :: vs) = (j ∈ vs) := by
        rw [List.mem_cons]
        exact propext ⟨fun h => h.resolve_left fun z => hj z.symm, .inr⟩
      simp only [e]
theorem wipe_set {σ : L2.St} {vs : List Nat} {i : Nat} {x : Option V} (h : i ∈ vs) : wipe (σ.set i x) vs = wipe σ vs := by
  apply List.ext_getElem?
  intro j
  rw [wipe_get, wipe_get, List.length_set]
  by_cases hj : i = j
  · subst hj
    by_cases hl : i < σ.length
    · rw [if_pos ⟨h, hl⟩, if_pos ⟨h, hl⟩]
    · rw [if_neg (fun z => hl z.2), if_neg (fun z => hl z.2), List.getElem?_eq_none (by rw [List.length_set]; omega), List.getElem?_eq_none (by omega)]
  · rw [List.getElem?_set_ne hj]
theorem wipe_wipe {σ : L2.St} {vs : List Nat} : wipe (wipe σ vs) vs = wipe σ vs := by
  apply List.ext_getElem?
  intro j
  rw [wipe_get, wipe_get, wipe_length]
  by_cases h : j ∈ vs ∧ j < σ.length
  · rw [if_pos h, if_pos h]
  · rw [if_neg h, if_neg h]
theorem wipe_slo {g : G} {ρ : List Addr} {H : Hp} {es : Ev} {σ : L2.St} (h : Slo g ρ H es σ) : ∀ vs : List Nat, Slo g ρ H (wipeD es vs) (wipe σ vs)
  | [] => h
  | v :: vs => by
    obtain ⟨h1, h2⟩ := wipe_slo h vs
    unfold wipeD wipe
    refine ⟨by rw [List.length_set, List.length_set]; exact h1, fun i d e => ?_⟩
    by_cases hv : v = i
    · subst hv
      by_cases hl : v < (wipeD es vs).length
      · rw [List.getElem?_set_self hl] at e
        cases e
      · rw [List.getElem?_eq_none (by rw [List.length_set]; omega)] at e
        cases e
    · rw [List.getElem?_set_ne hv] at e
      rw [List.getElem?_set_ne hv]
      exact h2 i d e
/-- targets of a comprehension -/
structure PGo (X : Cx) (cad : Nat → Addr) (target : Expr) (set : Ev → D → Option Ev) (tg : TG) (vs : List Nat) : Prop where
  pg : PG X target tg
  ok : TgR (gX X cad) tg set
theorem own_name {i : Nat} {vs : List Nat} (h : i ∈ vs) : OwnT (setN i) vs (gName i) := fun v σ H Q q => ⟨wipe_set h, q⟩
theorem tgr_name {g : G} {i : Nat} : TgR g (gName i) (setN i) := fun ρ st H es es1 d v σ Q sr sl r e q => by
  cases e
  exact q _ (sl.set i r)
section
variable {X : Cx} {cad : Nat → Addr} {E : XK} {elt tg iter : Expr} {ifs : List Expr} {scope : Scope} {own : List (Str × Nat)} {set : Ev → D → Option Ev} {tgr : TG} {m me : M D} {mA : M (List D)} {mt : M Bool} {pos : Pos}
theorem PoE.inner {g : G} {ρ : List Addr} {H : Hp} {α β α' β' : Type} {rel : List Addr → Hp → α → β → Prop} {rel' : List Addr → Hp → α' → β' → Prop} {Q : β → Hp → Prop} {Q' : β' → Hp → Prop} {r : R α'} {f : α' → S → R α}
    (p : PoE g ρ H (fun _ _ _ => False) rel Q (r.bind f)) (k : ∀ ρ' H' a b st, ρ <+: ρ' → TLe g H H' → SR g ρ' st H' → rel' ρ' H' a b → PoE g ρ' H' (fun _ _ _ => False) rel Q (f a st) → Q' b H') : PoE g ρ H (fun _ _ _ => False) rel' Q' r := PoE.bind p k
/-- one turn of a comprehension -/
theorem turn_comp {g : G} {ρ : List Addr} {H : Hp} {es1 : Ev} {st : S} {σ2 : L2.St} {n : Nat} {Da : Addr} {Q : VK} {Nx : Hp → Prop} {f : Unit → S → R D} (sr : SR g ρ st H) (sl : Slo g ρ H es1 σ2) (hn : ρ[n]? = some Da)
    (p : PoE g ρ H (fun _ _ _ => False) (Rep g) Q ((compTurn n mt me es1 st).bind f)) (kN : ∀ ρ' H' s', ρ <+: ρ' → TLe g H H' → SR g ρ' s' H' → PoE g ρ' H' (fun _ _ _ => False) (Rep g) Q (f () s') → Nx H') :
    tT g (fun _ _ _ => False) mt σ2 H fun b H3 => if b = true then tM g (fun _ _ _ => False) me σ2 H3 fun y H4 => ∃ acc, H4 Da = some (.lst acc) ∧ acc.length < sizeLine ∧ Nx (upd H4 Da (.lst (acc ++ [y]))) else Nx H3 := by
  unfold compTurn at p
  have p' : PoE g ρ H (fun _ _ _ => False) (Rep g) Q ((mt es1 st).bind fun k s => ((match k with
    | true => (me es1 s).bind fun y s => addIt n y s
    | false => .ok () s) : R Unit).bind f) := by
    cases hm : mt es1 st with
    | ok k s => rw [hm] at p; exact p
    | exc c fs s => rw [hm] at p; exact p
    | bad => rw [hm] at p; exact p
  refine ⟨ρ, es1, st, sr, sl, PoE.bind p' fun ρ1 H1 k v st1 e1 t1 sr1 rk p1 => ?_⟩
  subst rk
  cases k with
  | false => exact iteF (kN ρ1 H1 st1 e1 t1 sr1 p1)
  | true =>
    refine iteT ?_
    have p2 : PoE g ρ1 H1 (fun _ _ _ => False) (Rep g) Q ((me es1 st1).bind fun y s => (addIt n y s).bind f) := by
      cases hm : me es1 st1 with
      | ok k s => simp only [hm] at p1; exact p1
      | exc c fs s => simp only [hm] at p1; exact p1
      | bad => simp only [hm] at p1; exact p1
    refine ⟨ρ1, es1, st1, sr1, sl.mono e1 t1, PoE.bind p2 fun ρ2 H2 y v st2 e2 t2 sr2 ry p3 => ?_⟩
    unfold addIt at p3
    split at p3
    · rename_i acc ea
      split at p3
      · rename_i hz
        obtain ⟨a, ws, q0, h1, h2⟩ := sr2.getW ea
        have q1 := pre_get (e1.trans e2) hn
        rw [q1] at q0
        cases q0
        have t4 : TLe g H2 (upd H2 Da (.lst (ws ++ [v]))) := TLe.put h1 (fun _ z => nomatch z) (fun _ _ z => nomatch z)
        refine ⟨ws, h1, by rw [h2.length]; exact sz1 hz, kN ρ2 _ _ (e1.trans e2) ((t1.trans t2).trans t4) (sr2.put (o := .lst (acc ++ [y])) q1 (getW_eq ea) (fun _ z => nomatch z) h1 (fun _ z => nomatch z) (fun _ _ z => nomatch z) ⟨_, upd_same, ((h2.append (Reps.one ry)).mono (List.prefix_refl _) t4)⟩) (PoE.mono p3 (List.prefix_refl _) t4)⟩
      · exact p3.elim
    · exact p3.elim
theorem own_w {vs : List Nat} (ow : OwnT set vs tgr) {v : V} {σ : L2.St} {H : Hp} {Q : L2.St → Hp → Prop} (q : tgr v (wipe σ vs) H Q) : tgr v (wipe σ vs) H fun σ2 H2 => wipe σ2 vs = wipe σ vs ∧ Q σ2 H2 := by
  have z := ow v (wipe σ vs) H Q q
  rw [wipe_wipe] at z
  exact z
theorem noX_in {g : G} {ρ : List Addr} {H : Hp} {Q : VK} {n : Nat} {r : R Unit} (p : PoE g ρ H E (Rep g) Q ((noX r).bind fun _ s2 => .ok (.loc n) s2)) : PoE g ρ H (fun _ _ _ => False) (Rep g) Q (r.bind fun _ s2 => .ok (.loc n) s2) := by
  cases r with
  | ok a s => exact p
  | exc c fs s => exact p.elim
  | bad => exact p.elim
/-- the turns over items that stand -/
theorem compT_W (J : It) {g : G} {xs : List D} {vs : List Nat} {σ : L2.St} {Q : VK} {Da : Addr} {n : Nat} {es : Ev} (ht : TgR g tgr set) (ow : OwnT set vs tgr) (P : Hp → Prop) {ρ : List Addr} (hP : ∀ H H', TLe g H H' → P H → P H')
    (hg : ∀ i H d, xs[i]? = some d → P H → J.go i H) (hs : ∀ H, P H → J.stop xs.length H) (hy : ∀ i H d v H' ρ0, ρ <+: ρ0 → xs[i]? = some d → P H → J.yld i H v H' → H' = H ∧ Rep g ρ0 H d v)
    {H : Hp} {st : S} (sr : SR g ρ st H) (hn : ρ[n]? = some Da) (hes : ∀ ρ0 H0, ρ <+: ρ0 → TLe g H H0 → Slo g ρ0 H0 es (wipe σ vs)) (hp : P H)
    (p : PoE g ρ H (fun _ _ _ => False) (Rep g) Q ((compT n set mt me xs es st).bind fun _ s2 => .ok (.loc n) s2)) :
    ∃ W : Nat → Nat → Hp → Prop, (∃ m, W 0 m H) ∧ ∀ i m H, W i m H → (J.stop i H ∧ Q (.ref Da) H) ∨ (J.go i H ∧ ∃ Nx : Hp → Prop, (∀ H', Nx H' → ∃ m', m' < m ∧ W (i + 1) m' H') ∧ ∀ x H', J.yld i H x H' → tgr x (wipe σ vs) H' fun σ2 H2 => wipe σ2 vs = wipe σ vs ∧
      tT g (fun _ _ _ => False) mt σ2 H2 fun b H3 => if b = true then tM g (fun _ _ _ => False) me σ2 H3 fun y H4 => ∃ acc, H4 Da = some (.lst acc) ∧ acc.length < sizeLine ∧ Nx (upd H4 Da (.lst (acc ++ [y]))) else Nx H3) := by
  refine ⟨fun i m H1 => i + m = xs.length ∧ P H1 ∧ TLe g H H1 ∧ ∃ ρ1 st, ρ <+: ρ1 ∧ SR g ρ1 st H1 ∧ PoE g ρ1 H1 (fun _ _ _ => False) (Rep g) Q ((compT n set mt me (xs.drop i) es st).bind fun _ s2 => .ok (.loc n) s2), ⟨xs.length, by omega, hp, TLe.refl, ρ, st, List.prefix_refl _, sr, p⟩, ?_⟩
  rintro i m H1 ⟨him, hp1, tl, ρ1, st1, pre, sr1, p1⟩
  cases hd : xs[i]? with
  | none =>
    have hi : xs.length ≤ i := List.getElem?_eq_none_iff.mp hd
    have ei : i = xs.length := by omega
    subst ei
    rw [List.drop_length] at p1
    exact .inl ⟨hs H1 hp1, PoE.here p1 sr1 (rep_loc (pre_get pre hn))⟩
  | some d =>
    have hi : i < xs.length := (List.getElem?_eq_some_iff.mp hd).1
    have ed : xs.drop i = d :: xs.drop (i + 1) := by
      rw [List.drop_eq_getElem_cons hi, (List.getElem?_eq_some_iff.mp hd).2]
    rw [ed] at p1
    unfold compT at p1
    refine .inr ⟨hg i H1 d hd hp1, fun H' => P H' ∧ TLe g H H' ∧ ∃ ρ2 st2, ρ <+: ρ2 ∧ SR g ρ2 st2 H' ∧ PoE g ρ2 H' (fun _ _ _ => False) (Rep g) Q ((compT n set mt me (xs.drop (i + 1)) es st2).bind fun _ s2 => .ok (.loc n) s2), fun H' h => ⟨m - 1, by omega, by omega, h⟩, fun x H' hyl => own_w ow ?_⟩
    obtain ⟨eH, rx⟩ := hy i H1 d x H' ρ1 pre hd hp1 hyl
    subst eH
    split at p1
    · rename_i es2 e2
      refine ht _ _ _ _ _ _ _ _ _ sr1 (hes _ _ pre tl) rx e2 fun σ2 sl2 => ?_
      have p2 : PoE g ρ1 H' (fun _ _ _ => False) (Rep g) Q ((compTurn n mt me es2 st1).bind fun u s => (compT n set mt me (xs.drop (i + 1)) es s).bind fun _ s2 => .ok (.loc n) s2) := by
        cases hm : compTurn n mt me es2 st1 with
        | ok k s => rw [hm] at p1; exact p1
        | exc c fs s => rw [hm] at p1; exact p1
        | bad => rw [hm] at p1; exact p1
      exact turn_comp sr1 sl2 (pre_get pre hn) p2 fun ρ3 H3 s3 x3 t3 sr3 p3 => ⟨hP _ _ t3 hp1, tl.trans t3, ρ3, s3, pre.trans x3, sr3, p3⟩
    · exact p1.elim
theorem new_lst {g : G} {ρ : List Addr} {H : Hp} {st : S} {Da : Addr} (sr : SR g ρ st H) (hD : H Da = none) : SR g (ρ ++ [Da]) (st ++ [.lst []]) (upd H Da (.lst [])) ∧ (ρ ++ [Da])[st.length]? = some Da ∧ TLe g H (upd H Da (.lst [])) := by
  have t := TLe.new (g := g) (u := HO.lst []) hD
  refine ⟨sr.new hD ⟨[], upd_same, reps_nil⟩, ?_, t⟩
  rw [← sr.len, List.getElem?_append_right (Nat.le_refl _), Nat.sub_self]
  rfl
theorem compV_read (J : It) {g : G} {xs : List D} {vs : List Nat} {σ : L2.St} {Q : VK} {es : Ev} {ρ : List Addr} {H : Hp} {st : S} (ht : TgR g tgr set) (ow : OwnT set vs tgr) (P : Hp → Prop) (hP : ∀ H H', TLe g H H' → P H → P H')
    (hg : ∀ i H d, xs[i]? = some d → P H → J.go i H) (hs : ∀ H, P H → J.stop xs.length H) (hy : ∀ i H d v H' ρ0, ρ <+: ρ0 → xs[i]? = some d → P H → J.yld i H v H' → H' = H ∧ Rep g ρ0 H d v)
    (sr : SR g ρ st H) (sl : Slo g ρ H es σ) (hp : P H) (p : PoE g ρ H E (Rep g) Q (compV set vs mt me xs es st)) (Da : Addr) (hD : H Da = none) :
    ∃ W : Nat → Nat → Hp → Prop, (∃ m, W 0 m (upd H Da (.lst []))) ∧ ∀ i m H, W i m H → (J.stop i H ∧ Q (.ref Da) H) ∨ (J.go i H ∧ ∃ Nx : Hp → Prop, (∀ H', Nx H' → ∃ m', m' < m ∧ W (i + 1) m' H') ∧ ∀ x H', J.yld i H x H' → tgr x (wipe σ vs) H' fun σ2 H2 => wipe σ2 vs = wipe σ vs ∧
      tT g (fun _ _ _ => False) mt σ2 H2 fun b H3 => if b = true then tM g (fun _ _ _ => False) me σ2 H3 fun y H4 => ∃ acc, H4 Da = some (.lst acc) ∧ acc.length < sizeLine ∧ Nx (upd H4 Da (.lst (acc ++ [y]))) else Nx H3) := by
  obtain ⟨sr1, hn, t1⟩ := new_lst sr hD
  refine compT_W J ht ow P hP hg hs (fun i H d v H' ρ0 e0 => hy i H d v H' ρ0 ((List.prefix_append _ _).trans e0)) sr1 hn (fun ρ0 H0 e0 t0 => wipe_slo (sl.mono ((List.prefix_append _ _).trans e0) (t1.trans t0)) vs) (hP _ _ t1 hp) ?_
  exact noX_in (PoE.mono p (List.prefix_append _ _) t1)
abbrev eBlk (X : Cx) (scope : Scope) (s : Shared) (H : Hp) (C : Addr) (cl : List (Str × Addr)) (fp : List Addr) : Cx := X.blk s H scope (compEnvC scope cl C X.env) fp
theorem comp_read (ht : TgR (gX X cad) tgr set) (ow : OwnT set (own.map (·.2)) tgr) {σ : L2.St} {H : Hp} {Q : VK} (h : tM (gX X cad) E (cComp m set (own.map (·.2)) mt me) σ H Q) :
    tLc (iTup X.K (tM (gX X cad) E m)) tgr (tT (gX X cad) (fun _ _ _ => False) mt) (tM (gX X cad) (fun _ _ _ => False) me) (own.map (·.2)) σ H Q ∨ tLc (iList X.K (tM (gX X cad) E m)) tgr (tT (gX X cad) (fun _ _ _ => False) mt) (tM (gX X cad) (fun _ _ _ => False) me) (own.map (·.2)) σ H Q := by
  obtain ⟨ρ, es, st, sr, sl, p⟩ := h
  unfold cComp at p
  cases hm : m es st with
  | ok d s1 =>
    rw [hm] at p
    simp only [R.bind] at p
    split at p
    · rename_i xs
      refine .inl ⟨ρ, es, st, sr, sl, ?_⟩
      rw [hm]
      intro ρ1 H1 v e1 t1 sr1 rx
      obtain ⟨a, vs, rfl, k1, k2⟩ := rx.tup
      refine ⟨a, rfl, ⟨vs, k1⟩, fun Da hD => compV_read (Itt X.K a) (xs := xs) ht ow (fun H => SqT X.K H a vs ∧ ∀ ρ0, ρ1 <+: ρ0 → Reps (gX X cad) ρ0 H xs vs) (fun H H' tl h => ⟨tl.tup _ _ h.1, fun ρ0 e => (h.2 ρ0 e).mono (List.prefix_refl _) tl⟩) (fun i H d hd h => ?_)
        (fun H h => ⟨vs, h.1, by rw [(h.2 _ (List.prefix_refl _)).length]; exact Nat.le_refl _⟩) (fun i H d v H' ρ0 e0 hd h hy => ?_) sr1 (sl.mono e1 t1) ⟨k1, fun ρ0 e => k2.mono e TLe.refl⟩ (p.mono e1 t1) Da hD⟩
      · obtain ⟨w, w1, _⟩ := (h.2 _ (List.prefix_refl _)).get hd
        exact ⟨vs, w, h.1, w1⟩
      · obtain ⟨w, w1, w2⟩ := (h.2 _ e0).get hd
        have e5 := hy.2 vs h.1
        rw [w1] at e5
        cases e5
        exact ⟨hy.1, w2⟩
    · rename_i l
      refine .inr ⟨ρ, es, st, sr, sl, ?_⟩
      rw [hm]
      intro ρ1 H1 v e1 t1 sr1 rx
      obtain ⟨a, q0, rfl⟩ := rx.loc
      have p1 := noX_in (p.mono e1 t1)
      have hx : ∃ vs, SqL X.K H1 a vs := by
        unfold compL at p1
        split at p1
        · exact p1.elim
        · rename_i xs ex
          have hl : l < s1.length := by
            rw [← sr1.len]
            exact (List.getElem?_eq_some_iff.mp q0).1
          have ex2 : getL s1 l = some xs := by
            unfold getL at ex ⊢
            rw [List.getElem?_append_left hl] at ex
            exact ex
          obtain ⟨a', vs, w1, h1, _⟩ := sr1.getL ex2
          rw [q0] at w1
          cases w1
          exact ⟨vs, h1⟩
      refine ⟨a, rfl, hx, fun Da hD => ?_⟩
      obtain ⟨sr2, hn, t2⟩ := new_lst sr1 hD
      have sl2 := (sl.mono e1 t1).mono (List.prefix_append ρ1 [Da]) t2
      have p2 := PoE.mono p1 (List.prefix_append ρ1 [Da]) t2
      refine ⟨fun i m H => ∃ ρ2 st2, (ρ1 ++ [Da]) <+: ρ2 ∧ TLe (gX X cad) (upd H1 Da (.lst [])) H ∧ SR (gX X cad) ρ2 st2 H ∧ PoE (gX X cad) ρ2 H (fun _ _ _ => False) (Rep (gX X cad)) Q ((compL s1.length set mt me l m i (wipeD es (own.map (·.2))) st2).bind fun _ s2 => .ok (.loc s1.length) s2),
        ⟨1000000, ρ1 ++ [Da], _, List.prefix_refl _, TLe.refl, sr2, p2⟩, ?_⟩
      rintro i m H2 ⟨ρ2, st2, pre, tl, sr3, p3⟩
      have q2 : ρ2[l]? = some a := pre_get ((List.prefix_append ρ1 [Da]).trans pre) q0
      have n2 : ρ2[s1.length]? = some Da := pre_get pre hn
      have sl3 := sl2.mono pre tl
      cases m with
      | zero => exact p3.elim
      | succ m =>
        unfold compL at p3
        split at p3
        · exact p3.elim
        · rename_i xs ex
          obtain ⟨a', vs, w1, h1, k2⟩ := sr3.getL ex
          rw [q2] at w1
          cases w1
          split at p3
          · rename_i en
            exact .inl ⟨⟨vs, h1, by rw [k2.length]; exact List.getElem?_eq_none_iff.mp en⟩, PoE.here p3 sr3 (rep_loc n2)⟩
          · rename_i d ed
            obtain ⟨w, w1, w2⟩ := k2.get ed
            refine .inr ⟨⟨vs, w, h1, w1⟩, fun H' => ∃ ρ3 st3, (ρ1 ++ [Da]) <+: ρ3 ∧ TLe (gX X cad) (upd H1 Da (.lst [])) H' ∧ SR (gX X cad) ρ3 st3 H' ∧ PoE (gX X cad) ρ3 H' (fun _ _ _ => False) (Rep (gX X cad)) Q ((compL s1.length set mt me l m (i + 1) (wipeD es (own.map (·.2))) st3).bind fun _ s2 => .ok (.loc s1.length) s2),
              fun H' h => ⟨m, Nat.lt_succ_self _, h⟩, fun x H' hyl => own_w ow ?_⟩
            obtain ⟨rfl, hy2⟩ := hyl
            have e5 := hy2 vs h1
            rw [w1] at e5
            cases e5
            split at p3
            · rename_i es3 e3
              refine ht _ _ _ _ _ _ _ _ _ sr3 (wipe_slo sl3 _) w2 e3 fun σ3 sl4 => ?_
              have p4 : PoE (gX X cad) ρ2 H' (fun _ _ _ => False) (Rep (gX X cad)) Q ((compTurn s1.length mt me es3 st2).bind fun u s => (compL s1.length set mt me l m (i + 1) (wipeD es (own.map (·.2))) s).bind fun _ s2 => .ok (.loc s1.length) s2) := by
                cases hm : compTurn s1.length mt me es3 st2 with
                | ok k s => rw [hm] at p3; exact p3
                | exc c fs s => rw [hm] at p3; exact p3
                | bad => rw [hm] at p3; exact p3
              exact turn_comp sr3 sl4 n2 p4 fun ρ4 H4 s4 x4 t4 sr4 p5 => ⟨ρ4, s4, pre.trans x4, tl.trans t4, sr4, p5⟩
            · exact p3.elim
    · exact p.elim
  | exc c fs s1 =>
    refine .inl ⟨ρ, es, st, sr, sl, ?_⟩
    rw [hm] at p ⊢
    exact p
  | bad =>
    rw [hm] at p
    exact p.elim
/-- [elt for tg in iter if ..] over a value -/
theorem e_comp (hc : X.calm = true) (hN : X.N.Nodup) (ok : BlkOk X.N X.env.scope scope own) (he : PE X iter (tM (gX X cad) E m)) {vs : List Nat} (ht : TgR (gX X cad) tgr set) (ow : OwnT set (vs) tgr)
    (hg : ∀ (s : Shared) (H : Hp) (C : Addr) (cl : List (Str × Addr)) (fp : List Addr), PG (eBlk X scope s H C cl fp) tg tgr) (hif : ∀ (s : Shared) (H : Hp) (C : Addr) (cl : List (Str × Addr)) (fp : List Addr), PTs (eBlk X scope s H C cl fp) ifs (tT (gX X cad) (fun _ _ _ => False) mt))
    (hel : ∀ (s : Shared) (H : Hp) (C : Addr) (cl : List (Str × Addr)) (fp : List Addr), PE (eBlk X scope s H C cl fp) elt (tM (gX X cad) (fun _ _ _ => False) me)) (hs : ∀ x, foldedSetIterable iter X.env x = pure x := by intro _; rfl) (hv : vs = own.map (·.2) := by rfl) :
    PE X (.ListComp elt [⟨tg, iter, ifs, 0⟩] scope pos) (tM (gX X cad) E (cComp m set (vs) mt me)) := by
  subst hv
  refine ⟨fun pins s σ H Q I h => ?_⟩
  rcases comp_read ht ow h with h | h
  · exact (pe_lc hc hN (pi_tup he) ok hg hif hel hs).run pins s σ H Q I h
  · exact (pe_lc hc hN (pi_list he) ok hg hif hel hs).run pins s σ H Q I h
theorem set_read {i : Nat} {mc : M D} {Dn : Ends} {σ : L2.St} {H : Hp} (h : tS (gX X cad) E (sSet i mc) Dn σ H) : tM (gX X cad) E mc σ H fun x H1 => gName i x σ H1 Dn.nx := by
  obtain ⟨ρ, es, st, sr, sl, p⟩ := h
  exact ⟨ρ, es, st, sr, sl, p.bind fun ρ1 H1 d v1 st1 e1 t1 sr1 rx p1 => p1.nx sr1 ((sl.mono e1 t1).set i rx)⟩
theorem rng_comp {lo : Int} {n : Nat} {vs : List Nat} {σ : L2.St} {Q : VK} {es : Ev} {ρ : List Addr} {H : Hp} {st : S} (ht : TgR (gX X cad) tgr set) (ow : OwnT set vs tgr) (sr : SR (gX X cad) ρ st H) (sl : Slo (gX X cad) ρ H es σ)
    (p : PoE (gX X cad) ρ H E (Rep (gX X cad)) Q (compV set vs mt me (rangeD lo n) es st)) (Da : Addr) (hD : H Da = none) :
    ∃ W : Nat → Nat → Hp → Prop, (∃ m, W 0 m (upd H Da (.lst []))) ∧ ∀ i m H, W i m H → ((Itr lo n).stop i H ∧ Q (.ref Da) H) ∨ ((Itr lo n).go i H ∧ ∃ Nx : Hp → Prop, (∀ H', Nx H' → ∃ m', m' < m ∧ W (i + 1) m' H') ∧ ∀ x H', (Itr lo n).yld i H x H' → tgr x (wipe σ vs) H' fun σ2 H2 => wipe σ2 vs = wipe σ vs ∧
      tT (gX X cad) (fun _ _ _ => False) mt σ2 H2 fun b H3 => if b = true then tM (gX X cad) (fun _ _ _ => False) me σ2 H3 fun y H4 => ∃ acc, H4 Da = some (.lst acc) ∧ acc.length < sizeLine ∧ Nx (upd H4 Da (.lst (acc ++ [y]))) else Nx H3) :=
  compV_read (Itr lo n) (xs := rangeD lo n) ht ow (fun _ => True) (fun _ _ _ _ => True.intro) (fun i H d hd _ => (rangeD_get hd).1) (fun H _ => by rw [rangeD_len]; exact Nat.le_refl _) (fun i H d v H' ρ0 _ hd _ hy => by
      obtain ⟨_, rfl⟩ := rangeD_get hd
      rw [hy.2]
      exact ⟨hy.1, rep_int⟩) sr sl True.intro p Da hD
theorem compR1_read (ht : TgR (gX X cad) tgr set) (ow : OwnT set (own.map (·.2)) tgr) : ∀ (σ : L2.St) (H : Hp) (Q : VK), tM (gX X cad) E (cCompR1 mA set (own.map (·.2)) mt me) σ H Q →
    tLc (iRng1 (tA (gX X cad) E mA)) tgr (tT (gX X cad) (fun _ _ _ => False) mt) (tM (gX X cad) (fun _ _ _ => False) me) (own.map (·.2)) σ H Q := by
  intro σ H Q h
  obtain ⟨ρ, es, st, sr, sl, p⟩ := h
  refine ⟨ρ, es, st, sr, sl, p.bind fun ρ1 H1 ds vs s1 e1 t1 sr1 rx p1 => ?_⟩
  split at p1
  · split at p1
    · rename_i hz
      obtain ⟨v, rfl, r1⟩ := rx.uno
      exact ⟨_, by rw [r1.int], hz.1, hz.2, fun Da hD => rng_comp ht ow sr1 (sl.mono e1 t1) p1 Da hD⟩
    · exact p1.elim
  · exact p1.elim
theorem s_setCompR1 {i : Nat} {y : Str} {py spos : Pos} {a : Expr} {p1 p2 : Pos} (hc : X.calm = true) (hN : X.N.Nodup) (hy : X.N[i]? = some y) (hyl : X.env.scope.names.lookup y = some .local)
    (hsw : swapsWith (.ListComp elt [⟨tg, .Call (.Name "range" p1) [a] [] p2, ifs, 0⟩] scope pos) (some (.Name y py)) spos.line X.env = pure true) (ok : BlkOk X.N X.env.scope scope own) (hgr : Gl X "range") (hmr : X.mg "range" = none) (ha : PA X [a] (tA (gX X cad) E mA)) {vs : List Nat} (ht : TgR (gX X cad) tgr set) (ow : OwnT set (vs) tgr)
    (hg : ∀ (s : Shared) (H : Hp) (C : Addr) (cl : List (Str × Addr)) (fp : List Addr), PG (eBlk X scope s H C cl fp) tg tgr) (hif : ∀ (s : Shared) (H : Hp) (C : Addr) (cl : List (Str × Addr)) (fp : List Addr), PTs (eBlk X scope s H C cl fp) ifs (tT (gX X cad) (fun _ _ _ => False) mt))
    (hel : ∀ (s : Shared) (H : Hp) (C : Addr) (cl : List (Str × Addr)) (fp : List Addr), PE (eBlk X scope s H C cl fp) elt (tM (gX X cad) (fun _ _ _ => False) me)) (hst : starEach [a] X.env = [(false, eval a X.env)] := by rfl) (hs : ∀ x, foldedSetIterable (.Call (.Name "range" p1) [a] [] p2) X.env x = pure x := by intro _; rfl) (hv : vs = own.map (·.2) := by rfl) :
    PS X (.Assign [.Name y py] (.ListComp elt [⟨tg, .Call (.Name "range" p1) [a] [] p2, ifs, 0⟩] scope pos) spos) (tS (gX X cad) E (sSet i (cCompR1 mA set (vs) mt me))) := by
  subst hv
  exact PS.imp (ps_setLc hc hN hy hyl hsw (pi_range1 hgr hmr ha hst) ok hg hif hel hs) fun Dn σ H h => compR1_read ht ow _ _ _ (set_read h)
theorem i_nil : PTs X [] (tT (gX X cad) E cYes) := ⟨fun pins s σ H Q I h => pts_nil.run pins s σ H Q I (by
  obtain ⟨ρ, es, st, sr, sl, p⟩ := h
  exact PoE.here p sr rfl)⟩
end
end Z
end
section
set_option Elab.async false
set_option linter.all false
set_option maxRecDepth 100000
set_option maxHeartbeats 4000000
/-! ZA: what stands at the top: defs, classes, constants, as hypotheses; calls by them. -/
namespace Z
open PySem PySem.Spec PyProof.Rows L2

theorem mk_binds {K : PySem.W.Frag} {fd : FuncData} {ps ks : List Str} {gU : List Value → List Value → List Value} {gV : List V → List V → List V} (h : ∀ us ws, (gU us ws).length = ps.length → bindArgs fd ⟨us, ks.zip ws⟩ = pure (ps.zip (gU us ws))) (r : ∀ {vs : List V} {us : List Value} {zs : List V} {ws : List Value}, Vals vs us → Vals zs ws → Vals (gV vs zs) (gU us ws)) : KBinds K fd ps ks gU gV := ⟨fun s us ws _ hl => .of_eq (h us ws hl), r⟩
/-- a def of the text -/
structure Def (K : PySem.W.Frag) (mg : Str → Option Value) (x : Str) (st : Stmt) (ps : List Str) : Prop where
  ex : ∃ f fd, Fun K x x st f fd ∧ mg x = some (.ref f) ∧ Binds K fd ps []
/-- a def and its promise -/
structure Fn (P : Program) (w : World) (K : PySem.W.Frag) (mg : Str → Option Value) (base : Heap) (cad : Nat → Addr) (x : Str) (st : Stmt) (ps : List Str) (k : Nat) (F : List D → S → R D) : Prop where
  ex : ∃ f fd, FnOk P w K mg base (L2.CX P w) k f fd ps (spF ⟨K, cad⟩ F) ∧ mg x = some (.ref f) ∧ PySem.W.keepIn K (.ref f) = true ∧ Binds K fd ps [] ∧ Fun K x x st f fd
theorem fn_zero_f {P : Program} {w : World} {K : PySem.W.Frag} {mg : Str → Option Value} {base : Heap} {cad : Nat → Addr} {x : Str} {st : Stmt} {ps : List Str} {k : Nat} (h : Def K mg x st ps) : Fn P w K mg base cad x st ps k (fun _ _ => .bad) := by
  obtain ⟨f, fd, F, g, b⟩ := h.ex
  refine ⟨f, fd, ⟨fun vs H Q E h => ?_, fun A outer s H args us vs Q E hr e0 hb r h => ?_⟩, g, F.kp, b, F⟩
  · obtain ⟨ρ, st, ds, sr, rs, p⟩ := h
    exact p.elim
  · obtain ⟨ρ, st, ds, sr, rs, p⟩ := h
    exact p.elim
/-- keywords: the parameters in order, each a positional one or a keyword's -/
def selK {α : Type} (a b : Nat) (sel : List (Sum Nat Nat)) (us ws : List α) : List α := if us.length = a ∧ ws.length = b then sel.filterMap (fun z => match z with
  | .inl i => us[i]?
  | .inr j => ws[j]?) else []
theorem selK_vals {a b : Nat} : ∀ {sel : List (Sum Nat Nat)} {vs : List V} {us : List Value} {zs : List V} {ws : List Value}, Vals vs us → Vals zs ws → Vals (selK a b sel vs zs) (selK a b sel us ws) := by
  intro sel vs us zs ws h1 h2
  unfold selK
  rw [h1.length, h2.length]
  split
  · induction sel with
    | nil => exact .nil
    | cons z sel ih =>
      rw [List.filterMap_cons, List.filterMap_cons]
      cases z with
      | inl i =>
        cases e : vs[i]? with
        | none => simp only [e, h1.none_of e]; exact ih
        | some v =>
          obtain ⟨u, e2, r⟩ := h1.get e
          simp only [e, e2]
          exact .cons r ih
      | inr i =>
        cases e : zs[i]? with
        | none => simp only [e, h2.none_of e]; exact ih
        | some v =>
          obtain ⟨u, e2, r⟩ := h2.get e
          simp only [e, e2]
          exact .cons r ih
  · exact .nil
theorem selK_reps {g : G} {ρ : List Addr} {H : Hp} {a b : Nat} {sel : List (Sum Nat Nat)} {ds zs : List D} {vs ws : List V} (h1 : Reps g ρ H ds vs) (h2 : Reps g ρ H zs ws) : Reps g ρ H (selK a b sel ds zs) (selK a b sel vs ws) := by
  unfold selK
  rw [h1.length, h2.length]
  split
  · induction sel with
    | nil => exact reps_nil
    | cons z sel ih =>
      rw [List.filterMap_cons, List.filterMap_cons]
      cases z with
      | inl i =>
        cases e : ds[i]? with
        | none =>
          have e2 : vs[i]? = none := List.getElem?_eq_none (by rw [h1.length]; exact List.getElem?_eq_none_iff.mp e)
          simp only [e, e2]
          exact ih
        | some d =>
          obtain ⟨u, e2, r⟩ := h1.get e
          simp only [e, e2]
          exact reps_cons r ih
      | inr i =>
        cases e : zs[i]? with
        | none =>
          have e2 : ws[i]? = none := List.getElem?_eq_none (by rw [h2.length]; exact List.getElem?_eq_none_iff.mp e)
          simp only [e, e2]
          exact ih
        | some d =>
          obtain ⟨u, e2, r⟩ := h2.get e
          simp only [e, e2]
          exact reps_cons r ih
  · exact reps_nil
theorem selK_binds {K : PySem.W.Frag} {x : Str} {st : Stmt} {f : Addr} {fd : FuncData} {ps ks : List Str} {a b : Nat} {sel : List (Sum Nat Nat)} (F : Fun K x x st f fd) (hp : 0 < ps.length)
    (h : ∀ (kV doc pm : Value) (an : Option Addr) (cdv ct : Value) (us ws : List Value), us.length = a → ws.length = b → bindArgs (PySem.W.fnOf x x (defArgs st) (defBody st) (defScope st) .none kV doc pm an cdv ct) ⟨us, ks.zip ws⟩ = pure (ps.zip (selK a b sel us ws))) : KBinds K fd ps ks (selK a b sel) (selK a b sel) := by
  obtain ⟨oc, od, kV, doc, pm, an, cdv, ct, osl, rfl, lk, hcd⟩ := F.ex
  refine mk_binds (fun us ws hl => ?_) selK_vals
  by_cases hz : us.length = a ∧ ws.length = b
  · exact h kV doc pm an cdv ct us ws hz.1 hz.2
  · unfold selK at hl
    rw [if_neg hz] at hl
    rw [← hl] at hp
    exact absurd hp (Nat.lt_irrefl _)
/-- a class of the text and its __init__ -/
structure Cl (P : Program) (w : World) (K : PySem.W.Frag) (mg : Str → Option Value) (base : Heap) (cad : Nat → Addr) (x : Str) (c : Nat) (ps : List Str) (k : Nat) (F : List D → S → R D) : Prop where
  ex : ∃ f fd, FnOk P w K mg base (L2.CX P w) k f fd ps (spF ⟨K, cad⟩ F) ∧ Mk K (cad c) f ∧ Binds K fd ps []
  g : mg x = some (.ref (cad c))
/-- a property -/
structure Pr (P : Program) (w : World) (K : PySem.W.Frag) (mg : Str → Option Value) (base : Heap) (cad : Nat → Addr) (m : Str) (c : Nat) (k : Nat) (F : List D → S → R D) : Prop where
  ex : ∃ pa f fd, FnOk P w K mg base (L2.CX P w) k f fd ["self"] (spF ⟨K, cad⟩ F) ∧ PropOf K (cad c) m pa f ∧ Binds K fd ["self"] []
  cl : Cls K (cad c)
/-- a constant -/
structure Cst (K : PySem.W.Frag) (mg : Str → Option Value) (cad : Nat → Addr) (x : Str) (d : D) : Prop where
  ex : ∃ v u, mg x = some u ∧ RelV v u ∧ ∀ ρ H, Rep ⟨K, cad⟩ ρ H d v
section
variable {X : Cx} {cad : Nat → Addr} {k : Nat} {ps : List Str} {E : XK} {x m : Str} {p pos : Pos} {e o : Expr} {es : List Expr} {mA : M (List D)} {mo : M D} {F : List D → S → R D} {d : D}
theorem e_cst (h : Cst X.K X.mg cad x d) (hg : Gl X x := by rfl) (hdb : (x == ("__debug__" : Str)) = false := by decide) : PE X (.Name x pos) (tM (gX X cad) E (cC d)) := by
  obtain ⟨v, u, h1, h2, h3⟩ := h.ex
  exact e_glob hg h1 h2 h3 hdb
theorem e_callF {st : Stmt} (h : Fn X.prog X.w X.K X.mg X.base cad x st ps k F) (hr : Room k X.A) (hx : Passes (L2.CX X.prog X.w) X E) (ha : PA X (e :: es) (tA (gX X cad) E mA)) (hg : Gl X x := by rfl)
    (hdb : (x == ("__debug__" : Str)) = false := by decide) (he : starEach (e :: es) X.env = (false, eval e X.env) :: starEach es X.env := by rfl) (hpl : (backTo pos (starEach es X.env)).any (·.1) = false := by rfl) :
    PE X (.Call (.Name x p) (e :: es) [] pos) (tM (gX X cad) E (cCall mA F)) := by
  obtain ⟨f, fd, h1, h2, h3, h4, _⟩ := h.ex
  exact e_call h1 hr hg h2 h3 h4 hx ha hdb he hpl
theorem e_callKF0 {st : Stmt} {ks : List Str} {b : Nat} {sel : List (Sum Nat Nat)} {kws : List Keyword} {mK : M (List D)} (h : Fn X.prog X.w X.K X.mg X.base cad x st ps k F) (hr : Room k X.A) (hx : Passes (L2.CX X.prog X.w) X E) (hp : 0 < ps.length)
    (hb : ∀ (kV doc pm : Value) (an : Option Addr) (cdv ct : Value) (us ws : List Value), us.length = 0 → ws.length = b → bindArgs (PySem.W.fnOf x x (defArgs st) (defBody st) (defScope st) .none kV doc pm an cdv ct) ⟨us, ks.zip ws⟩ = pure (ps.zip (selK 0 b sel us ws)))
    (hkw : PK X kws (tA (gX X cad) E mK)) (hg : Gl X x := by rfl)
    (hall : (backToKw pos (keywordEach kws X.env)).all (·.1.isSome) = true := by rfl) (hks : (backToKw pos (keywordEach kws X.env)).filterMap (·.1) = ks := by rfl)
    (hdb : (x == ("__debug__" : Str)) = false := by decide)
    (hpl : ((backTo pos (starEach [] X.env)).any (·.1) || (backToKw pos (keywordEach kws X.env)).any (·.1.isNone)) = false := by rfl) :
    PE X (.Call (.Name x p) [] kws pos) (tM (gX X cad) E (cCallK cNil mK (selK 0 b sel) F)) := by
  obtain ⟨f, fd, h1, h2, h3, h4, h5⟩ := h.ex
  exact e_callK0 (fun _ _ _ _ _ _ q1 q2 => selK_reps q1 q2) h1 hr hg h2 h3 (selK_binds h5 hp hb) hx hkw hall hks hdb hpl
end
/-- what raises is not followed -/
def cNox (m : M D) : M D := fun es st => noX (m es st)
end Z
namespace Z
open PySem PySem.Spec PyProof.Rows L2
abbrev vK (f : D → D → S → R Bool) : D → D → S → R D := fun x y s => (f x y s).bind fun k s => .ok (.bl k) s
/-- a class's __init__, a property's getter, as they stand -/
structure InitD (K : PySem.W.Frag) (C : Addr) (qual : Str) (st : Stmt) (ps : List Str) : Prop where
  ex : ∃ f fd, Fun K "__init__" qual st f fd ∧ Mk K C f ∧ Binds K fd ps []
structure PropD (K : PySem.W.Frag) (C : Addr) (m qual : Str) (st : Stmt) : Prop where
  ex : ∃ pa f fd, Fun K m qual st f fd ∧ PropOf K C m pa f ∧ Binds K fd ["self"] []
section
variable {K : PySem.W.Frag} {mg : Str → Option Value} {h : Heap} {f C pa : Addr} {x qual m : Str} {st : Stmt} {ps : List Str} {oc kV doc pm cdv ct : Value} {od an : Option Addr} {osl : Array (Option Value)} {rest : List Value}
theorem def_mk (X : K.In h) (G : h.Ns mainGlobals mg) (a : PySem.W.nsIn K mainGlobals x = some (some (.ref f))) (l : K.lookup f = some ⟨oc, od, .func (PySem.W.fnOf x x (defArgs st) (defBody st) (defScope st) .none kV doc pm an cdv ct), osl⟩)
    (c : PySem.W.codeIn K cdv x = true) (k : PySem.W.keepIn K (.ref f) = true)
    (b : ∀ (kV doc pm : Value) (an : Option Addr) (cdv ct : Value) (us : List Value), us.length = ps.length → bindArgs (PySem.W.fnOf x x (defArgs st) (defBody st) (defScope st) .none kV doc pm an cdv ct) ⟨us, []⟩ = pure (ps.zip us)) : Def K mg x st ps := by
  have F := fun_mk (st := st) l c k
  exact ⟨f, _, F, PySem.W.mg_of X G a, F.binds b⟩
theorem cst_int {cad : Nat → Addr} {i : Int} {t : Tok} (X : K.In h) (G : h.Ns mainGlobals mg) (a : PySem.W.nsIn K mainGlobals x = some (some (.int i t))) : Cst K mg cad x (.int i) := ⟨.int i, .int i t, PySem.W.mg_of X G a, ⟨t, rfl⟩, fun _ _ => rep_int⟩
theorem cst_str {cad : Nat → Addr} {i : Str} {t : Tok} (X : K.In h) (G : h.Ns mainGlobals mg) (a : PySem.W.nsIn K mainGlobals x = some (some (.str i t))) : Cst K mg cad x (.str i) := ⟨.str i, .str i t, PySem.W.mg_of X G a, ⟨t, rfl⟩, fun _ _ => rep_str⟩
/-- a tuple of flat values -/
def flV : D → Option V
  | .int i => some (.int i)
  | .str s => some (.str s)
  | .bl b => some (.bl b)
  | .non => some .non
  | _ => none
theorem flV_rep {g : G} {ρ : List Addr} {H : Hp} {d : D} {v : V} (h : flV d = some v) : Rep g ρ H d v := by
  cases d <;> first
    | (cases h; done)
    | (cases h; first | exact rep_int | exact rep_str | exact rep_bl | exact rep_non)
theorem flVs_rep {g : G} {ρ : List Addr} {H : Hp} : ∀ {ds : List D} {vs : List V}, mapO flV ds = some vs → Reps g ρ H ds vs
  | [], vs, h => by cases h; exact reps_nil
  | d :: ds, vs, h => by
    unfold mapO at h
    split at h
    · rename_i v ws e1 e2
      cases h
      exact reps_cons (flV_rep e1) (flVs_rep e2)
    · cases h
theorem cst_tup {cad : Nat → Addr} {a : Addr} {dd : Option Addr} {sl : Array (Option Value)} {its : List Value} {n : Nat} {ds : List D} {vs : List V} (X : K.In h) (G : h.Ns mainGlobals mg) (e : PySem.W.nsIn K mainGlobals x = some (some (.ref a))) (l : K.lookup a = some ⟨.type "tuple", dd, .seq its.toArray n, sl⟩)
    (hv : mapO flV ds = some vs) (hr : Vals vs its) (hz : its.length ≤ 1000) : Cst K mg cad x (.tup ds) :=
  ⟨.ref a, .ref a, PySem.W.mg_of X G e, rfl, fun ρ H => rep_tup (.inr ⟨_, its.toArray, n, l, rfl, rfl, by rw [List.size_toArray]; exact Nat.le_of_lt (small1000 hz), by simpa using hr⟩) (flVs_rep hv)⟩
end
end Z
end
section
set_option Elab.async false
set_option linter.all false
set_option maxRecDepth 100000
set_option maxHeartbeats 4000000
/-! ZB: xs.index(k) for a list of ints, max of a tuple of ints. -/
namespace Z
open PySem PySem.Spec PyProof.Rows L2
section
variable {X : Cx} {cad : Nat → Addr} {E : XK}
end
end Z
end
section
set_option Elab.async false
set_option linter.all false
set_option maxRecDepth 100000
set_option maxHeartbeats 4000000
/-! ZD: dicts of ints and texts as keys, wide * and //, a < b < c. -/
namespace Z
open PySem PySem.Spec PyProof.Rows L2
def keyD : D → Option Key
  | .int i => some (.inl i)
  | .str x => some (.inr x)
  | _ => none
def getK (s : S) (n : Nat) : Option (List (Key × D)) := match s[n]? with
  | some (.dic kvs) => some kvs
  | some (.dro kvs) => some kvs
  | _ => none
def getKW (s : S) (n : Nat) : Option (List (Key × D)) := match s[n]? with
  | some (.dic kvs) => some kvs
  | _ => none
def valD (kvs : List (Key × D)) (k : Key) : Option D := (kvs.find? fun kv => decide (kv.1 = k)).map (·.2)
def putDk (kvs : List (Key × D)) (k : Key) (d : D) : List (Key × D) := if (kvs.any fun kv => decide (kv.1 = k)) = true then kvs.map (fun kv => if kv.1 = k then (kv.1, d) else kv) else kvs ++ [(k, d)]
/-- o[i]: a dict's, else as before -/
def ixA (o i : D) (s : S) : R D := match o with
  | .loc n => match getK s n, keyD i with
    | some kvs, some k => match valD kvs k with
      | some d => .ok d s
      | none => .bad
    | _, _ => ixD o i s
  | _ => ixD o i s
def setIxA (o i v : D) (s : S) : R Unit := match o with
  | .loc n => match getKW s n, keyD i with
    | some kvs, some k => if kvs.length < 1000000 then .ok () (s.set n (.dic (putDk kvs k v))) else .bad
    | _, _ => setIx o i v s
  | _ => setIx o i v s
def sSubA (mo mi m : M D) : M Out := fun es st => (m es st).bind fun v s => (mo es s).bind fun o s => (mi es s).bind fun i s => (setIxA o i v s).bind fun _ s => .ok (.nx es) s
def kInA (x y : D) (s : S) : R Bool := match y with
  | .loc n => match getK s n, keyD x with
    | some kvs, some k => .ok (valD kvs k).isSome s
    | _, _ => kIn x y s
  | _ => kIn x y s
def kNotInA (x y : D) (s : S) : R Bool := match y with
  | .loc n => match getK s n, keyD x with
    | some kvs, some k => .ok (!(valD kvs k).isSome) s
    | _, _ => kNotIn x y s
  | _ => kNotIn x y s
def fLenA : List D → S → R D
  | [.loc n], s => match getKW s n with
    | some kvs => .ok (.int kvs.length) s
    | none => fLen [.loc n] s
  | ds, s => fLen ds s
def cDic0 : M D := fun _ st => .ok (.loc st.length) (st ++ [.dic []])
/-- two dicts of ints, the same -/
def sameK (ks ls : List (Key × D)) : Bool := decide (ks.length = ls.length) && ks.all fun p => match p.2, valD ls p.1 with
  | .int i, some (.int j) => decide (i = j)
  | _, _ => false
def kNeA (x y : D) (s : S) : R Bool := match x, y with
  | .loc n, .loc m => match getKW s n, getKW s m with
    | some ks, some ls => if sameK ks ls = true then .ok false s else .bad
    | _, _ => kNe x y s
  | _, _ => kNe x y s
def bMulA (x y : D) (s : S) : R D := match x, y with
  | .int i, .int j => if ((-(2 ^ 64) < i ∧ i < 2 ^ 64) ∨ (-(2 ^ 64) < j ∧ j < 2 ^ 64)) ∨ (Builtin.Int.intBits i : Int) + (Builtin.Int.intBits j : Int) ≤ 134217728 then .ok (.int (i * j)) s else .bad
  | _, _ => bMul x y s
def bDivA (x y : D) (s : S) : R D := match x, y with
  | .int i, .int j => if j ≠ 0 ∧ j.natAbs.log2 < 9000 then .ok (.int (i.fdiv j)) s else .bad
  | _, _ => .bad
/-- a op b op' c -/
def cChain (ma mb mc : M D) (f f' : D → D → S → R Bool) : M Bool := fun es st => (ma es st).bind fun x s => (mb es s).bind fun y s => (f x y s).bind fun k s => if k = true then (mc es s).bind fun z s => f' y z s else .ok false s
section
variable {g : G} {ρ : List Addr} {H : Hp} {st : S}
theorem RepK.val (k : Key) : ∀ {ds : List (Key × D)} {vs : List (Key × V)}, RepK g ρ H ds vs → match valD ds k with
    | some d => ∃ v, valV vs k = some v ∧ Rep g ρ H d v
    | none => valV vs k = none
  | [], vs, h => by
    have h : vs = [] := h
    subst h
    rfl
  | p :: ds, vs, h => by
    obtain ⟨v, r, rfl, h2, h3⟩ := h
    have ih := RepK.val k h3
    by_cases e : p.1 = k
    · have e1 : valD (p :: ds) k = some p.2 := by simp [valD, List.find?_cons, e]
      rw [e1]
      exact ⟨v, valV_pos (p := (p.1, v)) e, h2⟩
    · have e1 : valD (p :: ds) k = valD ds k := by simp [valD, List.find?_cons, e]
      rw [e1, valV_neg (p := (p.1, v)) e]
      exact ih
theorem RepK.len : ∀ {ds : List (Key × D)} {vs : List (Key × V)}, RepK g ρ H ds vs → vs.length = ds.length
  | [], vs, h => by
    have h : vs = [] := h
    subst h
    rfl
  | p :: ds, vs, h => by
    obtain ⟨v, r, rfl, h2, h3⟩ := h
    show r.length + 1 = ds.length + 1
    rw [RepK.len h3]
theorem RepK.get : ∀ {ds : List (Key × D)} {vs : List (Key × V)} {i : Nat} {p : Key × D}, RepK g ρ H ds vs → ds[i]? = some p → ∃ v, vs[i]? = some (p.1, v) ∧ Rep g ρ H p.2 v
  | [], _, _, _, _, e => nomatch e
  | q :: ds, vs, i, p, h, e => by
    obtain ⟨v, r, rfl, h2, h3⟩ := h
    match i, e with
    | 0, e =>
      cases e
      exact ⟨v, rfl, h2⟩
    | i + 1, e =>
      obtain ⟨w, e1, e2⟩ := RepK.get (i := i) (p := p) h3 (by simpa using e)
      exact ⟨w, by simpa using e1, e2⟩
theorem RepK.mapP {k : Key} {d : D} {v : V} (hd : Rep g ρ H d v) : ∀ {ds : List (Key × D)} {vs : List (Key × V)}, RepK g ρ H ds vs → RepK g ρ H (ds.map fun kv => if kv.1 = k then (kv.1, d) else kv) (vs.map fun kv => if kv.1 = k then (kv.1, v) else kv)
  | [], vs, h => by
    have h : vs = [] := h
    subst h
    rfl
  | p :: ds, vs, h => by
    obtain ⟨w, r, rfl, h2, h3⟩ := h
    have ih := RepK.mapP (k := k) hd h3
    rw [List.map_cons, List.map_cons]
    by_cases e : p.1 = k
    · rw [if_pos e, if_pos (show ((p.1, w) : Key × V).1 = k from e)]
      exact ⟨v, _, rfl, hd, ih⟩
    · rw [if_neg e, if_neg (show ¬ ((p.1, w) : Key × V).1 = k from e)]
      exact ⟨w, _, rfl, h2, ih⟩
theorem RepK.snoc {k : Key} {d : D} {v : V} (hd : Rep g ρ H d v) : ∀ {ds : List (Key × D)} {vs : List (Key × V)}, RepK g ρ H ds vs → RepK g ρ H (ds ++ [(k, d)]) (vs ++ [(k, v)])
  | [], vs, h => by
    have h : vs = [] := h
    subst h
    exact ⟨v, [], rfl, hd, rfl⟩
  | p :: ds, vs, h => by
    obtain ⟨w, r, rfl, h2, h3⟩ := h
    exact ⟨w, _, rfl, h2, RepK.snoc hd h3⟩
theorem RepK.put {k : Key} {d : D} {v : V} {ds : List (Key × D)} {vs : List (Key × V)} (h : RepK g ρ H ds vs) (hd : Rep g ρ H d v) : RepK g ρ H (putDk ds k d) (putK vs k v) := by
  have e : (vs.any fun kv => decide (kv.1 = k)) = (ds.any fun kv => decide (kv.1 = k)) := by
    have key : ∀ {ds : List (Key × D)} {vs : List (Key × V)}, RepK g ρ H ds vs → (vs.any fun kv => decide (kv.1 = k)) = (ds.any fun kv => decide (kv.1 = k)) := by
      intro ds
      induction ds with
      | nil =>
        intro vs h
        have h : vs = [] := h
        subst h
        rfl
      | cons p ds ih =>
        intro vs h
        obtain ⟨w, r, rfl, h2, h3⟩ := h
        rw [List.any_cons, List.any_cons, ih h3]
    exact key h
  unfold putDk putK
  rw [e]
  split
  · exact RepK.mapP hd h
  · exact RepK.snoc hd h
theorem SR.getK (sr : SR g ρ st H) {n : Nat} {kvs : List (Key × D)} {v : V} (r : Rep g ρ H (.loc n) v) (e : Z.getK st n = some kvs) : ∃ a vs, v = .ref a ∧ Rd H a (.dK vs) ∧ RepK g ρ H kvs vs := by
  obtain ⟨a, q0, rfl⟩ := r.loc
  unfold Z.getK at e
  split at e
  · rename_i k' e1
    cases e
    obtain ⟨b, hb, vs, h1, h2⟩ := sr.at_ e1
    rw [q0] at hb
    cases hb
    exact ⟨a, vs, rfl, .inl h1, h2⟩
  · rename_i k' e1
    cases e
    obtain ⟨b, hb, vs, h1, h2⟩ := sr.at_ e1
    rw [q0] at hb
    cases hb
    exact ⟨a, vs, rfl, h1, h2⟩
  · cases e
theorem SR.getKW (sr : SR g ρ st H) {n : Nat} {kvs : List (Key × D)} {v : V} (r : Rep g ρ H (.loc n) v) (e : Z.getKW st n = some kvs) : ∃ a vs, v = .ref a ∧ ρ[n]? = some a ∧ st[n]? = some (.dic kvs) ∧ H a = some (.dK vs) ∧ RepK g ρ H kvs vs := by
  obtain ⟨a, q0, rfl⟩ := r.loc
  unfold Z.getKW at e
  split at e
  · rename_i k' e1
    cases e
    obtain ⟨b, hb, vs, h1, h2⟩ := sr.at_ e1
    rw [q0] at hb
    cases hb
    exact ⟨a, vs, rfl, q0, e1, h1, h2⟩
  · cases e
theorem Rep.key {d : D} {v : V} {k : Key} (r : Rep g ρ H d v) (e : keyD d = some k) : v = kV k := by
  cases d with
  | int i =>
    cases e
    exact r.int
  | str x =>
    cases e
    exact r.str
  | _ => cases e
end
/-! ### ties -/
theorem PE.or {X : Cx} {e : Expr} {t t' : TE} (h : PE X e t) (h' : PE X e t') : PE X e (fun σ H Q => t σ H Q ∨ t' σ H Q) := ⟨fun pins s σ H Q I q => q.elim (h.run pins s σ H Q I) (h'.run pins s σ H Q I)⟩
theorem PS.or {X : Cx} {e : Stmt} {t t' : TS} (h : PS X e t) (h' : PS X e t') : PS X e (fun D σ H => t D σ H ∨ t' D σ H) := ⟨fun pins s σ H D I q => q.elim (h.run pins s σ H D I) (h'.run pins s σ H D I)⟩
section
variable {X : Cx} {cad : Nat → Addr} {E : XK} {a b : Expr} {ma mb : M D} {pos : Pos}
theorem e_ixA (hu : X.A.units + 64 < cLine) (ha : PE X a (tM (gX X cad) E ma)) (hb : PE X b (tM (gX X cad) E mb)) (hs : PlainIx b := by exact fun _ _ => rfl) : PE X (.Subscript a b pos) (tM (gX X cad) E (c2 ma mb ixA)) := by
  refine PE.imp (PE.or (e_ix ha hb hs) (pe_dget (by omega) ha hb hs)) fun σ H Q h => ?_
  obtain ⟨ρ, es, st, sr, sl, p⟩ := h
  cases hm : ma es st with
  | exc c fs s1 => exact .inl ⟨ρ, es, st, sr, sl, by unfold c2 at p ⊢; rw [hm] at p ⊢; exact p⟩
  | bad => exact .inl ⟨ρ, es, st, sr, sl, by unfold c2 at p ⊢; rw [hm] at p ⊢; exact p⟩
  | ok x s1 =>
    cases hm2 : mb es s1 with
    | exc c fs s2 => exact .inl ⟨ρ, es, st, sr, sl, by unfold c2 at p ⊢; rw [hm] at p ⊢; simp only [R.bind, hm2] at p ⊢; exact p⟩
    | bad => exact .inl ⟨ρ, es, st, sr, sl, by unfold c2 at p ⊢; rw [hm] at p ⊢; simp only [R.bind, hm2] at p ⊢; exact p⟩
    | ok y s2 =>
      have ep : c2 ma mb ixA es st = ixA x y s2 := by unfold c2; rw [hm]; simp only [R.bind, hm2]
      have ep2 : c2 ma mb ixD es st = ixD x y s2 := by unfold c2; rw [hm]; simp only [R.bind, hm2]
      rw [ep] at p
      have old : ixA x y s2 = ixD x y s2 → tM (gX X cad) E (c2 ma mb ixD) σ H Q := fun e => ⟨ρ, es, st, sr, sl, by rw [ep2, ← e]; exact p⟩
      unfold ixA at p old
      split at p
      · rename_i n
        split at p
        · rename_i kvs k e1 e2
          split at p
          · rename_i d e3
            refine .inr ⟨ρ, es, st, sr, sl, ?_⟩
            rw [hm]
            intro ρ1 H1 v1 le1 t1 sr1 rx
            refine ⟨ρ1, es, s1, sr1, sl.mono le1 t1, ?_⟩
            rw [hm2]
            intro ρ2 H2 v2 le2 t2 sr2 ry
            obtain ⟨A, vs, rfl, hr, hk⟩ := sr2.getK (rx.mono le2 t2) e1
            have hv := RepK.val k hk
            rw [e3] at hv
            obtain ⟨w, w1, w2⟩ := hv
            exact ⟨A, w, rfl, .inl ⟨vs, k, hr, ry.key e2, w1.symm⟩, p ρ2 H2 w (le1.trans le2) (t1.trans t2) sr2 w2⟩
          · exact p.elim
        · rename_i hn
          refine .inl (old ?_)
          dsimp only
          split
          · rename_i kvs k e1 e2
            exact (hn kvs k e1 e2).elim
          · rfl
      · rename_i hn
        refine .inl (old ?_)
        split
        · rename_i n
          exact (hn n rfl).elim
        · rfl
/-- o[i] = e, o a list or a dict -/
theorem s_subA {e o ie : Expr} {m mo mi : M D} {p2 : Pos} (hu : X.A.units + 64 < cLine) (he : PE X e (tM (gX X cad) E m)) (ho : PE X o (tM (gX X cad) E mo)) (hi : PE X ie (tM (gX X cad) E mi))
    (ha : ∀ v, assign (.Subscript o ie p2) X.env v = (do
      let ov ← holding [v] (eval o X.env)
      let iv ← holding [v, ov] (eval ie X.env)
      standAt p2
      holding [v, ov, iv] (setItem ov iv v)
      release [v, ov, iv] []) := by intro _; rfl)
    (hs : swapsWithSole [.Subscript o ie p2] e pos.line X.env = pure false := by rfl) (hw : swappedStores [.Subscript o ie p2] e X.env = pure none := by rfl)
    (h1 : (assignEach [.Subscript o ie p2] X.env).map (·.2) = [assign (.Subscript o ie p2) X.env] := by rfl) (hs2 : swapsWith e (some (.Subscript o ie p2)) pos.line X.env = pure false := by rfl) : PS X (.Assign [.Subscript o ie p2] e pos) (tS (gX X cad) E (sSubA mo mi m)) := by
  refine PS.imp (PS.or (s_sub he ho hi ha hs hw h1) (ps_dput (by omega) ho hi he hs2)) fun Dn σ H h => ?_
  obtain ⟨ρ, es, st, sr, sl, p⟩ := h
  cases hm : m es st with
  | exc c fs s1 => exact .inl ⟨ρ, es, st, sr, sl, by unfold sSubA at p; unfold sSub; rw [hm] at p ⊢; exact p⟩
  | bad => exact .inl ⟨ρ, es, st, sr, sl, by unfold sSubA at p; unfold sSub; rw [hm] at p ⊢; exact p⟩
  | ok v s1 =>
    cases hm2 : mo es s1 with
    | exc c fs s2 => exact .inl ⟨ρ, es, st, sr, sl, by unfold sSubA at p; unfold sSub; rw [hm] at p ⊢; simp only [R.bind, hm2] at p ⊢; exact p⟩
    | bad => exact .inl ⟨ρ, es, st, sr, sl, by unfold sSubA at p; unfold sSub; rw [hm] at p ⊢; simp only [R.bind, hm2] at p ⊢; exact p⟩
    | ok x s2 =>
      cases hm3 : mi es s2 with
      | exc c fs s3 => exact .inl ⟨ρ, es, st, sr, sl, by unfold sSubA at p; unfold sSub; rw [hm] at p ⊢; simp only [R.bind, hm2, hm3] at p ⊢; exact p⟩
      | bad => exact .inl ⟨ρ, es, st, sr, sl, by unfold sSubA at p; unfold sSub; rw [hm] at p ⊢; simp only [R.bind, hm2, hm3] at p ⊢; exact p⟩
      | ok y s3 =>
        have ep : sSubA mo mi m es st = (setIxA x y v s3).bind fun _ s => .ok (.nx es) s := by unfold sSubA; rw [hm]; simp only [R.bind, hm2, hm3]
        have ep2 : sSub mo mi m es st = (setIx x y v s3).bind fun _ s => .ok (.nx es) s := by unfold sSub; rw [hm]; simp only [R.bind, hm2, hm3]
        rw [ep] at p
        have old : setIxA x y v s3 = setIx x y v s3 → tS (gX X cad) E (sSub mo mi m) Dn σ H := fun e => ⟨ρ, es, st, sr, sl, by rw [ep2, ← e]; exact p⟩
        unfold setIxA at p old
        split at p
        · rename_i n
          split at p
          · rename_i kvs k e1 e2
            split at p
            · rename_i hz
              refine .inr ⟨ρ, es, st, sr, sl, ?_⟩
              rw [hm]
              intro ρ1 H1 v1 le1 t1 sr1 rx
              refine ⟨ρ1, es, s1, sr1, sl.mono le1 t1, ?_⟩
              rw [hm2]
              intro ρ2 H2 v2 le2 t2 sr2 ro
              refine ⟨ρ2, es, s2, sr2, (sl.mono le1 t1).mono le2 t2, ?_⟩
              rw [hm3]
              intro ρ3 H3 v3 le3 t3 sr3 ry
              obtain ⟨A, vs, rfl, q0, q1, q2, hk⟩ := sr3.getKW (ro.mono le3 t3) e1
              have rx3 := (rx.mono le2 t2).mono le3 t3
              have lv := RepK.len hk
              have t4 : TLe (gX X cad) H3 (upd H3 A (.dK (putK vs k v1))) := TLe.put q2 (fun _ z => nomatch z) (fun _ _ z => nomatch z)
              refine ⟨A, _, rfl, .inl ⟨vs, k, q2, ry.key e2, by rw [lv]; exact Nat.lt_of_lt_of_le hz (by first | size_fits | decide +kernel), rfl⟩, ?_⟩
              exact PoS.nx (PoS.mono p ((le1.trans le2).trans le3) (((t1.trans t2).trans t3).trans t4)) (sr3.put q0 q1 (fun _ z => nomatch z) q2 (fun _ z => nomatch z) (fun _ _ z => nomatch z) ⟨_, upd_same, (RepK.put hk rx3).mono (List.prefix_refl _) t4⟩) ((((sl.mono le1 t1).mono le2 t2).mono le3 t3).mono (List.prefix_refl _) t4)
            · exact p.elim
          · rename_i hn
            refine .inl (old ?_)
            dsimp only
            split
            · rename_i kvs k e1 e2
              exact (hn kvs k e1 e2).elim
            · rfl
        · rename_i hn
          refine .inl (old ?_)
          split
          · rename_i n
            exact (hn n rfl).elim
          · rfl
end
end Z
end
section
set_option Elab.async false
set_option linter.all false
set_option maxRecDepth 100000
set_option maxHeartbeats 4000000
/-! ZF: in, len, dict(), != of dicts, wide * and //, a < b < c. -/
namespace Z
open PySem PySem.Spec PyProof.Rows L2
section
variable {X : Cx} {cad : Nat → Addr} {E : XK} {a b c : Expr} {ma mb mc : M D} {pos : Pos}
theorem val_some {g : G} {ρ : List Addr} {H : Hp} {ds : List (Key × D)} {vs : List (Key × V)} (k : Key) (h : RepK g ρ H ds vs) : (valV vs k).isSome = (valD ds k).isSome := by
  have hv := RepK.val k h
  cases e : valD ds k with
  | none =>
    rw [e] at hv
    rw [show valV vs k = none from hv]
    rfl
  | some d =>
    rw [e] at hv
    obtain ⟨v, h1, -⟩ := hv
    rw [h1]
    rfl
theorem kq_inA (hu : X.A.units + 64 < cLine) : OpK X cad E (compareOp .In) kInA := by
  intro pins s σ H x y v u Q I rx ry h
  obtain ⟨ρ, st, dx, dy, sr, r1, r2, p⟩ := h
  unfold kInA at p
  split at p
  · split at p
    · rename_i kvs k e1 e2
      obtain ⟨A, vs, rfl, hr, hk⟩ := sr.getK r2 e1
      obtain rfl : u = Value.ref A := ry
      refine d_in (by omega) I (.inl ⟨vs, k, hr, r1.key e2, rfl⟩) rx fun s' I' => ⟨.bl _, H, I', rfl, ?_⟩
      rw [val_some k hk]
      exact p.here sr rfl
    · exact kq_in pins s σ H _ _ v u Q I rx ry ⟨ρ, st, dx, _, sr, r1, r2, p⟩
  · exact kq_in pins s σ H _ _ v u Q I rx ry ⟨ρ, st, dx, _, sr, r1, r2, p⟩
theorem kq_notInA (hu : X.A.units + 64 < cLine) : OpK X cad E (compareOp .NotIn) kNotInA := by
  intro pins s σ H x y v u Q I rx ry h
  obtain ⟨ρ, st, dx, dy, sr, r1, r2, p⟩ := h
  unfold kNotInA at p
  split at p
  · split at p
    · rename_i kvs k e1 e2
      obtain ⟨A, vs, rfl, hr, hk⟩ := sr.getK r2 e1
      obtain rfl : u = Value.ref A := ry
      refine d_notIn (by omega) I (.inl ⟨vs, k, hr, r1.key e2, rfl⟩) rx fun s' I' => ⟨.bl _, H, I', rfl, ?_⟩
      rw [val_some k hk]
      exact p.here sr rfl
    · exact kq_notIn pins s σ H _ _ v u Q I rx ry ⟨ρ, st, dx, _, sr, r1, r2, p⟩
  · exact kq_notIn pins s σ H _ _ v u Q I rx ry ⟨ρ, st, dx, _, sr, r1, r2, p⟩
theorem q_lenA : CallM X cad E (.builtin "len") fLenA := by
  intro pins s σ H vs us Q I r h
  obtain ⟨ρ, st, ds, sr, rs, p⟩ := h
  unfold fLenA at p
  split at p
  · split at p
    · rename_i kvs e1
      obtain ⟨v, rfl, r1⟩ := rs.uno
      obtain ⟨A, vs, rfl, q0, q1, q2, hk⟩ := sr.getKW r1 e1
      refine call_lenD pins s σ H _ us Q I r ⟨A, vs, rfl, q2, ?_⟩
      rw [RepK.len hk]
      exact p.here sr rep_int
    · exact q_len pins s σ H vs us Q I r ⟨ρ, st, _, sr, rs, p⟩
  · exact q_len pins s σ H vs us Q I r ⟨ρ, st, _, sr, rs, p⟩
theorem o_mulA : OpM X cad E (binaryOp .Mult) bMulA := by
  intro pins s σ H x y v u Q I rx ry h
  obtain ⟨ρ, st, dx, dy, sr, r1, r2, p⟩ := h
  unfold bMulA at p
  split at p
  · split at p
    · rename_i hz
      cases r1.int
      cases r2.int
      rcases hz with hz | hz
      · exact op_mul pins s σ H _ _ v u Q I rx ry ⟨_, _, rfl, rfl, hz, p.here sr rep_int⟩
      · exact op_mulX pins s σ H _ _ v u Q I rx ry ⟨_, _, rfl, rfl, hz, p.here sr rep_int⟩
    · exact p.elim
  · exact o_mul pins s σ H _ _ v u Q I rx ry ⟨ρ, st, _, _, sr, r1, r2, p⟩
theorem op_fdivN : OpR X (binaryOp .FloorDiv) (rI (fun _ j => j ≠ 0 ∧ j.natAbs.log2 < 9000) fun i j => .int (i.fdiv j)) := opI fun i j _ _ _ _ _ hc q => floordiv_int hc.1 q (.inl (PyProof.noPylong_of_log2 hc.2))
theorem o_divA : OpM X cad E (binaryOp .FloorDiv) bDivA := by
  intro pins s σ H x y v u Q I rx ry h
  obtain ⟨ρ, st, dx, dy, sr, r1, r2, p⟩ := h
  unfold bDivA at p
  split at p
  · split at p
    · rename_i hz
      cases r1.int
      cases r2.int
      exact op_fdivN pins s σ H _ _ v u Q I rx ry ⟨_, _, rfl, rfl, hz, p.here sr rep_int⟩
    · exact p.elim
  · exact p.elim
theorem repK_mem {g : G} {ρ : List Addr} {H : Hp} : ∀ {ds : List (Key × D)} {vs : List (Key × V)} {p : Key × V}, RepK g ρ H ds vs → p ∈ vs → ∃ q ∈ ds, q.1 = p.1 ∧ Rep g ρ H q.2 p.2
  | [], vs, p, h, m => by
    have h : vs = [] := h
    subst h
    exact nomatch m
  | q :: ds, vs, p, h, m => by
    obtain ⟨v, r, rfl, h2, h3⟩ := h
    rcases List.mem_cons.mp m with rfl | m
    · exact ⟨q, List.mem_cons_self .., rfl, h2⟩
    · obtain ⟨q', m', e⟩ := repK_mem h3 m
      exact ⟨q', List.mem_cons_of_mem _ m', e⟩
theorem kq_neA (hu : X.A.units + 64 < cLine) : OpK X cad E (compareOp .NotEq) kNeA := by
  intro pins s σ H x y v u Q I rx ry h
  obtain ⟨ρ, st, dx, dy, sr, r1, r2, p⟩ := h
  unfold kNeA at p
  split at p
  · split at p
    · rename_i ks ls e1 e2
      split at p
      · rename_i hs
        obtain ⟨A, vs, rfl, q0, q1, q2, hk⟩ := sr.getKW r1 e1
        obtain ⟨B, ws, rfl, z0, z1, z2, hk2⟩ := sr.getKW r2 e2
        unfold sameK at hs
        rw [Bool.and_eq_true, List.all_eq_true] at hs
        obtain ⟨hl, ha⟩ := hs
        refine op_ne_dictA (by omega) pins s σ H _ _ v u Q I rx ry ⟨A, B, vs, ws, rfl, rfl, q2, z2, by rw [RepK.len hk, RepK.len hk2]; exact of_decide_eq_true hl, fun p' hp => ?_, p.here sr rfl⟩
        obtain ⟨q', m', e', r'⟩ := repK_mem hk hp
        have h1 := ha q' m'
        split at h1
        · rename_i i j d1 d2
          have hv := RepK.val q'.1 hk2
          rw [d2] at hv
          obtain ⟨w, w1, w2⟩ := hv
          rw [d1] at r'
          rw [← e', w1, w2.int, r'.int, of_decide_eq_true h1]
          exact ⟨rfl, rfl⟩
        · cases h1
      · exact p.elim
    · exact k_ne hu pins s σ H _ _ v u Q I rx ry ⟨ρ, st, _, _, sr, r1, r2, p⟩
  · exact k_ne hu pins s σ H _ _ v u Q I rx ry ⟨ρ, st, _, _, sr, r1, r2, p⟩
end
end Z
end
section
set_option Elab.async false
set_option linter.all false
set_option maxRecDepth 100000
set_option maxHeartbeats 4000000
/-! ZG: for k in d, the dict locked. -/
namespace Z
open PySem PySem.Spec PyProof.Rows L2
/-- tuples stay -/
def TLt (g : G) (H H' : Hp) : Prop := ∀ a vs, SqT g.K H a vs → SqT g.K H' a vs
section
variable {g : G} {ρ : List Addr} {H H' : Hp}
mutual
theorem Rep.monoT (t : TLt g H H') : ∀ {d : D} {v : V}, Rep g ρ H d v → Rep g ρ H' d v
  | .non, _, h => by unfold Rep at h ⊢; exact h
  | .bl _, _, h => by unfold Rep at h ⊢; exact h
  | .int _, _, h => by unfold Rep at h ⊢; exact h
  | .str _, _, h => by unfold Rep at h ⊢; exact h
  | .ty _, _, h => by unfold Rep at h ⊢; exact h
  | .cls _, _, h => by unfold Rep at h ⊢; exact h
  | .loc _, _, h => by
    unfold Rep at h ⊢
    obtain ⟨a, h1, h2⟩ := h
    exact ⟨a, h1, h2⟩
  | .tup xs, _, h => by
    unfold Rep at h ⊢
    obtain ⟨a, vs, h1, h2, h3⟩ := h
    exact ⟨a, vs, h1, t _ _ h2, Reps.monoT t h3⟩
theorem Reps.monoT (t : TLt g H H') : ∀ {ds : List D} {vs : List V}, Reps g ρ H ds vs → Reps g ρ H' ds vs
  | [], _, h => by unfold Reps at h ⊢; exact h
  | _ :: _, _, h => by
    unfold Reps at h ⊢
    obtain ⟨v, r, h1, h2, h3⟩ := h
    exact ⟨v, r, h1, Rep.monoT t h2, Reps.monoT t h3⟩
end
theorem RepF.monoT (t : TLt g H H') : ∀ {ds : List (Str × D)} {vs : List (Str × V)}, RepF g ρ H ds vs → RepF g ρ H' ds vs
  | [], _, h => h
  | _ :: _, _, h => by
    obtain ⟨v, r, h1, h2, h3⟩ := h
    exact ⟨v, r, h1, h2.monoT t, h3.monoT t⟩
theorem RepK.monoT (t : TLt g H H') : ∀ {ds : List (Key × D)} {vs : List (Key × V)}, RepK g ρ H ds vs → RepK g ρ H' ds vs
  | [], _, h => h
  | _ :: _, _, h => by
    obtain ⟨v, r, h1, h2, h3⟩ := h
    exact ⟨v, r, h1, h2.monoT t, h3.monoT t⟩
theorem RepN.monoT (t : TLt g H H') : ∀ {ds : List (NestedKey × D)} {xs : List (NestedKey × Addr × Value)}, RepN g ρ H ds xs → RepN g ρ H' ds xs
  | [], _, h => h
  | _ :: _, _, h => by
    obtain ⟨a, u, v, r, h1, h2, h3, h4, h5⟩ := h
    exact ⟨a, u, v, r, h1, h2.monoT t, h3.monoT t, h4, h5.monoT t⟩
theorem KP.monoT {a : Addr} {o : O} (h : KP g ρ H a o) (t : TLt g H H') : KP g ρ H' a o := by
  cases o with
  | ro xs => obtain ⟨vs, k, r⟩ := h; exact ⟨vs, k, r.monoT t⟩
  | _ => exact h
theorem ObjR.monoT {a : Addr} {o : O} (h : ObjR g ρ H a o) (t : TLt g H H') (k : H' a = H a) : ObjR g ρ H' a o := by
  cases o with
  | lst xs => obtain ⟨vs, q, r⟩ := h; exact ⟨vs, k.trans q, r.monoT t⟩
  | ro xs =>
    obtain ⟨vs, q, r⟩ := h
    refine ⟨vs, ?_, r.monoT t⟩
    unfold SqL Rd at q ⊢
    rw [k]
    exact q
  | hole => obtain ⟨vs, q⟩ := h; exact ⟨vs, k.trans q⟩
  | ins c fs => obtain ⟨dx, vs, q, r⟩ := h; exact ⟨dx, vs, k.trans q, r.monoT t⟩
  | dic kvs => obtain ⟨vs, q, r⟩ := h; exact ⟨vs, k.trans q, r.monoT t⟩
  | dro kvs =>
    obtain ⟨vs, q, r⟩ := h
    refine ⟨vs, ?_, r.monoT t⟩
    unfold Rd at q ⊢
    rw [k]
    exact q
  | dkn kvs => obtain ⟨o, es, ep, xs, q, h1, h2, h3, h4, h5, r⟩ := h; exact ⟨o, es, ep, xs, k.trans q, h1, h2, h3, h4, h5, r.monoT t⟩
theorem SR.putT {st : S} (h : SR g ρ st H) {n : Nat} {a : Addr} {u : HO} {o o0 : O} (hn : ρ[n]? = some a) (h0 : st[n]? = some o0) (hro : ∀ xs, o0 ≠ .ro xs) (tl : TLt g H (upd H a u)) (ho : ObjR g ρ (upd H a u) a o) : SR g ρ (st.set n o) (upd H a u) := by
  have nk : ¬ KP g ρ H a o0 := fun z => by
    cases o0 with
    | ro xs => exact hro xs rfl
    | _ => exact z
  have hl : n < st.length := (List.getElem?_eq_some_iff.mp h0).1
  have kp : ∀ (m : Nat) (o' : O), n ≠ m → st[m]? = some o' → ρ[m]? = some a → KP g ρ H a o' := fun m o' ne e q => (h.nd n m a o0 o' ne hn q h0 e).resolve_left nk
  refine ⟨by rw [List.length_set]; exact h.len, fun i j b oi oj ne r1 r2 s1 s2 => ?_, fun m o' b e q => ?_⟩
  · by_cases hi : n = i
    · subst hi
      rw [hn] at r1
      cases r1
      rw [List.getElem?_set_ne ne] at s2
      exact .inr ((kp j oj ne s2 r2).monoT tl)
    · rw [List.getElem?_set_ne hi] at s1
      by_cases hj : n = j
      · subst hj
        rw [hn] at r2
        cases r2
        exact .inl ((kp i oi hi s1 r1).monoT tl)
      · rw [List.getElem?_set_ne hj] at s2
        exact (h.nd i j b oi oj ne r1 r2 s1 s2).imp (fun z => z.monoT tl) (fun z => z.monoT tl)
  · by_cases hm : n = m
    · subst hm
      rw [List.getElem?_set_self hl] at e
      rw [hn] at q
      cases e
      cases q
      exact ho
    · rw [List.getElem?_set_ne hm] at e
      by_cases ne : b = a
      · subst ne
        exact ((kp m o' hm e q).monoT tl).ob
      · exact (h.ob m o' b e q).monoT tl (upd_ne ne)
theorem Slo.monoT {es : Ev} {σ : L2.St} (h : Slo g ρ H es σ) (t : TLt g H H') : Slo g ρ H' es σ := ⟨h.1, fun i d q => by
  obtain ⟨v, q1, q2⟩ := h.2 i d q
  exact ⟨v, q1, q2.monoT t⟩⟩
theorem unf_t {a : Addr} {o : Obj} {vs : List (Key × V)} (h : H a = some (.frz o (.dK vs))) : TLt g H (upd H a (.dK vs)) := by
  intro b ws q
  rcases q with (q | ⟨o', q⟩) | q
  · refine .inl (.inl ?_)
    rw [upd_ne (fun e => by rw [e, h] at q; cases q)]
    exact q
  · refine .inl (.inr ⟨o', ?_⟩)
    rw [upd_ne (fun e => by rw [e, h] at q; cases q)]
    exact q
  · exact .inr q
end
def kD : Key → D
  | .inl i => .int i
  | .inr x => .str x
def sForA (i : Nat) (set : Ev → D → Option Ev) (b : M Out) : M Out := fun es st => match es[i]? with
  | some (some (.loc n)) => match getKW st n with
    | some kvs => match forT set b (kvs.map fun kv => kD kv.1) es (st.set n (.dro kvs)) with
      | .ok o s => match s[n]? with
        | some (.dro kvs') => .ok o (s.set n (.dic kvs'))
        | _ => .bad
      | _ => .bad
    | none => sFor (cVar i) set b es st
  | _ => sFor (cVar i) set b es st
section
variable {X : Cx} {cad : Nat → Addr} {E : XK} {tg iter : Expr} {body : List Stmt} {set : Ev → D → Option Ev} {b : M Out} {pos : Pos} {i : Nat}
theorem kD_rep {g : G} {ρ : List Addr} {H : Hp} (k : Key) : Rep g ρ H (kD k) (kV k) := by
  cases k with
  | inl i => exact rep_int
  | inr x => exact rep_str
theorem s_forA (hp : PassesOwn (model X.prog X.w) X.A X.env X.xe) (hc : X.calm = true) (he : PE X iter (tM (gX X cad) E (cVar i))) (hg : PGd X cad tg set) (hb : PSs X body (tS (gX X cad) E b)) (hs : ∀ x, foldedSetIterable iter X.env x = pure x := by intro _; rfl) : PS X (.For tg iter body [] pos) (tS (gX X cad) E (sForA i set b)) := by
  obtain ⟨tt, h2, h3⟩ := id hg.ex
  refine ⟨fun pins s σ H Dn I h => ?_⟩
  obtain ⟨ρ, es, st, sr, sl, p⟩ := h
  have old : sForA i set b es st = sFor (cVar i) set b es st → wpAny (model X.prog X.w) X.A (exec (.For tg iter body [] pos) X.env) (SP X pins Dn) X.xe s := fun e => (s_for hp hc he hg hb hs).run pins s σ H Dn I ⟨ρ, es, st, sr, sl, by rw [← e]; exact p⟩
  unfold sForA at p old
  split at p
  · rename_i n hn
    split at p
    · rename_i kvs e1
      obtain ⟨v, q1, q2⟩ := sl.2 i _ hn
      obtain ⟨A, vs, rfl, r0, r1, r2, hk⟩ := sr.getKW q2 e1
      refine (ps_lock (ps_for hp hc (pi_keys he) h2 hb hs)).run pins s σ H Dn I ⟨A, .dK vs, r2, trivial, fun od => ?_⟩
      have t1 : TLe (gX X cad) H (upd H A (.frz od (.dK vs))) := TLe.put r2 (fun _ z => nomatch z) (fun _ _ z => nomatch z)
      have sr1 := sr.put (u := .frz od (.dK vs)) (o := .dro kvs) r0 r1 (fun _ z => nomatch z) r2 (fun _ z => nomatch z) (fun _ _ z => nomatch z) ⟨vs, .inr ⟨od, upd_same⟩, hk.mono (List.prefix_refl _) t1⟩
      have sl1 := sl.mono (List.prefix_refl _) t1
      refine ⟨ρ, es, _, sr1, sl1, ?_⟩
      have ec : cVar i es (st.set n (.dro kvs)) = .ok (.loc n) (st.set n (.dro kvs)) := by unfold cVar; rw [hn]
      rw [ec]
      intro ρ2 H2 v le2 t2 sr2 rx
      have f2 := t2.frz _ _ _ upd_same
      have a2 : v = .ref A := by
        obtain ⟨a, z1, z2⟩ := rx.loc
        rw [pre_get le2 r0] at z1
        cases z1
        exact z2
      subst a2
      have hk2 := (hk.mono (List.prefix_refl _) t1).mono le2 t2
      refine ⟨A, od, rfl, .inl ⟨vs, f2, forT_W (Itk A od vs) (xs := kvs.map fun kv => kD kv.1) h3 (fun H => H A = some (.frz od (.dK vs))) (fun H H' tl h => tl.frz _ _ _ h) (fun j H d hd h => ?_) (fun H h => ?_) (fun j H d w H' ρ0 e0 hd h hy => ?_) sr2 (sl1.mono le2 t2) f2 ?_⟩⟩
      · have jl := (List.getElem?_eq_some_iff.mp hd).1
        rw [List.length_map] at jl
        exact ⟨h, by rw [RepK.len hk]; exact jl⟩
      · rw [List.length_map]
        exact ⟨h, by rw [RepK.len hk]; exact Nat.le_refl _⟩
      · obtain ⟨eH, k, w', e2, e3⟩ := hy
        refine ⟨eH, ?_⟩
        rw [List.getElem?_map] at hd
        obtain ⟨p', e4, e5⟩ := Option.map_eq_some_iff.mp hd
        obtain ⟨u, e6, -⟩ := RepK.get hk e4
        rw [e6] at e2
        cases e2
        rw [← e5, e3]
        exact kD_rep _
      · -- the loop's outcome, unlocked
        have fin : ∀ {ρ' : List Addr} {H' : Hp} {s' : S}, ρ2 <+: ρ' → TLe (gX X cad) H2 H' → SR (gX X cad) ρ' s' H' → H' A = some (.frz od (.dK vs)) ∧ TLt (gX X cad) H' (upd H' A (.dK vs)) ∧ TLe (gX X cad) H (upd H' A (.dK vs)) ∧ ∀ kvs', s'[n]? = some (.dro kvs') → SR (gX X cad) ρ' (s'.set n (.dic kvs')) (upd H' A (.dK vs)) := fun {ρ' H' s'} le3 t3 sr3 => by
          have f3 := t3.frz _ _ _ f2
          have ut := unf_t (g := gX X cad) f3
          have t13 := (t1.trans t2).trans t3
          refine ⟨f3, ut, ⟨fun b ws q => ut _ _ (t13.tup _ _ q), fun b o u q => ?_⟩, fun kvs' e => ?_⟩
          · have nb : b ≠ A := fun z => by
              rw [z, r2] at q
              cases q
            rw [upd_ne nb]
            exact t13.frz _ _ _ q
          · have an := pre_get (le2.trans le3) r0
            refine sr3.putT an e (fun _ z => nomatch z) ut ?_
            obtain ⟨b, hb, ws, hr, hk3⟩ := sr3.at_ e
            rw [an] at hb
            cases hb
            have ew : ws = vs := by
              rcases hr with hr | ⟨o', hr⟩
              · rw [f3] at hr
                cases hr
              · rw [f3] at hr
                cases hr
                rfl
            subst ew
            exact ⟨ws, upd_same, hk3.monoT ut⟩
        revert p
        cases forT set b (kvs.map fun kv => kD kv.1) es (st.set n (.dro kvs)) with
        | exc c fs s' => exact fun p => p.elim
        | bad => exact fun p => p.elim
        | ok o s' =>
          intro p
          dsimp only at p
          split at p
          · rename_i kvs' e9
            cases o with
            | nx e =>
              intro ρ' H' σ' le3 t3 sr3 sl3
              obtain ⟨f3, ut, th, hs3⟩ := fin le3 t3 sr3
              exact ⟨f3, p ρ' _ σ' (le2.trans le3) th (hs3 _ e9) (sl3.monoT ut)⟩
            | rt d =>
              intro ρ' H' w le3 t3 sr3 rd
              obtain ⟨f3, ut, th, hs3⟩ := fin le3 t3 sr3
              exact ⟨f3, p ρ' _ w (le2.trans le3) th (hs3 _ e9) (rd.monoT ut)⟩
            | bk e =>
              intro ρ' H' σ' le3 t3 sr3 sl3
              obtain ⟨f3, ut, th, hs3⟩ := fin le3 t3 sr3
              exact ⟨f3, p ρ' _ σ' (le2.trans le3) th (hs3 _ e9) (sl3.monoT ut)⟩
            | ct e =>
              intro ρ' H' σ' le3 t3 sr3 sl3
              obtain ⟨f3, ut, th, hs3⟩ := fin le3 t3 sr3
              exact ⟨f3, p ρ' _ σ' (le2.trans le3) th (hs3 _ e9) (sl3.monoT ut)⟩
          · exact p.elim
    · exact old (by rename_i e1; rw [hn]; dsimp only; rw [e1])
  · rename_i hn
    refine old ?_
    split
    · rename_i n e
      exact (hn n e).elim
    · rfl
end
end Z
end
section
set_option Elab.async false
set_option linter.all false
set_option maxRecDepth 100000
set_option maxHeartbeats 4000000
/-! ZS: evaluation by simp. -/
namespace Z
open PySem PySem.Spec PyProof.Rows L2
section
variable {α β : Type} {a : α} {s st : S} {es : Ev}
end
end Z
end
section
set_option Elab.async false
set_option linter.all false
set_option maxRecDepth 100000
set_option maxHeartbeats 4000000
/-! ZW: what an evaluator ends in: rules by what is wanted behind it. -/
namespace Z
open PySem PySem.Spec PyProof.Rows L2
def Wp {α : Type} (r : R α) (Q : α → S → Prop) : Prop := match r with
  | .ok a s => Q a s
  | _ => False
section
variable {α β : Type} {a : α} {s st : S} {es : Ev} {Q Q' : α → S → Prop} {r : R α}
theorem Wp.ok (h : Wp r Q) : ∃ a s, r = .ok a s ∧ Q a s := by
  cases r with
  | ok a s => exact ⟨a, s, rfl, h⟩
  | exc => exact h.elim
  | bad => exact h.elim
theorem Wp.mono (h : Wp r Q) (k : ∀ a s, Q a s → Q' a s) : Wp r Q' := by
  cases r with
  | ok a s => exact k a s h
  | exc => exact h.elim
  | bad => exact h.elim
theorem wp_bind {f : α → S → R β} {Q : β → S → Prop} (h : Wp r fun a s => Wp (f a s) Q) : Wp (r.bind f) Q := by
  cases r with
  | ok a s => exact h
  | exc => exact h.elim
  | bad => exact h.elim
end
section
variable {s st : S} {es : Ev} {QD : D → S → Prop} {QB : Bool → S → Prop} {QL : List D → S → Prop} {QO : Out → S → Prop} {α : Type} {Q : α → S → Prop} {ma mb mo mi m : M D} {mA mK : M (List D)} {mc mt mt2 : M Bool} {b b2 : M Out} {i j : Nat} {d : D}
theorem wp_var (h : es[i]? = some (some d)) (q : QD d st) : Wp (cVar i es st) QD := by unfold cVar; rw [h]; exact q
theorem wp_c (q : QD d st) : Wp (cC d es st) QD := q
theorem wp_c2 {f : D → D → S → R α} (h : Wp (ma es st) fun x s => Wp (mb es s) fun y s => Wp (f x y s) Q) : Wp (c2 ma mb f es st) Q := wp_bind (h.mono fun _ _ q => wp_bind q)
theorem wp_c1 {f : D → S → R α} (h : Wp (ma es st) fun x s => Wp (f x s) Q) : Wp (c1 ma f es st) Q := wp_bind h
theorem wp_vK {f : D → D → S → R Bool} {x y : D} (h : Wp (f x y s) fun k s => QD (.bl k) s) : Wp (vK f x y s) QD := wp_bind h
theorem wp_and (h : Wp (mt es st) fun k s => (k = true → Wp (mt2 es s) QB) ∧ (k = false → QB false s)) : Wp (cAnd mt mt2 es st) QB := wp_bind (h.mono fun k s q => by cases k with
  | true => exact q.1 rfl
  | false => exact q.2 rfl)
theorem wp_or (h : Wp (mt es st) fun k s => (k = true → QB true s) ∧ (k = false → Wp (mt2 es s) QB)) : Wp (cOr mt mt2 es st) QB := wp_bind (h.mono fun k s q => by cases k with
  | true => exact q.1 rfl
  | false => exact q.2 rfl)
theorem wp_not (h : Wp (mt es st) fun k s => QB (!k) s) : Wp (cNot mt es st) QB := wp_bind h
theorem wp_if {ma mb : M α} (h : Wp (mc es st) fun k s => (k = true → Wp (ma es s) Q) ∧ (k = false → Wp (mb es s) Q)) : Wp (cIf mc ma mb es st) Q := wp_bind (h.mono fun k s q => by cases k with
  | true => exact q.1 rfl
  | false => exact q.2 rfl)
theorem wp_vand (h : Wp (ma es st) fun x s => ∃ k, x = .bl k ∧ (k = true → Wp (mb es s) QD) ∧ (k = false → QD (.bl false) s)) : Wp (vAnd ma mb es st) QD := wp_bind (h.mono fun x s q => by
  obtain ⟨k, rfl, q⟩ := q
  cases k with
  | true => exact q.1 rfl
  | false => exact q.2 rfl)
theorem wp_vor (h : Wp (ma es st) fun x s => ∃ k, x = .bl k ∧ (k = true → QD (.bl true) s) ∧ (k = false → Wp (mb es s) QD)) : Wp (vOr ma mb es st) QD := wp_bind (h.mono fun x s q => by
  obtain ⟨k, rfl, q⟩ := q
  cases k with
  | true => exact q.1 rfl
  | false => exact q.2 rfl)
theorem wp_vnot (h : Wp (ma es st) fun x s => ∃ k, x = .bl k ∧ QD (.bl (!k)) s) : Wp (vNot ma es st) QD := wp_bind (h.mono fun x s q => by
  obtain ⟨k, rfl, q⟩ := q
  exact q)
theorem wp_tr_bl {k : Bool} (q : QB k s) : Wp (truD (.bl k) s) QB := q
theorem wp_tr_int {n : Int} (q : QB (n != 0) s) : Wp (truD (.int n) s) QB := q
theorem wp_nil (q : QL [] st) : Wp (cNil es st) QL := q
theorem wp_cons (h : Wp (ma es st) fun x s => Wp (mA es s) fun xs s => QL (x :: xs) s) : Wp (cCons ma mA es st) QL := wp_bind (h.mono fun _ _ q => wp_bind q)
theorem wp_tup (h : Wp (mA es st) fun xs s => xs.length ≤ 1000000 ∧ QD (.tup xs) s) : Wp (cTup mA es st) QD := wp_bind (h.mono fun xs s q => by rw [if_pos q.1]; exact q.2)
theorem wp_lst (h : Wp (mA es st) fun xs s => xs.length ≤ 1000000 ∧ QD (.loc s.length) (s ++ [.lst xs])) : Wp (cLst mA es st) QD := wp_bind (h.mono fun xs s q => by rw [if_pos q.1]; exact q.2)
theorem wp_call {f : List D → S → R D} (h : Wp (mA es st) fun ds s => Wp (f ds s) QD) : Wp (cCall mA f es st) QD := wp_bind h
theorem wp_callK {gD} {f : List D → S → R D} (h : Wp (mA es st) fun ds s => Wp (mK es s) fun zs s => Wp (f (gD ds zs) s) QD) : Wp (cCallK mA mK gD f es st) QD := wp_bind (h.mono fun _ _ q => wp_bind q)
theorem wp_meth {f : D → List D → S → R D} (h : Wp (mo es st) fun o s => isL o s = true ∧ Wp (mA es s) fun ds s => Wp (f o ds s) QD) : Wp (cMeth mo mA f es st) QD := wp_bind (h.mono fun o s q => by rw [if_pos q.1]; exact wp_bind q.2)
theorem wp_make {c : Nat} {F : List D → S → R D} (h : Wp (mA es st) fun ds s => Wp (F (.loc s.length :: ds) (s ++ [.ins c []])) fun v s2 => v = .non ∧ QD (.loc s.length) s2) : Wp (cMake c mA F es st) QD := wp_bind (h.mono fun ds s q => wp_bind (q.mono fun v s2 q => by
  obtain ⟨rfl, q⟩ := q
  exact q))
theorem wp_is {n : Ty} (h : Wp (ma es st) fun x s => ∃ t k, tyD x s = some t ∧ isTy t n = some k ∧ QD (.bl k) s) : Wp (cIs n ma es st) QD := wp_bind (h.mono fun x s q => by
  obtain ⟨t, k, e1, e2, q⟩ := q
  rw [e1]
  show Wp (match isTy t n with
    | some b => .ok (.bl b) s
    | none => .bad) QD
  rw [e2]
  exact q)
theorem wp_nox (h : Wp (m es st) QD) : Wp (cNox m es st) QD := by
  unfold cNox
  obtain ⟨a, s, e, q⟩ := h.ok
  rw [e]
  exact q
theorem wp_slice {ml mh : M (Option Int)} (h : Wp (ma es st) fun x s => Wp (ml es s) fun lo s => Wp (mh es s) fun hi s => Wp (slD x lo hi s) QD) : Wp (cSlice ma ml mh es st) QD := wp_bind (h.mono fun _ _ q => wp_bind (q.mono fun _ _ q => wp_bind q))
theorem wp_nopart {Q : Option Int → S → Prop} (q : Q none st) : Wp (cNoPart es st) Q := q
theorem wp_part {Q : Option Int → S → Prop} (h : Wp (ma es st) fun x s => ∃ i, x = .int i ∧ Q (some i) s) : Wp (cPart ma es st) Q := wp_bind (h.mono fun x s q => by
  obtain ⟨i, rfl, q⟩ := q
  exact q)
/-! ### statements -/
theorem wp_next (q : QO (.nx es) st) : Wp (sNext es st) QO := q
theorem wp_break (q : QO (.bk es) st) : Wp (sBreak es st) QO := q
/-- behind a statement of a row -/
def After (b : M Out) (Q : Out → S → Prop) (o : Out) (s : S) : Prop := match o with
  | .nx e => Wp (b e s) Q
  | o => Q o s
theorem af_nx (h : Wp (b es s) QO) : After b QO (.nx es) s := h
theorem af_rt (h : QO (.rt d) s) : After b QO (.rt d) s := h
theorem af_bk (h : QO (.bk es) s) : After b QO (.bk es) s := h
theorem wp_seq (h : Wp (b es st) (After b2 QO)) : Wp (sSeq b b2 es st) QO := wp_bind (h.mono fun o s q => by
  cases o with
  | nx e => exact q
  | _ => exact q)
theorem wp_drop (h : Wp (m es st) fun _ s => QO (.nx es) s) : Wp (sDrop m es st) QO := wp_bind h
theorem wp_ret (h : Wp (m es st) fun d s => QO (.rt d) s) : Wp (sRet m es st) QO := wp_bind h
theorem wp_retN (h : QO (.rt .non) st) : Wp (sRetN es st) QO := h
theorem wp_set (h : Wp (m es st) fun d s => QO (.nx (es.set i (some d))) s) : Wp (sSet i m es st) QO := wp_bind h
theorem wp_asg {set} (h : Wp (m es st) fun d s => ∃ e, set es d = some e ∧ QO (.nx e) s) : Wp (sAsg set m es st) QO := wp_bind (h.mono fun d s q => by
  obtain ⟨e, e1, q⟩ := q
  rw [e1]
  exact q)
theorem wp_sub (h : Wp (m es st) fun v s => Wp (mo es s) fun o s => Wp (mi es s) fun i s => Wp (setIx o i v s) fun _ s => QO (.nx es) s) : Wp (sSub mo mi m es st) QO := wp_bind (h.mono fun _ _ q => wp_bind (q.mono fun _ _ q => wp_bind (q.mono fun _ _ q => wp_bind q)))
theorem wp_sfld {c f} (h : Wp (m es st) fun v s => Wp (mo es s) fun o s => Wp (setF c f o v s) fun _ s => QO (.nx es) s) : Wp (sFldD c f mo m es st) QO := wp_bind (h.mono fun _ _ q => wp_bind (q.mono fun _ _ q => wp_bind q))
/-- a def -/
def Back (Q : D → S → Prop) (o : Out) (s : S) : Prop := match o with
  | .rt d => Q d s
  | .nx _ => Q .non s
  | _ => False
theorem bk_rt (h : QD d s) : Back QD (.rt d) s := h
theorem bk_nx (h : QD .non s) : Back QD (.nx es) s := h
theorem wp_fn {N n : Nat} {ds : List D} (hl : ds.length = n) (h : Wp (b (ds.map some ++ List.replicate (N - n) none) st) (Back QD)) : Wp (fnD N n b ds st) QD := by
  unfold fnD
  rw [if_pos hl]
  exact wp_bind (h.mono fun o s q => by
    cases o with
    | rt d => exact q
    | nx e => exact q
    | bk e => exact q.elim
    | ct e => exact q.elim)
/-! ### operators -/
variable {x y n k : Int}
theorem wp_addI (q : QD (.int (x + y)) s) : Wp (bAdd (.int x) (.int y) s) QD := q
theorem wp_addL {n m : Nat} {xs ys : List D} (h1 : getW s n = some xs) (h2 : getW s m = some ys) (hl : xs.length + ys.length ≤ 1000000) (q : QD (.loc s.length) (s ++ [.lst (xs ++ ys)])) : Wp (bAdd (.loc n) (.loc m) s) QD := by
  unfold bAdd
  simp only [h1, h2]
  rw [if_pos hl]
  exact q
theorem wp_subI (q : QD (.int (x - y)) s) : Wp (bSub (.int x) (.int y) s) QD := q
theorem wp_mulI (h : (-(2 ^ 64) < x ∧ x < 2 ^ 64) ∨ (-(2 ^ 64) < y ∧ y < 2 ^ 64)) (q : QD (.int (x * y)) s) : Wp (bMul (.int x) (.int y) s) QD := by
  unfold bMul
  dsimp only
  rw [if_pos (.inl h)]
  exact q
theorem flat_one (d : D) : ∀ n : Nat, (List.replicate n [d]).flatten = List.replicate n d
  | 0 => rfl
  | n + 1 => by
    rw [List.replicate_succ, List.replicate_succ, List.flatten_cons, flat_one d n]
    rfl
theorem wp_mulT (h : 1 ≤ x) (h2 : x ≤ 1000) (q : QD (.tup (List.replicate x.toNat d)) s) : Wp (bMul (.tup [d]) (.int x) s) QD := by
  unfold bMul
  dsimp only
  by_cases e : x = 1
  · subst e
    exact q
  · rw [if_neg e, if_pos ⟨by simp, by omega, h2, by show 1 ≤ 1000; omega⟩, flat_one]
    exact q
theorem wp_divI (h : 0 < y) (h2 : y < 1073741824) (q : QD (.int (x / y)) s) : Wp (bDiv (.int x) (.int y) s) QD := by
  unfold bDiv
  dsimp only
  rw [if_pos (.inl ⟨by omega, by omega⟩)]
  rw [Int.fdiv_eq_ediv_of_nonneg _ (by omega)]
  exact q
theorem wp_modI (h : 0 < y) (q : QD (.int (x % y)) s) : Wp (bMod (.int x) (.int y) s) QD := by
  unfold bMod
  dsimp only
  rw [if_pos (by omega)]
  rw [Int.fmod_eq_emod_of_nonneg _ (by omega)]
  exact q
theorem wp_powI (h : 0 ≤ y ∧ y ≤ 1000000 ∧ x.natAbs < 2 ^ 64) (q : QD (.int (x ^ y.toNat)) s) : Wp (bPow (.int x) (.int y) s) QD := by
  unfold bPow
  dsimp only
  rw [if_pos h]
  exact q
theorem wp_neg (q : QD (.int (-x)) s) : Wp (uNeg (.int x) s) QD := q
theorem wp_eqI (q : QB (decide (x = y)) s) : Wp (kEq (.int x) (.int y) s) QB := q
theorem wp_eqS {x y : Str} (q : QB (decide (x = y)) s) : Wp (kEq (.str x) (.str y) s) QB := q
theorem wp_eqB {x y : Bool} (q : QB (decide (x = y)) s) : Wp (kEq (.bl x) (.bl y) s) QB := q
theorem wp_neI (q : QB (!decide (x = y)) s) : Wp (kNe (.int x) (.int y) s) QB := q
theorem wp_neS {x y : Str} (q : QB (!decide (x = y)) s) : Wp (kNe (.str x) (.str y) s) QB := q
theorem wp_ltI (q : QB (decide (x < y)) s) : Wp (kLt (.int x) (.int y) s) QB := q
theorem wp_leI (q : QB (decide (x ≤ y)) s) : Wp (kLe (.int x) (.int y) s) QB := q
theorem wp_gtI (q : QB (decide (y < x)) s) : Wp (kGt (.int x) (.int y) s) QB := q
theorem wp_geI (q : QB (decide (y ≤ x)) s) : Wp (kGe (.int x) (.int y) s) QB := q
theorem wp_isN (q : QB (isNonD d) s) : Wp (kIs d .non s) QB := by cases d <;> exact q
theorem wp_isNotN (q : QB (!isNonD d) s) : Wp (kIsNot d .non s) QB := by cases d <;> exact q
theorem wp_ixT {xs : List D} (h : L2.atI xs x = some d) (q : QD d s) : Wp (ixD (.tup xs) (.int x) s) QD := by
  unfold ixD
  simp only [h]
  exact q
theorem wp_ixL {n : Nat} {xs : List D} (h1 : getL s n = some xs) (h : L2.atI xs x = some d) (q : QD d s) : Wp (ixD (.loc n) (.int x) s) QD := by
  unfold ixD
  simp only [h1, h]
  exact q
theorem wp_slT {xs : List D} {lo hi : Option Int} (q : QD (.tup (cutD xs lo hi)) s) : Wp (slD (.tup xs) lo hi s) QD := q
theorem wp_setIx {n : Nat} {xs : List D} {v : D} {j : Nat} {Q : Unit → S → Prop} (h1 : getW s n = some xs) (h2 : ixN xs.length x = some j) (q : Q () (s.set n (.lst (xs.set j v)))) : Wp (setIx (.loc n) (.int x) v s) Q := by
  unfold setIx
  simp only [h1, h2]
  exact q
theorem wp_setF {n c : Nat} {f : Str} {fs : List (Str × D)} {v : D} {Q : Unit → S → Prop} (h1 : getI s n = some (c, fs)) (h2 : fs.length < 1000) (q : Q () (s.set n (.ins c (putD f v fs)))) : Wp (setF c f (.loc n) v s) Q := by
  unfold setF
  dsimp only
  rw [h1]
  dsimp only
  rw [if_pos ⟨rfl, h2⟩]
  exact q
theorem wp_fld {n c : Nat} {f : Str} {fs : List (Str × D)} (h1 : getI s n = some (c, fs)) (h2 : fs.lookup f = some d) (q : QD d s) : Wp (fldD c f (.loc n) s) QD := by
  unfold fldD
  simp only [h1, h2]
  exact q
theorem wp_prop {n c : Nat} {F : List D → S → R D} {fs : List (Str × D)} (h1 : getI s n = some (c, fs)) (q : Wp (F [.loc n] s) QD) : Wp (propD c F (.loc n) s) QD := by
  unfold propD
  simp only [h1]
  exact q
/-! ### builtins -/
theorem wp_len {xs : List D} (h : seqOf d s = some xs) (q : QD (.int xs.length) s) : Wp (fLen [d] s) QD := by
  unfold fLen
  cases d with
  | str z => cases h
  | _ => simp only [h]; exact q
theorem wp_list {xs : List D} (h : seqOf d s = some xs) (q : QD (.loc s.length) (s ++ [.lst xs])) : Wp (fList [d] s) QD := by
  unfold fList
  simp only [h]
  exact q
theorem wp_tupT {xs : List D} (q : QD (.tup xs) s) : Wp (fTuple [.tup xs] s) QD := q
theorem wp_tupL {n : Nat} {xs : List D} (h : getL s n = some xs) (q : QD (.tup xs) s) : Wp (fTuple [.loc n] s) QD := by
  unfold fTuple
  simp only [h]
  exact q
theorem wp_int (q : QD (.int x) s) : Wp (fInt [.int x] s) QD := q
theorem wp_max2 (q : QD (.int (if y > x then y else x)) s) : Wp (fMax [.int x, .int y] s) QD := q
theorem wp_min2 (q : QD (.int (if y < x then y else x)) s) : Wp (fMin [.int x, .int y] s) QD := q
theorem wp_append {n : Nat} {xs : List D} (h : getW s n = some xs) (hl : xs.length < 1000000) (q : QD .non (s.set n (.lst (xs ++ [d])))) : Wp (mAppend (.loc n) [d] s) QD := by
  unfold mAppend
  simp only [h]
  rw [if_pos hl]
  exact q
end
/-! ### loops -/
section
variable {set : Ev → D → Option Ev} {b : M Out} {es : Ev} {st : S} {QO : Out → S → Prop} {QD : D → S → Prop}
/-- behind a turn -/
def Turned (I : Ev → S → Prop) (Q : Out → S → Prop) (o : Out) (s : S) : Prop := match o with
  | .nx e => I e s
  | .ct e => I e s
  | .bk e => Q (.nx e) s
  | .rt d => Q (.rt d) s
theorem turned_nx {I : Ev → S → Prop} (h : I es st) : Turned I QO (.nx es) st := h
theorem turned_bk {I : Ev → S → Prop} (h : QO (.nx es) st) : Turned I QO (.bk es) st := h
theorem turned_rt {I : Ev → S → Prop} {d : D} (h : QO (.rt d) st) : Turned I QO (.rt d) st := h
theorem wp_after {k : Ev → S → R Out} {I : Ev → S → Prop} {o : Out} {s : S} (h : Turned I QO o s) (hk : ∀ e s, I e s → Wp (k e s) QO) : Wp (afterTurn k o s) QO := by
  cases o with
  | nx e => exact hk e s h
  | ct e => exact hk e s h
  | bk e => exact h
  | rt d => exact h
theorem wp_forT (I : Nat → Ev → S → Prop) {xs : List D} (h0 : I 0 es st) (step : ∀ i d es st, xs[i]? = some d → I i es st → ∃ es1, set es d = some es1 ∧ Wp (b es1 st) (Turned (I (i + 1)) QO)) (hd : ∀ es st, I xs.length es st → QO (.nx es) st) : Wp (forT set b xs es st) QO := by
  have key : ∀ (n i : Nat) (es : Ev) (st : S), i + n = xs.length → I i es st → Wp (forT set b (xs.drop i) es st) QO := by
    intro n
    induction n with
    | zero =>
      intro i es st e h
      have ei : i = xs.length := by omega
      subst ei
      rw [List.drop_length]
      exact hd es st h
    | succ n ih =>
      intro i es st e h
      have hi : i < xs.length := by omega
      rw [List.drop_eq_getElem_cons hi]
      obtain ⟨es1, e1, w⟩ := step i xs[i] es st (List.getElem?_eq_getElem hi) h
      unfold forT
      rw [e1]
      exact wp_bind (w.mono fun o s q => wp_after q fun e s q => ih (i + 1) e s (by omega) q)
  exact key xs.length 0 es st (by omega) h0
theorem wp_forL (I : Nat → Ev → S → Prop) {n : Nat} {xs : List D} (h0 : I 0 es st) (hl : ∀ i es st, i ≤ xs.length → I i es st → getL st n = some xs) (hz : xs.length < 1000000) (step : ∀ i d es st, xs[i]? = some d → I i es st → ∃ es1, set es d = some es1 ∧ Wp (b es1 st) (Turned (I (i + 1)) QO)) (hd : ∀ es st, I xs.length es st → QO (.nx es) st) : Wp (forL set b n 1000000 0 es st) QO := by
  have key : ∀ (m i k : Nat) (es : Ev) (st : S), i + m = xs.length → m < k → I i es st → Wp (forL set b n k i es st) QO := by
    intro m
    induction m with
    | zero =>
      intro i k es st e hk h
      cases k with
      | zero => omega
      | succ k =>
        have ei : i = xs.length := by omega
        unfold forL
        simp only [hl i es st (by omega) h]
        rw [List.getElem?_eq_none (by omega)]
        subst ei
        exact hd es st h
    | succ m ih =>
      intro i k es st e hk h
      cases k with
      | zero => omega
      | succ k =>
        have hi : i < xs.length := by omega
        obtain ⟨es1, e1, w⟩ := step i xs[i] es st (List.getElem?_eq_getElem hi) h
        unfold forL
        simp only [hl i es st (by omega) h, List.getElem?_eq_getElem hi, e1]
        exact wp_bind (w.mono fun o s q => wp_after q fun e s q => ih (i + 1) k e s (by omega) (by omega) q)
  exact key xs.length 0 1000000 es st (by omega) hz h0
theorem wp_for_loc {m : M D} (h : Wp (m es st) fun d s => ∃ n, d = .loc n ∧ Wp (forL set b n 1000000 0 es s) QO) : Wp (sFor m set b es st) QO := wp_bind (h.mono fun d s q => by
  obtain ⟨n, rfl, q⟩ := q
  exact q)
theorem wp_forR1 {mA : M (List D)} (h : Wp (mA es st) fun ds s => ∃ j : Int, ds = [.int j] ∧ -(2 ^ 62) ≤ j ∧ j < 2 ^ 62 ∧ Wp (forT set b (rangeD 0 j.toNat) es s) QO) : Wp (sForR1 mA set b es st) QO := wp_bind (h.mono fun ds s q => by
  obtain ⟨j, rfl, h1, h2, q⟩ := q
  show Wp (if -(2 ^ 62) ≤ j ∧ j < 2 ^ 62 then _ else _) QO
  rw [if_pos ⟨h1, h2⟩]
  exact q)
theorem wp_forR2 {mA : M (List D)} (h : Wp (mA es st) fun ds s => ∃ i j : Int, ds = [.int i, .int j] ∧ -(2 ^ 62) ≤ i ∧ i < 2 ^ 62 ∧ -(2 ^ 62) ≤ j ∧ j < 2 ^ 62 ∧ Wp (forT set b (rangeD i (j - i).toNat) es s) QO) : Wp (sForR2 mA set b es st) QO := wp_bind (h.mono fun ds s q => by
  obtain ⟨i, j, rfl, h1, h2, h3, h4, q⟩ := q
  show Wp (if (-(2 ^ 62) ≤ i ∧ i < 2 ^ 62) ∧ -(2 ^ 62) ≤ j ∧ j < 2 ^ 62 then _ else _) QO
  rw [if_pos ⟨⟨h1, h2⟩, h3, h4⟩]
  exact q)
theorem wp_while {mc : M Bool} (I : Nat → Ev → S → Prop) {m : Nat} (hm : m < 1000000) (h0 : I m es st) (step : ∀ m es st, I m es st → Wp (mc es st) fun k s => (k = false → QO (.nx es) s) ∧ (k = true → Wp (b es s) (Turned (fun e s => ∃ m', m' < m ∧ I m' e s) QO))) : Wp (sWhile mc b es st) QO := by
  have key : ∀ (k m : Nat) (es : Ev) (st : S), m < k → I m es st → Wp (whileN mc b k es st) QO := by
    intro k
    induction k with
    | zero => intro m es st h; omega
    | succ k ih =>
      intro m es st hk h
      unfold whileN
      refine wp_bind ((step m es st h).mono fun t s q => ?_)
      cases t with
      | false => exact q.1 rfl
      | true => exact wp_bind ((q.2 rfl).mono fun o s q => wp_after q fun e s ⟨m', l, q⟩ => ih m' e s (by omega) q)
  exact key 1000000 m es st hm h0
/-! ### comprehensions -/
variable {vs : List Nat} {mt : M Bool} {me : M D}
theorem wp_addIt {n : Nat} {y : D} {acc : List D} {Q : Unit → S → Prop} (h1 : getW st n = some acc) (h2 : acc.length < 1000000) (q : Q () (st.set n (.lst (acc ++ [y])))) : Wp (addIt n y st) Q := by
  unfold addIt
  simp only [h1]
  rw [if_pos h2]
  exact q
theorem wp_compTurn {n : Nat} {Q : Unit → S → Prop} (h : Wp (mt es st) fun k s => (k = true → Wp (me es s) fun y s => Wp (addIt n y s) Q) ∧ (k = false → Q () s)) : Wp (compTurn n mt me es st) Q := wp_bind (h.mono fun k s q => by
  cases k with
  | true => exact wp_bind (q.1 rfl)
  | false => exact q.2 rfl)
theorem wp_noX {α : Type} {r : R α} {Q : α → S → Prop} (h : Wp r Q) : Wp (noX r) Q := by
  obtain ⟨a, s, e, q⟩ := h.ok
  rw [e]
  exact q
theorem wp_compV (I : Nat → S → Prop) {xs : List D} (h0 : I 0 (st ++ [.lst []])) (step : ∀ i d s, xs[i]? = some d → I i s → ∃ es1, set (wipeD es vs) d = some es1 ∧ Wp (compTurn st.length mt me es1 s) fun _ s => I (i + 1) s) (hd : ∀ s, I xs.length s → QD (.loc st.length) s) : Wp (compV set vs mt me xs es st) QD := by
  have key : ∀ (n i : Nat) (s : S), i + n = xs.length → I i s → Wp (compT st.length set mt me (xs.drop i) (wipeD es vs) s) fun _ s => QD (.loc st.length) s := by
    intro n
    induction n with
    | zero =>
      intro i s e h
      have ei : i = xs.length := by omega
      subst ei
      rw [List.drop_length]
      exact hd s h
    | succ n ih =>
      intro i s e h
      have hi : i < xs.length := by omega
      rw [List.drop_eq_getElem_cons hi]
      obtain ⟨es1, e1, w⟩ := step i xs[i] s (List.getElem?_eq_getElem hi) h
      unfold compT
      rw [e1]
      exact wp_bind (w.mono fun _ s q => ih (i + 1) s (by omega) q)
  exact wp_bind (wp_noX (key xs.length 0 _ (by omega) h0))
theorem wp_comp_tup {m : M D} {xs : List D} (h : Wp (m es st) fun d s => d = .tup xs ∧ Wp (compV set vs mt me xs es s) QD) : Wp (cComp m set vs mt me es st) QD := wp_bind (h.mono fun d s q => by
  obtain ⟨rfl, q⟩ := q
  exact q)
theorem wp_compR1 {mA : M (List D)} (h : Wp (mA es st) fun ds s => ∃ j : Int, ds = [.int j] ∧ -(2 ^ 62) ≤ j ∧ j < 2 ^ 62 ∧ Wp (compV set vs mt me (rangeD 0 j.toNat) es s) QD) : Wp (cCompR1 mA set vs mt me es st) QD := wp_bind (h.mono fun ds s q => by
  obtain ⟨j, rfl, h1, h2, q⟩ := q
  show Wp (if -(2 ^ 62) ≤ j ∧ j < 2 ^ 62 then _ else _) QD
  rw [if_pos ⟨h1, h2⟩]
  exact q)
theorem wp_compR2 {mA : M (List D)} (h : Wp (mA es st) fun ds s => ∃ i j : Int, ds = [.int i, .int j] ∧ -(2 ^ 62) ≤ i ∧ i < 2 ^ 62 ∧ -(2 ^ 62) ≤ j ∧ j < 2 ^ 62 ∧ Wp (compV set vs mt me (rangeD i (j - i).toNat) es s) QD) : Wp (cCompR2 mA set vs mt me es st) QD := wp_bind (h.mono fun ds s q => by
  obtain ⟨i, j, rfl, h1, h2, h3, h4, q⟩ := q
  show Wp (if (-(2 ^ 62) ≤ i ∧ i < 2 ^ 62) ∧ -(2 ^ 62) ≤ j ∧ j < 2 ^ 62 then _ else _) QD
  rw [if_pos ⟨⟨h1, h2⟩, h3, h4⟩]
  exact q)
theorem wp_yes {Q : Bool → S → Prop} (q : Q true st) : Wp (cYes es st) Q := q
end
end Z
end
section
set_option Elab.async false
set_option linter.all false
set_option maxRecDepth 100000
set_option maxHeartbeats 400000
/-! ZX: facts of a store, and how they last. -/
namespace Z
open PySem PySem.Spec PyProof.Rows L2
theorem getL_of {s : S} {n : Nat} {xs : List D} (h : s[n]? = some (.lst xs)) : getL s n = some xs := by unfold getL; rw [h]
theorem getL_ro {s : S} {n : Nat} {xs : List D} (h : s[n]? = some (.ro xs)) : getL s n = some xs := by unfold getL; rw [h]
theorem getW_of {s : S} {n : Nat} {xs : List D} (h : s[n]? = some (.lst xs)) : getW s n = some xs := by unfold getW; rw [h]
theorem getI_of {s : S} {n c : Nat} {fs : List (Str × D)} (h : s[n]? = some (.ins c fs)) : getI s n = some (c, fs) := by unfold getI; rw [h]
theorem isL_of {s : S} {n : Nat} {xs : List D} (h : getL s n = some xs) : isL (.loc n) s = true := by unfold isL; simp only [h]; rfl
theorem and_isL {s : S} {n : Nat} {xs : List D} {P : Prop} (h : getL s n = some xs) (p : P) : isL (.loc n) s = true ∧ P := ⟨isL_of h, p⟩
theorem at_lt {s : S} {n : Nat} {o : O} (h : s[n]? = some o) : n < s.length := (List.getElem?_eq_some_iff.mp h).1
theorem at_last {s : S} {o : O} : (s ++ [o])[s.length]? = some o := by rw [List.getElem?_append_right (Nat.le_refl _), Nat.sub_self]; rfl
theorem at_set {s : S} {n : Nat} {o o0 : O} (h : s[n]? = some o0) : (s.set n o)[n]? = some o := List.getElem?_set_self (List.getElem?_eq_some_iff.mp h).1
theorem at_app {s t : S} {n : Nat} {o : O} (h : s[n]? = some o) : (s ++ t)[n]? = some o := by
  rw [List.getElem?_append_left (List.getElem?_eq_some_iff.mp h).1]
  exact h
theorem at_setne {s : S} {n m : Nat} {o o' : O} (h : n ≠ m) (k : s[m]? = some o) : (s.set n o')[m]? = some o := by rw [List.getElem?_set_ne h]; exact k
/-- the store grew, and of what stood only place a may differ -/
structure Gx (a : Nat) (s t : S) : Prop where
  len : s.length ≤ t.length
  at_ : ∀ n, n < s.length → n ≠ a → t[n]? = s[n]?
theorem Gx.refl {a : Nat} {s : S} : Gx a s s := ⟨Nat.le_refl _, fun _ _ _ => rfl⟩
theorem Gx.trans {a : Nat} {s t u : S} (h : Gx a s t) (k : Gx a t u) : Gx a s u := ⟨Nat.le_trans h.len k.len, fun n l e => (k.at_ n (Nat.lt_of_lt_of_le l h.len) e).trans (h.at_ n l e)⟩
theorem Gx.app {a : Nat} {s t : S} : Gx a s (s ++ t) := ⟨by rw [List.length_append]; omega, fun n l _ => List.getElem?_append_left l⟩
theorem Gx.set {a : Nat} {s : S} {o : O} : Gx a s (s.set a o) := ⟨by rw [List.length_set]; exact Nat.le_refl _, fun n _ e => List.getElem?_set_ne (Ne.symm e)⟩
theorem Gx.setNew {a n : Nat} {s t : S} {o : O} (h : Gx a s t) (k : s.length ≤ n) : Gx a s (t.set n o) := ⟨by rw [List.length_set]; exact h.len, fun m l e => by rw [List.getElem?_set_ne (by omega)]; exact h.at_ m l e⟩
theorem Gx.keep {a n : Nat} {s t : S} {o : O} (h : Gx a s t) (e : n ≠ a) (k : s[n]? = some o) : t[n]? = some o := (h.at_ n (at_lt k) e).trans k
/-- the store grew, and all that stood is as it was -/
structure Gr (s t : S) : Prop where
  len : s.length ≤ t.length
  at_ : ∀ n, n < s.length → t[n]? = s[n]?
theorem Gr.refl {s : S} : Gr s s := ⟨Nat.le_refl _, fun _ _ => rfl⟩
theorem Gr.trans {s t u : S} (h : Gr s t) (k : Gr t u) : Gr s u := ⟨Nat.le_trans h.len k.len, fun n l => (k.at_ n (Nat.lt_of_lt_of_le l h.len)).trans (h.at_ n l)⟩
theorem Gr.app {s t : S} : Gr s (s ++ t) := ⟨by rw [List.length_append]; omega, fun n l => List.getElem?_append_left l⟩
theorem Gr.setNew {n : Nat} {s t : S} {o : O} (h : Gr s t) (k : s.length ≤ n) : Gr s (t.set n o) := ⟨by rw [List.length_set]; exact h.len, fun m l => by rw [List.getElem?_set_ne (by omega)]; exact h.at_ m l⟩
theorem Gr.keep {n : Nat} {s t : S} {o : O} (h : Gr s t) (k : s[n]? = some o) : t[n]? = some o := (h.at_ n (at_lt k)).trans k
theorem Gr.gx {a : Nat} {s t : S} (h : Gr s t) : Gx a s t := ⟨h.len, fun n l _ => h.at_ n l⟩
theorem Gx.new {a : Nat} {s t u : S} (h : Gr s t) (k : Gx a t u) (e : s.length ≤ a) : Gr s u := ⟨Nat.le_trans h.len k.len, fun n l => (k.at_ n (Nat.lt_of_lt_of_le l h.len) (by omega)).trans (h.at_ n l)⟩
/-- the places lo to hi stand as they stood -/
def Kp (lo hi : Nat) (s t : S) : Prop := ∀ n, lo ≤ n → n < hi → t[n]? = s[n]?
theorem Kp.refl {lo hi : Nat} {s : S} : Kp lo hi s s := fun _ _ _ => rfl
theorem Kp.trans {lo hi : Nat} {s t u : S} (h : Kp lo hi s t) (k : Kp lo hi t u) : Kp lo hi s u := fun n a b => (k n a b).trans (h n a b)
theorem Kp.set {lo hi n : Nat} {s t : S} {o : O} (h : Kp lo hi s t) (k : n < lo ∨ hi ≤ n) : Kp lo hi s (t.set n o) := fun m a b => by rw [List.getElem?_set_ne (by omega)]; exact h m a b
theorem Kp.app {lo hi : Nat} {s t u : S} (h : Kp lo hi s t) (k : hi ≤ t.length) : Kp lo hi s (t ++ u) := fun m a b => by rw [List.getElem?_append_left (by omega)]; exact h m a b
theorem Kp.gr {lo hi : Nat} {s t u : S} (h : Kp lo hi s t) (g : Gr t u) (k : hi ≤ t.length) : Kp lo hi s u := fun m a b => (g.at_ m (by omega)).trans (h m a b)
theorem Kp.gx {lo hi c : Nat} {s t u : S} (h : Kp lo hi s t) (g : Gx c t u) (k : hi ≤ t.length) (e : c < lo ∨ hi ≤ c) : Kp lo hi s u := fun m a b => (g.at_ m (by omega) (by omega)).trans (h m a b)
theorem Kp.keep {lo hi n : Nat} {s t : S} {o : O} (h : Kp lo hi s t) (a : lo ≤ n) (b : n < hi) (k : s[n]? = some o) : t[n]? = some o := (h n a b).trans k
/-! ### rows of ints -/
/-- the k-th of a row -/
def gI (ns : List Int) (k : Int) : Int := ns.getD k.toNat 0
theorem ixN_of {n : Nat} {k : Int} (h0 : 0 ≤ k) (h1 : k < n) : ixN n k = some k.toNat := by
  unfold ixN
  rw [if_pos h0, if_pos h1]
theorem atI_of {xs : List D} {k : Int} {d : D} (h0 : 0 ≤ k) (h : xs[k.toNat]? = some d) : atI xs k = some d := by
  have l := (List.getElem?_eq_some_iff.mp h).1
  unfold atI
  rw [ixN_of h0 (by omega)]
  exact h
theorem get_int {ns : List Int} {k : Nat} (h : k < ns.length) : (ns.map D.int)[k]? = some (.int (ns.getD k 0)) := by
  rw [List.getElem?_map, List.getElem?_eq_getElem h, List.getD_eq_getElem?_getD, List.getElem?_eq_getElem h]
  rfl
theorem atI_int {ns : List Int} {k : Int} (h0 : 0 ≤ k) (h1 : k < ns.length) : atI (ns.map D.int) k = some (.int (gI ns k)) := atI_of h0 (get_int (by omega))
theorem gI_mem {ns : List Int} {k : Int} (h0 : 0 ≤ k) (h1 : k < ns.length) : gI ns k ∈ ns := by
  unfold gI
  rw [List.getD_eq_getElem?_getD, List.getElem?_eq_getElem (by omega)]
  exact List.getElem_mem _
theorem map_set_int (ns : List Int) (k : Nat) (v : Int) : (ns.map D.int).set k (.int v) = (ns.set k v).map D.int := by
  rw [List.map_set]
theorem get_map_int {ns : List Int} {k : Nat} {d : D} (h : (ns.map D.int)[k]? = some d) : ∃ v, d = .int v ∧ v ∈ ns ∧ ns[k]? = some v := by
  rw [List.getElem?_map] at h
  cases q : ns[k]? with
  | none => rw [q] at h; cases h
  | some v => rw [q] at h; cases h; exact ⟨v, rfl, List.mem_of_getElem? q, rfl⟩
theorem get_range {lo : Int} {n k : Nat} {d : D} (h : (rangeD lo n)[k]? = some d) : d = .int (lo + (k : Nat)) ∧ k < n := by
  unfold rangeD at h
  rw [List.getElem?_map] at h
  by_cases hk : k < n
  · rw [List.getElem?_range hk] at h
    cases h
    exact ⟨rfl, hk⟩
  · rw [List.getElem?_eq_none (by rw [List.length_range]; omega)] at h
    cases h
theorem len_range {lo : Int} {n : Nat} : (rangeD lo n).length = n := by unfold rangeD; rw [List.length_map, List.length_range]
/-! ### the same by value -/
theorem wp_mid {b b2 : M Out} {es : Ev} {st : S} {Q : Out → S → Prop} (P : Ev → S → Prop) (h : Wp (b es st) (fun o s => ∃ e, o = .nx e ∧ P e s)) (k : ∀ e s, P e s → Wp (b2 e s) Q) : Wp (sSeq b b2 es st) Q := wp_seq (h.mono fun o s ⟨e, q, p⟩ => by
  subst q
  exact k e s p)
theorem wp_lenL {s : S} {n : Nat} {xs : List D} {Q : D → S → Prop} (h : getL s n = some xs) (q : Q (.int xs.length) s) : Wp (fLen [.loc n] s) Q := wp_len (show seqOf (.loc n) s = some xs from h) q
theorem wp_lenT {s : S} {xs : List D} {Q : D → S → Prop} (q : Q (.int xs.length) s) : Wp (fLen [.tup xs] s) Q := wp_len (show seqOf (.tup xs) s = some xs from rfl) q
theorem wp_listL {s : S} {n : Nat} {xs : List D} {Q : D → S → Prop} (h : getL s n = some xs) (q : Q (.loc s.length) (s ++ [.lst xs])) : Wp (fList [.loc n] s) Q := wp_list (show seqOf (.loc n) s = some xs from h) q
theorem wp_listT {s : S} {xs : List D} {Q : D → S → Prop} (q : Q (.loc s.length) (s ++ [.lst xs])) : Wp (fList [.tup xs] s) Q := wp_list (show seqOf (.tup xs) s = some xs from rfl) q
theorem wp_setInt {s : S} {n : Nat} {ns : List Int} {x v : Int} {Q : Unit → S → Prop} (h1 : getW s n = some (ns.map D.int)) (h0 : 0 ≤ x) (h2 : x < ns.length) (q : Q () (s.set n (.lst ((ns.set x.toNat v).map D.int)))) : Wp (setIx (.loc n) (.int x) (.int v) s) Q := by
  refine wp_setIx h1 (ixN_of h0 (by rw [List.length_map]; exact h2)) ?_
  rw [map_set_int]
  exact q
/-- a row of ints, as a tuple or as a list -/
def IsRow (s : S) (d : D) (ns : List Int) : Prop := d = .tup (ns.map D.int) ∨ ∃ n, d = .loc n ∧ s[n]? = some (.lst (ns.map D.int))
theorem IsRow.gr {s t : S} {d : D} {ns : List Int} (h : IsRow s d ns) (g : Gr s t) : IsRow t d ns := by
  rcases h with h | ⟨n, e, h⟩
  · exact Or.inl h
  · exact Or.inr ⟨n, e, g.keep h⟩
/-! ### comprehensions of ints -/
section
variable {set : Ev → D → Option Ev} {es : Ev} {st : S} {QD : D → S → Prop} {vs : List Nat} {mt : M Bool} {me : M D}
end
end Z
end
section
set_option Elab.async false
set_option linter.all false
set_option maxRecDepth 100000
set_option maxHeartbeats 4000000
/-! ZH: Wp rules of dicts, wide * and //, a < b < c, texts. -/
namespace Z
open PySem PySem.Spec PyProof.Rows L2
section
variable {s st : S} {es : Ev} {QD : D → S → Prop} {QB : Bool → S → Prop} {QO : Out → S → Prop} {ma mb mo mi m mc : M D} {d : D}
theorem getK_l {n : Nat} {xs : List D} (h : getL s n = some xs) : getK s n = none := by
  unfold getL at h
  unfold getK
  split at h
  · rename_i e; rw [e]
  · rename_i e; rw [e]
  · cases h
theorem getKW_l {n : Nat} {xs : List D} (h : getL s n = some xs) : getKW s n = none := by
  unfold getL at h
  unfold getKW
  split at h
  · rename_i e; rw [e]
  · rename_i e; rw [e]
  · cases h
theorem wp_ixAT {xs : List D} {x : Int} (h : L2.atI xs x = some d) (q : QD d s) : Wp (ixA (.tup xs) (.int x) s) QD := wp_ixT h q
theorem wp_ixAL {n : Nat} {xs : List D} {x : Int} (h1 : getL s n = some xs) (h : L2.atI xs x = some d) (q : QD d s) : Wp (ixA (.loc n) (.int x) s) QD := by
  unfold ixA
  simp only [getK_l h1]
  exact wp_ixL h1 h q
theorem wp_ixAS {z : Str} {x : Int} {c : Nat} (hz : z.length ≤ 16000000) (h : L2.atI z.cps.toList x = some c) (q : QD (.str ⟨#[c]⟩) s) : Wp (ixA (.str z) (.int x) s) QD := by
  unfold ixA ixD
  dsimp only
  rw [if_pos hz]
  simp only [h]
  exact q
theorem wp_subA (h : Wp (m es st) fun v s => Wp (mo es s) fun o s => Wp (mi es s) fun i s => Wp (setIxA o i v s) fun _ s => QO (.nx es) s) : Wp (sSubA mo mi m es st) QO := wp_bind (h.mono fun _ _ q => wp_bind (q.mono fun _ _ q => wp_bind (q.mono fun _ _ q => wp_bind q)))
theorem wp_setAL {n : Nat} {i v : D} {xs : List D} {Q : Unit → S → Prop} (h1 : getL s n = some xs) (q : Wp (setIx (.loc n) i v s) Q) : Wp (setIxA (.loc n) i v s) Q := by
  unfold setIxA
  simp only [getKW_l h1]
  exact q
theorem wp_setAI {n : Nat} {ns : List Int} {x v : Int} {Q : Unit → S → Prop} (h1 : getW s n = some (ns.map D.int)) (h0 : 0 ≤ x) (h2 : x < ns.length) (q : Q () (s.set n (.lst ((ns.set x.toNat v).map D.int)))) : Wp (setIxA (.loc n) (.int x) (.int v) s) Q := by
  refine wp_setAL (xs := ns.map D.int) ?_ (wp_setInt h1 h0 h2 q)
  unfold getW at h1
  unfold getL
  split at h1
  · rename_i e
    rw [e]
    exact h1
  · cases h1
theorem wp_setAX {n : Nat} {xs : List D} {v : D} {x : Int} {j : Nat} {Q : Unit → S → Prop} (h1 : getW s n = some xs) (h2 : ixN xs.length x = some j) (q : Q () (s.set n (.lst (xs.set j v)))) : Wp (setIxA (.loc n) (.int x) v s) Q := by
  refine wp_setAL (xs := xs) ?_ (wp_setIx h1 h2 q)
  unfold getW at h1
  unfold getL
  split at h1
  · rename_i e
    rw [e]
    exact h1
  · cases h1
theorem wp_lenAL {n : Nat} {xs : List D} (h : getL s n = some xs) (q : QD (.int xs.length) s) : Wp (fLenA [.loc n] s) QD := by
  unfold fLenA
  simp only [getKW_l h]
  exact wp_lenL h q
theorem wp_lenAT {xs : List D} (q : QD (.int xs.length) s) : Wp (fLenA [.tup xs] s) QD := wp_lenT q
theorem wp_lenAS {z : Str} (hz : z.length ≤ 16000000) (q : QD (.int z.length) s) : Wp (fLenA [.str z] s) QD := by
  unfold fLenA fLen
  dsimp only
  rw [if_pos hz]
  exact q
theorem wp_neAI {x y : Int} (q : QB (!decide (x = y)) s) : Wp (kNeA (.int x) (.int y) s) QB := q
theorem wp_neAS {x y : Str} (q : QB (!decide (x = y)) s) : Wp (kNeA (.str x) (.str y) s) QB := q
theorem wp_inAL {n : Nat} {x : D} {xs : List D} (h1 : getL s n = some xs) (q : Wp (kIn x (.loc n) s) QB) : Wp (kInA x (.loc n) s) QB := by
  unfold kInA
  simp only [getK_l h1]
  exact q
theorem wp_inStr {n : Nat} {x : Str} {ns : List Str} (h1 : getL s n = some (ns.map D.str)) (q : QB (ns.any fun z => z == x) s) : Wp (kIn (.str x) (.loc n) s) QB := by
  unfold kIn
  simp only [seqOf, h1]
  rw [if_pos ⟨rfl, by simp [flatD]⟩]
  have e : ((ns.map D.str).any fun z => eqF z (.str x)) = ns.any fun z => z == x := by
    rw [List.any_map]
    rfl
  show QB _ _
  rw [e]
  exact q
theorem wp_mulA {x y : Int} (h : (-(2 ^ 64) < x ∧ x < 2 ^ 64) ∨ (-(2 ^ 64) < y ∧ y < 2 ^ 64)) (q : QD (.int (x * y)) s) : Wp (bMulA (.int x) (.int y) s) QD := by
  unfold bMulA
  dsimp only
  rw [if_pos (.inl h)]
  exact q
theorem log_lt {y : Int} (h : -(2 ^ 64) < y ∧ y < 2 ^ 64) : y.natAbs.log2 < 9000 := by
  have h1 : y.natAbs < 2 ^ 64 := by omega
  exact Nat.lt_trans (PySem.Flt.log2_lt_of (by decide) h1) (by decide)
theorem wp_divA {x y : Int} (h0 : y ≠ 0) (h : -(2 ^ 64) < y ∧ y < 2 ^ 64) (q : QD (.int (x.fdiv y)) s) : Wp (bDivA (.int x) (.int y) s) QD := by
  unfold bDivA
  dsimp only
  rw [if_pos ⟨h0, log_lt h⟩]
  exact q
theorem wp_divA0 {x y : Int} (h0 : 0 < y) (h : y < 2 ^ 64) (q : QD (.int (x / y)) s) : Wp (bDivA (.int x) (.int y) s) QD := by
  refine wp_divA (by omega) ⟨by omega, h⟩ ?_
  rw [Int.fdiv_eq_ediv_of_nonneg x (by omega)]
  exact q
theorem wp_chain {f f' : D → D → S → R Bool} (h : Wp (ma es st) fun x s => Wp (mb es s) fun y s => Wp (f x y s) fun k s => (k = true → Wp (mc es s) fun z s => Wp (f' y z s) QB) ∧ (k = false → QB false s)) : Wp (cChain ma mb mc f f' es st) QB := wp_bind (h.mono fun _ _ q => wp_bind (q.mono fun _ _ q => wp_bind (q.mono fun k s q => by
  cases k with
  | true => exact wp_bind (q.1 rfl)
  | false => exact q.2 rfl)))
theorem wp_dic0 (q : QD (.loc st.length) (st ++ [.dic []])) : Wp (cDic0 es st) QD := q
theorem wp_forAL {i n : Nat} {set : Ev → D → Option Ev} {b : M Out} {xs : List D} (h : es[i]? = some (some (.loc n))) (h1 : getL st n = some xs) (q : Wp (forL set b n 1000000 0 es st) QO) : Wp (sForA i set b es st) QO := by
  unfold sForA
  simp only [h, getKW_l h1]
  refine wp_for_loc (wp_var h ⟨n, rfl, q⟩)
end
end Z
end
section
set_option Elab.async false
set_option linter.all false
set_option maxRecDepth 100000
set_option maxHeartbeats 4000000
/-! ZK: raise of an own exception class whose __init__ stores one field. -/
namespace Z
open PySem PySem.Spec PyProof.Rows L2
def sRaise (c : Nat) (f : Str) (mA : M (List D)) : M Out := fun es st => (mA es st).bind fun ds s => match ds with
  | [d] => .exc c [(f, d)] s
  | _ => .bad
/-- what __init__(self, f) of the exception class at C does -/
def spI (C : Addr) (f : Str) : Sp := fun vs H Q _ => ∃ (a : Addr) (y : V), vs = [.ref a, y] ∧ H a = some (exo a C none) ∧ ∀ dx, H dx = none → dx ≠ a → Q .non (upd (upd H dx (exd dx [(f, y)])) a (exo a C (some dx)))
section
variable {P : Program} {w : World} {K : PySem.W.Frag} {mg : Str → Option Value} {base : Heap} {cad : Nat → Addr}
theorem init_ok {qual f : Str} {st : Stmt} {fI C : Addr} {fd : FuncData} {k : Nat} (F : Fun K "__init__" qual st fI fd) (Sc : FnScope ["self", f] ["self", f] (defScope st)) (T : OexC K C) (hno : PySem.W.findIn K (.ref C) f = some none)
    (hb : ∀ (cdv : Value) (A : Around) (outer : List Env) (s : Shared) (H : Hp) (E : XK), PSs (cxOf (L2.CX P w) P w K mg base ["self", f] qual (defScope st) fI cdv A outer s H E) (defBody st) (tOst K f (tVar 0) (tVar 1))) : FnOk P w K mg base (L2.CX P w) (k + 1) fI fd ["self", f] (spI C f) := by
  refine F.okX Sc (fun vs H Q E h => ?_) (fun cdv A outer s H vs Q E hr h => ?_)
  · obtain ⟨a, y, rfl, -⟩ := h
    rfl
  · obtain ⟨a, y, rfl, ha, q⟩ := h
    exact ⟨_, hb cdv A outer s H E, y, rfl, .ref a, rfl, a, C, rfl, T, hno, .inl ⟨ha, q⟩⟩
/-- an exception class of the text -/
structure ExD (K : PySem.W.Frag) (mg : Str → Option Value) (x : Str) (C : Addr) (f qual : Str) (st : Stmt) : Prop where
  ex : ∃ fI fd, Fun K "__init__" qual st fI fd ∧ PySem.W.findIn K (.ref C) "__init__" = some (some (.ref fI)) ∧ PySem.W.typeIn K (.ref fI) = some (.type "function") ∧ Binds K fd ["self", f] []
  T : OexC K C
  no : PySem.W.findIn K (.ref C) f = some none
  g : mg x = some (.ref C)
/-- .. and its promise -/
structure Xc (P : Program) (w : World) (K : PySem.W.Frag) (mg : Str → Option Value) (base : Heap) (x : Str) (C : Addr) (f : Str) : Prop where
  ex : ∃ fI fd, FnOk P w K mg base (L2.CX P w) 1 fI fd ["self", f] (spI C f) ∧ PySem.W.findIn K (.ref C) "__init__" = some (some (.ref fI)) ∧ PySem.W.typeIn K (.ref fI) = some (.type "function") ∧ Binds K fd ["self", f] []
  T : OexC K C
  no : PySem.W.findIn K (.ref C) f = some none
  g : mg x = some (.ref C)
theorem ExD.ok {x f qual : Str} {C : Addr} {st : Stmt} (h : ExD K mg x C f qual st) (Sc : FnScope ["self", f] ["self", f] (defScope st))
    (hb : ∀ (fI : Addr) (cdv : Value) (A : Around) (outer : List Env) (s : Shared) (H : Hp) (E : XK), PSs (cxOf (L2.CX P w) P w K mg base ["self", f] qual (defScope st) fI cdv A outer s H E) (defBody st) (tOst K f (tVar 0) (tVar 1))) : Xc P w K mg base x C f := by
  obtain ⟨fI, fd, F, i, t, b⟩ := h.ex
  exact ⟨⟨fI, fd, init_ok F Sc h.T h.no (hb fI), i, t, b⟩, h.T, h.no, h.g⟩
end
section
variable {X : Cx} {cad : Nat → Addr} {E : XK} {W : WX} {e : Expr} {mA : M (List D)} {m : M D} {x f : Str} {c : Nat} {p p2 pos : Pos}
theorem s_raise (h : Xc X.prog X.w X.K X.mg X.base x (cad c) f) (hc : X.calm = true) (tk : Takes X (fun cls d _ H => E cls d H)) (hr : Room 2 X.A) (hx : Passes (L2.CX X.prog X.w) X (fun _ _ _ => False)) (hg : Gl X x) (ha : PA X [e] (tA (gX X cad) E mA))
    (hdb : (x == ("__debug__" : Str)) = false := by decide) (hs : starEach (e :: []) X.env = (false, eval e X.env) :: starEach [] X.env := by rfl) (hpl : (backTo pos (starEach [] X.env)).any (·.1) = false := by rfl) :
    PS X (.Raise (some (.Call (.Name x p) [e] [] pos)) none p2) (tS (gX X cad) E (sRaise c f mA)) := by
  obtain ⟨fI, fd, F1, iC, tI, b⟩ := h.ex
  refine PS.imp (ps_raise hc tk (pmk_oex h.T iC tI F1 hr b .nil hx hg h.g ha hdb hs hpl)) fun Dn σ H h => ?_
  obtain ⟨ρ, es, st, sr, sl, p⟩ := h
  refine ⟨ρ, es, st, sr, sl, p.bind fun ρ1 H1 ds vs s1 e1 t1 sr1 rx p1 => ?_⟩
  match ds, rx, p1 with
  | [d], rx, p1 =>
    obtain ⟨y, rfl, ry⟩ := rx.uno
    refine ⟨by show 1 ≤ 1000; decide, fun a na => ⟨a, y, rfl, upd_same, fun dx ndx ne => ⟨rfl, dx, [(f, y)], upd_same, ?_, ?_, ?_⟩⟩⟩
    · rw [upd_ne ne, upd_same]
    · rwa [upd_ne ne] at ndx
    · have nd : H1 dx = none := by rwa [upd_ne ne] at ndx
      have eH : upd (del (upd (upd (upd H1 a (exo a (cad c) none)) dx (exd dx [(f, y)])) a (exo a (cad c) (some dx))) a) dx (.xd [(f, y)]) = upd H1 dx (.xd [(f, y)]) := by
        funext b
        by_cases hb : b = dx
        · subst hb
          rw [upd_same, upd_same]
        · rw [upd_ne hb, upd_ne hb]
          by_cases ha : b = a
          · subst ha
            rw [del_same, na]
          · rw [del_ne ha, upd_ne ha, upd_ne hb, upd_ne ha]
      rw [eH]
      have sm : ∀ b o, H1 b = some o → (upd H1 dx (.xd [(f, y)])) b = some o := fun b o e => by rw [upd_ne (ne_of_none e nd)]; exact e
      exact p1 ρ1 _ (some dx) (List.prefix_refl _) (TLe.new nd) (sr1.same sm) ⟨List.cons_ne_nil _ _, [(f, y)], upd_same, ⟨y, [], rfl, ry.mono (List.prefix_refl _) (TLe.new nd), rfl⟩⟩
  | [], rx, p1 => exact p1.elim
  | _ :: _ :: _, rx, p1 => exact p1.elim
end
section
variable {K : PySem.W.Frag} {mg : Str → Option Value} {h : Heap} {f C S : Addr} {x qual fld : Str} {st : Stmt} {oc kV doc pm cdv ct : Value} {od an : Option Addr} {osl : Array (Option Value)} {nm q : Str} {N : Addr} {bs : List Value} {sn : List Str} {sub : List Value} {ab : Bool} {col : Option Bool} {dd : Option Addr} {m0 m1 m2 m3 m5 : Option Value}
theorem exd_mk (X : K.In h) (G : h.Ns mainGlobals mg) (aC : PySem.W.nsIn K mainGlobals x = some (some (.ref C)))
    (xL : K.lookup C = some (excClassObj nm q C N bs [.ref S, .type "ValueError", .type "Exception", .type "BaseException", .type "object"] true sn sub ab col dd m0 m1 m2 m3 m5 "ValueError.__new__"))
    (sa : PySem.W.findIn K (.ref C) "__setattr__" = some (some (.builtin "object.__setattr__"))) (eC : PySem.W.subIn K (.ref C) (.type "BaseException") = some true) (tC : PySem.W.typeIn K (.ref C) = some (.type "type")) (kC : PySem.W.keepIn K (.ref C) = true)
    (no : PySem.W.findIn K (.ref C) fld = some none) (a : PySem.W.findIn K (.ref C) "__init__" = some (some (.ref f))) (t : PySem.W.typeIn K (.ref f) = some (.type "function"))
    (l : K.lookup f = some ⟨oc, od, .func (PySem.W.fnOf "__init__" qual (defArgs st) (defBody st) (defScope st) .none kV doc pm an cdv ct), osl⟩) (c : PySem.W.codeIn K cdv qual = true) (k : PySem.W.keepIn K (.ref f) = true)
    (b : ∀ (kV doc pm : Value) (an : Option Addr) (cdv ct : Value) (us : List Value), us.length = 2 → bindArgs (PySem.W.fnOf "__init__" qual (defArgs st) (defBody st) (defScope st) .none kV doc pm an cdv ct) ⟨us, []⟩ = pure ((["self", fld] : List Str).zip us)) : ExD K mg x C fld qual st := by
  have F := fun_mk (st := st) l c k
  exact ⟨⟨f, _, F, a, t, F.binds b⟩, ⟨⟨nm, q, N, bs, _, sn, sub, ab, col, dd, m0, m1, m2, m3, m5, xL, rfl⟩, sa, eC, tC, kC⟩, no, PySem.W.mg_of X G aC⟩
end
end Z
end
section
set_option Elab.async false
set_option linter.all false
set_option maxRecDepth 100000
set_option maxHeartbeats 4000000
/-! ZL: try: one statement; except X as n: a suite that returns. -/
namespace Z
open PySem PySem.Spec PyProof.Rows L2
section
variable {X : Cx} {CX : CXT} {cad : Nat → Addr} {k : Nat} {f : Addr} {fd : FuncData} {ps : List Str} {E : XK} {E' : L2.St → XK} {x n : Str} {p pos : Pos} {e : Expr} {es : List Expr} {mA : M (List D)} {F : List D → S → R D}
theorem e_callS (Fo : FnOk X.prog X.w X.K X.mg X.base CX k f fd ps (spF (gX X cad) F)) (hr : L2.Room k X.A) (hg : Gl X x) (hm : X.mg x = some (.ref f)) (hk : PySem.W.keepIn X.K (.ref f) = true) (hb : Binds X.K fd ps []) (hx : ∀ σ, PassesAt CX X σ (E' σ)) (ha : ∀ E, PA X (e :: es) (tA (gX X cad) E mA))
    (hdb : (x == ("__debug__" : Str)) = false := by decide) (he : starEach (e :: es) X.env = (false, eval e X.env) :: starEach es X.env := by rfl) (hpl : (backTo pos (starEach es X.env)).any (·.1) = false := by rfl) :
    PE X (.Call (.Name x p) (e :: es) [] pos) (fun σ H Q => tM (gX X cad) (E' σ) (cCall mA F) σ H Q) := by
  have ha' : PA X (e :: es) (fun σ H Q => tA (gX X cad) (E' σ) mA σ H Q) := ⟨fun pos pins s σ H Q I h => (ha (E' σ)).run pos pins s σ H Q I h⟩
  refine PE.imp (pe_callS Fo hr hg hm hk hb hx ha' hdb he hpl) fun σ H Q h => ?_
  obtain ⟨ρ, es, st, sr, sl, p⟩ := h
  exact ⟨ρ, es, st, sr, sl, p.bind fun ρ1 H1 xs vs st1 e1 t1 sr1 rx p1 => ⟨ρ1, st1, xs, sr1, rx, p1⟩⟩
theorem b_ret {m : M D} (he : PE X e (fun σ H Q => tM (gX X cad) (E' σ) m σ H Q)) : PSs X [.Return (some e) pos] (fun Dn σ H => tS (gX X cad) (E' σ) (sRet m) Dn σ H) := pss_one (PS.imp (ps_ret he) fun Dn σ H h => by
  obtain ⟨ρ, es, st, sr, sl, p⟩ := h
  exact ⟨ρ, es, st, sr, sl, p.bind fun ρ1 H1 x v1 st1 e1 t1 sr1 rx p1 => p1.rt sr1 rx⟩)
theorem Slo.none {g : G} {ρ : List Addr} {H : Hp} {es : Ev} {σ : L2.St} (h : Slo g ρ H es σ) (i : Nat) (v : Option V) : Slo g ρ H (es.set i none) (σ.set i v) := ⟨by rw [List.length_set, List.length_set]; exact h.1, fun j d q => by
  by_cases hj : i = j
  · subst hj
    by_cases l : i < es.length
    · rw [List.getElem?_set_self l] at q
      cases q
    · rw [List.getElem?_eq_none (by rw [List.length_set]; omega)] at q
      cases q
  · rw [List.getElem?_set_ne hj] at q
    rw [List.getElem?_set_ne hj]
    exact h.2 j d q⟩
end
end Z
end
section
set_option Elab.async false
set_option linter.all false
set_option maxRecDepth 100000
set_option maxHeartbeats 4000000
/-! ZM: in a suite: isinstance of the exception that it holds, where it has a dict. -/
namespace Z
open PySem PySem.Spec PyProof.Rows L2
section
variable {X : Cx} {a C dx : Addr} {oe : Obj} {pn : List (Addr × Obj)}
end
end Z
end
section
set_option Elab.async false
set_option linter.all false
set_option maxRecDepth 100000
set_option maxHeartbeats 4000000
/-! ZN: a class called by keywords alone. -/
namespace Z
open PySem PySem.Spec PyProof.Rows L2
structure Clk (P : Program) (w : World) (K : PySem.W.Frag) (mg : Str → Option Value) (base : Heap) (cad : Nat → Addr) (x : Str) (c : Nat) (ps : List Str) (k : Nat) (F : List D → S → R D) (qual : Str) (st : Stmt) : Prop where
  ex : ∃ f fd, FnOk P w K mg base (L2.CX P w) k f fd ps (spF ⟨K, cad⟩ F) ∧ Mk K (cad c) f ∧ Binds K fd ps [] ∧ Fun K "__init__" qual st f fd
  g : mg x = some (.ref (cad c))
theorem Clk.cl {P : Program} {w : World} {K : PySem.W.Frag} {mg : Str → Option Value} {base : Heap} {cad : Nat → Addr} {x : Str} {c : Nat} {ps : List Str} {k : Nat} {F : List D → S → R D} {qual : Str} {st : Stmt} (h : Clk P w K mg base cad x c ps k F qual st) : Cl P w K mg base cad x c ps k F := by
  obtain ⟨f, fd, h1, h2, h3, h4⟩ := h.ex
  exact ⟨⟨f, fd, h1, h2, h3⟩, h.g⟩
section
variable {X : Cx} {cad : Nat → Addr} {k : Nat} {ps ks : List Str} {E : XK} {x qual : Str} {st : Stmt} {p pos : Pos} {kws : List Keyword} {mK : M (List D)} {F : List D → S → R D}
end
end Z
end
section
set_option Elab.async false
set_option linter.all false
set_option maxRecDepth 100000
set_option maxHeartbeats 4000000
/-! ZO: == of two of one class by its own __eq__. -/
namespace Z
open PySem PySem.Spec PyProof.Rows L2
section
variable {X : Cx} {cad : Nat → Addr} {E : XK} {k : Nat} {f : Addr} {fd : FuncData} {ps : List Str} {F : List D → S → R D}
end
end Z
end
section
set_option Elab.async false
set_option linter.all false
set_option maxRecDepth 100000
set_option maxHeartbeats 4000000
/-! ZP: calls by keywords in a try's body; except X without a name. -/
namespace Z
open PySem PySem.Spec PyProof.Rows L2
section
variable {X : Cx} {CX : CXT} {cad : Nat → Addr} {k : Nat} {f : Addr} {fd : FuncData} {ps ks : List Str} {sp : Sp} {E : L2.St → XK} {x : Str} {p pos : Pos} {e : Expr} {es : List Expr} {kws : List Keyword} {mA mK : M (List D)} {F : List D → S → R D}
end
def sTry0 (mb : M Out) (sub : Nat → Option Bool) (ms : M Out) : M Out := fun es st => match mb es st with
  | .exc c fs s => match sub c with
    | some true => ms es s
    | some false => .exc c fs s
    | none => .bad
  | r => r
section
variable {X : Cx} {cad : Nat → Addr} {k : Nat} {ps ks : List Str} {E : XK} {E' : L2.St → XK} {x n : Str} {p pos : Pos} {e : Expr} {es : List Expr} {kws : List Keyword} {mA mK : M (List D)} {F : List D → S → R D} {st : Stmt}
theorem s_try0 {body suite : List Stmt} {b₀ : Stmt} {np pos' : Pos} {mb ms : M Out} {sub : Nat → Option Bool} {cv : Value} (hs : X.stack = X.env :: X.outer) (hf : X.env.frame = some X.env.locals) (hc : Names X x cv) (tk : Takes X (fun cls d _ H => E cls d H))
    (hex : ∀ c b, sub c = some b → PySem.W.exmOne X.K (.ref (cad c)) cv = some b)
    (hb : ∀ (W : WX) (pn : List (Addr × Obj)) (xe : Value → Shared → Prop), Takes (X.tr pn xe) W → PassesOwn (model X.prog X.w) X.A X.env xe → PSs (X.tr pn xe) body (fun Dn σ H => tS (gX X cad) (WE W σ) mb Dn σ H))
    (hsu : ∀ (a : Addr) (oe : Obj) (pn : List (Addr × Obj)), PSs (X.suite a ((a, oe) :: pn)) (b₀ :: suite) (tS (gX X cad) E ms)) :
    PS X (.Try body [.ExceptHandler (some (.Name x np)) none (b₀ :: suite) pos'] [] [] pos) (tS (gX X cad) E (sTry0 mb sub ms)) := by
  refine PS.imp (ps_try_only (ts := fun _ _ _ => tS (gX X cad) E ms) hs hf hc tk hb (fun a oe _ _ pn _ _ => hsu a oe pn)) fun Dn σ H h => ?_
  obtain ⟨ρ, es, st, sr, sl, p⟩ := h
  refine ⟨ρ, es, st, sr, sl, ?_⟩
  unfold sTry0 at p
  cases hm : mb es st with
  | ok o s =>
    rw [hm] at p
    cases o <;> exact p
  | bad =>
    rw [hm] at p
    exact p.elim
  | exc c fs s =>
    rw [hm] at p
    dsimp only at p
    intro ρ' H' d e1 t1 sr1 rx
    cases hc : sub c with
    | none =>
      rw [hc] at p
      exact p.elim
    | some b =>
      rw [hc] at p
      refine ⟨b, hex c b hc, fun hb a na => ?_, fun hb => ?_⟩
      · subst hb
        exact ⟨ρ', es, s, sr1, sl.mono e1 t1, PoS.mono p e1 t1⟩
      · subst hb
        exact p ρ' H' d e1 t1 sr1 rx
theorem e_callSF (h : Fn X.prog X.w X.K X.mg X.base cad x st ps k F) (hr : L2.Room k X.A) (hx : ∀ σ, PassesAt (L2.CX X.prog X.w) X σ (E' σ)) (ha : ∀ E, PA X (e :: es) (tA (gX X cad) E mA)) (hg : Gl X x := by rfl)
    (hdb : (x == ("__debug__" : Str)) = false := by decide) (he : starEach (e :: es) X.env = (false, eval e X.env) :: starEach es X.env := by rfl) (hpl : (backTo pos (starEach es X.env)).any (·.1) = false := by rfl) :
    PE X (.Call (.Name x p) (e :: es) [] pos) (fun σ H Q => tM (gX X cad) (E' σ) (cCall mA F) σ H Q) := by
  obtain ⟨f, fd, h1, h2, h3, h4, _⟩ := h.ex
  exact e_callS h1 hr hg h2 h3 h4 hx ha hdb he hpl
end
end Z
end
section
set_option Elab.async false
set_option linter.all false
set_option maxRecDepth 100000
set_option maxHeartbeats 4000000
/-! ZQ: suites whose tests are settled: every answer is known, the heap only grows. -/
namespace Z
open PySem PySem.Spec PyProof.Rows L2
abbrev Kn := L2.St → Hp → Prop
section
variable {X : Cx} {P : Kn} {a b c e : Expr} {rest : List Expr} {ss : List Stmt} {v : V} {k k' : Bool} {pos pos' p2 : Pos}
end
end Z
end
section
set_option Elab.async false
set_option linter.all false
set_option maxRecDepth 100000
set_option maxHeartbeats 4000000
/-! ZR: the tests of a suite that holds an exception with one field of text. -/
namespace Z
open PySem PySem.Spec PyProof.Rows L2
section
variable {X : Cx} {a C dx i j : Nat} {f u w : Str} {oe : Obj} {pn : List (Addr × Obj)} {e ce : Expr} {es : List Expr} {x : Str} {pos p p2 : Pos} {b : Bool}
/-- names of classes -/
inductive ClsEs (X : Cx) : List Expr → List V → List Value → Prop
  | nil : ClsEs X [] [] []
  | cons {ce : Expr} {es : List Expr} {cv : V} {cu : Value} {vs : List V} {us : List Value} : PE X ce (tC cv) → ClsV cv cu → (starEach (ce :: es) X.env = (false, eval ce X.env) :: starEach es X.env) → ClsEs X es vs us → ClsEs X (ce :: es) (cv :: vs) (cu :: us)
theorem ClsEs.pair {X : Cx} : ∀ {es : List Expr} {vs : List V} {us : List Value}, ClsEs X es vs us → Paired ClsV vs us
  | _, _, _, .nil => .nil
  | _, _, _, .cons _ k _ r => .cons k r.pair
theorem ClsEs.pa {X : Cx} : ∀ {es : List Expr} {vs : List V} {us : List Value}, ClsEs X es vs us → PA X es (fun _ H Q => Q vs H)
  | _, _, _, .nil => pa_nil
  | _, _, _, .cons h _ hs r => pa_cons h r.pa hs
end
def subC (ci : Nat) (c : Nat) : Option Bool := if c = ci then some true else none
theorem subC_ok {K : PySem.W.Frag} {cad : Nat → Addr} {ci : Nat} {cv : Value} (h : PySem.W.exmOne K (.ref (cad ci)) cv = some true) : ∀ c b, subC ci c = some b → PySem.W.exmOne K (.ref (cad c)) cv = some b := fun c b e => by
  unfold subC at e
  split at e
  · rename_i ec
    subst ec
    cases e
    exact h
  · cases e
end Z
end
section
set_option Elab.async false
set_option linter.all false
set_option maxRecDepth 100000
set_option maxHeartbeats 4000000
/-! ZT: a class's own __eq__ as a promise. -/
namespace Z
open PySem PySem.Spec PyProof.Rows L2
structure EqD (K : PySem.W.Frag) (C : Addr) (qual : Str) (st : Stmt) : Prop where
  ex : ∃ f fd, Fun K "__eq__" qual st f fd ∧ PySem.W.findIn K (.ref C) "__eq__" = some (some (.ref f)) ∧ PySem.W.isFn K (.ref f) = true ∧ Binds K fd ["self", "other"] []
structure Oe (P : Program) (w : World) (K : PySem.W.Frag) (mg : Str → Option Value) (base : Heap) (cad : Nat → Addr) (c k : Nat) (F : List D → S → R D) : Prop where
  ex : ∃ f fd, FnOk P w K mg base (L2.CX P w) k f fd ["self", "other"] (spF ⟨K, cad⟩ F) ∧ PySem.W.findIn K (.ref (cad c)) "__eq__" = some (some (.ref f)) ∧ PySem.W.isFn K (.ref f) = true ∧ Binds K fd ["self", "other"] []
section
variable {K : PySem.W.Frag} {f C : Addr} {qual : Str} {st : Stmt} {oc kV doc pm cdv ct : Value} {od an : Option Addr} {osl : Array (Option Value)}
end
end Z
end
section
set_option Elab.async false
set_option linter.all false
set_option maxRecDepth 100000
set_option maxHeartbeats 4000000
/-! ZU: enumerate over a tuple, in a comprehension. -/
namespace Z
open PySem PySem.Spec PyProof.Rows L2
open AutoSeq1 (wpAny_loadPart')

section
variable {prog : Program} {w : World} {A : Around} {E : Value → Shared → Prop} {s : Shared}
end
section
variable {X : Cx} {cad : Nat → Addr} {E : XK} {elt tg iter : Expr} {ifs : List Expr} {scope : Scope} {own : List (Str × Nat)} {set : Ev → D → Option Ev} {tgr : TG} {m me : M D} {mA : M (List D)} {mt : M Bool} {pos : Pos}
end
/-! ### a def with parameters by keyword alone -/
structure DefK (K : PySem.W.Frag) (mg : Str → Option Value) (x : Str) (st : Stmt) (ps : List Str) : Prop where
  ex : ∃ f fd, Fun K x x st f fd ∧ mg x = some (.ref f)
structure FnK (P : Program) (w : World) (K : PySem.W.Frag) (mg : Str → Option Value) (base : Heap) (cad : Nat → Addr) (x : Str) (st : Stmt) (ps : List Str) (k : Nat) (F : List D → S → R D) : Prop where
  ex : ∃ f fd, FnOk P w K mg base (L2.CX P w) k f fd ps (spF ⟨K, cad⟩ F) ∧ mg x = some (.ref f) ∧ PySem.W.keepIn K (.ref f) = true ∧ Fun K x x st f fd
section
variable {l : PySem.W.OpenLaw} {w : World} {K : PySem.W.Frag} {h : Heap} {mg : Str → Option Value} {x : Str} {st : Stmt} {ps : List Str} {f : Addr} {oc kV doc pm cdv ct : Value} {od an : Option Addr} {osl : Array (Option Value)}
end
section
variable {X : Cx} {cad : Nat → Addr} {k : Nat} {ps ks : List Str} {E : XK} {E' : L2.St → XK} {x n : Str} {p pos : Pos} {e : Expr} {es : List Expr} {kws : List Keyword} {mA mK : M (List D)} {F : List D → S → R D} {st : Stmt}
end
end Z
end
section
set_option Elab.async false
set_option linter.all false
set_option maxRecDepth 100000
set_option maxHeartbeats 4000000
/-! ZV: an instance against a new exception by ==, both ways round: False. -/
namespace Z
open PySem PySem.Spec PyProof.Rows L2
/-- an exception object as a value -/
def ExV (C dx a : Addr) : HO := .ext fun h => ∃ (oe : Obj) (vs : Array Value), h.get? a = some oe ∧ Zc (.ref C) (some dx) oe ∧ oe.data = .fields vs
def rIsV (K : PySem.W.Frag) (C : Addr) (b : Bool) : List V → Hp → VK → Prop := fun xs H Q => ∃ (a dx : Addr) (c : V) (cv : Value) (fs : List (Str × V)), xs = [.ref a, c] ∧ H a = some (ExV C dx a) ∧ H dx = some (.xd fs) ∧ (∀ u, RelV c u → u = cv) ∧ PySem.W.kitOne K (.ref C) cv = some b ∧ Q (.bl b) H
/-- what __eq__(self, other) of the class at C does with an exception of the class at CB -/
def spEqX (CB : Addr) : Sp := fun vs H Q _ => ∃ (a b dx : Addr) (fs : List (Str × V)), vs = [.ref a, .ref b] ∧ H b = some (ExV CB dx b) ∧ H dx = some (.xd fs) ∧ Q (.bl false) H
structure OeX (P : Program) (w : World) (K : PySem.W.Frag) (mg : Str → Option Value) (base : Heap) (C CB : Addr) : Prop where
  ex : ∃ f fd, FnOk P w K mg base (L2.CX P w) 1 f fd ["self", "other"] (spEqX CB) ∧ PySem.W.findIn K (.ref C) "__eq__" = some (some (.ref f)) ∧ PySem.W.isFn K (.ref f) = true ∧ Binds K fd ["self", "other"] []
/-- what is asked of the two classes -/
structure EqX (K : PySem.W.Frag) (C CB : Addr) : Prop where
  v1 : PySem.W.subIn K (.ref CB) (.ref C) = some false
  v2 : PySem.W.subIn K (.ref C) (.ref CB) = some false
  v3 : PySem.W.findIn K (.ref CB) "__eq__" = some (some (.builtin "object.__eq__"))
  v4 : PySem.W.kitOne K (.ref CB) (.ref C) = some false
theorem EqD.okX {P : Program} {w : World} {K : PySem.W.Frag} {mg : Str → Option Value} {base : Heap} {C CB : Addr} {qual : Str} {st : Stmt} (h : EqD K C qual st) (Sc : FnScope ["self", "other"] ["self", "other"] (defScope st)) (q : EqX K C CB)
    (hb : ∀ (f : Addr) (cdv : Value) (A : Around) (outer : List Env) (s : Shared) (H : Hp) (E : XK), PSs (cxOf (L2.CX P w) P w K mg base ["self", "other"] qual (defScope st) f cdv A outer s H E) (defBody st) (tRet (tAndV (tCB (rIsV K CB false) (tCons (tVar 1) (tCons (tC (.ref C)) tNil))) (fun _ _ _ => False)))) : OeX P w K mg base C CB := by
  obtain ⟨f, fd, F, e1, e2, b⟩ := h.ex
  refine ⟨f, fd, F.okX Sc (fun vs H Q E h => ?_) (fun cdv A outer s H vs Q E hr h => ?_), e1, e2, b⟩
  · obtain ⟨a, b, dx, fs, rfl, -⟩ := h
    rfl
  · obtain ⟨a, b, dx, fs, rfl, h1, h2, q'⟩ := h
    exact ⟨_, hb f cdv A outer s H E, .ref b, rfl, b, dx, .ref C, .ref C, fs, rfl, h1, h2, fun u r => r, q.v4, false, rfl, iteF q'⟩
section
variable {X : Cx} {C CB : Addr} {E : XK}
end
section
variable {X : Cx} {cad : Nat → Addr} {E : XK} {a e : Expr} {ma : M D} {mA : M (List D)} {x f : Str} {c cb : Nat} {p p2 pos : Pos}
end
end Z
end
section
set_option Elab.async false
set_option linter.all false
set_option maxRecDepth 100000
set_option maxHeartbeats 4000000
/-! ZC: a dict display with ** in it: {k: v, **a, **b}. -/
namespace PySem
open Sem (wp)
section
variable {prog : Program} {w : World} {K : Type} [DecidableEq K] {knd : KeyKind prog w K} {A : Around} {E : Value → Shared → Prop} {s : Shared}
end
end PySem
end
section
set_option Elab.async false
set_option linter.all false
set_option maxRecDepth 100000
set_option maxHeartbeats 4000000
namespace PySem
section
variable {prog : Program} {w : World} {A : Around} {E : Value → Shared → Prop} {s : Shared} {env : Env}
end
end PySem
namespace Z
open PySem PySem.Spec PyProof.Rows L2
end Z
end
section
set_option Elab.async false
set_option linter.all false
set_option maxRecDepth 100000
set_option maxHeartbeats 4000000
namespace Z
open PySem PySem.Spec PyProof.Rows L2
section
variable {g : G} {ρ : List Addr} {H : Hp}
end
section
variable {g : G} {ρ : List Addr} {H : Hp} {E : XK} {rel : List Addr → Hp → D → V → Prop} {Q : VK} {n : Nat} {q : Addr} {u : D} {v : V} {s : S} {f : Unit → S → R D}
end
section
variable {X : Cx} {cad : Nat → Addr} {E : XK} {ke ve e1 e2 : Expr} {mk mv m1 m2 : M D} {pos : Pos}
end
end Z
end
section
set_option Elab.async false
set_option linter.all false
set_option maxRecDepth 100000
set_option maxHeartbeats 4000000
/-! ZCd: methods of texts: join, count, find -/
namespace Z
open PySem PySem.Spec PyProof.Rows L2
def strsD : List D → Option (List Str)
  | [] => some []
  | .str a :: r => (strsD r).map (a :: ·)
  | _ => none
theorem strsD_map (ys : List Str) : strsD (ys.map D.str) = some ys := by
  induction ys with
  | nil => rfl
  | cons y ys ih =>
    show (strsD (ys.map D.str)).map (y :: ·) = _
    rw [ih]
    rfl
theorem strsD_eq : ∀ {xs : List D} {ys : List Str}, strsD xs = some ys → xs = ys.map D.str
  | [], ys, h => by
    cases h
    rfl
  | .str a :: r, ys, h => by
    have h : (strsD r).map (a :: ·) = some ys := h
    cases e : strsD r with
    | none => rw [e] at h; cases h
    | some zs =>
      rw [e] at h
      cases h
      rw [strsD_eq e]
      rfl
  | .non :: r, ys, h => nomatch h
  | .bl _ :: r, ys, h => nomatch h
  | .int _ :: r, ys, h => nomatch h
  | .tup _ :: r, ys, h => nomatch h
  | .loc _ :: r, ys, h => nomatch h
  | .ty _ :: r, ys, h => nomatch h
  | .cls _ :: r, ys, h => nomatch h
def fJoin (a : Str) (y : D) (s : S) : R D := match seqOf y s with
  | some xs => match strsD xs with
    | some ys => if (ys.map (·.length)).sum + ys.length * a.length ≤ 16777216 then .ok (.str (Txt.join a ys)) s else .bad
    | none => .bad
  | none => .bad
/-- a method of a text with one argument -/
def cStr1 (ma mb : M D) (f : Str → D → S → R D) : M D := fun es st => (ma es st).bind fun x s => match x with
  | .str a => (mb es s).bind fun y s => f a y s
  | _ => .bad
def StrM (X : Cx) (cad : Nat → Addr) (E : XK) (r : V → List V → Hp → VK → Prop) (f : Str → D → S → R D) : Prop := ∀ {ρ : List Addr} {st : S} {H : Hp} {a : Str} {y : D} {v : V} {Q : VK}, SR (gX X cad) ρ st H → Rep (gX X cad) ρ H y v → PoE (gX X cad) ρ H E (Rep (gX X cad)) Q (f a y st) → r (.str a) [v] H Q
section
variable {g : G} {ρ : List Addr} {H : Hp}
theorem Reps.strs : ∀ {ys : List Str} {vs : List V}, Reps g ρ H (ys.map D.str) vs → vs = ys.map V.str
  | [], vs, h => h.nil
  | y :: ys, vs, h => by
    obtain ⟨v, r, rfl, h1, h2⟩ := h.cons
    rw [h1.str, Reps.strs h2]
    rfl
end
section
variable {X : Cx} {cad : Nat → Addr} {E : XK} {o e : Expr} {ma mb : M D} {apos pos : Pos}
theorem e_str1 {id : String} {name : Str} {r : V → List V → Hp → VK → Prop} {f : Str → D → S → R D} (slot : Slot "str" name id) (ty : typeOf (.builtin id) = pure (.type "method_descriptor")) (rule : MtR X id r) (hf : StrM X cad E r f) (ha : PE X o (tM (gX X cad) E ma)) (hb : PE X e (tM (gX X cad) E mb))
    (hs : starEach [e] X.env = [(false, eval e X.env)] := by rfl) (hbase : attributeBase o name X.env (eval o X.env) = eval o X.env := by rfl) (hline : (apos.endLine == pos.line) = true := by rfl) : PE X (.Call (.Attribute o name apos) [e] [] pos) (tM (gX X cad) E (cStr1 ma mb f)) := by
  refine PE.imp (pe_m1 slot ty rule ha hb hs hbase hline) fun σ H Q h => ?_
  obtain ⟨ρ, es, st, sr, sl, p⟩ := h
  refine ⟨ρ, es, st, sr, sl, p.bind fun ρ1 H1 x v1 s1 le1 t1 sr1 rx p1 => ?_⟩
  split at p1
  · rename_i a
    refine ⟨⟨a, rx.str⟩, ρ1, es, s1, sr1, sl.mono le1 t1, p1.bind fun ρ2 H2 y v2 s2 le2 t2 sr2 ry p2 => ?_⟩
    rw [rx.str]
    exact hf sr2 ry p2
  · exact p1.elim
theorem st_join : StrM X cad E (fun x xs H Q => ∃ a p, ∃ ys : List Str, x = .str a ∧ xs = [.ref p] ∧ (SqL X.K H p (ys.map V.str) ∨ SqT X.K H p (ys.map V.str)) ∧ (ys.map (·.length)).sum + ys.length * a.length ≤ 16777216 ∧ Q (.str (Txt.join a ys)) H) fJoin := by
  intro ρ st H a y v Q sr ry p
  unfold fJoin at p
  split at p
  · rename_i xs e1
    split at p
    · rename_i ys e2
      split at p
      · rename_i hz
        have ex := strsD_eq e2
        subst ex
        unfold seqOf at e1
        split at e1
        · rename_i zs
          cases e1
          obtain ⟨q, vs, rfl, h1, h2⟩ := ry.tup
          rw [h2.strs] at h1
          exact ⟨a, q, ys, rfl, rfl, .inr h1, hz, p.here sr rep_str⟩
        · rename_i n
          obtain ⟨q, vs, h0, h1, h2⟩ := sr.getL e1
          obtain ⟨b, h3, rfl⟩ := ry.loc
          rw [h0] at h3
          cases h3
          rw [h2.strs] at h1
          exact ⟨a, q, ys, rfl, rfl, .inl h1, hz, p.here sr rep_str⟩
        · cases e1
      · exact p.elim
    · exact p.elim
  · exact p.elim
theorem e_join (ha : PE X o (tM (gX X cad) E ma)) (hb : PE X e (tM (gX X cad) E mb)) (hs : starEach [e] X.env = [(false, eval e X.env)] := by rfl) (hbase : attributeBase o "join" X.env (eval o X.env) = eval o X.env := by rfl) (hline : (apos.endLine == pos.line) = true := by rfl) : PE X (.Call (.Attribute o "join" apos) [e] [] pos) (tM (gX X cad) E (cStr1 ma mb fJoin)) := e_str1 PySem.F.slot_str_join PySem.F.type_str_join mt_join st_join ha hb hs hbase hline
end
end Z
end
section
set_option Elab.async false
set_option linter.all false
set_option maxRecDepth 100000
set_option maxHeartbeats 4000000
/-! ZCe: a comprehension over a text -/
namespace Z
open PySem PySem.Spec PyProof.Rows L2
def charsD (x : Str) : List D := x.cps.toList.map fun c => D.str ⟨#[c]⟩
section
variable {X : Cx} {cad : Nat → Addr} {E : XK} {tg elt iter : Expr} {ifs : List Expr} {scope : Scope} {own : List (Str × Nat)} {pos : Pos} {set : Ev → D → Option Ev} {tgr : TG} {mt : M Bool} {me m : M D}
theorem charsD_get {x : Str} {i : Nat} {d : D} (h : (charsD x)[i]? = some d) : ∃ c, x.cps[i]? = some c ∧ d = .str ⟨#[c]⟩ := by
  unfold charsD at h
  rw [List.getElem?_map] at h
  cases e : x.cps.toList[i]? with
  | none => rw [e] at h; cases h
  | some c =>
    rw [e] at h
    injection h with h
    exact ⟨c, by rw [← Array.getElem?_toList]; exact e, h.symm⟩
theorem charsD_len (x : Str) : (charsD x).length = x.cps.size := by
  unfold charsD
  rw [List.length_map, Array.length_toList]
end
end Z
end
section
set_option Elab.async false
set_option linter.all false
set_option maxRecDepth 100000
set_option maxHeartbeats 4000000
/-! ZT1: str(number), int(text), dicts of the module with text keys. -/
namespace Z
open PySem PySem.Spec PyProof.Rows L2
def fStr : List D → S → R D
  | [.int i], s => if i.natAbs.log2 < 1920 then .ok (.str (toString i)) s else .bad
  | _, _ => .bad
def fIntS (ds : List D) (s : S) : R D := match ds with
  | [.str a] => (match PySem.intText? a with
    | some n => if a.length ≤ 640 then .ok (.int n) s else .bad
    | none => .bad)
  | ds => fInt ds s
/-- x in d, of the dict with the number c -/
def kInC (c : Nat) (ks : List (Str × Int)) (x y : D) (s : S) : R Bool := match x, y with
  | .str z, .cls k => if k = c then .ok (ks.lookup z).isSome s else .bad
  | _, _ => .bad
def ixC (c : Nat) (ks : List (Str × Int)) (x y : D) (s : S) : R D := match x, y with
  | .cls k, .str z => if k = c then (match ks.lookup z with
    | some i => .ok (.int i) s
    | none => .bad) else .bad
  | _, _ => .bad
/-- the dict of the module at a -/
structure KDc (K : PySem.W.Frag) (w : World) (a : Addr) (ks : List (Str × Int)) : Prop where
  D : ∃ es n, KDict K w a es n
  get : ∀ z : Str, ∃ r, PySem.W.nsIn K a z = some r ∧ match ks.lookup z with
    | some i => ∃ t, r = some (.int i t)
    | none => r = none
/-- its entries -/
def tabI (K : PySem.W.Frag) (a : Addr) : Option (List (Str × Int)) := match K.lookup a with
  | some ⟨_, _, .dict es _, _⟩ => es.toList.mapM fun e => (match e.key, e.val with
    | .str x _, .int i _ => some (x, i)
    | _, _ => none)
  | _ => none
section
variable {X : Cx} {cad : Nat → Addr} {E : XK} {a b : Expr} {ma mb : M D} {pos : Pos} {c : Nat} {ks : List (Str × Int)}
theorem q_str : CallM X cad E (.type "str") fStr := by
  intro pins s σ H vs us Q I r h
  obtain ⟨ρ, st, ds, sr, rs, p⟩ := h
  unfold fStr at p
  split at p
  · split at p
    · rename_i hz
      obtain ⟨v, rfl, r1⟩ := rs.uno
      cases r1.int
      exact call_str_int pins s σ H _ us Q I r ⟨_, rfl, hz, p.here sr rep_str⟩
    · exact p.elim
  · exact p.elim
theorem q_intS : CallM X cad E (.type "int") fIntS := by
  intro pins s σ H vs us Q I r h
  obtain ⟨ρ, st, ds, sr, rs, p⟩ := h
  unfold fIntS at p
  split at p
  · split at p
    · split at p
      · rename_i n hn hl
        obtain ⟨v, rfl, r1⟩ := rs.uno
        cases r1.str
        exact call_int_str pins s σ H _ us Q I r ⟨_, _, rfl, hn, hl, p.here sr rep_int⟩
      · exact p.elim
    · exact p.elim
  · exact q_int pins s σ H vs us Q I r ⟨ρ, st, _, sr, rs, p⟩
theorem k_inC (h : KDc X.K X.w (cad c) ks) : OpK X cad E (compareOp .In) (kInC c ks) := by
  intro pins s σ H x y v u Q I rx ry q
  obtain ⟨ρ, st, dx, dy, sr, r1, r2, p⟩ := q
  unfold kInC at p
  split at p
  · split at p
    · rename_i z k hk
      subst hk
      cases r1.str
      cases r2.cls
      obtain ⟨es, n, D⟩ := h.D
      obtain ⟨r, e, m⟩ := h.get z
      refine op_in_kd D pins s σ H _ _ v u Q I rx ry ⟨z, r, rfl, rfl, e, ?_⟩
      have : r.isSome = (ks.lookup z).isSome := by
        cases hl : ks.lookup z with
        | none => rw [hl] at m; rw [show r = none from m]; rfl
        | some i => rw [hl] at m; obtain ⟨t, m⟩ := m; rw [m]; rfl
      rw [this]
      exact p.here sr rfl
    · exact p.elim
  · exact p.elim
theorem o_ixC (h : KDc X.K X.w (cad c) ks) : IxR X (fun x y H Q => ∃ ρ st dx dy, SR (gX X cad) ρ st H ∧ Rep (gX X cad) ρ H dx x ∧ Rep (gX X cad) ρ H dy y ∧ PoE (gX X cad) ρ H E (Rep (gX X cad)) Q (ixC c ks dx dy st)) := by
  intro value slice pins s σ H x y v u Q I rx ry q hs
  obtain ⟨ρ, st, dx, dy, sr, r1, r2, p⟩ := q
  unfold ixC at p
  split at p
  · split at p
    · rename_i k z hk
      subst hk
      split at p
      · rename_i i hl
        cases r1.cls
        cases r2.str
        obtain ⟨es, n, D⟩ := h.D
        obtain ⟨r, e, m⟩ := h.get z
        rw [hl] at m
        obtain ⟨t, rfl⟩ := m
        exact ix_kdict value slice pins s σ H _ _ v u Q I rx ry ⟨_, z, .int i, rfl, rfl, ⟨es, n, .int i t, D.at_, D.lit, e, ⟨t, rfl⟩⟩, p.here sr rep_int⟩ hs
      · exact p.elim
    · exact p.elim
  · exact p.elim
theorem e_ixC (h : KDc X.K X.w (cad c) ks) (ha : PE X a (tM (gX X cad) E ma)) (hb : PE X b (tM (gX X cad) E mb)) (hs : PlainIx b := by exact fun _ _ => rfl) : PE X (.Subscript a b pos) (tM (gX X cad) E (c2 ma mb (ixC c ks))) := by
  refine PE.imp (pe_ix (o_ixC (cad := cad) (E := E) h) ha hb hs) fun σ H Q h => ?_
  obtain ⟨ρ, es, st, sr, sl, p⟩ := h
  refine ⟨ρ, es, st, sr, sl, p.bind fun ρ1 H1 x v1 st1 e1 t1 sr1 rx p1 => ⟨ρ1, es, st1, sr1, sl.mono e1 t1, p1.bind fun ρ2 H2 y v2 st2 e2 t2 sr2 ry p2 => ?_⟩⟩
  exact ⟨ρ2, st2, x, y, sr2, rx.mono e2 t2, ry, p2⟩
end
/-- of its facts -/
theorem tab_get : ∀ (es : List DictEntry) (ks : List (Str × Int)), (es.mapM fun e => (match e.key, e.val with
    | .str x _, .int i _ => some (x, i)
    | _, _ => none)) = some ks → ∀ z : Str, (es.find? (·.key.isStr z) = none ∧ ks.lookup z = none ∧ es.any (·.refKey) = false) ∨ ∃ e t i, es.find? (·.key.isStr z) = some e ∧ e.val = .int i t ∧ ks.lookup z = some i := by
  intro es
  induction es with
  | nil =>
    intro ks h z
    simp at h
    subst h
    exact .inl ⟨rfl, rfl, rfl⟩
  | cons e es ih =>
    intro ks h z
    rw [List.mapM_cons] at h
    obtain ⟨p, hp, h⟩ := Option.bind_eq_some_iff.mp h
    obtain ⟨ks', hk, h⟩ := Option.bind_eq_some_iff.mp h
    have h : p :: ks' = ks := Option.some.inj h
    subst h
    split at hp
    · rename_i x tx i t e1 e2
      cases hp
      have ek : e.key.isStr z = (x == z) := by rw [e1]; rfl
      have er : e.refKey = false := by unfold DictEntry.refKey; rw [e1]
      rw [List.find?_cons, ek, List.lookup_cons]
      cases hx : x == z with
      | true =>
        have hz : (z == x) = true := by rw [beq_iff_eq] at hx ⊢; exact hx.symm
        rw [hz]
        exact .inr ⟨e, t, i, rfl, e2, rfl⟩
      | false =>
        have hz : (z == x) = false := by
          rw [← Bool.not_eq_true] at hx ⊢
          intro hc
          rw [beq_iff_eq] at hc
          exact hx (by rw [beq_iff_eq]; exact hc.symm)
        rw [hz]
        rcases ih ks' hk z with ⟨a1, a2, a3⟩ | ⟨e', t', i', a1, a2, a3⟩
        · exact .inl ⟨a1, a2, by rw [List.any_cons, er, a3]; rfl⟩
        · exact .inr ⟨e', t', i', a1, a2, a3⟩
    · cases hp
theorem kdc_mk {K : PySem.W.Frag} {w : World} {a : Addr} {ks : List (Str × Int)} (h1 : He.dicW K a = some (He.keysIn w.params (ks.map (·.1)))) (h2 : tabI K a = some ks) : KDc K w a ks := by
  refine ⟨He.dicW_ok h1, fun z => ?_⟩
  unfold tabI at h2
  split at h2
  · rename_i c d es n sl hl
    unfold PySem.W.nsIn
    rw [hl]
    dsimp only
    rcases tab_get es.toList ks h2 z with ⟨e1, e2, e3⟩ | ⟨e, t, i, e1, e2, e3⟩
    · rw [e1, e2]
      dsimp only
      rw [e3]
      exact ⟨none, rfl, rfl⟩
    · rw [e1, e3]
      exact ⟨some (.int i t), by rw [← e2], t, rfl⟩
  · cases h2
theorem cst_cls {K : PySem.W.Frag} {h : Heap} {mg : Str → Option Value} {x : Str} {cad : Nat → Addr} {c : Nat} {a : Addr} (X : K.In h) (G : h.Ns mainGlobals mg) (e : PySem.W.nsIn K mainGlobals x = some (some (.ref a))) (ha : cad c = a) : Cst K mg cad x (.cls c) := ⟨.ref a, .ref a, PySem.W.mg_of X G e, rfl, fun _ _ => by rw [← ha]; exact rep_cls⟩
end Z
end
section
set_option Elab.async false
set_option linter.all false
set_option maxRecDepth 100000
set_option maxHeartbeats 4000000
/-! ZT2: for over a text -/
namespace Z
open PySem PySem.Spec PyProof.Rows L2
def sForS (m : M D) (set : Ev → D → Option Ev) (b : M Out) : M Out := fun es st => (m es st).bind fun d s => match d with
  | .str x => forT set b (charsD x) es s
  | _ => .bad
section
variable {X : Cx} {cad : Nat → Addr} {E : XK} {tg iter : Expr} {body : List Stmt} {set : Ev → D → Option Ev} {b : M Out} {m : M D} {pos : Pos}
theorem s_forS (hp : PassesOwn (model X.prog X.w) X.A X.env X.xe) (hc : X.calm = true) (he : PE X iter (tM (gX X cad) E m)) (hg : PGd X cad tg set) (hb : PSs X body (tS (gX X cad) E b)) (hs : ∀ x, foldedSetIterable iter X.env x = pure x := by intro _; rfl) : PS X (.For tg iter body [] pos) (tS (gX X cad) E (sForS m set b)) := by
  obtain ⟨t, h2, h3⟩ := hg.ex
  refine ⟨fun pins s σ H Dn I h => ?_⟩
  obtain ⟨ρ, es, st, sr, sl, p⟩ := h
  unfold sForS at p
  cases hm : m es st with
  | ok d s1 =>
    rw [hm] at p
    simp only [R.bind] at p
    split at p
    · rename_i x
      refine (ps_for hp hc (pi_str he) h2 hb hs).run pins s σ H Dn I ⟨ρ, es, st, sr, sl, ?_⟩
      rw [hm]
      intro ρ1 H1 v e1 t1 sr1 rx
      refine ⟨x, rx.str, forT_W (Its x) (xs := charsD x) h3 (fun _ => True) (fun _ _ _ _ => True.intro) (fun i H d hd _ => ?_) (fun H _ => ?_) (fun i H d v H' ρ0 _ hd _ hy => ?_) sr1 (sl.mono e1 t1) True.intro (p.mono e1 t1)⟩
      · have := (List.getElem?_eq_some_iff.mp hd).1
        rw [charsD_len] at this
        exact this
      · show x.cps.size ≤ (charsD x).length
        rw [charsD_len]
        exact Nat.le_refl _
      · obtain ⟨c, hc, rfl⟩ := charsD_get hd
        obtain ⟨h1, c', hc', rfl⟩ := hy
        rw [hc] at hc'
        cases hc'
        exact ⟨h1, rep_str⟩
    · exact p.elim
  | exc c fs s1 =>
    rw [hm] at p
    refine (ps_for hp hc (pi_str he) h2 hb hs).run pins s σ H Dn I ⟨ρ, es, st, sr, sl, ?_⟩
    rw [hm]
    exact p
  | bad =>
    rw [hm] at p
    exact p.elim
end
/-! ### d.get(k, e) of a dict of the module -/
def tKGet (K : PySem.W.Frag) (a : Addr) (td ty tx : TE) : TE := fun σ H Q => td σ H fun x H1 => x = .ref a ∧ ty σ H1 fun y H2 => tx σ H2 fun z H3 => ∃ (w0 : Str) (r : Option Value), y = .str w0 ∧ PySem.W.nsIn K a w0 = some r ∧ ((∃ u v, r = some u ∧ RelV v u ∧ Q v H3) ∨ (r = none ∧ Q z H3))
section
variable {X : Cx} {cad : Nat → Addr} {E : XK} {o e f : Expr} {td ty tx : TE} {apos cpos : Pos} {a : Addr} {mb md : M D} {c : Nat} {ks : List (Str × Int)}
theorem pe_kget2 (D : ∃ es n, KDict X.K X.w a es n) (ho : PE X o td) (he : PE X e ty) (hf : PE X f tx) (m : M2 X o "get" apos e f cpos) : PE X (.Call (.Attribute o "get" apos) [e, f] [] cpos) (tKGet X.K a td ty tx) := by
  obtain ⟨es, n, D⟩ := D
  refine ⟨fun pins s σ H Q I h => ?_⟩
  refine wpAny_Call_method m.base m.few m.line PySem.F.plainAttrs_dict PySem.F.slot_dict_get PySem.F.type_dict_get (thn (ho.run pins s σ H _ I h) fun u s1 ⟨x, H1, I1, rx, ex, q1⟩ => ?_)
  subst ex
  obtain rfl : u = Value.ref a := rx
  have t1 := kd_type D I1
  refine ⟨t1, (PySem.W.mapOf_K (prog := X.prog) (w := X.w) I1.kIn D.at_ D.lit).noDict, ?_⟩
  rw [m.trees]
  refine Calls.callWith_builtin rfl (Calls.evalArgs_plain (Calls.spliced_cons (thn (he.run pins s1 σ H1 _ I1 q1) fun iv s2 ⟨y, H2, I2, ry, q2⟩ =>
    Calls.spliced_cons (thn (hf.run pins s2 σ H2 _ I2 q2) fun fv s3 ⟨z, H3, I3, rz, w0, r, ey, e0, q3⟩ => Calls.spliced_nil ?_))))
  subst ey
  obtain ⟨tk, rfl⟩ := ry
  refine call_meetsIn PySem.F.slot_dict_get (kd_type D I3) PySem.F.entry_dict_get (PySem.F.args_dict_get_3 _ _ _) (meets_dict_get_default (PySem.strKind X.prog X.w) a (PySem.strKind_is X.prog X.w w0 tk) D.low fv) ⟨_, PySem.W.mapOf_K (prog := X.prog) I3.kIn D.at_ D.lit, ?_⟩
  rw [PySem.W.find_K D.at_ e0]
  rcases q3 with ⟨u, v, rfl, rv, q3⟩ | ⟨rfl, q3⟩
  · exact ⟨v, H3, I3.tok _, rv, q3⟩
  · exact ⟨z, H3, I3.tok _, rz, q3⟩
def cGetC (c : Nat) (ks : List (Str × Int)) (mb md : M D) : M D := fun es st => (mb es st).bind fun y s => (md es s).bind fun z s => match y with
  | .str w => .ok (match ks.lookup w with
    | some i => .int i
    | none => z) s
  | _ => .bad
theorem e_getC (h : KDc X.K X.w (cad c) ks) (ho : PE X o (tM (gX X cad) E (cC (.cls c)))) (he : PE X e (tM (gX X cad) E mb)) (hf : PE X f (tM (gX X cad) E md)) (hbase : attributeBase o "get" X.env (eval o X.env) = eval o X.env := by rfl)
    (hfew : ((backTo cpos (starEach [e, f] X.env)).all (fun x => !x.1) && (backToKw cpos (keywordEach [] X.env)).all (fun x => x.1.isSome)
    && decide (([e, f] : List Expr).length + ([] : List Keyword).length + (if ([] : List Keyword).isEmpty then 0 else 1) < 30)) = true := by rfl) (hline : (apos.endLine == cpos.line) = true := by rfl) (htr : backTo cpos (starEach [e, f] X.env) = [(false, eval e X.env), (false, eval f X.env)] := by rfl) :
    PE X (.Call (.Attribute o "get" apos) [e, f] [] cpos) (tM (gX X cad) E (cGetC c ks mb md)) := by
  refine PE.imp (pe_kget2 h.D ho he hf ⟨hbase, hfew, hline, htr⟩) fun σ H Q q => ?_
  obtain ⟨ρ, es, st, sr, sl, p⟩ := q
  refine ⟨ρ, es, st, sr, sl, fun ρ1 H1 v e1 t1 sr1 rv => ⟨rv.cls, ?_⟩⟩
  have p1 := p.mono e1 t1
  refine ⟨ρ1, es, st, sr1, sl.mono e1 t1, p1.bind fun ρ2 H2 y v2 st2 e2 t2 sr2 ry p2 => ?_⟩
  refine ⟨ρ2, es, st2, sr2, (sl.mono e1 t1).mono e2 t2, p2.bind fun ρ3 H3 z v3 st3 e3 t3 sr3 rz p3 => ?_⟩
  split at p3
  · rename_i w0
    obtain ⟨r, e0, m⟩ := h.get w0
    have ry' := ry.str
    subst ry'
    refine ⟨w0, r, rfl, e0, ?_⟩
    cases hl : ks.lookup w0 with
    | none =>
      rw [hl] at m p3
      exact .inr ⟨m, p3.here sr3 rz⟩
    | some i =>
      rw [hl] at m p3
      obtain ⟨t, rfl⟩ := m
      exact .inl ⟨_, .int i, rfl, ⟨t, rfl⟩, p3.here sr3 rep_int⟩
  · exact p3.elim
end
end Z
end
section
set_option Elab.async false
set_option linter.all false
set_option maxRecDepth 100000
set_option maxHeartbeats 1000000
/-! the walk of k02: printed by gen.py -/
namespace K02
open PySem PySem.Spec PyProof.Rows L2 Z
def topS (i : Nat) : Stmt := PySem.Challenge.pw_wholerows_k02_expressions_written.main.body.getD i (.Pass ⟨0, 0, 0, 0⟩)
def K_ARGUMENT_COUNTS : D := .cls 101
def K_COMPARISONS : D := .tup [(.str "<"), (.str "<="), (.str ">"), (.str ">="), (.str "="), (.str "!=")]
def K_DEEPEST : D := .int 12
def K_DIGITS : D := .str "0123456789"
def K_LETTERS : D := .str "abcdefghijklmnopqrstuvwxyz"
def K_LEVELS : D := .cls 100
def K_LIMIT : D := .int 1000000000000
def K_LONGEST_NUMBER : D := .int 13
def K_LONGEST_WORD : D := .int 12
def K_LONG_SIGNS : D := .tup [(.str "<="), (.str ">="), (.str "!="), (.str ":=")]
def K_MOST_BRACKETS : D := .int 12
def K_NOT_NAMES : D := .tup [(.str "div"), (.str "mod"), (.str "min"), (.str "max"), (.str "pick"), (.str "nth"), (.str "when")]
def K_PRODUCT_OPERATORS : D := .tup [(.str "*"), (.str "div"), (.str "mod")]
def K_SHORT_SIGNS : D := .tup [(.str "+"), (.str "-"), (.str "*"), (.str "("), (.str ")"), (.str "["), (.str "]"), (.str ","), (.str "<"), (.str ">"), (.str "="), (.str ";")]
def K_SUM_OPERATORS : D := .tup [(.str "+"), (.str "-")]
def K_WORD_CHARS : D := .str "abcdefghijklmnopqrstuvwxyz0123456789_"
def T_ARGUMENT_COUNTS : List (Str × Int) := [("min", 2), ("max", 2), ("pick", 3), ("nth", 1)]
def T_LEVELS : List (Str × Int) := [("+", 2), ("-", 2), ("*", 3), ("div", 3), ("mod", 3)]
theorem bt_bool : bootBuiltins "bool" = some (.type "bool") := by decide +kernel
theorem bt_int : bootBuiltins "int" = some (.type "int") := by decide +kernel
theorem bt_len : bootBuiltins "len" = some (.builtin "len") := by decide +kernel
theorem bt_list : bootBuiltins "list" = some (.type "list") := by decide +kernel
theorem bt_max : bootBuiltins "max" = some (.builtin "max") := by decide +kernel
theorem bt_min : bootBuiltins "min" = some (.builtin "min") := by decide +kernel
theorem bt_str : bootBuiltins "str" = some (.type "str") := by decide +kernel
theorem bt_tuple : bootBuiltins "tuple" = some (.type "tuple") := by decide +kernel
structure Tp (K : PySem.W.Frag) (w : World) (mg : Str → Option Value) (cad : Nat → Addr) : Prop where
  ARGUMENT_COUNTS : Cst K mg cad "ARGUMENT_COUNTS" K_ARGUMENT_COUNTS
  COMPARISONS : Cst K mg cad "COMPARISONS" K_COMPARISONS
  DEEPEST : Cst K mg cad "DEEPEST" K_DEEPEST
  DIGITS : Cst K mg cad "DIGITS" K_DIGITS
  LETTERS : Cst K mg cad "LETTERS" K_LETTERS
  LEVELS : Cst K mg cad "LEVELS" K_LEVELS
  LIMIT : Cst K mg cad "LIMIT" K_LIMIT
  LONGEST_NUMBER : Cst K mg cad "LONGEST_NUMBER" K_LONGEST_NUMBER
  LONGEST_WORD : Cst K mg cad "LONGEST_WORD" K_LONGEST_WORD
  LONG_SIGNS : Cst K mg cad "LONG_SIGNS" K_LONG_SIGNS
  MOST_BRACKETS : Cst K mg cad "MOST_BRACKETS" K_MOST_BRACKETS
  NOT_NAMES : Cst K mg cad "NOT_NAMES" K_NOT_NAMES
  PRODUCT_OPERATORS : Cst K mg cad "PRODUCT_OPERATORS" K_PRODUCT_OPERATORS
  SHORT_SIGNS : Cst K mg cad "SHORT_SIGNS" K_SHORT_SIGNS
  SUM_OPERATORS : Cst K mg cad "SUM_OPERATORS" K_SUM_OPERATORS
  WORD_CHARS : Cst K mg cad "WORD_CHARS" K_WORD_CHARS
  ARGUMENT_COUNTS_k : KDc K w (cad 101) T_ARGUMENT_COUNTS
  LEVELS_k : KDc K w (cad 100) T_LEVELS
  BadExpression_x : ExcC K (cad 1)
  BadExpression_f : XfC K (cad 1)
  BadExpression_in : PySem.W.exmOne K (.ref (cad 1)) (.ref (cad 0)) = some true
  StillError_g : mg "StillError" = some (.ref (cad 0))
  bool_ : mg "bool" = none
  int_ : mg "int" = none
  isinstance_ : mg "isinstance" = none
  len_ : mg "len" = none
  list_ : mg "list" = none
  max_ : mg "max" = none
  min_ : mg "min" = none
  range_ : mg "range" = none
  str_ : mg "str" = none
  tuple_ : mg "tuple" = none
/-! binding_level -/
abbrev s_binding_level : Stmt := topS 2
abbrev N_binding_level : List Str := ["expression"]
theorem sc_binding_level : FnScope N_binding_level ["expression"] (defScope s_binding_level) := ⟨rfl, rfl, rfl, by decide +kernel, rfl, by decide +kernel, by decide +kernel⟩
def b_binding_level : M Out :=
  (sSeq (cIf (c2 (c2 (cVar 0) (cC (.int 0)) ixA) (cC (.str "op")) kNeA) (sRet (cC (.int 4))) sNext)
  (sRet (cGetC 100 T_LEVELS (c2 (cVar 0) (cC (.int 1)) ixA) (cC (.int 1)))))
def F_binding_level : List D → S → R D := fnD 1 1 b_binding_level
/-! write_expression -/
abbrev s_write_expression : Stmt := topS 4
abbrev N_write_expression : List Str := ["expression", "kind", "level", "left", "right", "part"]
theorem sc_write_expression : FnScope N_write_expression ["expression"] (defScope s_write_expression) := ⟨rfl, rfl, rfl, by decide +kernel, rfl, by decide +kernel, by decide +kernel⟩
def b_write_expression (c_write_expression : List D → S → R D) (c_operand_text : List D → S → R D) : M Out :=
  (sSeq (sSet 1 (c2 (cVar 0) (cC (.int 0)) ixA))
  (sSeq (cIf (c2 (cVar 1) (cC (.str "number")) kEq) (sRet (cCall (cCons (c2 (cVar 0) (cC (.int 1)) ixA) cNil) fStr)) sNext)
  (sSeq (cIf (c2 (cVar 1) (cC (.str "name")) kEq) (sRet (c2 (cVar 0) (cC (.int 1)) ixA)) sNext)
  (sSeq (cIf (c2 (cVar 1) (cC (.str "read")) kEq) (sRet (c2 (c2 (c2 (c2 (cVar 0) (cC (.int 1)) ixA) (cC (.str "[")) bAdd) (cCall (cCons (c2 (cVar 0) (cC (.int 2)) ixA) cNil) c_write_expression) bAdd) (cC (.str "]")) bAdd)) sNext)
  (sSeq (cIf (c2 (cVar 1) (cC (.str "call")) kEq) (sRet (c2 (c2 (c2 (c2 (cVar 0) (cC (.int 1)) ixA) (cC (.str "(")) bAdd) (cStr1 (cC (.str ", ")) (cComp (c2 (cVar 0) (cC (.int 2)) ixA) (setN 5) [5] cYes (cCall (cCons (cVar 5) cNil) c_write_expression)) fJoin) bAdd) (cC (.str ")")) bAdd)) sNext)
  (sSeq (sSet 2 (cCall (cCons (cVar 0) cNil) F_binding_level))
  (sSeq (sSet 3 (cCall (cCons (c2 (cVar 0) (cC (.int 2)) ixA) (cCons (cCall (cCons (cVar 2) (cCons (cC (.int 2)) cNil)) fMax) cNil)) c_operand_text))
  (sSeq (sSet 4 (cCall (cCons (c2 (cVar 0) (cC (.int 3)) ixA) (cCons (c2 (cVar 2) (cC (.int 1)) bAdd) cNil)) c_operand_text))
  (sRet (c2 (c2 (c2 (c2 (cVar 3) (cC (.str " ")) bAdd) (c2 (cVar 0) (cC (.int 1)) ixA) bAdd) (cC (.str " ")) bAdd) (cVar 4) bAdd))))))))))
/-! operand_text -/
abbrev s_operand_text : Stmt := topS 3
abbrev N_operand_text : List Str := ["expression", "lowest", "text"]
theorem sc_operand_text : FnScope N_operand_text ["expression", "lowest"] (defScope s_operand_text) := ⟨rfl, rfl, rfl, by decide +kernel, rfl, by decide +kernel, by decide +kernel⟩
def b_operand_text (c_write_expression : List D → S → R D) (c_operand_text : List D → S → R D) : M Out :=
  (sSeq (sSet 2 (cCall (cCons (cVar 0) cNil) c_write_expression))
  (sSeq (cIf (c2 (cCall (cCons (cVar 0) cNil) F_binding_level) (cVar 1) kLt) (sRet (c2 (c2 (cC (.str "(")) (cVar 2) bAdd) (cC (.str ")")) bAdd)) sNext)
  (sRet (cVar 2))))
mutual
def R_write_expression : Nat → List D → S → R D
  | 0 => fun _ _ => .bad
  | n + 1 => fnD 6 1 (b_write_expression (R_write_expression n) (R_operand_text n))
def R_operand_text : Nat → List D → S → R D
  | 0 => fun _ _ => .bad
  | n + 1 => fnD 3 2 (b_operand_text (R_write_expression n) (R_operand_text n))
end
def F_write_expression : List D → S → R D := R_write_expression 32
/-! BadExpression.__init__ -/
abbrev s_BadExpression_init : Stmt := inClass (topS 7) 0
theorem sc_BadExpression_init : FnScope ["self", "text"] ["self", "text"] (defScope s_BadExpression_init) := ⟨rfl, rfl, rfl, by decide +kernel, rfl, by decide +kernel, by decide +kernel⟩
/-! run_end -/
abbrev s_run_end : Stmt := topS 24
abbrev N_run_end : List Str := ["text", "at", "end"]
theorem sc_run_end : FnScope N_run_end ["text", "at"] (defScope s_run_end) := ⟨rfl, rfl, rfl, by decide +kernel, rfl, by decide +kernel, by decide +kernel⟩
def b_run_end : M Out :=
  (sSeq (sSet 2 (cVar 1))
  (sSeq (sWhile (cAnd (c2 (cVar 2) (cCall (cCons (cVar 0) cNil) fLenA) kLt) (c2 (c2 (cVar 0) (cVar 2) ixA) (cC K_WORD_CHARS) kInA)) (sSet 2 (c2 (cVar 2) (cC (.int 1)) bAdd)))
  (sRet (cVar 2))))
def F_run_end : List D → S → R D := fnD 3 2 b_run_end
/-! run_token -/
abbrev s_run_token : Stmt := topS 25
abbrev N_run_token : List Str := ["run", "char"]
theorem sc_run_token : FnScope N_run_token ["run"] (defScope s_run_token) := ⟨rfl, rfl, rfl, by decide +kernel, rfl, by decide +kernel, by decide +kernel⟩
def b_run_token : M Out :=
  (sSeq (cIf (c2 (c2 (cVar 0) (cC (.int 0)) ixA) (cC K_LETTERS) kInA) (sSeq (cIf (c2 (cCall (cCons (cVar 0) cNil) fLenA) (cC K_LONGEST_WORD) kGt) (sRet (cC .non)) sNext)
  (sRet (cTup (cCons (cC (.str "word")) (cCons (cVar 0) cNil))))) sNext)
  (sSeq (cIf (cOr (c2 (cCall (cCons (cVar 0) cNil) fLenA) (cC K_LONGEST_NUMBER) kGt) (cAnd (c2 (c2 (cVar 0) (cC (.int 0)) ixA) (cC (.str "0")) kEq) (c2 (cCall (cCons (cVar 0) cNil) fLenA) (cC (.int 1)) kGt))) (sRet (cC .non)) sNext)
  (sSeq (sForS (cVar 0) (setN 1) (cIf (c2 (cVar 1) (cC K_DIGITS) kNotInA) (sRet (cC .non)) sNext))
  (sSeq (cIf (c2 (cCall (cCons (cVar 0) cNil) fIntS) (cC K_LIMIT) kGt) (sRet (cC .non)) sNext)
  (sRet (cTup (cCons (cC (.str "number")) (cCons (cCall (cCons (cVar 0) cNil) fIntS) cNil))))))))
def F_run_token : List D → S → R D := fnD 2 1 b_run_token
/-! sign_at -/
abbrev s_sign_at : Stmt := topS 26
abbrev N_sign_at : List Str := ["text", "at"]
theorem sc_sign_at : FnScope N_sign_at ["text", "at"] (defScope s_sign_at) := ⟨rfl, rfl, rfl, by decide +kernel, rfl, by decide +kernel, by decide +kernel⟩
def b_sign_at : M Out :=
  (sSeq (cIf (c2 (cSlice (cVar 0) (cPart (cVar 1)) (cPart (c2 (cVar 1) (cC (.int 2)) bAdd))) (cC K_LONG_SIGNS) kInA) (sRet (cSlice (cVar 0) (cPart (cVar 1)) (cPart (c2 (cVar 1) (cC (.int 2)) bAdd)))) sNext)
  (sSeq (cIf (c2 (c2 (cVar 0) (cVar 1) ixA) (cC K_SHORT_SIGNS) kInA) (sRet (c2 (cVar 0) (cVar 1) ixA)) sNext)
  (sRet (cC (.str "")))))
def F_sign_at : List D → S → R D := fnD 2 2 b_sign_at
/-! tokens_of -/
abbrev s_tokens_of : Stmt := topS 27
abbrev N_tokens_of : List Str := ["text", "tokens", "at", "end", "token", "sign"]
theorem sc_tokens_of : FnScope N_tokens_of ["text"] (defScope s_tokens_of) := ⟨rfl, rfl, rfl, by decide +kernel, rfl, by decide +kernel, by decide +kernel⟩
def b_tokens_of : M Out :=
  (sSeq (sSet 1 (cLst cNil))
  (sSeq (sSet 2 (cC (.int 0)))
  (sSeq (sWhile (c2 (cVar 2) (cCall (cCons (cVar 0) cNil) fLenA) kLt) (cIf (c2 (c2 (cVar 0) (cVar 2) ixA) (cC (.str " ")) kEq) (sSet 2 (c2 (cVar 2) (cC (.int 1)) bAdd)) (cIf (c2 (c2 (cVar 0) (cVar 2) ixA) (cC K_WORD_CHARS) kInA) (sSeq (sSet 3 (cCall (cCons (cVar 0) (cCons (cVar 2) cNil)) F_run_end))
  (sSeq (sSet 4 (cCall (cCons (cSlice (cVar 0) (cPart (cVar 2)) (cPart (cVar 3))) cNil) F_run_token))
  (sSeq (cIf (c2 (cVar 4) (cC .non) kIs) (sRet (cC .non)) sNext)
  (sSeq (sDrop (cMeth (cVar 1) (cCons (cVar 4) cNil) mAppend))
  (sSet 2 (cVar 3)))))) (sSeq (sSet 5 (cCall (cCons (cVar 0) (cCons (cVar 2) cNil)) F_sign_at))
  (sSeq (cIf (c2 (cVar 5) (cC (.str "")) kEq) (sRet (cC .non)) sNext)
  (sSeq (sDrop (cMeth (cVar 1) (cCons (cTup (cCons (cC (.str "sign")) (cCons (cVar 5) cNil))) cNil) mAppend))
  (sSet 2 (c2 (cVar 2) (cCall (cCons (cVar 5) cNil) fLenA) bAdd))))))))
  (sRet (cCall (cCons (cVar 1) cNil) fTuple)))))
def F_tokens_of : List D → S → R D := fnD 6 1 b_tokens_of
/-! is_one_of -/
abbrev s_is_one_of : Stmt := topS 28
abbrev N_is_one_of : List Str := ["tokens", "at", "signs"]
theorem sc_is_one_of : FnScope N_is_one_of ["tokens", "at", "signs"] (defScope s_is_one_of) := ⟨rfl, rfl, rfl, by decide +kernel, rfl, by decide +kernel, by decide +kernel⟩
def b_is_one_of : M Out :=
  (sRet (vAnd (c2 (cVar 1) (cCall (cCons (cVar 0) cNil) fLenA) (vK kLt)) (vAnd (c2 (c2 (c2 (cVar 0) (cVar 1) ixA) (cC (.int 0)) ixA) (cC (.str "number")) (vK kNeA)) (c2 (c2 (c2 (cVar 0) (cVar 1) ixA) (cC (.int 1)) ixA) (cVar 2) (vK kInA)))))
def F_is_one_of : List D → S → R D := fnD 3 3 b_is_one_of
/-! taken_join -/
abbrev s_taken_join : Stmt := topS 29
abbrev N_taken_join : List Str := ["sign", "left", "right", "depth"]
theorem sc_taken_join : FnScope N_taken_join ["sign", "left", "right"] (defScope s_taken_join) := ⟨rfl, rfl, rfl, by decide +kernel, rfl, by decide +kernel, by decide +kernel⟩
def b_taken_join : M Out :=
  (sSeq (cIf (c2 (cVar 2) (cC .non) kIs) (sRet (cC .non)) sNext)
  (sSeq (sSet 3 (c2 (cC (.int 1)) (cCall (cCons (c2 (cVar 1) (cC (.int 2)) ixA) (cCons (c2 (cVar 2) (cC (.int 2)) ixA) cNil)) fMax) bAdd))
  (sSeq (cIf (c2 (cVar 3) (cC K_DEEPEST) kGt) (sRet (cC .non)) sNext)
  (sRet (cTup (cCons (cTup (cCons (cC (.str "op")) (cCons (cVar 0) (cCons (c2 (cVar 1) (cC (.int 0)) ixA) (cCons (c2 (cVar 2) (cC (.int 0)) ixA) cNil))))) (cCons (c2 (cVar 2) (cC (.int 1)) ixA) (cCons (cVar 3) cNil))))))))
def F_taken_join : List D → S → R D := fnD 4 3 b_taken_join
/-! taken_read -/
abbrev s_taken_read : Stmt := topS 31
abbrev N_taken_read : List Str := ["tokens", "at", "opened", "inner"]
theorem sc_taken_read : FnScope N_taken_read ["tokens", "at", "opened"] (defScope s_taken_read) := ⟨rfl, rfl, rfl, by decide +kernel, rfl, by decide +kernel, by decide +kernel⟩
def b_taken_read (c_taken_read : List D → S → R D) (c_taken_call : List D → S → R D) (c_taken_atom : List D → S → R D) (c_taken_product : List D → S → R D) (c_taken_sum : List D → S → R D) (c_taken_whole : List D → S → R D) (c_taken_inside : List D → S → R D) : M Out :=
  (sSeq (sSet 3 (cCall (cCons (cVar 0) (cCons (c2 (cVar 1) (cC (.int 2)) bAdd) (cCons (c2 (cVar 2) (cC (.int 1)) bAdd) (cCons (cC (.str "]")) cNil)))) c_taken_inside))
  (sSeq (cIf (cOr (c2 (cVar 3) (cC .non) kIs) (c2 (c2 (cVar 3) (cC (.int 2)) ixA) (cC K_DEEPEST) kEq)) (sRet (cC .non)) sNext)
  (sRet (cTup (cCons (cTup (cCons (cC (.str "read")) (cCons (c2 (c2 (cVar 0) (cVar 1) ixA) (cC (.int 1)) ixA) (cCons (c2 (cVar 3) (cC (.int 0)) ixA) cNil)))) (cCons (c2 (cVar 3) (cC (.int 1)) ixA) (cCons (c2 (cC (.int 1)) (c2 (cVar 3) (cC (.int 2)) ixA) bAdd) cNil)))))))
/-! taken_call -/
abbrev s_taken_call : Stmt := topS 32
abbrev N_taken_call : List Str := ["tokens", "at", "opened", "word", "arguments", "depth", "end", "number", "part"]
theorem sc_taken_call : FnScope N_taken_call ["tokens", "at", "opened"] (defScope s_taken_call) := ⟨rfl, rfl, rfl, by decide +kernel, rfl, by decide +kernel, by decide +kernel⟩
def b_taken_call (c_taken_read : List D → S → R D) (c_taken_call : List D → S → R D) (c_taken_atom : List D → S → R D) (c_taken_product : List D → S → R D) (c_taken_sum : List D → S → R D) (c_taken_whole : List D → S → R D) (c_taken_inside : List D → S → R D) : M Out :=
  (sSeq (sSet 3 (c2 (c2 (cVar 0) (cVar 1) ixA) (cC (.int 1)) ixA))
  (sSeq (cIf (cOr (cNot (c1 (cCall (cCons (cVar 0) (cCons (c2 (cVar 1) (cC (.int 1)) bAdd) (cCons (cTup (cCons (cC (.str "(")) cNil)) cNil))) F_is_one_of) truD)) (c2 (cVar 2) (cC K_MOST_BRACKETS) kEq)) (sRet (cC .non)) sNext)
  (sSeq (sSet 4 (cLst cNil))
  (sSeq (sSet 5 (cC (.int 0)))
  (sSeq (sSet 6 (c2 (cVar 1) (cC (.int 1)) bAdd))
  (sSeq (sForR1 (cCons (c2 (cC K_ARGUMENT_COUNTS) (cVar 3) (ixC 101 T_ARGUMENT_COUNTS)) cNil) (setN 7) (sSeq (cIf (cAnd (c2 (cVar 7) (cC (.int 0)) kGt) (cNot (c1 (cCall (cCons (cVar 0) (cCons (cVar 6) (cCons (cTup (cCons (cC (.str ",")) cNil)) cNil))) F_is_one_of) truD))) (sRet (cC .non)) sNext)
  (sSeq (sSet 8 (cCall (cCons (cVar 0) (cCons (c2 (cVar 6) (cC (.int 1)) bAdd) (cCons (c2 (cVar 2) (cC (.int 1)) bAdd) cNil))) c_taken_whole))
  (sSeq (cIf (c2 (cVar 8) (cC .non) kIs) (sRet (cC .non)) sNext)
  (sSeq (sDrop (cMeth (cVar 4) (cCons (c2 (cVar 8) (cC (.int 0)) ixA) cNil) mAppend))
  (sSeq (sSet 6 (c2 (cVar 8) (cC (.int 1)) ixA))
  (sSet 5 (cCall (cCons (cVar 5) (cCons (c2 (cVar 8) (cC (.int 2)) ixA) cNil)) fMax))))))))
  (sSeq (cIf (cOr (cNot (c1 (cCall (cCons (cVar 0) (cCons (cVar 6) (cCons (cTup (cCons (cC (.str ")")) cNil)) cNil))) F_is_one_of) truD)) (c2 (cVar 5) (cC K_DEEPEST) kEq)) (sRet (cC .non)) sNext)
  (sRet (cTup (cCons (cTup (cCons (cC (.str "call")) (cCons (cVar 3) (cCons (cCall (cCons (cVar 4) cNil) fTuple) cNil)))) (cCons (c2 (cVar 6) (cC (.int 1)) bAdd) (cCons (c2 (cC (.int 1)) (cVar 5) bAdd) cNil))))))))))))
/-! taken_atom -/
abbrev s_taken_atom : Stmt := topS 33
abbrev N_taken_atom : List Str := ["tokens", "at", "opened", "kind", "value"]
theorem sc_taken_atom : FnScope N_taken_atom ["tokens", "at", "opened"] (defScope s_taken_atom) := ⟨rfl, rfl, rfl, by decide +kernel, rfl, by decide +kernel, by decide +kernel⟩
def b_taken_atom (c_taken_read : List D → S → R D) (c_taken_call : List D → S → R D) (c_taken_atom : List D → S → R D) (c_taken_product : List D → S → R D) (c_taken_sum : List D → S → R D) (c_taken_whole : List D → S → R D) (c_taken_inside : List D → S → R D) : M Out :=
  (sSeq (cIf (c2 (cVar 1) (cCall (cCons (cVar 0) cNil) fLenA) kGe) (sRet (cC .non)) sNext)
  (sSeq (sAsg (setT [3, 4]) (c2 (cVar 0) (cVar 1) ixA))
  (sSeq (cIf (c2 (cVar 3) (cC (.str "number")) kEq) (sRet (cTup (cCons (cTup (cCons (cC (.str "number")) (cCons (cVar 4) cNil))) (cCons (c2 (cVar 1) (cC (.int 1)) bAdd) (cCons (cC (.int 1)) cNil))))) sNext)
  (sSeq (cIf (c2 (cVar 4) (cC (.str "(")) kEq) (sRet (cCall (cCons (cVar 0) (cCons (c2 (cVar 1) (cC (.int 1)) bAdd) (cCons (c2 (cVar 2) (cC (.int 1)) bAdd) (cCons (cC (.str ")")) cNil)))) c_taken_inside)) sNext)
  (sSeq (cIf (c2 (cVar 4) (cC K_ARGUMENT_COUNTS) (kInC 101 T_ARGUMENT_COUNTS)) (sRet (cCall (cCons (cVar 0) (cCons (cVar 1) (cCons (cVar 2) cNil))) c_taken_call)) sNext)
  (sSeq (cIf (cOr (c2 (cVar 3) (cC (.str "sign")) kEq) (c2 (cVar 4) (cC K_NOT_NAMES) kInA)) (sRet (cC .non)) sNext)
  (sSeq (cIf (c1 (cCall (cCons (cVar 0) (cCons (c2 (cVar 1) (cC (.int 1)) bAdd) (cCons (cTup (cCons (cC (.str "[")) cNil)) cNil))) F_is_one_of) truD) (sRet (cCall (cCons (cVar 0) (cCons (cVar 1) (cCons (cVar 2) cNil))) c_taken_read)) sNext)
  (sRet (cTup (cCons (cTup (cCons (cC (.str "name")) (cCons (cVar 4) cNil))) (cCons (c2 (cVar 1) (cC (.int 1)) bAdd) (cCons (cC (.int 1)) cNil))))))))))))
/-! taken_product -/
abbrev s_taken_product : Stmt := topS 34
abbrev N_taken_product : List Str := ["tokens", "at", "opened", "taken", "sign"]
theorem sc_taken_product : FnScope N_taken_product ["tokens", "at", "opened"] (defScope s_taken_product) := ⟨rfl, rfl, rfl, by decide +kernel, rfl, by decide +kernel, by decide +kernel⟩
def b_taken_product (c_taken_read : List D → S → R D) (c_taken_call : List D → S → R D) (c_taken_atom : List D → S → R D) (c_taken_product : List D → S → R D) (c_taken_sum : List D → S → R D) (c_taken_whole : List D → S → R D) (c_taken_inside : List D → S → R D) : M Out :=
  (sSeq (sSet 3 (cCall (cCons (cVar 0) (cCons (cVar 1) (cCons (cVar 2) cNil))) c_taken_atom))
  (sSeq (sWhile (cAnd (c2 (cVar 3) (cC .non) kIsNot) (c1 (cCall (cCons (cVar 0) (cCons (c2 (cVar 3) (cC (.int 1)) ixA) (cCons (cC K_PRODUCT_OPERATORS) cNil))) F_is_one_of) truD)) (sSeq (sSet 4 (c2 (c2 (cVar 0) (c2 (cVar 3) (cC (.int 1)) ixA) ixA) (cC (.int 1)) ixA))
  (sSet 3 (cCall (cCons (cVar 4) (cCons (cVar 3) (cCons (cCall (cCons (cVar 0) (cCons (c2 (c2 (cVar 3) (cC (.int 1)) ixA) (cC (.int 1)) bAdd) (cCons (cVar 2) cNil))) c_taken_atom) cNil))) F_taken_join))))
  (sRet (cVar 3))))
/-! taken_sum -/
abbrev s_taken_sum : Stmt := topS 35
abbrev N_taken_sum : List Str := ["tokens", "at", "opened", "taken", "sign"]
theorem sc_taken_sum : FnScope N_taken_sum ["tokens", "at", "opened"] (defScope s_taken_sum) := ⟨rfl, rfl, rfl, by decide +kernel, rfl, by decide +kernel, by decide +kernel⟩
def b_taken_sum (c_taken_read : List D → S → R D) (c_taken_call : List D → S → R D) (c_taken_atom : List D → S → R D) (c_taken_product : List D → S → R D) (c_taken_sum : List D → S → R D) (c_taken_whole : List D → S → R D) (c_taken_inside : List D → S → R D) : M Out :=
  (sSeq (sSet 3 (cCall (cCons (cVar 0) (cCons (cVar 1) (cCons (cVar 2) cNil))) c_taken_product))
  (sSeq (sWhile (cAnd (c2 (cVar 3) (cC .non) kIsNot) (c1 (cCall (cCons (cVar 0) (cCons (c2 (cVar 3) (cC (.int 1)) ixA) (cCons (cC K_SUM_OPERATORS) cNil))) F_is_one_of) truD)) (sSeq (sSet 4 (c2 (c2 (cVar 0) (c2 (cVar 3) (cC (.int 1)) ixA) ixA) (cC (.int 1)) ixA))
  (sSet 3 (cCall (cCons (cVar 4) (cCons (cVar 3) (cCons (cCall (cCons (cVar 0) (cCons (c2 (c2 (cVar 3) (cC (.int 1)) ixA) (cC (.int 1)) bAdd) (cCons (cVar 2) cNil))) c_taken_product) cNil))) F_taken_join))))
  (sRet (cVar 3))))
/-! taken_whole -/
abbrev s_taken_whole : Stmt := topS 36
abbrev N_taken_whole : List Str := ["tokens", "at", "opened", "taken", "sign"]
theorem sc_taken_whole : FnScope N_taken_whole ["tokens", "at", "opened"] (defScope s_taken_whole) := ⟨rfl, rfl, rfl, by decide +kernel, rfl, by decide +kernel, by decide +kernel⟩
def b_taken_whole (c_taken_read : List D → S → R D) (c_taken_call : List D → S → R D) (c_taken_atom : List D → S → R D) (c_taken_product : List D → S → R D) (c_taken_sum : List D → S → R D) (c_taken_whole : List D → S → R D) (c_taken_inside : List D → S → R D) : M Out :=
  (sSeq (sSet 3 (cCall (cCons (cVar 0) (cCons (cVar 1) (cCons (cVar 2) cNil))) c_taken_sum))
  (sSeq (cIf (cAnd (c2 (cVar 3) (cC .non) kIsNot) (c1 (cCall (cCons (cVar 0) (cCons (c2 (cVar 3) (cC (.int 1)) ixA) (cCons (cC K_COMPARISONS) cNil))) F_is_one_of) truD)) (sSeq (sSet 4 (c2 (c2 (cVar 0) (c2 (cVar 3) (cC (.int 1)) ixA) ixA) (cC (.int 1)) ixA))
  (sSet 3 (cCall (cCons (cVar 4) (cCons (cVar 3) (cCons (cCall (cCons (cVar 0) (cCons (c2 (c2 (cVar 3) (cC (.int 1)) ixA) (cC (.int 1)) bAdd) (cCons (cVar 2) cNil))) c_taken_sum) cNil))) F_taken_join))) sNext)
  (sRet (cVar 3))))
/-! taken_inside -/
abbrev s_taken_inside : Stmt := topS 30
abbrev N_taken_inside : List Str := ["tokens", "at", "opened", "closing", "inner"]
theorem sc_taken_inside : FnScope N_taken_inside ["tokens", "at", "opened", "closing"] (defScope s_taken_inside) := ⟨rfl, rfl, rfl, by decide +kernel, rfl, by decide +kernel, by decide +kernel⟩
def b_taken_inside (c_taken_read : List D → S → R D) (c_taken_call : List D → S → R D) (c_taken_atom : List D → S → R D) (c_taken_product : List D → S → R D) (c_taken_sum : List D → S → R D) (c_taken_whole : List D → S → R D) (c_taken_inside : List D → S → R D) : M Out :=
  (sSeq (cIf (c2 (cVar 2) (cC K_MOST_BRACKETS) kGt) (sRet (cC .non)) sNext)
  (sSeq (sSet 4 (cCall (cCons (cVar 0) (cCons (cVar 1) (cCons (cVar 2) cNil))) c_taken_whole))
  (sSeq (cIf (cOr (c2 (cVar 4) (cC .non) kIs) (cNot (c1 (cCall (cCons (cVar 0) (cCons (c2 (cVar 4) (cC (.int 1)) ixA) (cCons (cTup (cCons (cVar 3) cNil)) cNil))) F_is_one_of) truD))) (sRet (cC .non)) sNext)
  (sRet (cTup (cCons (c2 (cVar 4) (cC (.int 0)) ixA) (cCons (c2 (c2 (cVar 4) (cC (.int 1)) ixA) (cC (.int 1)) bAdd) (cCons (c2 (cVar 4) (cC (.int 2)) ixA) cNil))))))))
mutual
def R_taken_read : Nat → List D → S → R D
  | 0 => fun _ _ => .bad
  | n + 1 => fnD 4 3 (b_taken_read (R_taken_read n) (R_taken_call n) (R_taken_atom n) (R_taken_product n) (R_taken_sum n) (R_taken_whole n) (R_taken_inside n))
def R_taken_call : Nat → List D → S → R D
  | 0 => fun _ _ => .bad
  | n + 1 => fnD 9 3 (b_taken_call (R_taken_read n) (R_taken_call n) (R_taken_atom n) (R_taken_product n) (R_taken_sum n) (R_taken_whole n) (R_taken_inside n))
def R_taken_atom : Nat → List D → S → R D
  | 0 => fun _ _ => .bad
  | n + 1 => fnD 5 3 (b_taken_atom (R_taken_read n) (R_taken_call n) (R_taken_atom n) (R_taken_product n) (R_taken_sum n) (R_taken_whole n) (R_taken_inside n))
def R_taken_product : Nat → List D → S → R D
  | 0 => fun _ _ => .bad
  | n + 1 => fnD 5 3 (b_taken_product (R_taken_read n) (R_taken_call n) (R_taken_atom n) (R_taken_product n) (R_taken_sum n) (R_taken_whole n) (R_taken_inside n))
def R_taken_sum : Nat → List D → S → R D
  | 0 => fun _ _ => .bad
  | n + 1 => fnD 5 3 (b_taken_sum (R_taken_read n) (R_taken_call n) (R_taken_atom n) (R_taken_product n) (R_taken_sum n) (R_taken_whole n) (R_taken_inside n))
def R_taken_whole : Nat → List D → S → R D
  | 0 => fun _ _ => .bad
  | n + 1 => fnD 5 3 (b_taken_whole (R_taken_read n) (R_taken_call n) (R_taken_atom n) (R_taken_product n) (R_taken_sum n) (R_taken_whole n) (R_taken_inside n))
def R_taken_inside : Nat → List D → S → R D
  | 0 => fun _ _ => .bad
  | n + 1 => fnD 5 4 (b_taken_inside (R_taken_read n) (R_taken_call n) (R_taken_atom n) (R_taken_product n) (R_taken_sum n) (R_taken_whole n) (R_taken_inside n))
end
def F_taken_whole : List D → S → R D := R_taken_whole 90
/-! take_expression -/
abbrev s_take_expression : Stmt := topS 37
abbrev N_take_expression : List Str := ["tokens", "at", "taken"]
theorem sc_take_expression : FnScope N_take_expression ["tokens", "at"] (defScope s_take_expression) := ⟨rfl, rfl, rfl, by decide +kernel, rfl, by decide +kernel, by decide +kernel⟩
def b_take_expression : M Out :=
  (sSeq (sSet 2 (cCall (cCons (cVar 0) (cCons (cVar 1) (cCons (cC (.int 0)) cNil))) F_taken_whole))
  (sSeq (cIf (c2 (cVar 2) (cC .non) kIs) (sRet (cC .non)) sNext)
  (sRet (cTup (cCons (c2 (cVar 2) (cC (.int 0)) ixA) (cCons (c2 (cVar 2) (cC (.int 1)) ixA) cNil))))))
def F_take_expression : List D → S → R D := fnD 3 2 b_take_expression
/-! read_expression -/
abbrev s_read_expression : Stmt := topS 38
abbrev N_read_expression : List Str := ["text", "tokens", "pair"]
theorem sc_read_expression : FnScope N_read_expression ["text"] (defScope s_read_expression) := ⟨rfl, rfl, rfl, by decide +kernel, rfl, by decide +kernel, by decide +kernel⟩
def b_read_expression : M Out :=
  (sSeq (sSet 1 (cCall (cCons (cVar 0) cNil) F_tokens_of))
  (sSeq (cIf (c2 (cVar 1) (cC .non) kIs) (sRaise 1 "text" (cCons (cVar 0) cNil)) sNext)
  (sSeq (sSet 2 (cCall (cCons (cVar 1) (cCons (cC (.int 0)) cNil)) F_take_expression))
  (sSeq (cIf (cOr (c2 (cVar 2) (cC .non) kIs) (c2 (c2 (cVar 2) (cC (.int 1)) ixA) (cCall (cCons (cVar 1) cNil) fLenA) kLt)) (sRaise 1 "text" (cCons (cVar 0) cNil)) sNext)
  (sRet (c2 (cVar 2) (cC (.int 0)) ixA))))))
def F_read_expression : List D → S → R D := fnD 3 1 b_read_expression
/-! _law_whole -/
abbrev s_law_whole : Stmt := topS 40
abbrev N_law_whole : List Str := ["value"]
theorem sc_law_whole : FnScope N_law_whole ["value"] (defScope s_law_whole) := ⟨rfl, rfl, rfl, by decide +kernel, rfl, by decide +kernel, by decide +kernel⟩
def b_law_whole : M Out :=
  (sRet (vAnd (cIs .int (cVar 0)) (vNot (cIs .bl (cVar 0)))))
def F_law_whole : List D → S → R D := fnD 1 1 b_law_whole
/-! _law_cell -/
abbrev s_law_cell : Stmt := topS 41
abbrev N_law_cell : List Str := ["script", "k", "seed", "cell"]
theorem sc_law_cell : FnScope N_law_cell ["script", "k"] (defScope s_law_cell) := ⟨rfl, rfl, rfl, by decide +kernel, rfl, by decide +kernel, by decide +kernel⟩
def b_law_cell : M Out :=
  (sSeq (cIf (c2 (cVar 1) (cCall (cCons (cVar 0) cNil) fLenA) kLt) (sRet (c2 (cVar 0) (cVar 1) ixA)) sNext)
  (sSeq (sSet 2 (cC (.int 17)))
  (sSeq (sForA 0 (setN 3) (sSet 2 (c2 (cCall (cCons (c2 (c2 (cVar 2) (cC (.int 31)) bMulA) (c2 (cCall (cCons (cVar 3) cNil) fInt) (cC (.int 1000003)) bMod) bAdd) cNil) fInt) (cC (.int 1000003)) bMod)))
  (sRet (c2 (cCall (cCons (c2 (c2 (c2 (cVar 2) (cC (.int 7)) bAdd) (c2 (cVar 1) (cC (.int 3)) bAdd) bMulA) (cC (.int 69621)) bMulA) cNil) fInt) (cC (.int 2147483647)) bMod)))))
def F_law_cell : List D → S → R D := fnD 4 2 b_law_cell
/-! _law_feed -/
abbrev s_law_feed : Stmt := topS 42
abbrev N_law_feed : List Str := ["cell", "rest"]
theorem sc_law_feed : FnScope N_law_feed ["cell"] (defScope s_law_feed) := ⟨rfl, rfl, rfl, by decide +kernel, rfl, by decide +kernel, by decide +kernel⟩
def b_law_feed : M Out :=
  (sSeq (sSet 1 (cCall (cCons (cVar 0) cNil) fInt))
  (sSeq (cIf (c2 (cVar 1) (c2 (cC (.int 10)) (cC (.int 18)) bPow) kGe) (sRet (cLst (cCons (cC (.int 1)) (cCons (c2 (cVar 1) (c2 (cC (.int 10)) (cC (.int 18)) bPow) bSub) (cCons (cC (.int 0)) cNil))))) sNext)
  (sRet (cLst (cCons (cC (.int 0)) (cCons (c2 (cCall (cCons (cVar 1) cNil) fInt) (cC (.int 2147483629)) bMod) (cCons (cC (.int 0)) cNil)))))))
def F_law_feed : List D → S → R D := fnD 2 1 b_law_feed
/-! _law_take -/
abbrev s_law_take : Stmt := topS 43
abbrev N_law_take : List Str := ["feed", "size", "twice", "digit"]
theorem sc_law_take : FnScope N_law_take ["feed", "size"] (defScope s_law_take) := ⟨rfl, rfl, rfl, by decide +kernel, rfl, by decide +kernel, by decide +kernel⟩
def b_law_take : M Out :=
  (sSeq (sSubA (cVar 0) (cC (.int 2)) (c2 (c2 (cVar 0) (cC (.int 2)) ixA) (cC (.int 1)) bAdd))
  (sSeq (cIf (cAnd (c2 (c2 (cVar 0) (cC (.int 0)) ixA) (cC (.int 1)) kEq) (c2 (c2 (cVar 0) (cC (.int 1)) ixA) (cC (.int 0)) kEq)) (sSeq (sSubA (cVar 0) (cC (.int 0)) (cC (.int 0)))
  (sSubA (cVar 0) (cC (.int 1)) (c2 (cC (.int 7919)) (c2 (cVar 0) (cC (.int 2)) ixA) bAdd))) sNext)
  (sSeq (cIf (c2 (c2 (cVar 0) (cC (.int 0)) ixA) (cC (.int 1)) kEq) (sSeq (sSet 3 (c2 (cCall (cCons (c2 (cVar 0) (cC (.int 1)) ixA) cNil) fInt) (cVar 1) bMod))
  (sSeq (sSubA (cVar 0) (cC (.int 1)) (c2 (cCall (cCons (c2 (cVar 0) (cC (.int 1)) ixA) cNil) fInt) (cVar 1) bDivA))
  (sRet (cVar 3)))) sNext)
  (sSeq (sSubA (cVar 0) (cC (.int 1)) (c2 (cCall (cCons (c2 (c2 (c2 (c2 (cVar 0) (cC (.int 1)) ixA) (cC (.int 48271)) bMulA) (c2 (cC (.int 974711)) (c2 (cVar 0) (cC (.int 2)) ixA) bMulA) bAdd) (cC (.int 12345)) bAdd) cNil) fInt) (cC (.int 2147483647)) bMod))
  (sSeq (sSet 2 (c2 (cCall (cCons (c2 (c2 (cVar 0) (cC (.int 1)) ixA) (c2 (c2 (c2 (cVar 0) (cC (.int 1)) ixA) (cC (.int 65537)) bDivA) (cC (.int 3)) bAdd) bMulA) cNil) fInt) (cC (.int 2147483629)) bMod))
  (sRet (c2 (c2 (cVar 2) (cC (.int 19)) bDivA) (cVar 1) bMod)))))))
def F_law_take : List D → S → R D := fnD 4 2 b_law_take
/-! _law_number -/
abbrev s_law_number : Stmt := topS 44
abbrev N_law_number : List Str := ["feed", "kind"]
theorem sc_law_number : FnScope N_law_number ["feed"] (defScope s_law_number) := ⟨rfl, rfl, rfl, by decide +kernel, rfl, by decide +kernel, by decide +kernel⟩
def b_law_number : M Out :=
  (sSeq (sSet 1 (cCall (cCons (cVar 0) (cCons (cC (.int 8)) cNil)) F_law_take))
  (sSeq (cIf (c2 (cVar 1) (cC (.int 3)) kLt) (sRet (cCall (cCons (cVar 0) (cCons (cC (.int 13)) cNil)) F_law_take)) sNext)
  (sSeq (cIf (c2 (cVar 1) (cC (.int 3)) kEq) (sRet (cCall (cCons (cVar 0) (cCons (cC (.int 1001)) cNil)) F_law_take)) sNext)
  (sSeq (cIf (c2 (cVar 1) (cC (.int 4)) kEq) (sRet (c2 (c2 (cC (.int 10)) (cC (.int 12)) bPow) (cCall (cCons (cVar 0) (cCons (cC (.int 3)) cNil)) F_law_take) bSub)) sNext)
  (sSeq (cIf (c2 (cVar 1) (cC (.int 5)) kEq) (sRet (c2 (c2 (c2 (cC (.int 10)) (cC (.int 6)) bPow) (cCall (cCons (cVar 0) (cCons (cC (.int 7)) cNil)) F_law_take) bAdd) (cC (.int 3)) bSub)) sNext)
  (sSeq (cIf (c2 (cVar 1) (cC (.int 6)) kEq) (sRet (cCall (cCons (cVar 0) (cCons (cC (.int 70)) cNil)) F_law_take)) sNext)
  (sRet (cCall (cCons (c2 (cC (.int 10)) (cC (.int 12)) bPow) (cCons (c2 (c2 (cCall (cCons (cVar 0) (cCons (c2 (c2 (cC (.int 10)) (cC (.int 6)) bPow) (cC (.int 1)) bAdd) cNil)) F_law_take) (c2 (cC (.int 10)) (cC (.int 6)) bPow) bMulA) (cCall (cCons (cVar 0) (cCons (c2 (cC (.int 10)) (cC (.int 6)) bPow) cNil)) F_law_take) bAdd) cNil)) fMin))))))))
def F_law_number : List D → S → R D := fnD 2 1 b_law_number
/-! _law_word -/
abbrev s_law_word : Stmt := topS 45
abbrev N_law_word : List Str := ["feed", "menu", "letters", "kind", "size", "word", "k"]
theorem sc_law_word : FnScope N_law_word ["feed"] (defScope s_law_word) := ⟨rfl, rfl, rfl, by decide +kernel, rfl, by decide +kernel, by decide +kernel⟩
def b_law_word : M Out :=
  (sSeq (sSet 1 (cLst (cCons (cC (.str "a")) (cCons (cC (.str "b")) (cCons (cC (.str "me")) (cCons (cC (.str "x_1")) (cCons (cC (.str "place")) (cCons (cC (.str "divs")) (cCons (cC (.str "mode")) (cCons (cC (.str "min2")) (cCons (cC (.str "maxi")) (cCons (cC (.str "pick_")) (cCons (cC (.str "nth0")) (cCons (cC (.str "whenever")) (cCons (cC (.str "mo")) (cCons (cC (.str "first")) (cCons (cC (.str "sum")) cNil)))))))))))))))))
  (sSeq (sSet 1 (c2 (cVar 1) (cLst (cCons (cC (.str "end")) (cCons (cC (.str "in")) (cCons (cC (.str "do")) (cCons (cC (.str "for")) (cCons (cC (.str "step")) (cCons (cC (.str "lanes")) (cCons (cC (.str "most")) (cCons (cC (.str "least")) (cCons (cC (.str "array")) cNil)))))))))) bAdd))
  (sSeq (sSet 2 (cC (.str "abcdefghijklmnopqrstuvwxyz0123456789_")))
  (sSeq (sSet 3 (cCall (cCons (cVar 0) (cCons (cC (.int 5)) cNil)) F_law_take))
  (sSeq (cIf (c2 (cVar 3) (cC (.int 0)) kEq) (sRet (c2 (cVar 1) (cCall (cCons (cVar 0) (cCons (cC (.int 24)) cNil)) F_law_take) ixA)) sNext)
  (sSeq (sSet 4 (c2 (cLst (cCons (cC (.int 1)) (cCons (cC (.int 2)) (cCons (cC (.int 12)) (cCons (c2 (cC (.int 1)) (cCall (cCons (cVar 0) (cCons (cC (.int 12)) cNil)) F_law_take) bAdd) cNil))))) (c2 (cVar 3) (cC (.int 1)) bSub) ixA))
  (sSeq (sSet 5 (c2 (cVar 2) (cCall (cCons (cVar 0) (cCons (cC (.int 26)) cNil)) F_law_take) ixA))
  (sSeq (sForR1 (cCons (c2 (cVar 4) (cC (.int 1)) bSub) cNil) (setN 6) (sSet 5 (c2 (cVar 5) (c2 (cVar 2) (cCall (cCons (cVar 0) (cCons (cC (.int 37)) cNil)) F_law_take) ixA) bAdd)))
  (sSeq (cIf (c2 (cVar 5) (cLst (cCons (cC (.str "div")) (cCons (cC (.str "mod")) (cCons (cC (.str "min")) (cCons (cC (.str "max")) (cCons (cC (.str "pick")) (cCons (cC (.str "nth")) (cCons (cC (.str "when")) cNil)))))))) kInA) (sSet 5 (c2 (cVar 5) (cC (.str "s")) bAdd)) sNext)
  (sRet (cVar 5)))))))))))
def F_law_word : List D → S → R D := fnD 7 1 b_law_word
/-! _law_near -/
abbrev s_law_near : Stmt := topS 46
abbrev N_law_near : List Str := ["feed", "word", "letters", "kind", "near", "at"]
theorem sc_law_near : FnScope N_law_near ["feed", "word"] (defScope s_law_near) := ⟨rfl, rfl, rfl, by decide +kernel, rfl, by decide +kernel, by decide +kernel⟩
def b_law_near : M Out :=
  (sSeq (sSet 2 (cC (.str "abcdefghijklmnopqrstuvwxyz0123456789_")))
  (sSeq (sSet 3 (cCall (cCons (cVar 0) (cCons (cC (.int 3)) cNil)) F_law_take))
  (sSeq (sSet 4 (c2 (cSlice (cVar 1) cNoPart (cPart (cC (.int 11)))) (c2 (cVar 2) (cCall (cCons (cVar 0) (cCons (cC (.int 37)) cNil)) F_law_take) ixA) bAdd))
  (sSeq (cIf (cAnd (c2 (cVar 3) (cC (.int 0)) kEq) (c2 (cCall (cCons (cVar 1) cNil) fLenA) (cC (.int 1)) kGt)) (sSet 4 (cSlice (cVar 1) cNoPart (cPart (c2 (cCall (cCons (cVar 1) cNil) fLenA) (cC (.int 1)) bSub)))) sNext)
  (sSeq (cIf (c2 (cVar 3) (cC (.int 1)) kEq) (sSeq (sSet 5 (cCall (cCons (cVar 0) (cCons (cCall (cCons (cVar 1) cNil) fLenA) cNil)) F_law_take))
  (sSet 4 (c2 (c2 (cSlice (cVar 1) cNoPart (cPart (cVar 5))) (c2 (cVar 2) (cCall (cCons (cVar 0) (cCons (cC (.int 26)) cNil)) F_law_take) ixA) bAdd) (cSlice (cVar 1) (cPart (c2 (cVar 5) (cC (.int 1)) bAdd)) cNoPart) bAdd))) sNext)
  (sSeq (cIf (c2 (cVar 4) (cLst (cCons (cC (.str "div")) (cCons (cC (.str "mod")) (cCons (cC (.str "min")) (cCons (cC (.str "max")) (cCons (cC (.str "pick")) (cCons (cC (.str "nth")) (cCons (cC (.str "when")) cNil)))))))) kInA) (sSet 4 (c2 (cVar 4) (cC (.str "s")) bAdd)) sNext)
  (sRet (cVar 4))))))))
def F_law_near : List D → S → R D := fnD 6 2 b_law_near
/-! _law_word_row -/
abbrev s_law_word_row : Stmt := topS 47
abbrev N_law_word_row : List Str := ["feed", "many", "words", "k", "word"]
theorem sc_law_word_row : FnScope N_law_word_row ["feed", "many"] (defScope s_law_word_row) := ⟨rfl, rfl, rfl, by decide +kernel, rfl, by decide +kernel, by decide +kernel⟩
def b_law_word_row : M Out :=
  (sSeq (sSet 2 (cLst cNil))
  (sSeq (sForR1 (cCons (cVar 1) cNil) (setN 3) (sSeq (sSet 4 (cCall (cCons (cVar 0) cNil) F_law_word))
  (sSeq (cIf (cAnd (c2 (cVar 3) (cC (.int 0)) kGt) (c2 (cCall (cCons (cVar 0) (cCons (cC (.int 3)) cNil)) F_law_take) (cC (.int 0)) kEq)) (sSet 4 (cCall (cCons (cVar 0) (cCons (c2 (cVar 2) (cCall (cCons (cVar 0) (cCons (cVar 3) cNil)) F_law_take) ixA) cNil)) F_law_near)) sNext)
  (sDrop (cMeth (cVar 2) (cCons (cVar 4) cNil) mAppend)))))
  (sRet (cVar 2))))
def F_law_word_row : List D → S → R D := fnD 5 2 b_law_word_row
/-! _law_leaf -/
abbrev s_law_leaf : Stmt := topS 48
abbrev N_law_leaf : List Str := ["feed", "names"]
theorem sc_law_leaf : FnScope N_law_leaf ["feed", "names"] (defScope s_law_leaf) := ⟨rfl, rfl, rfl, by decide +kernel, rfl, by decide +kernel, by decide +kernel⟩
def b_law_leaf : M Out :=
  (sSeq (cIf (c2 (cCall (cCons (cVar 0) (cCons (cC (.int 5)) cNil)) F_law_take) (cC (.int 2)) kLt) (sRet (cTup (cCons (cC (.str "number")) (cCons (cCall (cCons (cVar 0) cNil) F_law_number) cNil)))) sNext)
  (sRet (cTup (cCons (cC (.str "name")) (cCons (c2 (cVar 1) (cCall (cCons (cVar 0) (cCons (cCall (cCons (cVar 1) cNil) fLenA) cNil)) F_law_take) ixA) cNil)))))
def F_law_leaf : List D → S → R D := fnD 2 2 b_law_leaf
/-! _law_tree -/
abbrev s_law_tree : Stmt := topS 49
abbrev N_law_tree : List Str := ["feed", "room", "deep", "tight", "names", "arrays", "menu", "sort", "signs", "word", "many", "spine", "parts", "k"]
theorem sc_law_tree : FnScope N_law_tree ["feed", "room", "deep", "tight", "names", "arrays", "menu"] (defScope s_law_tree) := ⟨rfl, rfl, rfl, by decide +kernel, rfl, by decide +kernel, by decide +kernel⟩
def b_law_tree (c_law_tree : List D → S → R D) : M Out :=
  (sSeq (sSubA (cVar 1) (cC (.int 0)) (c2 (c2 (cVar 1) (cC (.int 0)) ixA) (cC (.int 1)) bSub))
  (sSeq (sSet 7 (c2 (cVar 6) (cCall (cCons (cVar 0) (cCons (cCall (cCons (cVar 6) cNil) fLenA) cNil)) F_law_take) ixA))
  (sSeq (cIf (cOr (c2 (cVar 2) (cC (.int 2)) kLt) (cAnd (cNot (c1 (cVar 3) truD)) (cOr (c2 (cVar 7) (cC (.str "leaf")) kEq) (c2 (c2 (cVar 1) (cC (.int 0)) ixA) (cC (.int 0)) kLt)))) (sRet (cCall (cCons (cVar 0) (cCons (cVar 4) cNil)) F_law_leaf)) sNext)
  (sSeq (sSet 8 (cLst (cCons (cC (.str "+")) (cCons (cC (.str "-")) (cCons (cC (.str "*")) (cCons (cC (.str "div")) (cCons (cC (.str "mod")) (cCons (cC (.str "+")) (cCons (cC (.str "-")) (cCons (cC (.str "*")) (cCons (cC (.str "div")) (cCons (cC (.str "mod")) (cCons (cC (.str "<")) (cCons (cC (.str "<=")) (cCons (cC (.str ">")) (cCons (cC (.str ">=")) (cCons (cC (.str "=")) (cCons (cC (.str "!=")) cNil))))))))))))))))))
  (sSeq (sSet 9 (c2 (cVar 8) (cCall (cCons (cVar 0) (cCons (cC (.int 16)) cNil)) F_law_take) ixA))
  (sSeq (sSet 10 (cC (.int 2)))
  (sSeq (cIf (c2 (cVar 7) (cC (.str "read")) kEq) (sSeq (sSet 9 (c2 (cVar 5) (cCall (cCons (cVar 0) (cCons (cCall (cCons (cVar 5) cNil) fLenA) cNil)) F_law_take) ixA))
  (sSet 10 (cC (.int 1)))) sNext)
  (sSeq (cIf (c2 (cVar 7) (cC (.str "call")) kEq) (sSeq (sSet 9 (c2 (cLst (cCons (cC (.str "min")) (cCons (cC (.str "max")) (cCons (cC (.str "pick")) (cCons (cC (.str "nth")) cNil))))) (cCall (cCons (cVar 0) (cCons (cC (.int 4)) cNil)) F_law_take) ixA))
  (sSet 10 (c2 (c2 (cC (.int 2)) (cCall (cCons (c2 (cVar 9) (cC (.str "pick")) (vK kEq)) cNil) fInt) bAdd) (cCall (cCons (c2 (cVar 9) (cC (.str "nth")) (vK kEq)) cNil) fInt) bSub))) sNext)
  (sSeq (sSet 11 (cCall (cCons (cVar 0) (cCons (cVar 10) cNil)) F_law_take))
  (sSeq (sSet 12 (cLst cNil))
  (sSeq (sForR1 (cCons (cVar 10) cNil) (setN 13) (cIf (cAnd (c1 (cVar 3) truD) (c2 (cVar 13) (cVar 11) kEq)) (sDrop (cMeth (cVar 12) (cCons (cCall (cCons (cVar 0) (cCons (cVar 1) (cCons (c2 (cVar 2) (cC (.int 1)) bSub) (cCons (cC (.bl true)) (cCons (cVar 4) (cCons (cVar 5) (cCons (cVar 6) cNil))))))) c_law_tree) cNil) mAppend)) (sDrop (cMeth (cVar 12) (cCons (cCall (cCons (cVar 0) (cCons (cVar 1) (cCons (c2 (cC (.int 1)) (cCall (cCons (cVar 0) (cCons (c2 (cVar 2) (cC (.int 1)) bSub) cNil)) F_law_take) bAdd) (cCons (cC (.bl false)) (cCons (cVar 4) (cCons (cVar 5) (cCons (cVar 6) cNil))))))) c_law_tree) cNil) mAppend))))
  (sSeq (cIf (c2 (cVar 7) (cC (.str "read")) kEq) (sRet (cTup (cCons (cC (.str "read")) (cCons (cVar 9) (cCons (c2 (cVar 12) (cC (.int 0)) ixA) cNil))))) sNext)
  (sSeq (cIf (c2 (cVar 7) (cC (.str "call")) kEq) (sRet (cTup (cCons (cC (.str "call")) (cCons (cVar 9) (cCons (cCall (cCons (cVar 12) cNil) fTuple) cNil))))) sNext)
  (sRet (cTup (cCons (cC (.str "op")) (cCons (cVar 9) (cCons (c2 (cVar 12) (cC (.int 0)) ixA) (cCons (c2 (cVar 12) (cC (.int 1)) ixA) cNil)))))))))))))))))))
def R_law_tree : Nat → List D → S → R D
  | 0 => fun _ _ => .bad
  | n + 1 => fnD 14 7 (b_law_tree (R_law_tree n))
def F_law_tree : List D → S → R D := R_law_tree 16
/-! _law_deep -/
abbrev s_law_deep : Stmt := topS 50
abbrev N_law_deep : List Str := ["feed", "kind"]
theorem sc_law_deep : FnScope N_law_deep ["feed"] (defScope s_law_deep) := ⟨rfl, rfl, rfl, by decide +kernel, rfl, by decide +kernel, by decide +kernel⟩
def b_law_deep : M Out :=
  (sSeq (sSet 1 (cCall (cCons (cVar 0) (cCons (cC (.int 5)) cNil)) F_law_take))
  (sSeq (cIf (c2 (cVar 1) (cC (.int 2)) kLt) (sRet (cC (.int 12))) sNext)
  (sSeq (cIf (c2 (cVar 1) (cC (.int 4)) kLt) (sRet (c2 (cC (.int 4)) (cCall (cCons (cVar 0) (cCons (cC (.int 9)) cNil)) F_law_take) bAdd)) sNext)
  (sRet (c2 (cC (.int 1)) (cCall (cCons (cVar 0) (cCons (cC (.int 12)) cNil)) F_law_take) bAdd)))))
def F_law_deep : List D → S → R D := fnD 2 1 b_law_deep
/-! _law_drawn -/
abbrev s_law_drawn : Stmt := topS 51
abbrev N_law_drawn : List Str := ["cell", "names", "arrays", "feed", "room", "menu"]
theorem sc_law_drawn : FnScope N_law_drawn ["cell", "names", "arrays"] (defScope s_law_drawn) := ⟨rfl, rfl, rfl, by decide +kernel, rfl, by decide +kernel, by decide +kernel⟩
def b_law_drawn : M Out :=
  (sSeq (sSet 3 (cCall (cCons (cVar 0) cNil) F_law_feed))
  (sSeq (sSet 4 (cLst (cCons (c2 (cLst (cCons (cC (.int 16)) (cCons (cC (.int 10)) (cCons (cC (.int 40)) (cCons (cC (.int 120)) cNil))))) (cCall (cCons (cVar 3) (cCons (cC (.int 4)) cNil)) F_law_take) ixA) cNil)))
  (sSeq (sSet 5 (cLst (cCons (cC (.str "leaf")) (cCons (cC (.str "read")) (cCons (cC (.str "op")) (cCons (cC (.str "op")) (cCons (cC (.str "op")) (cCons (cC (.str "op")) (cCons (cC (.str "op")) (cCons (cC (.str "call")) cNil))))))))))
  (sRet (cCall (cCons (cVar 3) (cCons (cVar 4) (cCons (cCall (cCons (cVar 3) cNil) F_law_deep) (cCons (cC (.bl true)) (cCons (cVar 1) (cCons (cVar 2) (cCons (cVar 5) cNil))))))) F_law_tree)))))
def F_law_drawn : List D → S → R D := fnD 6 3 b_law_drawn
/-! _law_parts -/
abbrev s_law_parts : Stmt := topS 52
abbrev N_law_parts : List Str := ["expr"]
theorem sc_law_parts : FnScope N_law_parts ["expr"] (defScope s_law_parts) := ⟨rfl, rfl, rfl, by decide +kernel, rfl, by decide +kernel, by decide +kernel⟩
def b_law_parts : M Out :=
  (sSeq (cIf (c2 (c2 (cVar 0) (cC (.int 0)) ixA) (cC (.str "read")) kEq) (sRet (cLst (cCons (c2 (cVar 0) (cC (.int 2)) ixA) cNil))) sNext)
  (sSeq (cIf (c2 (c2 (cVar 0) (cC (.int 0)) ixA) (cC (.str "op")) kEq) (sRet (cLst (cCons (c2 (cVar 0) (cC (.int 2)) ixA) (cCons (c2 (cVar 0) (cC (.int 3)) ixA) cNil)))) sNext)
  (sSeq (cIf (c2 (c2 (cVar 0) (cC (.int 0)) ixA) (cC (.str "call")) kEq) (sRet (cCall (cCons (c2 (cVar 0) (cC (.int 2)) ixA) cNil) fList)) sNext)
  (sRet (cLst cNil)))))
def F_law_parts : List D → S → R D := fnD 1 1 b_law_parts
/-! _law_subs -/
abbrev s_law_subs : Stmt := topS 53
abbrev N_law_subs : List Str := ["expr", "rows", "part"]
theorem sc_law_subs : FnScope N_law_subs ["expr"] (defScope s_law_subs) := ⟨rfl, rfl, rfl, by decide +kernel, rfl, by decide +kernel, by decide +kernel⟩
def b_law_subs (c_law_subs : List D → S → R D) : M Out :=
  (sSeq (sSet 1 (cLst (cCons (cVar 0) cNil)))
  (sSeq (sFor (cCall (cCons (cVar 0) cNil) F_law_parts) (setN 2) (sSet 1 (c2 (cVar 1) (cCall (cCons (cVar 2) cNil) c_law_subs) bAdd)))
  (sRet (cVar 1))))
def R_law_subs : Nat → List D → S → R D
  | 0 => fun _ _ => .bad
  | n + 1 => fnD 3 1 (b_law_subs (R_law_subs n))
def F_law_subs : List D → S → R D := R_law_subs 16
/-! _law_same -/
abbrev s_law_same : Stmt := topS 54
abbrev N_law_same : List Str := ["given", "due", "k"]
theorem sc_law_same : FnScope N_law_same ["given", "due"] (defScope s_law_same) := ⟨rfl, rfl, rfl, by decide +kernel, rfl, by decide +kernel, by decide +kernel⟩
def b_law_same (c_law_same : List D → S → R D) : M Out :=
  (sSeq (cIf (c1 (cIs .tup (cVar 1)) truD) (sSeq (cIf (cOr (cNot (c1 (cIs .tup (cVar 0)) truD)) (c2 (cCall (cCons (cVar 0) cNil) fLenA) (cCall (cCons (cVar 1) cNil) fLenA) kNeA)) (sRet (cC (.bl false))) sNext)
  (sSeq (sForR1 (cCons (cCall (cCons (cVar 1) cNil) fLenA) cNil) (setN 2) (cIf (cNot (c1 (cCall (cCons (c2 (cVar 0) (cVar 2) ixA) (cCons (c2 (cVar 1) (cVar 2) ixA) cNil)) c_law_same) truD)) (sRet (cC (.bl false))) sNext))
  (sRet (cC (.bl true))))) sNext)
  (sSeq (cIf (c1 (cIs .str (cVar 1)) truD) (sRet (vAnd (cIs .str (cVar 0)) (c2 (cVar 0) (cVar 1) (vK kEq)))) sNext)
  (sRet (vAnd (cCall (cCons (cVar 0) cNil) F_law_whole) (c2 (cVar 0) (cVar 1) (vK kEq))))))
def R_law_same : Nat → List D → S → R D
  | 0 => fun _ _ => .bad
  | n + 1 => fnD 3 2 (b_law_same (R_law_same n))
def F_law_same : List D → S → R D := R_law_same 40
/-! _law_level -/
abbrev s_law_level : Stmt := topS 55
abbrev N_law_level : List Str := ["expr"]
theorem sc_law_level : FnScope N_law_level ["expr"] (defScope s_law_level) := ⟨rfl, rfl, rfl, by decide +kernel, rfl, by decide +kernel, by decide +kernel⟩
def b_law_level : M Out :=
  (sSeq (cIf (c2 (c2 (cVar 0) (cC (.int 0)) ixA) (cC (.str "op")) kNeA) (sRet (cC (.int 4))) sNext)
  (sSeq (cIf (c2 (c2 (cVar 0) (cC (.int 1)) ixA) (cLst (cCons (cC (.str "+")) (cCons (cC (.str "-")) cNil))) kInA) (sRet (cC (.int 2))) sNext)
  (sSeq (cIf (c2 (c2 (cVar 0) (cC (.int 1)) ixA) (cLst (cCons (cC (.str "*")) (cCons (cC (.str "div")) (cCons (cC (.str "mod")) cNil)))) kInA) (sRet (cC (.int 3))) sNext)
  (sRet (cC (.int 1))))))
def F_law_level : List D → S → R D := fnD 1 1 b_law_level
/-! _law_needs -/
abbrev s_law_needs : Stmt := topS 56
abbrev N_law_needs : List Str := ["expr", "side", "outer", "inner"]
theorem sc_law_needs : FnScope N_law_needs ["expr", "side"] (defScope s_law_needs) := ⟨rfl, rfl, rfl, by decide +kernel, rfl, by decide +kernel, by decide +kernel⟩
def b_law_needs : M Out :=
  (sSeq (sSet 2 (cCall (cCons (cVar 0) cNil) F_law_level))
  (sSeq (sSet 3 (cCall (cCons (c2 (cVar 0) (cVar 1) ixA) cNil) F_law_level))
  (sSeq (cIf (c2 (cVar 3) (cC (.int 1)) kEq) (sRet (cC (.bl true))) sNext)
  (sSeq (cIf (c2 (cVar 1) (cC (.int 2)) kEq) (sRet (c2 (cVar 3) (cVar 2) (vK kLt))) sNext)
  (sRet (c2 (cVar 3) (cVar 2) (vK kLe)))))))
def F_law_needs : List D → S → R D := fnD 4 2 b_law_needs
/-! _law_written -/
abbrev s_law_written : Stmt := topS 57
abbrev N_law_written : List Str := ["expr", "texts", "side", "text", "part"]
theorem sc_law_written : FnScope N_law_written ["expr"] (defScope s_law_written) := ⟨rfl, rfl, rfl, by decide +kernel, rfl, by decide +kernel, by decide +kernel⟩
def b_law_written (c_law_written : List D → S → R D) : M Out :=
  (sSeq (cIf (c2 (c2 (cVar 0) (cC (.int 0)) ixA) (cC (.str "number")) kEq) (sRet (cCall (cCons (c2 (cVar 0) (cC (.int 1)) ixA) cNil) fStr)) sNext)
  (sSeq (cIf (c2 (c2 (cVar 0) (cC (.int 0)) ixA) (cC (.str "name")) kEq) (sRet (c2 (cVar 0) (cC (.int 1)) ixA)) sNext)
  (sSeq (cIf (c2 (c2 (cVar 0) (cC (.int 0)) ixA) (cC (.str "read")) kEq) (sRet (c2 (c2 (c2 (c2 (cVar 0) (cC (.int 1)) ixA) (cC (.str "[")) bAdd) (cCall (cCons (c2 (cVar 0) (cC (.int 2)) ixA) cNil) c_law_written) bAdd) (cC (.str "]")) bAdd)) sNext)
  (sSeq (cIf (c2 (c2 (cVar 0) (cC (.int 0)) ixA) (cC (.str "call")) kEq) (sRet (c2 (c2 (c2 (c2 (cVar 0) (cC (.int 1)) ixA) (cC (.str "(")) bAdd) (cStr1 (cC (.str ", ")) (cComp (c2 (cVar 0) (cC (.int 2)) ixA) (setN 4) [4] cYes (cCall (cCons (cVar 4) cNil) c_law_written)) fJoin) bAdd) (cC (.str ")")) bAdd)) sNext)
  (sSeq (sSet 1 (cLst cNil))
  (sSeq (sFor (cLst (cCons (cC (.int 2)) (cCons (cC (.int 3)) cNil))) (setN 2) (sSeq (sSet 3 (cCall (cCons (c2 (cVar 0) (cVar 2) ixA) cNil) c_law_written))
  (sSeq (cIf (c1 (cCall (cCons (cVar 0) (cCons (cVar 2) cNil)) F_law_needs) truD) (sSet 3 (c2 (c2 (cC (.str "(")) (cVar 3) bAdd) (cC (.str ")")) bAdd)) sNext)
  (sDrop (cMeth (cVar 1) (cCons (cVar 3) cNil) mAppend)))))
  (sRet (c2 (c2 (c2 (c2 (c2 (cVar 1) (cC (.int 0)) ixA) (cC (.str " ")) bAdd) (c2 (cVar 0) (cC (.int 1)) ixA) bAdd) (cC (.str " ")) bAdd) (c2 (cVar 1) (cC (.int 1)) ixA) bAdd))))))))
def R_law_written : Nat → List D → S → R D
  | 0 => fun _ _ => .bad
  | n + 1 => fnD 5 1 (b_law_written (R_law_written n))
def F_law_written : List D → S → R D := R_law_written 16
/-! _law_read -/
abbrev s_law_read : Stmt := topS 58
abbrev N_law_read : List Str := ["text"]
theorem sc_law_read : FnScope N_law_read ["text"] (defScope s_law_read) := ⟨rfl, rfl, rfl, by decide +kernel, rfl, by decide +kernel, by decide +kernel⟩
def b_law_read : M Out :=
  (sTry0 (sRet (cCall (cCons (cVar 0) cNil) F_read_expression)) (subC 1) (sRet (cC .non)))
def F_law_read : List D → S → R D := fnD 1 1 b_law_read
/-! _law_good -/
abbrev s_law_good : Stmt := topS 59
abbrev N_law_good : List Str := ["expr", "text"]
theorem sc_law_good : FnScope N_law_good ["expr"] (defScope s_law_good) := ⟨rfl, rfl, rfl, by decide +kernel, rfl, by decide +kernel, by decide +kernel⟩
def b_law_good : M Out :=
  (sSeq (sSet 1 (cCall (cCons (cVar 0) cNil) F_write_expression))
  (sSeq (cIf (cOr (cNot (c1 (cIs .str (cVar 1)) truD)) (c2 (cVar 1) (cCall (cCons (cVar 0) cNil) F_law_written) kNeA)) (sRet (cC (.bl false))) sNext)
  (sRet (cCall (cCons (cCall (cCons (cVar 1) cNil) F_law_read) (cCons (cVar 0) cNil)) F_law_same))))
def F_law_good : List D → S → R D := fnD 2 1 b_law_good
/-! _law_pairs -/
abbrev s_law_pairs : Stmt := topS 60
abbrev N_law_pairs : List Str := ["feed", "sign", "names", "arrays", "menu", "parts", "inner", "left", "right", "expr", "k"]
theorem sc_law_pairs : FnScope N_law_pairs ["feed", "sign", "names", "arrays"] (defScope s_law_pairs) := ⟨rfl, rfl, rfl, by decide +kernel, rfl, by decide +kernel, by decide +kernel⟩
def b_law_pairs : M Out :=
  (sSeq (sSet 4 (cLst (cCons (cC (.str "leaf")) (cCons (cC (.str "leaf")) (cCons (cC (.str "read")) (cCons (cC (.str "call")) (cCons (cC (.str "op")) cNil)))))))
  (sSeq (sSet 5 (cCompR1 (cCons (cC (.int 3)) cNil) (setN 10) [10] cYes (cCall (cCons (cVar 0) (cCons (cLst (cCons (cC (.int 5)) cNil)) (cCons (c2 (cC (.int 1)) (cCall (cCons (cVar 0) (cCons (cC (.int 3)) cNil)) F_law_take) bAdd) (cCons (cC (.bl false)) (cCons (cVar 2) (cCons (cVar 3) (cCons (cVar 4) cNil))))))) F_law_tree)))
  (sSeq (sFor (cLst (cCons (cC (.str "+")) (cCons (cC (.str "-")) (cCons (cC (.str "*")) (cCons (cC (.str "div")) (cCons (cC (.str "mod")) (cCons (cC (.str "<")) (cCons (cC (.str "<=")) (cCons (cC (.str ">")) (cCons (cC (.str ">=")) (cCons (cC (.str "=")) (cCons (cC (.str "!=")) cNil)))))))))))) (setN 6) (sSeq (sSet 7 (cTup (cCons (cC (.str "op")) (cCons (cVar 6) (cCons (c2 (cVar 5) (cC (.int 0)) ixA) (cCons (c2 (cVar 5) (cC (.int 1)) ixA) cNil))))))
  (sSeq (sSet 8 (cTup (cCons (cC (.str "op")) (cCons (cVar 6) (cCons (c2 (cVar 5) (cC (.int 1)) ixA) (cCons (c2 (cVar 5) (cC (.int 2)) ixA) cNil))))))
  (sFor (cLst (cCons (cTup (cCons (cC (.str "op")) (cCons (cVar 1) (cCons (cVar 7) (cCons (c2 (cVar 5) (cC (.int 2)) ixA) cNil))))) (cCons (cTup (cCons (cC (.str "op")) (cCons (cVar 1) (cCons (c2 (cVar 5) (cC (.int 0)) ixA) (cCons (cVar 8) cNil))))) (cCons (cTup (cCons (cC (.str "op")) (cCons (cVar 1) (cCons (cVar 7) (cCons (cVar 8) cNil))))) cNil)))) (setN 9) (cIf (cNot (c1 (cCall (cCons (cVar 9) cNil) F_law_good) truD)) (sRet (cC (.bl false))) sNext)))))
  (sRet (cC (.bl true))))))
def F_law_pairs : List D → S → R D := fnD 11 4 b_law_pairs
/-! law -/
abbrev s_law : Stmt := topS 61
abbrev N_law : List Str := ["script", "feed", "names", "arrays", "expr", "part", "draw", "sign"]
theorem sc_law : FnScope N_law ["script"] (defScope s_law) := ⟨rfl, rfl, rfl, by decide +kernel, rfl, by decide +kernel, by decide +kernel⟩
def b_law : M Out :=
  (sSeq (sSet 1 (cCall (cCons (cCall (cCons (cVar 0) (cCons (cC (.int 0)) cNil)) F_law_cell) cNil) F_law_feed))
  (sSeq (sSet 2 (cCall (cCons (cVar 1) (cCons (c2 (cC (.int 1)) (cCall (cCons (cVar 1) (cCons (cC (.int 6)) cNil)) F_law_take) bAdd) cNil)) F_law_word_row))
  (sSeq (sSet 3 (cCall (cCons (cVar 1) (cCons (c2 (cC (.int 1)) (cCall (cCons (cVar 1) (cCons (cC (.int 4)) cNil)) F_law_take) bAdd) cNil)) F_law_word_row))
  (sSeq (cIf (c2 (cCall (cCons (cVar 1) (cCons (cC (.int 3)) cNil)) F_law_take) (cC (.int 0)) kEq) (sDrop (cMeth (cVar 3) (cCons (c2 (cVar 2) (cC (.int 0)) ixA) cNil) mAppend)) sNext)
  (sSeq (sSet 4 (cCall (cCons (cCall (cCons (cVar 0) (cCons (cC (.int 1)) cNil)) F_law_cell) (cCons (cVar 2) (cCons (cVar 3) cNil))) F_law_drawn))
  (sSeq (sFor (cCall (cCons (cVar 4) cNil) F_law_subs) (setN 5) (cIf (cNot (c1 (cCall (cCons (cVar 5) cNil) F_law_good) truD)) (sRet (cC (.bl false))) sNext))
  (sSeq (sSet 6 (cCall (cCons (cCall (cCons (cVar 0) (cCons (cC (.int 2)) cNil)) F_law_cell) cNil) F_law_feed))
  (sSeq (sSet 7 (c2 (cLst (cCons (cC (.str "+")) (cCons (cC (.str "-")) (cCons (cC (.str "*")) (cCons (cC (.str "div")) (cCons (cC (.str "mod")) (cCons (cC (.str "<")) (cCons (cC (.str "<=")) (cCons (cC (.str ">")) (cCons (cC (.str ">=")) (cCons (cC (.str "=")) (cCons (cC (.str "!=")) cNil)))))))))))) (cCall (cCons (cVar 6) (cCons (cC (.int 11)) cNil)) F_law_take) ixA))
  (sSeq (cIf (cNot (c1 (cCall (cCons (cCallK cNil (cCons (cVar 4) cNil) (selK 0 1 [.inr 0]) F_write_expression) (cCons (cCall (cCons (cVar 4) cNil) F_law_written) cNil)) F_law_same) truD)) (sRet (cC (.bl false))) sNext)
  (sRet (vAnd (cCall (cCons (cVar 6) (cCons (cVar 7) (cCons (cVar 2) (cCons (cVar 3) cNil)))) F_law_pairs) (cCall (cCons (cVar 4) cNil) F_law_good))))))))))))
def F_law : List D → S → R D := fnD 8 1 b_law
end K02
end
section
set_option Elab.async false
set_option linter.all false
set_option maxRecDepth 100000
set_option maxHeartbeats 400000
open PySem PySem.Spec PyProof.Rows L2 Z
local macro_rules | `(tactic| fail "zs") => `(tactic| first
  | assumption
  | with_reducible exact at_last
  | (with_reducible apply at_set; fail "zs")
  | (with_reducible apply at_app; fail "zs")
  | (with_reducible apply at_setne; (first | assumption | (apply Ne.symm; assumption) | omega); fail "zs")
  | (with_reducible refine Gr.keep (by assumption) ?_; fail "zs")
  | (with_reducible refine Gx.keep (by assumption) ?_ ?_; (first | assumption | (apply Ne.symm; assumption) | omega); fail "zs"))
local macro_rules | `(tactic| fail "zg") => `(tactic| first
  | assumption
  | (with_reducible apply getL_of; fail "zs")
  | (with_reducible apply getW_of; fail "zs")
  | (with_reducible apply getI_of; fail "zs"))
local macro_rules | `(tactic| fail "za") => `(tactic| first | (with_reducible apply atI_int; (first | assumption | omega); (first | assumption | omega | (simp only [List.length_set]; omega))) | with_unfolding_all exact rfl | assumption)
local macro_rules | `(tactic| fail "y0") => `(tactic| first
  | (with_reducible refine' wp_var ?z1 ?z2; (case z1 => with_unfolding_all exact rfl))
  | with_reducible refine wp_c2 ?_
  | with_reducible refine wp_cons ?_
  | with_reducible refine wp_c ?_
  | with_reducible refine wp_nil ?_
  | with_reducible refine wp_call ?_
  | with_reducible refine wp_c1 ?_)
local macro_rules | `(tactic| fail "y1") => `(tactic| first
  | with_reducible refine wp_set ?_
  | with_reducible refine wp_if ?_
  | with_reducible refine wp_next ?_
  | with_reducible refine wp_ret ?_
  | with_reducible refine af_nx ?_
  | with_reducible refine bk_rt ?_
  | (with_reducible refine' wp_ixL ?z1 ?z2 ?z3; (case z1 => fail "zg"); (case z2 => fail "za"))
  | (with_reducible refine' wp_ixT ?z1 ?z2; (case z1 => fail "za")))
local macro_rules | `(tactic| fail "y2") => `(tactic| first
  | with_reducible refine af_rt ?_
  | with_reducible refine af_bk ?_
  | with_reducible refine bk_nx ?_
  | with_reducible refine turned_nx ?_
  | with_reducible refine turned_bk ?_
  | with_reducible refine turned_rt ?_
  | with_reducible refine wp_and ?_
  | with_reducible refine wp_or ?_)
local macro_rules | `(tactic| fail "y3") => `(tactic| first
  | with_reducible refine wp_not ?_
  | with_reducible refine wp_sub ?_
  | with_reducible refine wp_subA ?_
  | with_reducible refine wp_chain ?_
  | with_reducible refine wp_neAI ?_
  | with_reducible refine wp_neAS ?_
  | with_reducible refine wp_dic0 ?_
  | with_reducible refine wp_drop ?_)
local macro_rules | `(tactic| fail "y4") => `(tactic| first
  | with_reducible refine wp_vK ?_
  | with_reducible refine wp_nox ?_
  | with_reducible refine wp_break ?_
  | with_reducible refine wp_retN ?_
  | with_reducible refine wp_sfld ?_
  | with_reducible refine wp_yes ?_
  | with_reducible refine wp_addI ?_
  | with_reducible refine wp_subI ?_)
local macro_rules | `(tactic| fail "y5") => `(tactic| first
  | with_reducible refine wp_neg ?_
  | with_reducible refine wp_eqI ?_
  | with_reducible refine wp_neI ?_
  | with_reducible refine wp_ltI ?_
  | with_reducible refine wp_leI ?_
  | with_reducible refine wp_gtI ?_
  | with_reducible refine wp_geI ?_
  | with_reducible refine wp_eqS ?_)
local macro_rules | `(tactic| fail "y6") => `(tactic| first
  | with_reducible refine wp_neS ?_
  | with_reducible refine wp_eqB ?_
  | with_reducible refine wp_isN ?_
  | with_reducible refine wp_isNotN ?_
  | with_reducible refine wp_int ?_
  | with_reducible refine wp_max2 ?_
  | with_reducible refine wp_min2 ?_
  | with_reducible refine wp_tr_bl ?_)
local macro_rules | `(tactic| fail "y7") => `(tactic| first
  | with_reducible refine wp_tr_int ?_
  | with_reducible refine wp_tupT ?_
  | with_reducible refine wp_slT ?_
  | with_reducible refine wp_nopart ?_
  | with_reducible refine wp_lst ?_
  | with_reducible refine wp_tup ?_
  | with_reducible refine wp_slice ?_
  | with_reducible refine wp_callK ?_)
local macro_rules | `(tactic| fail "y8") => `(tactic| first
  | with_reducible refine wp_make ?_
  | with_reducible refine wp_meth ?_
  | with_reducible refine wp_is ?_
  | with_reducible refine wp_vand ?_
  | with_reducible refine wp_vor ?_
  | with_reducible refine wp_vnot ?_
  | with_reducible refine wp_asg ?_
  | with_reducible refine wp_part ?_)
local macro_rules | `(tactic| fail "y9") => `(tactic| first
  | with_reducible refine wp_forR1 ?_
  | with_reducible refine wp_forR2 ?_
  | with_reducible refine wp_compR1 ?_
  | with_reducible refine wp_compR2 ?_
  | (with_reducible refine' wp_ixAL ?z1 ?z2 ?z3; (case z1 => fail "zg"); (case z2 => fail "za"))
  | (with_reducible refine' wp_ixAT ?z1 ?z2; (case z1 => fail "za"))
  | (with_reducible refine' and_isL ?z1 ?z2; (case z1 => fail "zg"))
  | (with_reducible refine' wp_append ?z1 ?z2 ?z3; (case z1 => fail "zg"); (case z2 => first | omega | (simp only [List.length_map, List.length_append, List.length_cons, List.length_nil]; omega))))
local macro_rules | `(tactic| fail "y10") => `(tactic| first
  | (with_reducible refine' wp_lenL ?z1 ?z2; (case z1 => fail "zg"))
  | with_reducible refine wp_lenT ?_
  | (with_reducible refine' wp_lenAL ?z1 ?z2; (case z1 => fail "zg"))
  | with_reducible refine wp_lenAT ?_
  | (with_reducible refine' wp_listL ?z1 ?z2; (case z1 => fail "zg"))
  | with_reducible refine wp_listT ?_
  | with_reducible refine ex_bl ?_
  | (with_reducible refine' ex_ty ?z1 ?z2 ?z3; (case z1 => with_unfolding_all exact rfl); (case z2 => with_unfolding_all exact rfl)))
local macro_rules | `(tactic| fail "y11") => `(tactic| first
  | (with_reducible refine' wp_mulT ?z1 ?z2 ?z3; (case z1 => omega); (case z2 => omega))
  | (with_reducible refine' wp_setF ?z1 ?z2 ?z3; (case z1 => fail "zg"); (case z2 => with_unfolding_all exact Nat.le_of_ble_eq_true rfl))
  | (with_reducible refine' wp_setInt ?z1 ?z2 ?z3 ?z4; (case z1 => fail "zg"); (case z2 => first | assumption | omega); (case z3 => first | assumption | omega | (simp only [List.length_set]; omega)))
  | (with_reducible refine' wp_setIx ?z1 ?z2 ?z3; (case z1 => fail "zg"); (case z2 => first | (with_reducible apply ixN_of; (first | assumption | omega); (first | assumption | omega | (rw [List.length_map]; omega))) | with_unfolding_all exact rfl | assumption))
  | (with_reducible refine' wp_setAI ?z1 ?z2 ?z3 ?z4; (case z1 => fail "zg"); (case z2 => first | assumption | omega); (case z3 => first | assumption | omega | (simp only [List.length_set]; omega)))
  | (with_reducible refine' wp_setAX ?z1 ?z2 ?z3; (case z1 => fail "zg"); (case z2 => first | (with_reducible apply ixN_of; (first | assumption | omega); (first | assumption | omega | (rw [List.length_map]; omega))) | with_unfolding_all exact rfl | assumption))
  | (with_reducible refine' wp_modI ?z1 ?z2; (case z1 => omega))
  | (with_reducible refine' wp_divA0 ?z1 ?z2 ?z3; (case z1 => omega); (case z2 => omega)))
local macro_rules | `(tactic| fail "y12") => `(tactic| first
  | (with_reducible refine' wp_mulA ?z1 ?z2; (case z1 => omega))
  | (with_reducible refine' wp_divI ?z1 ?z2 ?z3; (case z1 => omega); (case z2 => omega))
  | (with_reducible refine' wp_mulI ?z1 ?z2; (case z1 => omega))
  | (with_reducible refine' wp_powI ?z1 ?z2; (case z1 => with_unfolding_all decide))
  | (with_reducible refine' wp_fld ?z1 ?z2 ?z3; (case z1 => fail "zg"); (case z2 => first | with_unfolding_all exact rfl | assumption))
  | (with_reducible refine' wp_prop ?z1 ?z2; (case z1 => fail "zg"))
  | (with_reducible refine' wp_tupL ?z1 ?z2; (case z1 => fail "zg"))
  | (with_reducible refine' And.intro ?z1 ?z2; (case z1 => first | with_unfolding_all exact Nat.le_of_ble_eq_true rfl | with_unfolding_all decide)))
local macro_rules | `(tactic| fail "z0") => `(tactic| first | fail "y0" | fail "y1" | fail "y2" | fail "y3" | fail "y4" | fail "y5" | fail "y6" | fail "y7" | fail "y8" | fail "y9" | fail "y10" | fail "y11" | fail "y12")
local macro_rules | `(tactic| fail "z1") => `(tactic| first | with_reducible refine wp_seq ?_ | fail "z0")
local macro_rules | `(tactic| walk_at "z") => `(tactic| (repeat fail "z1"))
local macro_rules | `(tactic| fail "zb") => `(tactic| (with_reducible refine And.intro ?_ ?_; (all_goals (intro hb; first | (simp at hb; done) | (simp at hb; skip) | skip))))
local macro_rules | `(tactic| walk_at "zz") => `(tactic| (repeat' (first | fail "z1" | fail "zb")))
local macro_rules | `(tactic| walk_at "zy") => `(tactic| (repeat' (first | fail "z0" | fail "zb")))
local macro_rules | `(tactic| walk_at "zn") => `(tactic| (with_reducible refine wp_seq ?_; walk_at "zy"))
local macro_rules | `(tactic| walk_at "zs") => `(tactic| fail "zs")
local macro_rules | `(tactic| walk_at "zg") => `(tactic| fail "zg")
local macro_rules | `(tactic| walk_at "za") => `(tactic| fail "za")
local macro_rules | `(tactic| walk_at "z0") => `(tactic| fail "z0")
local macro_rules | `(tactic| walk_at "z1") => `(tactic| fail "z1")
local macro_rules | `(tactic| walk_at "zb") => `(tactic| fail "zb")
namespace K02
open PySem PySem.Spec PyProof.Rows L2 Z
/-- a feed stands at a -/
def Feed (st : S) (a : Nat) : Prop := ∃ m r c : Int, st[a]? = some (.lst [.int m, .int r, .int c])
theorem Feed.lt {st : S} {a : Nat} (h : Feed st a) : a < st.length := by
  obtain ⟨m, r, c, h⟩ := h
  exact at_lt h
theorem Feed.gr {st s : S} {a : Nat} (h : Feed st a) (g : Gr st s) : Feed s a := by
  obtain ⟨m, r, c, h⟩ := h
  exact ⟨m, r, c, g.keep h⟩
theorem Feed.gx {st s : S} {a b : Nat} (h : Feed st a) (g : Gx b st s) (e : a ≠ b) : Feed s a := by
  obtain ⟨m, r, c, h⟩ := h
  exact ⟨m, r, c, g.keep e h⟩
theorem Feed.set {st : S} {a b : Nat} {o : O} (h : Feed st a) (e : b ≠ a) : Feed (st.set b o) a := by
  obtain ⟨m, r, c, h⟩ := h
  exact ⟨m, r, c, at_setne e h⟩
theorem take_wp {st : S} {a : Nat} {n : Int} {Q : D → S → Prop} (hf : Feed st a) (h0 : 0 < n) (h1 : n < 1073741824) (q : ∀ (d : Int) (s : S), 0 ≤ d → d < n → Gx a st s → Feed s a → s.length = st.length → Q (.int d) s) : Wp (F_law_take [.loc a, .int n] st) Q := by
  have q : ∀ (d m r c : Int), 0 ≤ d → d < n → Q (.int d) (st.set a (.lst [.int m, .int r, .int c])) := fun d m r c x y => q d _ x y Gx.set ⟨m, r, c, by
    obtain ⟨m, r, c, h⟩ := hf
    exact at_set h⟩ (by rw [List.length_set])
  obtain ⟨m, r, c, h⟩ := hf
  unfold F_law_take b_law_take
  refine wp_fn rfl ?_
  walk_at "zz"
  all_goals (simp only [List.set_set]; exact q _ _ _ _ (Int.emod_nonneg _ (by omega)) (Int.emod_lt_of_pos _ h0))
theorem feed_wp {st : S} {n : Int} {Q : D → S → Prop} (q : ∀ (s : S), Gr st s → Feed s st.length → s.length = st.length + 1 → Q (.loc st.length) s) : Wp (F_law_feed [.int n] st) Q := by
  have q : ∀ (m r c : Int), Q (.loc st.length) (st ++ [.lst [.int m, .int r, .int c]]) := fun m r c => q _ Gr.app ⟨m, r, c, at_last⟩ (by rw [List.length_append]; rfl)
  unfold F_law_feed b_law_feed
  refine wp_fn rfl ?_
  walk_at "zz"
  all_goals exact q _ _ _
theorem cell_wp {st : S} {k : Int} {a : Nat} {ns : List Int} {Q : D → S → Prop} (hs : st[a]? = some (.ro (ns.map D.int))) (hn : ns.length < 1000000) (h0 : 0 ≤ k) (h1 : k < 1000000) (q : ∀ d : Int, Q (.int d) st) : Wp (F_law_cell [.loc a, .int k] st) Q := by
  unfold F_law_cell b_law_cell
  refine wp_fn rfl ?_
  walk_at "zz"
  refine wp_lenAL (getL_ro hs) ?_
  walk_at "zz"
  · rename_i hb
    refine wp_ixAL (getL_ro hs) (atI_int h0 hb) ?_
    walk_at "zz"
    exact q _
  · refine wp_forAL rfl (getL_ro hs) ?_
    refine (wp_forL (xs := ns.map D.int) (fun i es s => s = st ∧ ∃ (x : Int) (y : Option D), es = [some (.loc a), some (.int k), some (.int x), y]) ⟨rfl, 17, none, rfl⟩ ?_ (by rw [List.length_map]; exact hn) ?_ ?_)
    · rintro i es s - ⟨rfl, -⟩
      exact getL_ro hs
    · rintro i d es s hd ⟨rfl, x, y, rfl⟩
      obtain ⟨v, rfl, -⟩ := get_map_int hd
      refine ⟨_, rfl, ?_⟩
      walk_at "zz"
      exact ⟨rfl, _, _, rfl⟩
    · rintro es s ⟨rfl, x, y, rfl⟩
      walk_at "zz"
      exact q _
end K02
end
section
set_option Elab.async false
set_option linter.all false
set_option maxRecDepth 100000
set_option maxHeartbeats 4000000
open PySem PySem.Spec PyProof.Rows L2 Z
local macro_rules | `(tactic| fail "zs") => `(tactic| first
  | assumption
  | with_reducible exact at_last
  | (with_reducible apply at_set; fail "zs")
  | (with_reducible apply at_app; fail "zs")
  | (with_reducible apply at_setne; (first | assumption | (apply Ne.symm; assumption) | omega); fail "zs")
  | (with_reducible refine Gr.keep (by assumption) ?_; fail "zs")
  | (with_reducible refine Gx.keep (by assumption) ?_ ?_; (first | assumption | (apply Ne.symm; assumption) | omega); fail "zs"))
local macro_rules | `(tactic| fail "zg") => `(tactic| first
  | assumption
  | (with_reducible apply getL_of; fail "zs")
  | (with_reducible apply getW_of; fail "zs")
  | (with_reducible apply getI_of; fail "zs"))
local macro_rules | `(tactic| fail "za") => `(tactic| first | (with_reducible apply atI_int; (first | assumption | omega); (first | assumption | omega | (simp only [List.length_set]; omega))) | with_unfolding_all exact rfl | assumption)
local macro_rules | `(tactic| fail "y0") => `(tactic| first
  | (with_reducible refine' wp_var ?z1 ?z2; (case z1 => with_unfolding_all exact rfl))
  | with_reducible refine wp_c2 ?_
  | with_reducible refine wp_cons ?_
  | with_reducible refine wp_c ?_
  | with_reducible refine wp_nil ?_
  | with_reducible refine wp_call ?_
  | with_reducible refine wp_c1 ?_)
local macro_rules | `(tactic| fail "y1") => `(tactic| first
  | with_reducible refine wp_set ?_
  | with_reducible refine wp_if ?_
  | with_reducible refine wp_next ?_
  | with_reducible refine wp_ret ?_
  | with_reducible refine af_nx ?_
  | with_reducible refine bk_rt ?_
  | (with_reducible refine' wp_ixL ?z1 ?z2 ?z3; (case z1 => fail "zg"); (case z2 => fail "za"))
  | (with_reducible refine' wp_ixT ?z1 ?z2; (case z1 => fail "za")))
local macro_rules | `(tactic| fail "y2") => `(tactic| first
  | with_reducible refine af_rt ?_
  | with_reducible refine af_bk ?_
  | with_reducible refine bk_nx ?_
  | with_reducible refine turned_nx ?_
  | with_reducible refine turned_bk ?_
  | with_reducible refine turned_rt ?_
  | with_reducible refine wp_and ?_
  | with_reducible refine wp_or ?_)
local macro_rules | `(tactic| fail "y3") => `(tactic| first
  | with_reducible refine wp_not ?_
  | with_reducible refine wp_sub ?_
  | with_reducible refine wp_subA ?_
  | with_reducible refine wp_chain ?_
  | with_reducible refine wp_neAI ?_
  | with_reducible refine wp_neAS ?_
  | with_reducible refine wp_dic0 ?_
  | with_reducible refine wp_drop ?_)
local macro_rules | `(tactic| fail "y4") => `(tactic| first
  | with_reducible refine wp_vK ?_
  | with_reducible refine wp_nox ?_
  | with_reducible refine wp_break ?_
  | with_reducible refine wp_retN ?_
  | with_reducible refine wp_sfld ?_
  | with_reducible refine wp_yes ?_
  | with_reducible refine wp_addI ?_
  | with_reducible refine wp_subI ?_)
local macro_rules | `(tactic| fail "y5") => `(tactic| first
  | with_reducible refine wp_neg ?_
  | with_reducible refine wp_eqI ?_
  | with_reducible refine wp_neI ?_
  | with_reducible refine wp_ltI ?_
  | with_reducible refine wp_leI ?_
  | with_reducible refine wp_gtI ?_
  | with_reducible refine wp_geI ?_
  | with_reducible refine wp_eqS ?_)
local macro_rules | `(tactic| fail "y6") => `(tactic| first
  | with_reducible refine wp_neS ?_
  | with_reducible refine wp_eqB ?_
  | with_reducible refine wp_isN ?_
  | with_reducible refine wp_isNotN ?_
  | with_reducible refine wp_int ?_
  | with_reducible refine wp_max2 ?_
  | with_reducible refine wp_min2 ?_
  | with_reducible refine wp_tr_bl ?_)
local macro_rules | `(tactic| fail "y7") => `(tactic| first
  | with_reducible refine wp_tr_int ?_
  | with_reducible refine wp_tupT ?_
  | with_reducible refine wp_slT ?_
  | with_reducible refine wp_nopart ?_
  | with_reducible refine wp_lst ?_
  | with_reducible refine wp_tup ?_
  | with_reducible refine wp_slice ?_
  | with_reducible refine wp_callK ?_)
local macro_rules | `(tactic| fail "y8") => `(tactic| first
  | with_reducible refine wp_make ?_
  | with_reducible refine wp_meth ?_
  | with_reducible refine wp_is ?_
  | with_reducible refine wp_vand ?_
  | with_reducible refine wp_vor ?_
  | with_reducible refine wp_vnot ?_
  | with_reducible refine wp_asg ?_
  | with_reducible refine wp_part ?_)
local macro_rules | `(tactic| fail "y9") => `(tactic| first
  | with_reducible refine wp_forR1 ?_
  | with_reducible refine wp_forR2 ?_
  | with_reducible refine wp_compR1 ?_
  | with_reducible refine wp_compR2 ?_
  | (with_reducible refine' wp_ixAL ?z1 ?z2 ?z3; (case z1 => fail "zg"); (case z2 => fail "za"))
  | (with_reducible refine' wp_ixAT ?z1 ?z2; (case z1 => fail "za"))
  | (with_reducible refine' and_isL ?z1 ?z2; (case z1 => fail "zg"))
  | (with_reducible refine' wp_append ?z1 ?z2 ?z3; (case z1 => fail "zg"); (case z2 => first | omega | (simp only [List.length_map, List.length_append, List.length_cons, List.length_nil]; omega))))
local macro_rules | `(tactic| fail "y10") => `(tactic| first
  | (with_reducible refine' wp_lenL ?z1 ?z2; (case z1 => fail "zg"))
  | with_reducible refine wp_lenT ?_
  | (with_reducible refine' wp_lenAL ?z1 ?z2; (case z1 => fail "zg"))
  | with_reducible refine wp_lenAT ?_
  | (with_reducible refine' wp_listL ?z1 ?z2; (case z1 => fail "zg"))
  | with_reducible refine wp_listT ?_
  | with_reducible refine ex_bl ?_
  | (with_reducible refine' ex_ty ?z1 ?z2 ?z3; (case z1 => with_unfolding_all exact rfl); (case z2 => with_unfolding_all exact rfl)))
local macro_rules | `(tactic| fail "y11") => `(tactic| first
  | (with_reducible refine' wp_mulT ?z1 ?z2 ?z3; (case z1 => omega); (case z2 => omega))
  | (with_reducible refine' wp_setF ?z1 ?z2 ?z3; (case z1 => fail "zg"); (case z2 => with_unfolding_all exact Nat.le_of_ble_eq_true rfl))
  | (with_reducible refine' wp_setInt ?z1 ?z2 ?z3 ?z4; (case z1 => fail "zg"); (case z2 => first | assumption | omega); (case z3 => first | assumption | omega | (simp only [List.length_set]; omega)))
  | (with_reducible refine' wp_setIx ?z1 ?z2 ?z3; (case z1 => fail "zg"); (case z2 => first | (with_reducible apply ixN_of; (first | assumption | omega); (first | assumption | omega | (rw [List.length_map]; omega))) | with_unfolding_all exact rfl | assumption))
  | (with_reducible refine' wp_setAI ?z1 ?z2 ?z3 ?z4; (case z1 => fail "zg"); (case z2 => first | assumption | omega); (case z3 => first | assumption | omega | (simp only [List.length_set]; omega)))
  | (with_reducible refine' wp_setAX ?z1 ?z2 ?z3; (case z1 => fail "zg"); (case z2 => first | (with_reducible apply ixN_of; (first | assumption | omega); (first | assumption | omega | (rw [List.length_map]; omega))) | with_unfolding_all exact rfl | assumption))
  | (with_reducible refine' wp_modI ?z1 ?z2; (case z1 => omega))
  | (with_reducible refine' wp_divA0 ?z1 ?z2 ?z3; (case z1 => omega); (case z2 => omega)))
local macro_rules | `(tactic| fail "y12") => `(tactic| first
  | (with_reducible refine' wp_mulA ?z1 ?z2; (case z1 => omega))
  | (with_reducible refine' wp_divI ?z1 ?z2 ?z3; (case z1 => omega); (case z2 => omega))
  | (with_reducible refine' wp_mulI ?z1 ?z2; (case z1 => omega))
  | (with_reducible refine' wp_powI ?z1 ?z2; (case z1 => with_unfolding_all decide))
  | (with_reducible refine' wp_fld ?z1 ?z2 ?z3; (case z1 => fail "zg"); (case z2 => first | with_unfolding_all exact rfl | assumption))
  | (with_reducible refine' wp_prop ?z1 ?z2; (case z1 => fail "zg"))
  | (with_reducible refine' wp_tupL ?z1 ?z2; (case z1 => fail "zg"))
  | (with_reducible refine' And.intro ?z1 ?z2; (case z1 => first | with_unfolding_all exact Nat.le_of_ble_eq_true rfl | with_unfolding_all decide)))
local macro_rules | `(tactic| fail "z0") => `(tactic| first | fail "y0" | fail "y1" | fail "y2" | fail "y3" | fail "y4" | fail "y5" | fail "y6" | fail "y7" | fail "y8" | fail "y9" | fail "y10" | fail "y11" | fail "y12")
local macro_rules | `(tactic| fail "z1") => `(tactic| first | with_reducible refine wp_seq ?_ | fail "z0")
local macro_rules | `(tactic| walk_at "z") => `(tactic| (repeat fail "z1"))
local macro_rules | `(tactic| fail "zb") => `(tactic| (with_reducible refine And.intro ?_ ?_; (all_goals (intro hb; first | (simp at hb; done) | (simp at hb; skip) | skip))))
local macro_rules | `(tactic| walk_at "zz") => `(tactic| (repeat' (first | fail "z1" | fail "zb")))
local macro_rules | `(tactic| walk_at "zy") => `(tactic| (repeat' (first | fail "z0" | fail "zb")))
local macro_rules | `(tactic| walk_at "zn") => `(tactic| (with_reducible refine wp_seq ?_; walk_at "zy"))
local macro_rules | `(tactic| walk_at "zs") => `(tactic| fail "zs")
local macro_rules | `(tactic| walk_at "zg") => `(tactic| fail "zg")
local macro_rules | `(tactic| walk_at "za") => `(tactic| fail "za")
local macro_rules | `(tactic| walk_at "z0") => `(tactic| fail "z0")
local macro_rules | `(tactic| walk_at "z1") => `(tactic| fail "z1")
local macro_rules | `(tactic| walk_at "zb") => `(tactic| fail "zb")
namespace K02
open PySem PySem.Spec PyProof.Rows L2 Z
/-! tokens, and the reading of tokens as a relation -/
inductive Tok where
  | num (n : Int) | word (w : Str) | sign (s : Str)
def Tok.d : Tok → D
  | .num n => .tup [.str "number", .int n]
  | .word w => .tup [.str "word", .str w]
  | .sign s => .tup [.str "sign", .str s]
def Tok.txt : Tok → Option Str
  | .num _ => none
  | .word w => some w
  | .sign s => some s
def one (T : List Tok) (p : Nat) (ss : List Str) : Bool := match T[p]? with
  | some t => (match t.txt with
    | some z => ss.any fun y => y == z
    | none => false)
  | none => false
def sgn (T : List Tok) (p : Nat) : Str := match T[p]? with
  | some t => t.txt.getD ""
  | none => ""
abbrev Pr := Option (D × Nat × Nat)
def prD : Pr → D
  | none => .non
  | some l => .tup [l.1, .int (l.2.1 : Nat), .int (l.2.2 : Nat)]
def joinP (s : Str) (l : D × Nat × Nat) : Pr → Pr
  | none => none
  | some r => if 12 < 1 + max l.2.2 r.2.2 then none else some (.tup [.str "op", .str s, l.1, r.1], r.2.1, 1 + max l.2.2 r.2.2)
def CMPS : List Str := ["<", "<=", ">", ">=", "=", "!="]
def SUMS : List Str := ["+", "-"]
def PRODS : List Str := ["*", "div", "mod"]
def NOTS : List Str := ["div", "mod", "min", "max", "pick", "nth", "when"]
section
variable {s st : S} {T : List Tok} {Q : D → S → Prop} {QB : Bool → S → Prop}
theorem wp_inTS {x : Str} {ns : List Str} (q : QB (ns.any fun z => z == x) s) : Wp (kInA (.str x) (.tup (ns.map D.str)) s) QB := by
  show Wp (kIn (.str x) (.tup (ns.map D.str)) s) QB
  unfold kIn
  simp only [seqOf]
  rw [if_pos ⟨rfl, by simp [flatD]⟩]
  have e : ((ns.map D.str).any fun z => eqF z (.str x)) = ns.any fun z => z == x := by
    rw [List.any_map]
    rfl
  show QB _ _
  rw [e]
  exact q
theorem at_tok {p : Nat} {t : Tok} (h : T[p]? = some t) : atI (T.map Tok.d) (p : Int) = some t.d := atI_of (by omega) (by rw [Int.toNat_natCast, List.getElem?_map, h]; rfl)
theorem one_wp {p : Nat} {ss : List Str} (q : Q (.bl (one T p ss)) st) : Wp (F_is_one_of [.tup (T.map Tok.d), .int (p : Nat), .tup (ss.map D.str)] st) Q := by
  unfold F_is_one_of b_is_one_of
  refine wp_fn rfl ?_
  walk_at "zy"
  refine ⟨_, rfl, fun h => ?_, fun h => ?_⟩
  · have h := of_decide_eq_true h
    rw [List.length_map] at h
    have e : T[p]? = some T[p] := List.getElem?_eq_getElem (by omega)
    unfold one at q
    rw [e] at q
    generalize T[p] = t at e q
    have e2 := at_tok e
    walk_at "zy"
    cases t with
    | num n =>
      unfold Tok.d
      walk_at "zy"
      refine ⟨_, rfl, fun h => ?_, fun h => ?_⟩
      · exact absurd h (by decide)
      · exact q
    | word w =>
      unfold Tok.d at *
      walk_at "zy"
      refine ⟨_, rfl, fun h => ?_, fun h => ?_⟩
      · walk_at "zy"
        refine wp_inTS ?_
        exact q
      · exact absurd h (by decide)
    | sign w =>
      unfold Tok.d at *
      walk_at "zy"
      refine ⟨_, rfl, fun h => ?_, fun h => ?_⟩
      · walk_at "zy"
        refine wp_inTS ?_
        exact q
      · exact absurd h (by decide)
  · have h := of_decide_eq_false h
    have e : T[p]? = none := List.getElem?_eq_none (by
      rw [List.length_map] at h
      omega)
    unfold one at q
    rw [e] at q
    exact q
theorem join_wp {z : Str} {l : D × Nat × Nat} {r : Pr} (q : Q (prD (joinP z l r)) st) : Wp (F_taken_join [.str z, prD (some l), prD r] st) Q := by
  unfold F_taken_join b_taken_join
  obtain ⟨x, p, k⟩ := l
  cases r with
  | none =>
    unfold prD
    dsimp only
    refine wp_fn rfl ?_
    walk_at "zz"
    · exact q
    · rename_i h
      nomatch h
  | some r =>
    obtain ⟨y, p', k'⟩ := r
    unfold joinP at q
    dsimp only at q
    unfold prD K_DEEPEST
    dsimp only
    refine wp_fn rfl ?_
    walk_at "zn"
    · rename_i h
      nomatch h
    walk_at "zn"
    walk_at "zn"
    · rename_i h
      rw [if_pos (by split at h <;> omega)] at q
      exact q
    · rename_i h
      rw [if_neg (by split at h <;> omega)] at q
      have e : (1 + (if (k' : Int) > (k : Int) then (k' : Int) else (k : Int))) = ((1 + max k k' : Nat) : Int) := by split <;> omega
      rw [e]
      exact q
end
/-- what is taken -/
inductive Kp where
  | whole | sum | prod | atom | inside (c : Str) | read | call | lpP (t : Pr) (m : Nat) | lpS (t : Pr) (m : Nat) | args (r j : Nat) (as : List D) (dp : Nat)
inductive Par (T : List Tok) : Nat → Kp → Nat → Nat → Pr → Prop where
  | whole0 {n at_ o} : Par T n .sum at_ o none → Par T (n + 1) .whole at_ o none
  | whole1 {n at_ o l} : Par T n .sum at_ o (some l) → one T l.2.1 CMPS = false → Par T (n + 1) .whole at_ o (some l)
  | whole2 {n at_ o l r} : Par T n .sum at_ o (some l) → one T l.2.1 CMPS = true → Par T n .sum (l.2.1 + 1) o r → Par T (n + 1) .whole at_ o (joinP (sgn T l.2.1) l r)
  | sum {n at_ o t m r} : Par T n .prod at_ o t → m < 900000 → Par T n (.lpS t m) at_ o r → Par T (n + 1) .sum at_ o r
  | prod {n at_ o t m r} : Par T n .atom at_ o t → m < 900000 → Par T n (.lpP t m) at_ o r → Par T (n + 1) .prod at_ o r
  | lpPN {n at_ o m} : Par T n (.lpP none m) at_ o none
  | lpPE {n at_ o m l} : one T l.2.1 PRODS = false → Par T n (.lpP (some l) m) at_ o (some l)
  | lpPS {n at_ o m l t r} : one T l.2.1 PRODS = true → Par T n .atom (l.2.1 + 1) o t → Par T n (.lpP (joinP (sgn T l.2.1) l t) m) at_ o r → Par T n (.lpP (some l) (m + 1)) at_ o r
  | lpSN {n at_ o m} : Par T n (.lpS none m) at_ o none
  | lpSE {n at_ o m l} : one T l.2.1 SUMS = false → Par T n (.lpS (some l) m) at_ o (some l)
  | lpSS {n at_ o m l t r} : one T l.2.1 SUMS = true → Par T n .prod (l.2.1 + 1) o t → Par T n (.lpS (joinP (sgn T l.2.1) l t) m) at_ o r → Par T n (.lpS (some l) (m + 1)) at_ o r
  | in0 {n at_ o c} : 12 < o → Par T (n + 1) (.inside c) at_ o none
  | in1 {n at_ o c} : ¬ 12 < o → Par T n .whole at_ o none → Par T (n + 1) (.inside c) at_ o none
  | in2 {n at_ o c l} : ¬ 12 < o → Par T n .whole at_ o (some l) → one T l.2.1 [c] = false → Par T (n + 1) (.inside c) at_ o none
  | in3 {n at_ o c l} : ¬ 12 < o → Par T n .whole at_ o (some l) → one T l.2.1 [c] = true → Par T (n + 1) (.inside c) at_ o (some (l.1, l.2.1 + 1, l.2.2))
  | read0 {n at_ o} : Par T n (.inside "]") (at_ + 2) (o + 1) none → Par T (n + 1) .read at_ o none
  | read1 {n at_ o l} : Par T n (.inside "]") (at_ + 2) (o + 1) (some l) → l.2.2 = 12 → Par T (n + 1) .read at_ o none
  | read2 {n at_ o l w} : T[at_]? = some (.word w) → Par T n (.inside "]") (at_ + 2) (o + 1) (some l) → l.2.2 ≠ 12 → Par T (n + 1) .read at_ o (some (.tup [.str "read", .str w, l.1], l.2.1, 1 + l.2.2))
  | call0 {n at_ o} : one T (at_ + 1) ["("] = false ∨ o = 12 → Par T (n + 1) .call at_ o none
  | call1 {n at_ o c} : one T (at_ + 1) ["("] = true → o ≠ 12 → T_ARGUMENT_COUNTS.lookup (sgn T at_) = some ((c : Nat) : Int) → c ≤ 3 → Par T n (.args c 0 [] 0) (at_ + 1) o none → Par T (n + 1) .call at_ o none
  | call2 {n at_ o c as p k} : one T (at_ + 1) ["("] = true → o ≠ 12 → T_ARGUMENT_COUNTS.lookup (sgn T at_) = some ((c : Nat) : Int) → c ≤ 3 → Par T n (.args c 0 [] 0) (at_ + 1) o (some (.tup as, p, k)) → one T p [")"] = false ∨ k = 12 → Par T (n + 1) .call at_ o none
  | call3 {n at_ o c as p k} : one T (at_ + 1) ["("] = true → o ≠ 12 → T_ARGUMENT_COUNTS.lookup (sgn T at_) = some ((c : Nat) : Int) → c ≤ 3 → Par T n (.args c 0 [] 0) (at_ + 1) o (some (.tup as, p, k)) → one T p [")"] = true → k ≠ 12 → Par T (n + 1) .call at_ o (some (.tup [.str "call", .str (sgn T at_), .tup as], p + 1, 1 + k))
  | args0 {n e o j as dp} : Par T n (.args 0 j as dp) e o (some (.tup as, e, dp))
  | args1 {n e o r j as dp} : 0 < j → one T e [","] = false → Par T n (.args (r + 1) j as dp) e o none
  | args2 {n e o r j as dp} : j = 0 ∨ one T e [","] = true → Par T n .whole (e + 1) (o + 1) none → Par T n (.args (r + 1) j as dp) e o none
  | args3 {n e o r j as dp l t} : j = 0 ∨ one T e [","] = true → Par T n .whole (e + 1) (o + 1) (some l) → Par T n (.args r (j + 1) (as ++ [l.1]) (max dp l.2.2)) l.2.1 o t → Par T n (.args (r + 1) j as dp) e o t
  | atom0 {n at_ o} : T.length ≤ at_ → Par T (n + 1) .atom at_ o none
  | atomN {n at_ o k} : T[at_]? = some (.num k) → Par T (n + 1) .atom at_ o (some (.tup [.str "number", .int k], at_ + 1, 1))
  | atomP {n at_ o t r} : T[at_]? = some t → t.txt = some (Str.ofString "(") → Par T n (.inside ")") (at_ + 1) (o + 1) r → Par T (n + 1) .atom at_ o r
  | atomC {n at_ o t r} {z : Str} : T[at_]? = some t → t.txt = some z → z ≠ "(" → (T_ARGUMENT_COUNTS.lookup z).isSome = true → Par T n .call at_ o r → Par T (n + 1) .atom at_ o r
  | atomS {n at_ o} {z : Str} : T[at_]? = some (.sign z) → z ≠ "(" → (T_ARGUMENT_COUNTS.lookup z).isSome = false → Par T (n + 1) .atom at_ o none
  | atomX {n at_ o} {z : Str} : T[at_]? = some (.word z) → z ≠ "(" → (T_ARGUMENT_COUNTS.lookup z).isSome = false → (NOTS.any fun y => y == z) = true → Par T (n + 1) .atom at_ o none
  | atomR {n at_ o r} {z : Str} : T[at_]? = some (.word z) → z ≠ "(" → (T_ARGUMENT_COUNTS.lookup z).isSome = false → (NOTS.any fun y => y == z) = false → one T (at_ + 1) ["["] = true → Par T n .read at_ o r → Par T (n + 1) .atom at_ o r
  | atomW {n at_ o} {z : Str} : T[at_]? = some (.word z) → z ≠ "(" → (T_ARGUMENT_COUNTS.lookup z).isSome = false → (NOTS.any fun y => y == z) = false → one T (at_ + 1) ["["] = false → Par T (n + 1) .atom at_ o (some (.tup [.str "name", .str z], at_ + 1, 1))
end K02
end
section
set_option Elab.async false
set_option linter.all false
set_option maxRecDepth 100000
set_option maxHeartbeats 4000000
open PySem PySem.Spec PyProof.Rows L2 Z
local macro_rules | `(tactic| fail "zs") => `(tactic| first
  | assumption
  | with_reducible exact at_last
  | (with_reducible apply at_set; fail "zs")
  | (with_reducible apply at_app; fail "zs")
  | (with_reducible apply at_setne; (first | assumption | (apply Ne.symm; assumption) | omega); fail "zs")
  | (with_reducible refine Gr.keep (by assumption) ?_; fail "zs")
  | (with_reducible refine Gx.keep (by assumption) ?_ ?_; (first | assumption | (apply Ne.symm; assumption) | omega); fail "zs"))
local macro_rules | `(tactic| fail "zg") => `(tactic| first
  | assumption
  | (with_reducible apply getL_of; fail "zs")
  | (with_reducible apply getW_of; fail "zs")
  | (with_reducible apply getI_of; fail "zs"))
local macro_rules | `(tactic| fail "za") => `(tactic| first | (with_reducible apply atI_int; (first | assumption | omega); (first | assumption | omega | (simp only [List.length_set]; omega))) | with_unfolding_all exact rfl | assumption)
local macro_rules | `(tactic| fail "y0") => `(tactic| first
  | (with_reducible refine' wp_var ?z1 ?z2; (case z1 => with_unfolding_all exact rfl))
  | with_reducible refine wp_c2 ?_
  | with_reducible refine wp_cons ?_
  | with_reducible refine wp_c ?_
  | with_reducible refine wp_nil ?_
  | with_reducible refine wp_call ?_
  | with_reducible refine wp_c1 ?_)
local macro_rules | `(tactic| fail "y1") => `(tactic| first
  | with_reducible refine wp_set ?_
  | with_reducible refine wp_if ?_
  | with_reducible refine wp_next ?_
  | with_reducible refine wp_ret ?_
  | with_reducible refine af_nx ?_
  | with_reducible refine bk_rt ?_
  | (with_reducible refine' wp_ixL ?z1 ?z2 ?z3; (case z1 => fail "zg"); (case z2 => fail "za"))
  | (with_reducible refine' wp_ixT ?z1 ?z2; (case z1 => fail "za")))
local macro_rules | `(tactic| fail "y2") => `(tactic| first
  | with_reducible refine af_rt ?_
  | with_reducible refine af_bk ?_
  | with_reducible refine bk_nx ?_
  | with_reducible refine turned_nx ?_
  | with_reducible refine turned_bk ?_
  | with_reducible refine turned_rt ?_
  | with_reducible refine wp_and ?_
  | with_reducible refine wp_or ?_)
local macro_rules | `(tactic| fail "y3") => `(tactic| first
  | with_reducible refine wp_not ?_
  | with_reducible refine wp_sub ?_
  | with_reducible refine wp_subA ?_
  | with_reducible refine wp_chain ?_
  | with_reducible refine wp_neAI ?_
  | with_reducible refine wp_neAS ?_
  | with_reducible refine wp_dic0 ?_
  | with_reducible refine wp_drop ?_)
local macro_rules | `(tactic| fail "y4") => `(tactic| first
  | with_reducible refine wp_vK ?_
  | with_reducible refine wp_nox ?_
  | with_reducible refine wp_break ?_
  | with_reducible refine wp_retN ?_
  | with_reducible refine wp_sfld ?_
  | with_reducible refine wp_yes ?_
  | with_reducible refine wp_addI ?_
  | with_reducible refine wp_subI ?_)
local macro_rules | `(tactic| fail "y5") => `(tactic| first
  | with_reducible refine wp_neg ?_
  | with_reducible refine wp_eqI ?_
  | with_reducible refine wp_neI ?_
  | with_reducible refine wp_ltI ?_
  | with_reducible refine wp_leI ?_
  | with_reducible refine wp_gtI ?_
  | with_reducible refine wp_geI ?_
  | with_reducible refine wp_eqS ?_)
local macro_rules | `(tactic| fail "y6") => `(tactic| first
  | with_reducible refine wp_neS ?_
  | with_reducible refine wp_eqB ?_
  | with_reducible refine wp_isN ?_
  | with_reducible refine wp_isNotN ?_
  | with_reducible refine wp_int ?_
  | with_reducible refine wp_max2 ?_
  | with_reducible refine wp_min2 ?_
  | with_reducible refine wp_tr_bl ?_)
local macro_rules | `(tactic| fail "y7") => `(tactic| first
  | with_reducible refine wp_tr_int ?_
  | with_reducible refine wp_tupT ?_
  | with_reducible refine wp_slT ?_
  | with_reducible refine wp_nopart ?_
  | with_reducible refine wp_lst ?_
  | with_reducible refine wp_tup ?_
  | with_reducible refine wp_slice ?_
  | with_reducible refine wp_callK ?_)
local macro_rules | `(tactic| fail "y8") => `(tactic| first
  | with_reducible refine wp_make ?_
  | with_reducible refine wp_meth ?_
  | with_reducible refine wp_is ?_
  | with_reducible refine wp_vand ?_
  | with_reducible refine wp_vor ?_
  | with_reducible refine wp_vnot ?_
  | with_reducible refine wp_asg ?_
  | with_reducible refine wp_part ?_)
local macro_rules | `(tactic| fail "y9") => `(tactic| first
  | with_reducible refine wp_forR1 ?_
  | with_reducible refine wp_forR2 ?_
  | with_reducible refine wp_compR1 ?_
  | with_reducible refine wp_compR2 ?_
  | (with_reducible refine' wp_ixAL ?z1 ?z2 ?z3; (case z1 => fail "zg"); (case z2 => fail "za"))
  | (with_reducible refine' wp_ixAT ?z1 ?z2; (case z1 => fail "za"))
  | (with_reducible refine' and_isL ?z1 ?z2; (case z1 => fail "zg"))
  | (with_reducible refine' wp_append ?z1 ?z2 ?z3; (case z1 => fail "zg"); (case z2 => first | omega | (simp only [List.length_map, List.length_append, List.length_cons, List.length_nil]; omega))))
local macro_rules | `(tactic| fail "y10") => `(tactic| first
  | (with_reducible refine' wp_lenL ?z1 ?z2; (case z1 => fail "zg"))
  | with_reducible refine wp_lenT ?_
  | (with_reducible refine' wp_lenAL ?z1 ?z2; (case z1 => fail "zg"))
  | with_reducible refine wp_lenAT ?_
  | (with_reducible refine' wp_listL ?z1 ?z2; (case z1 => fail "zg"))
  | with_reducible refine wp_listT ?_
  | with_reducible refine ex_bl ?_
  | (with_reducible refine' ex_ty ?z1 ?z2 ?z3; (case z1 => with_unfolding_all exact rfl); (case z2 => with_unfolding_all exact rfl)))
local macro_rules | `(tactic| fail "y11") => `(tactic| first
  | (with_reducible refine' wp_mulT ?z1 ?z2 ?z3; (case z1 => omega); (case z2 => omega))
  | (with_reducible refine' wp_setF ?z1 ?z2 ?z3; (case z1 => fail "zg"); (case z2 => with_unfolding_all exact Nat.le_of_ble_eq_true rfl))
  | (with_reducible refine' wp_setInt ?z1 ?z2 ?z3 ?z4; (case z1 => fail "zg"); (case z2 => first | assumption | omega); (case z3 => first | assumption | omega | (simp only [List.length_set]; omega)))
  | (with_reducible refine' wp_setIx ?z1 ?z2 ?z3; (case z1 => fail "zg"); (case z2 => first | (with_reducible apply ixN_of; (first | assumption | omega); (first | assumption | omega | (rw [List.length_map]; omega))) | with_unfolding_all exact rfl | assumption))
  | (with_reducible refine' wp_setAI ?z1 ?z2 ?z3 ?z4; (case z1 => fail "zg"); (case z2 => first | assumption | omega); (case z3 => first | assumption | omega | (simp only [List.length_set]; omega)))
  | (with_reducible refine' wp_setAX ?z1 ?z2 ?z3; (case z1 => fail "zg"); (case z2 => first | (with_reducible apply ixN_of; (first | assumption | omega); (first | assumption | omega | (rw [List.length_map]; omega))) | with_unfolding_all exact rfl | assumption))
  | (with_reducible refine' wp_modI ?z1 ?z2; (case z1 => omega))
  | (with_reducible refine' wp_divA0 ?z1 ?z2 ?z3; (case z1 => omega); (case z2 => omega)))
local macro_rules | `(tactic| fail "y12") => `(tactic| first
  | (with_reducible refine' wp_mulA ?z1 ?z2; (case z1 => omega))
  | (with_reducible refine' wp_divI ?z1 ?z2 ?z3; (case z1 => omega); (case z2 => omega))
  | (with_reducible refine' wp_mulI ?z1 ?z2; (case z1 => omega))
  | (with_reducible refine' wp_powI ?z1 ?z2; (case z1 => with_unfolding_all decide))
  | (with_reducible refine' wp_fld ?z1 ?z2 ?z3; (case z1 => fail "zg"); (case z2 => first | with_unfolding_all exact rfl | assumption))
  | (with_reducible refine' wp_prop ?z1 ?z2; (case z1 => fail "zg"))
  | (with_reducible refine' wp_tupL ?z1 ?z2; (case z1 => fail "zg"))
  | (with_reducible refine' And.intro ?z1 ?z2; (case z1 => first | with_unfolding_all exact Nat.le_of_ble_eq_true rfl | with_unfolding_all decide)))
local macro_rules | `(tactic| fail "z0") => `(tactic| first | fail "y0" | fail "y1" | fail "y2" | fail "y3" | fail "y4" | fail "y5" | fail "y6" | fail "y7" | fail "y8" | fail "y9" | fail "y10" | fail "y11" | fail "y12")
local macro_rules | `(tactic| fail "z1") => `(tactic| first | with_reducible refine wp_seq ?_ | fail "z0")
local macro_rules | `(tactic| walk_at "z") => `(tactic| (repeat fail "z1"))
local macro_rules | `(tactic| fail "zb") => `(tactic| (with_reducible refine And.intro ?_ ?_; (all_goals (intro hb; first | (simp at hb; done) | (simp at hb; skip) | skip))))
local macro_rules | `(tactic| walk_at "zz") => `(tactic| (repeat' (first | fail "z1" | fail "zb")))
local macro_rules | `(tactic| walk_at "zy") => `(tactic| (repeat' (first | fail "z0" | fail "zb")))
local macro_rules | `(tactic| walk_at "zn") => `(tactic| (with_reducible refine wp_seq ?_; walk_at "zy"))
local macro_rules | `(tactic| walk_at "zs") => `(tactic| fail "zs")
local macro_rules | `(tactic| walk_at "zg") => `(tactic| fail "zg")
local macro_rules | `(tactic| walk_at "za") => `(tactic| fail "za")
local macro_rules | `(tactic| walk_at "z0") => `(tactic| fail "z0")
local macro_rules | `(tactic| walk_at "z1") => `(tactic| fail "z1")
local macro_rules | `(tactic| walk_at "zb") => `(tactic| fail "zb")
namespace K02
open PySem PySem.Spec PyProof.Rows L2 Z
theorem nonT {xs : List D} (h : isNonD (.tup xs) = true) : False := by cases h
theorem nonN (h : isNonD .non = false) : False := by cases h
/-! the parser's functions give what the relation says -/
def Got (r : Pr) (s : S) (d : D) (t : S) : Prop := d = prD r ∧ Gr s t
structure Says (T : List Tok) (n : Nat) : Prop where
  whole : ∀ {at_ o r s} {x y : Int}, Par T n .whole at_ o r → x = (at_ : Nat) → y = (o : Nat) → Wp (R_taken_whole n [.tup (T.map Tok.d), .int x, .int y] s) (Got r s)
  sum : ∀ {at_ o r s} {x y : Int}, Par T n .sum at_ o r → x = (at_ : Nat) → y = (o : Nat) → Wp (R_taken_sum n [.tup (T.map Tok.d), .int x, .int y] s) (Got r s)
  prod : ∀ {at_ o r s} {x y : Int}, Par T n .prod at_ o r → x = (at_ : Nat) → y = (o : Nat) → Wp (R_taken_product n [.tup (T.map Tok.d), .int x, .int y] s) (Got r s)
  atom : ∀ {at_ o r s} {x y : Int}, Par T n .atom at_ o r → x = (at_ : Nat) → y = (o : Nat) → Wp (R_taken_atom n [.tup (T.map Tok.d), .int x, .int y] s) (Got r s)
  read : ∀ {at_ o r s} {x y : Int}, Par T n .read at_ o r → x = (at_ : Nat) → y = (o : Nat) → Wp (R_taken_read n [.tup (T.map Tok.d), .int x, .int y] s) (Got r s)
  call : ∀ {at_ o r s} {x y : Int}, Par T n .call at_ o r → (∃ k, atI (T.map Tok.d) (at_ : Nat) = some (.tup [.str k, .str (sgn T at_)])) → x = (at_ : Nat) → y = (o : Nat) → Wp (R_taken_call n [.tup (T.map Tok.d), .int x, .int y] s) (Got r s)
  inside : ∀ {at_ o r s c} {x y : Int}, Par T n (.inside c) at_ o r → x = (at_ : Nat) → y = (o : Nat) → Wp (R_taken_inside n [.tup (T.map Tok.d), .int x, .int y, .str c] s) (Got r s)
local macro_rules | `(tactic| fail "nope") => `(tactic| all_goals first | exact (nonT (by assumption)).elim | exact (nonN (by assumption)).elim | skip)
local macro_rules | `(tactic| fail "fin") => `(tactic| all_goals first | exact (nonT (by assumption)).elim | exact (nonN (by assumption)).elim | exact ⟨rfl, by assumption⟩ | skip)
section
variable {T : List Tok} {n at_ o : Nat} {r : Pr} {s st : S} {c : Str}
theorem one_wp' {Q : D → S → Prop} {x : Int} {d : D} (p : Nat) (ss : List Str) (hx : x = (p : Nat)) (hd : d = .tup (ss.map D.str)) (q : Q (.bl (one T p ss)) st) : Wp (F_is_one_of [.tup (T.map Tok.d), .int x, d] st) Q := by
  subst hx hd
  exact one_wp q
theorem one_get {p : Nat} {ss : List Str} (h : one T p ss = true) : ∃ k, atI (T.map Tok.d) (p : Nat) = some (.tup [.str k, .str (sgn T p)]) := by
  unfold one at h
  unfold sgn
  cases e : T[p]? with
  | none => rw [e] at h; cases h
  | some t =>
    rw [e] at h
    have e := at_tok e
    cases t with
    | num n => cases h
    | word w => exact ⟨_, e⟩
    | sign w => exact ⟨_, e⟩
theorem read_step (h : Says T n) (p : Par T (n + 1) .read at_ o r) : Wp (R_taken_read (n + 1) [.tup (T.map Tok.d), .int (at_ : Nat), .int (o : Nat)] s) (Got r s) := by
  unfold R_taken_read b_taken_read K_DEEPEST
  refine wp_fn rfl ?_
  walk_at "zn"
  cases p with
  | read0 p =>
    refine (h.inside p (by omega) (by omega)).mono ?_
    rintro d t ⟨rfl, g⟩
    walk_at "zz"
    fail "fin"
  | @read1 _ _ _ l p e =>
    obtain ⟨l1, l2, l3⟩ := l
    refine (h.inside p (by omega) (by omega)).mono ?_
    rintro d t ⟨rfl, g⟩
    unfold prD
    dsimp only at e ⊢
    subst e
    walk_at "zz"
    fail "fin"
  | @read2 _ _ _ l w e0 p e =>
    obtain ⟨l1, l2, l3⟩ := l
    have e2 : atI (T.map Tok.d) (at_ : Nat) = some (.tup [.str "word", .str w]) := at_tok e0
    refine (h.inside p (by omega) (by omega)).mono ?_
    rintro d t ⟨rfl, g⟩
    unfold prD
    dsimp only at e ⊢
    walk_at "zz"
    fail "fin"
    omega
theorem inside_step (h : Says T n) (p : Par T (n + 1) (.inside c) at_ o r) : Wp (R_taken_inside (n + 1) [.tup (T.map Tok.d), .int (at_ : Nat), .int (o : Nat), .str c] s) (Got r s) := by
  unfold R_taken_inside b_taken_inside K_MOST_BRACKETS
  refine wp_fn rfl ?_
  walk_at "zn"
  cases p with
  | in0 e => exact ⟨rfl, Gr.refl⟩
  | in1 e p => omega
  | in2 e p => omega
  | in3 e p => omega
  walk_at "zn"
  cases p with
  | in0 e => omega
  | in1 e p =>
    refine (h.whole p (by omega) (by omega)).mono ?_
    rintro d t ⟨rfl, g⟩
    walk_at "zz"
    fail "fin"
  | @in2 _ _ _ _ l e p e2 =>
    obtain ⟨l1, l2, l3⟩ := l
    refine (h.whole p (by omega) (by omega)).mono ?_
    rintro d t ⟨rfl, g⟩
    unfold prD
    dsimp only at e2 ⊢
    walk_at "zz"
    fail "nope"
    refine one_wp' l2 [c] rfl rfl ?_
    rw [e2]
    walk_at "zz"
    fail "fin"
  | @in3 _ _ _ _ l e p e2 =>
    obtain ⟨l1, l2, l3⟩ := l
    refine (h.whole p (by omega) (by omega)).mono ?_
    rintro d t ⟨rfl, g⟩
    unfold prD
    dsimp only at e2 ⊢
    walk_at "zz"
    fail "nope"
    refine one_wp' l2 [c] rfl rfl ?_
    rw [e2]
    walk_at "zz"
    refine ⟨?_, g⟩
    rfl
theorem whole_step (h : Says T n) (p : Par T (n + 1) .whole at_ o r) : Wp (R_taken_whole (n + 1) [.tup (T.map Tok.d), .int (at_ : Nat), .int (o : Nat)] s) (Got r s) := by
  unfold R_taken_whole b_taken_whole K_COMPARISONS
  refine wp_fn rfl ?_
  walk_at "zn"
  cases p with
  | whole0 p =>
    refine (h.sum p (by omega) (by omega)).mono ?_
    rintro d t ⟨rfl, g⟩
    walk_at "zz"
    fail "fin"
  | @whole1 _ _ _ l p e =>
    obtain ⟨l1, l2, l3⟩ := l
    refine (h.sum p (by omega) (by omega)).mono ?_
    rintro d t ⟨rfl, g⟩
    unfold prD
    dsimp only at e ⊢
    walk_at "zz"
    fail "nope"
    refine one_wp' l2 CMPS rfl rfl ?_
    rw [e]
    walk_at "zz"
    fail "fin"
  | @whole2 _ _ _ l r p e p2 =>
    obtain ⟨k, e3⟩ := one_get e
    obtain ⟨l1, l2, l3⟩ := l
    refine (h.sum p (by omega) (by omega)).mono ?_
    rintro d t ⟨rfl, g⟩
    unfold prD
    dsimp only at e e3 p2 ⊢
    walk_at "zz"
    fail "nope"
    refine one_wp' l2 CMPS rfl rfl ?_
    rw [e]
    walk_at "zz"
    refine (h.sum p2 (by omega) (by omega)).mono ?_
    rintro d t2 ⟨rfl, g2⟩
    walk_at "zz"
    refine join_wp (l := (l1, l2, l3)) (r := r) ?_
    walk_at "zz"
    exact ⟨rfl, g.trans g2⟩
theorem prod_step (h : Says T n) (p : Par T (n + 1) .prod at_ o r) : Wp (R_taken_product (n + 1) [.tup (T.map Tok.d), .int (at_ : Nat), .int (o : Nat)] s) (Got r s) := by
  unfold R_taken_product b_taken_product K_PRODUCT_OPERATORS
  refine wp_fn rfl ?_
  walk_at "zn"
  cases p with
  | @prod _ _ _ t m _ p hm p2 =>
  refine (h.atom p (by omega) (by omega)).mono ?_
  rintro d s1 ⟨rfl, g⟩
  walk_at "zy"
  refine wp_seq ?_
  refine wp_while (fun m es st => ∃ t sg, es = [some (.tup (T.map Tok.d)), some (.int (at_ : Nat)), some (.int (o : Nat)), some (prD t), sg] ∧ Par T n (.lpP t m) at_ o r ∧ Gr s st) (m := m) (by omega) ⟨t, none, rfl, p2, g⟩ ?_
  clear p p2 g hm
  rintro m es st ⟨t, sg, rfl, p, g⟩
  cases p with
  | lpPN =>
    walk_at "zz"
    fail "fin"
  | @lpPE _ _ _ _ l e =>
    obtain ⟨l1, l2, l3⟩ := l
    dsimp only at e ⊢
    unfold prD
    dsimp only
    walk_at "zz"
    fail "nope"
    refine one_wp' l2 PRODS rfl rfl ?_
    rw [e]
    walk_at "zz"
    fail "fin"
  | @lpPS _ _ _ m l t _ e p p2 =>
    obtain ⟨k, e3⟩ := one_get e
    obtain ⟨l1, l2, l3⟩ := l
    dsimp only at e e3 p p2 ⊢
    unfold prD
    dsimp only
    walk_at "zz"
    fail "nope"
    refine one_wp' l2 PRODS rfl rfl ?_
    rw [e]
    walk_at "zz"
    refine (h.atom p (by omega) (by omega)).mono ?_
    rintro d t2 ⟨rfl, g2⟩
    walk_at "zz"
    refine join_wp (l := (l1, l2, l3)) (r := t) ?_
    walk_at "zz"
    exact ⟨m, by omega, _, _, rfl, p2, g.trans g2⟩
theorem sum_step (h : Says T n) (p : Par T (n + 1) .sum at_ o r) : Wp (R_taken_sum (n + 1) [.tup (T.map Tok.d), .int (at_ : Nat), .int (o : Nat)] s) (Got r s) := by
  unfold R_taken_sum b_taken_sum K_SUM_OPERATORS
  refine wp_fn rfl ?_
  walk_at "zn"
  cases p with
  | @sum _ _ _ t m _ p hm p2 =>
  refine (h.prod p (by omega) (by omega)).mono ?_
  rintro d s1 ⟨rfl, g⟩
  walk_at "zy"
  refine wp_seq ?_
  refine wp_while (fun m es st => ∃ t sg, es = [some (.tup (T.map Tok.d)), some (.int (at_ : Nat)), some (.int (o : Nat)), some (prD t), sg] ∧ Par T n (.lpS t m) at_ o r ∧ Gr s st) (m := m) (by omega) ⟨t, none, rfl, p2, g⟩ ?_
  clear p p2 g hm
  rintro m es st ⟨t, sg, rfl, p, g⟩
  cases p with
  | lpSN =>
    walk_at "zz"
    fail "fin"
  | @lpSE _ _ _ _ l e =>
    obtain ⟨l1, l2, l3⟩ := l
    dsimp only at e ⊢
    unfold prD
    dsimp only
    walk_at "zz"
    fail "nope"
    refine one_wp' l2 SUMS rfl rfl ?_
    rw [e]
    walk_at "zz"
    fail "fin"
  | @lpSS _ _ _ m l t _ e p p2 =>
    obtain ⟨k, e3⟩ := one_get e
    obtain ⟨l1, l2, l3⟩ := l
    dsimp only at e e3 p p2 ⊢
    unfold prD
    dsimp only
    walk_at "zz"
    fail "nope"
    refine one_wp' l2 SUMS rfl rfl ?_
    rw [e]
    walk_at "zz"
    refine (h.prod p (by omega) (by omega)).mono ?_
    rintro d t2 ⟨rfl, g2⟩
    walk_at "zz"
    refine join_wp (l := (l1, l2, l3)) (r := t) ?_
    walk_at "zz"
    exact ⟨m, by omega, _, _, rfl, p2, g.trans g2⟩
theorem in_args {z : Str} {QB : Bool → S → Prop} (q : QB (T_ARGUMENT_COUNTS.lookup z).isSome st) : Wp (kInC 101 T_ARGUMENT_COUNTS (.str z) K_ARGUMENT_COUNTS st) QB := q
theorem at_args {z : Str} {k : Int} {Q : D → S → Prop} (h : T_ARGUMENT_COUNTS.lookup z = some k) (q : Q (.int k) st) : Wp (ixC 101 T_ARGUMENT_COUNTS K_ARGUMENT_COUNTS (.str z) st) Q := by
  unfold ixC K_ARGUMENT_COUNTS
  dsimp only
  rw [if_pos rfl, h]
  exact q
theorem tok_lt {t : Tok} (h : T[at_]? = some t) : at_ < T.length := (List.getElem?_eq_some_iff.mp h).1
theorem atom_step (h : Says T n) (p : Par T (n + 1) .atom at_ o r) : Wp (R_taken_atom (n + 1) [.tup (T.map Tok.d), .int (at_ : Nat), .int (o : Nat)] s) (Got r s) := by
  have g : Gr s s := Gr.refl
  have n1 : ¬ Str.ofString "sign" = Str.ofString "number" := by decide
  have n2 : ¬ Str.ofString "word" = Str.ofString "number" := by decide
  have n3 : ¬ Str.ofString "word" = Str.ofString "sign" := by decide
  unfold R_taken_atom b_taken_atom K_NOT_NAMES
  refine wp_fn rfl ?_
  cases p with
  | atom0 e =>
    walk_at "zn"
    · exact ⟨rfl, g⟩
    · rename_i hb
      omega
  | @atomN _ _ _ k e =>
    have e2 : atI (T.map Tok.d) (at_ : Nat) = some (.tup [.str "number", .int k]) := at_tok e
    have := tok_lt e
    walk_at "zz"
    · rename_i hb
      omega
    refine ⟨_, rfl, ?_⟩
    walk_at "zz"
    fail "fin"
  | @atomP _ _ _ t _ e e1 p =>
    have e2 : ∃ k, atI (T.map Tok.d) (at_ : Nat) = some (.tup [.str k, .str "("]) ∧ ¬ k = Str.ofString "number" := by
      cases t with
      | num k => cases e1
      | word w => cases e1; exact ⟨_, at_tok e, by decide⟩
      | sign w => cases e1; exact ⟨_, at_tok e, by decide⟩
    obtain ⟨k, e2, hk⟩ := e2
    have := tok_lt e
    walk_at "zz"
    · rename_i hb
      omega
    refine ⟨_, rfl, ?_⟩
    walk_at "zz"
    all_goals try contradiction
    refine (h.inside p (by omega) (by omega)).mono ?_
    rintro d t ⟨rfl, g⟩
    walk_at "zz"
    fail "fin"
  | @atomC _ _ _ t r z e e1 hz hc p =>
    have e2 : ∃ k, atI (T.map Tok.d) (at_ : Nat) = some (.tup [.str k, .str z]) ∧ ¬ k = Str.ofString "number" := by
      cases t with
      | num k => cases e1
      | word w => cases e1; exact ⟨_, at_tok e, by decide⟩
      | sign w => cases e1; exact ⟨_, at_tok e, by decide⟩
    obtain ⟨k, e2, hk⟩ := e2
    have ez : sgn T at_ = z := by
      unfold sgn
      rw [e]
      show t.txt.getD "" = z
      rw [e1]
      rfl
    have := tok_lt e
    walk_at "zz"
    · rename_i hb
      omega
    refine ⟨_, rfl, ?_⟩
    walk_at "zz"
    all_goals try contradiction
    refine in_args ?_
    rw [hc]
    walk_at "zz"
    all_goals try contradiction
    refine (h.call p ⟨k, by rw [ez]; exact e2⟩ (by omega) (by omega)).mono ?_
    rintro d t ⟨rfl, g⟩
    walk_at "zz"
    fail "fin"
  | @atomS _ _ _ z e hz hc =>
    have e2 : atI (T.map Tok.d) (at_ : Nat) = some (.tup [.str "sign", .str z]) := at_tok e
    have := tok_lt e
    walk_at "zz"
    · rename_i hb
      omega
    refine ⟨_, rfl, ?_⟩
    walk_at "zz"
    all_goals try contradiction
    refine in_args ?_
    rw [hc]
    walk_at "zz"
    all_goals try contradiction
    fail "fin"
  | @atomX _ _ _ z e hz hc hn =>
    have e2 : atI (T.map Tok.d) (at_ : Nat) = some (.tup [.str "word", .str z]) := at_tok e
    have := tok_lt e
    walk_at "zz"
    · rename_i hb
      omega
    refine ⟨_, rfl, ?_⟩
    walk_at "zz"
    all_goals try contradiction
    refine in_args ?_
    rw [hc]
    walk_at "zz"
    all_goals try contradiction
    refine wp_inTS (ns := NOTS) ?_
    rw [hn]
    walk_at "zz"
    fail "fin"
  | @atomR _ _ _ r z e hz hc hn h1 p =>
    have e2 : atI (T.map Tok.d) (at_ : Nat) = some (.tup [.str "word", .str z]) := at_tok e
    have := tok_lt e
    walk_at "zz"
    · rename_i hb
      omega
    refine ⟨_, rfl, ?_⟩
    walk_at "zz"
    all_goals try contradiction
    refine in_args ?_
    rw [hc]
    walk_at "zz"
    all_goals try contradiction
    refine wp_inTS (ns := NOTS) ?_
    rw [hn]
    walk_at "zz"
    refine one_wp' (at_ + 1) ["["] (by omega) rfl ?_
    rw [h1]
    walk_at "zz"
    refine (h.read p (by omega) (by omega)).mono ?_
    rintro d t ⟨rfl, g⟩
    walk_at "zz"
    fail "fin"
  | @atomW _ _ _ z e hz hc hn h1 =>
    have e2 : atI (T.map Tok.d) (at_ : Nat) = some (.tup [.str "word", .str z]) := at_tok e
    have := tok_lt e
    walk_at "zz"
    · rename_i hb
      omega
    refine ⟨_, rfl, ?_⟩
    walk_at "zz"
    all_goals try contradiction
    refine in_args ?_
    rw [hc]
    walk_at "zz"
    all_goals try contradiction
    refine wp_inTS (ns := NOTS) ?_
    rw [hn]
    walk_at "zz"
    refine one_wp' (at_ + 1) ["["] (by omega) rfl ?_
    rw [h1]
    walk_at "zz"
    fail "fin"
theorem call_end (h : Says T n) {c : Nat} {t0 : Pr} (hk : ∃ k, atI (T.map Tok.d) (at_ : Nat) = some (.tup [.str k, .str (sgn T at_)])) (h1 : one T (at_ + 1) ["("] = true) (ho : o ≠ 12) (hc : T_ARGUMENT_COUNTS.lookup (sgn T at_) = some ((c : Nat) : Int)) (c3 : c ≤ 3) (p : Par T n (.args c 0 [] 0) (at_ + 1) o t0) (r0 : t0 = none → r = none) (r1 : ∀ as p k, t0 = some (.tup as, p, k) → (r = none ∧ (one T p [")"] = false ∨ k = 12)) ∨ (one T p [")"] = true ∧ k ≠ 12 ∧ r = some (.tup [.str "call", .str (sgn T at_), .tup as], p + 1, 1 + k))) : Wp (R_taken_call (n + 1) [.tup (T.map Tok.d), .int (at_ : Nat), .int (o : Nat)] s) (Got r s) := by
  have g : Gr s s := Gr.refl
  obtain ⟨k, e2⟩ := hk
  unfold R_taken_call b_taken_call K_MOST_BRACKETS K_DEEPEST
  refine wp_fn rfl ?_
  walk_at "zn"
  walk_at "zn"
  refine one_wp' (at_ + 1) ["("] (by omega) rfl ?_
  rw [h1]
  walk_at "zz"
  · omega
  refine at_args hc ?_
  walk_at "zz"
  refine ⟨_, rfl, by omega, by omega, ?_⟩
  have hl : (rangeD 0 (c : Int).toNat).length = c := by rw [rangeD_len]; omega
  refine wp_forT (fun i e st => ∃ as dp p x7 x8, e = [some (.tup (T.map Tok.d)), some (.int (at_ : Nat)), some (.int (o : Nat)), some (.str (sgn T at_)), some (.loc s.length), some (.int ((dp : Nat) : Int)), some (.int ((p : Nat) : Int)), x7, x8] ∧ st[s.length]? = some (.lst as) ∧ as.length = i ∧ Gr s st ∧ ∃ j, i + j = c ∧ Par T n (.args j i as dp) p o t0) ⟨[], 0, at_ + 1, none, none, rfl, at_last, rfl, Gr.app, c, by omega, p⟩ ?_ ?_
  · rintro i d e st hd ⟨as, dp, q, x7, x8, rfl, ha, la, g, j, hj, p⟩
    obtain ⟨hi, rfl⟩ := rangeD_get hd
    refine ⟨_, rfl, ?_⟩
    cases p with
    | args0 => omega
    | args1 j0 e1 =>
      walk_at "zz"
      · refine one_wp' q [","] rfl rfl ?_
        rw [e1]
        walk_at "zz"
        exact ⟨r0 rfl ▸ rfl, g⟩
      · omega
    | args2 j0 pw =>
      refine wp_mid (fun e t => e = [some (.tup (T.map Tok.d)), some (.int (at_ : Nat)), some (.int (o : Nat)), some (.str (sgn T at_)), some (.loc s.length), some (.int ((dp : Nat) : Int)), some (.int ((q : Nat) : Int)), some (.int (0 + (i : Nat))), x8] ∧ t = st) ?_ ?_
      · walk_at "zz"
        · rename_i hb
          have e1 : one T q [","] = true := by
            rcases j0 with j0 | j0
            · omega
            · exact j0
          refine one_wp' q [","] rfl rfl ?_
          rw [e1]
          walk_at "zz"
          exact ⟨_, rfl, rfl, rfl⟩
        · exact ⟨_, rfl, rfl, rfl⟩
      rintro e t ⟨rfl, rfl⟩
      walk_at "zn"
      refine (h.whole pw (by omega) (by omega)).mono ?_
      rintro d t2 ⟨rfl, g2⟩
      walk_at "zz"
      · exact ⟨r0 rfl ▸ rfl, g.trans g2⟩
      · exact (nonN (by assumption)).elim
    | @args3 _ _ _ j _ _ _ l _ j0 p p2 =>
      obtain ⟨l1, l2, l3⟩ := l
      refine wp_mid (fun e t => e = [some (.tup (T.map Tok.d)), some (.int (at_ : Nat)), some (.int (o : Nat)), some (.str (sgn T at_)), some (.loc s.length), some (.int ((dp : Nat) : Int)), some (.int ((q : Nat) : Int)), some (.int (0 + (i : Nat))), x8] ∧ t = st) ?_ ?_
      · walk_at "zz"
        · rename_i hb
          have e1 : one T q [","] = true := by
            rcases j0 with j0 | j0
            · omega
            · exact j0
          refine one_wp' q [","] rfl rfl ?_
          rw [e1]
          walk_at "zz"
          exact ⟨_, rfl, rfl, rfl⟩
        · exact ⟨_, rfl, rfl, rfl⟩
      rintro e t ⟨rfl, rfl⟩
      walk_at "zn"
      refine (h.whole p (by omega) (by omega)).mono ?_
      rintro d t2 ⟨rfl, g2⟩
      unfold prD
      dsimp only at p2 ⊢
      walk_at "zz"
      · exact (nonT (by assumption)).elim
      have ha := g2.keep ha
      walk_at "zz"
      have e : (if (l3 : Int) > (dp : Int) then (l3 : Int) else (dp : Int)) = ((max dp l3 : Nat) : Int) := by split <;> omega
      refine ⟨as ++ [l1], max dp l3, l2, _, _, by rw [e]; rfl, at_set ha, by rw [List.length_append, la]; rfl, (g.trans g2).setNew (Nat.le_refl _), j, by omega, p2⟩
  · rintro e st ⟨as, dp, q, x7, x8, rfl, ha, la, g, j, hj, p⟩
    rw [hl] at hj
    obtain rfl : j = 0 := by omega
    cases p with
    | args0 =>
    rcases r1 _ _ _ rfl with ⟨rfl, h2⟩ | ⟨h2, h3, rfl⟩
    · walk_at "zz"
      refine one_wp' q [")"] rfl rfl ?_
      cases h1 : one T q [Str.ofString ")"] with
      | false =>
        walk_at "zz"
        fail "fin"
      | true =>
        have : dp = 12 := by
          rcases h2 with e | e
          · rw [h1] at e
            cases e
          · exact e
        walk_at "zz"
        · exact ⟨rfl, g⟩
        · omega
    · walk_at "zz"
      refine one_wp' q [")"] rfl rfl ?_
      rw [h2]
      walk_at "zz"
      · omega
      exact ⟨rfl, g⟩
theorem call_step (h : Says T n) (hk : ∃ k, atI (T.map Tok.d) (at_ : Nat) = some (.tup [.str k, .str (sgn T at_)])) (p : Par T (n + 1) .call at_ o r) : Wp (R_taken_call (n + 1) [.tup (T.map Tok.d), .int (at_ : Nat), .int (o : Nat)] s) (Got r s) := by
  cases p with
  | call0 e =>
    have g : Gr s s := Gr.refl
    obtain ⟨k, e2⟩ := hk
    unfold R_taken_call b_taken_call K_MOST_BRACKETS K_DEEPEST
    refine wp_fn rfl ?_
    walk_at "zn"
    walk_at "zn"
    refine one_wp' (at_ + 1) ["("] (by omega) rfl ?_
    cases h1 : one T (at_ + 1) [Str.ofString "("] with
    | false =>
      walk_at "zz"
      fail "fin"
    | true =>
      have : o = 12 := by
        rcases e with e | e
        · rw [h1] at e
          cases e
        · exact e
      walk_at "zz"
      · exact ⟨rfl, g⟩
      · omega
  | call1 h1 ho hc c3 p => exact call_end h hk h1 ho hc c3 p (fun _ => rfl) (fun _ _ _ e => nomatch e)
  | call2 h1 ho hc c3 p e => exact call_end h hk h1 ho hc c3 p (fun e => nomatch e) (fun as p k e' => by
      cases e'
      exact .inl ⟨rfl, e⟩)
  | call3 h1 ho hc c3 p e hk2 => exact call_end h hk h1 ho hc c3 p (fun e => nomatch e) (fun as p k e' => by
      cases e'
      exact .inr ⟨e, hk2, rfl⟩)
theorem says (T : List Tok) : ∀ n, Says T n
  | 0 => by
    constructor
    all_goals
      intros
      exfalso
      rename Par T 0 _ _ _ _ => p
      cases p
  | n + 1 => by
    have h := says T n
    refine ⟨?_, ?_, ?_, ?_, ?_, ?_, ?_⟩
    · rintro at_ o r s x y p rfl rfl
      exact whole_step h p
    · rintro at_ o r s x y p rfl rfl
      exact sum_step h p
    · rintro at_ o r s x y p rfl rfl
      exact prod_step h p
    · rintro at_ o r s x y p rfl rfl
      exact atom_step h p
    · rintro at_ o r s x y p rfl rfl
      exact read_step h p
    · rintro at_ o r s x y p hk rfl rfl
      exact call_step h hk p
    · rintro at_ o r s c x y p rfl rfl
      exact inside_step h p
end
end K02
end
section
set_option Elab.async false
set_option linter.all false
set_option maxRecDepth 100000
set_option maxHeartbeats 1000000
open PySem PySem.Spec PyProof.Rows L2 Z
local macro_rules | `(tactic| fail "zs") => `(tactic| first
  | assumption
  | with_reducible exact at_last
  | (with_reducible apply at_set; fail "zs")
  | (with_reducible apply at_app; fail "zs")
  | (with_reducible apply at_setne; (first | assumption | (apply Ne.symm; assumption) | omega); fail "zs")
  | (with_reducible refine Gr.keep (by assumption) ?_; fail "zs")
  | (with_reducible refine Gx.keep (by assumption) ?_ ?_; (first | assumption | (apply Ne.symm; assumption) | omega); fail "zs"))
local macro_rules | `(tactic| fail "zg") => `(tactic| first
  | assumption
  | (with_reducible apply getL_of; fail "zs")
  | (with_reducible apply getW_of; fail "zs")
  | (with_reducible apply getI_of; fail "zs"))
local macro_rules | `(tactic| fail "za") => `(tactic| first | (with_reducible apply atI_int; (first | assumption | omega); (first | assumption | omega | (simp only [List.length_set]; omega))) | with_unfolding_all exact rfl | assumption)
local macro_rules | `(tactic| fail "y0") => `(tactic| first
  | (with_reducible refine' wp_var ?z1 ?z2; (case z1 => with_unfolding_all exact rfl))
  | with_reducible refine wp_c2 ?_
  | with_reducible refine wp_cons ?_
  | with_reducible refine wp_c ?_
  | with_reducible refine wp_nil ?_
  | with_reducible refine wp_call ?_
  | with_reducible refine wp_c1 ?_)
local macro_rules | `(tactic| fail "y1") => `(tactic| first
  | with_reducible refine wp_set ?_
  | with_reducible refine wp_if ?_
  | with_reducible refine wp_next ?_
  | with_reducible refine wp_ret ?_
  | with_reducible refine af_nx ?_
  | with_reducible refine bk_rt ?_
  | (with_reducible refine' wp_ixL ?z1 ?z2 ?z3; (case z1 => fail "zg"); (case z2 => fail "za"))
  | (with_reducible refine' wp_ixT ?z1 ?z2; (case z1 => fail "za")))
local macro_rules | `(tactic| fail "y2") => `(tactic| first
  | with_reducible refine af_rt ?_
  | with_reducible refine af_bk ?_
  | with_reducible refine bk_nx ?_
  | with_reducible refine turned_nx ?_
  | with_reducible refine turned_bk ?_
  | with_reducible refine turned_rt ?_
  | with_reducible refine wp_and ?_
  | with_reducible refine wp_or ?_)
local macro_rules | `(tactic| fail "y3") => `(tactic| first
  | with_reducible refine wp_not ?_
  | with_reducible refine wp_sub ?_
  | with_reducible refine wp_subA ?_
  | with_reducible refine wp_chain ?_
  | with_reducible refine wp_neAI ?_
  | with_reducible refine wp_neAS ?_
  | with_reducible refine wp_dic0 ?_
  | with_reducible refine wp_drop ?_)
local macro_rules | `(tactic| fail "y4") => `(tactic| first
  | with_reducible refine wp_vK ?_
  | with_reducible refine wp_nox ?_
  | with_reducible refine wp_break ?_
  | with_reducible refine wp_retN ?_
  | with_reducible refine wp_sfld ?_
  | with_reducible refine wp_yes ?_
  | with_reducible refine wp_addI ?_
  | with_reducible refine wp_subI ?_)
local macro_rules | `(tactic| fail "y5") => `(tactic| first
  | with_reducible refine wp_neg ?_
  | with_reducible refine wp_eqI ?_
  | with_reducible refine wp_neI ?_
  | with_reducible refine wp_ltI ?_
  | with_reducible refine wp_leI ?_
  | with_reducible refine wp_gtI ?_
  | with_reducible refine wp_geI ?_
  | with_reducible refine wp_eqS ?_)
local macro_rules | `(tactic| fail "y6") => `(tactic| first
  | with_reducible refine wp_neS ?_
  | with_reducible refine wp_eqB ?_
  | with_reducible refine wp_isN ?_
  | with_reducible refine wp_isNotN ?_
  | with_reducible refine wp_int ?_
  | with_reducible refine wp_max2 ?_
  | with_reducible refine wp_min2 ?_
  | with_reducible refine wp_tr_bl ?_)
local macro_rules | `(tactic| fail "y7") => `(tactic| first
  | with_reducible refine wp_tr_int ?_
  | with_reducible refine wp_tupT ?_
  | with_reducible refine wp_slT ?_
  | with_reducible refine wp_nopart ?_
  | with_reducible refine wp_lst ?_
  | with_reducible refine wp_tup ?_
  | with_reducible refine wp_slice ?_
  | with_reducible refine wp_callK ?_)
local macro_rules | `(tactic| fail "y8") => `(tactic| first
  | with_reducible refine wp_make ?_
  | with_reducible refine wp_meth ?_
  | with_reducible refine wp_is ?_
  | with_reducible refine wp_vand ?_
  | with_reducible refine wp_vor ?_
  | with_reducible refine wp_vnot ?_
  | with_reducible refine wp_asg ?_
  | with_reducible refine wp_part ?_)
local macro_rules | `(tactic| fail "y9") => `(tactic| first
  | with_reducible refine wp_forR1 ?_
  | with_reducible refine wp_forR2 ?_
  | with_reducible refine wp_compR1 ?_
  | with_reducible refine wp_compR2 ?_
  | (with_reducible refine' wp_ixAL ?z1 ?z2 ?z3; (case z1 => fail "zg"); (case z2 => fail "za"))
  | (with_reducible refine' wp_ixAT ?z1 ?z2; (case z1 => fail "za"))
  | (with_reducible refine' and_isL ?z1 ?z2; (case z1 => fail "zg"))
  | (with_reducible refine' wp_append ?z1 ?z2 ?z3; (case z1 => fail "zg"); (case z2 => first | omega | (simp only [List.length_map, List.length_append, List.length_cons, List.length_nil]; omega))))
local macro_rules | `(tactic| fail "y10") => `(tactic| first
  | (with_reducible refine' wp_lenL ?z1 ?z2; (case z1 => fail "zg"))
  | with_reducible refine wp_lenT ?_
  | (with_reducible refine' wp_lenAL ?z1 ?z2; (case z1 => fail "zg"))
  | with_reducible refine wp_lenAT ?_
  | (with_reducible refine' wp_listL ?z1 ?z2; (case z1 => fail "zg"))
  | with_reducible refine wp_listT ?_
  | with_reducible refine ex_bl ?_
  | (with_reducible refine' ex_ty ?z1 ?z2 ?z3; (case z1 => with_unfolding_all exact rfl); (case z2 => with_unfolding_all exact rfl)))
local macro_rules | `(tactic| fail "y11") => `(tactic| first
  | (with_reducible refine' wp_mulT ?z1 ?z2 ?z3; (case z1 => omega); (case z2 => omega))
  | (with_reducible refine' wp_setF ?z1 ?z2 ?z3; (case z1 => fail "zg"); (case z2 => with_unfolding_all exact Nat.le_of_ble_eq_true rfl))
  | (with_reducible refine' wp_setInt ?z1 ?z2 ?z3 ?z4; (case z1 => fail "zg"); (case z2 => first | assumption | omega); (case z3 => first | assumption | omega | (simp only [List.length_set]; omega)))
  | (with_reducible refine' wp_setIx ?z1 ?z2 ?z3; (case z1 => fail "zg"); (case z2 => first | (with_reducible apply ixN_of; (first | assumption | omega); (first | assumption | omega | (rw [List.length_map]; omega))) | with_unfolding_all exact rfl | assumption))
  | (with_reducible refine' wp_setAI ?z1 ?z2 ?z3 ?z4; (case z1 => fail "zg"); (case z2 => first | assumption | omega); (case z3 => first | assumption | omega | (simp only [List.length_set]; omega)))
  | (with_reducible refine' wp_setAX ?z1 ?z2 ?z3; (case z1 => fail "zg"); (case z2 => first | (with_reducible apply ixN_of; (first | assumption | omega); (first | assumption | omega | (rw [List.length_map]; omega))) | with_unfolding_all exact rfl | assumption))
  | (with_reducible refine' wp_modI ?z1 ?z2; (case z1 => omega))
  | (with_reducible refine' wp_divA0 ?z1 ?z2 ?z3; (case z1 => omega); (case z2 => omega)))
local macro_rules | `(tactic| fail "y12") => `(tactic| first
  | (with_reducible refine' wp_mulA ?z1 ?z2; (case z1 => omega))
  | (with_reducible refine' wp_divI ?z1 ?z2 ?z3; (case z1 => omega); (case z2 => omega))
  | (with_reducible refine' wp_mulI ?z1 ?z2; (case z1 => omega))
  | (with_reducible refine' wp_powI ?z1 ?z2; (case z1 => with_unfolding_all decide))
  | (with_reducible refine' wp_fld ?z1 ?z2 ?z3; (case z1 => fail "zg"); (case z2 => first | with_unfolding_all exact rfl | assumption))
  | (with_reducible refine' wp_prop ?z1 ?z2; (case z1 => fail "zg"))
  | (with_reducible refine' wp_tupL ?z1 ?z2; (case z1 => fail "zg"))
  | (with_reducible refine' And.intro ?z1 ?z2; (case z1 => first | with_unfolding_all exact Nat.le_of_ble_eq_true rfl | with_unfolding_all decide)))
local macro_rules | `(tactic| fail "z0") => `(tactic| first | fail "y0" | fail "y1" | fail "y2" | fail "y3" | fail "y4" | fail "y5" | fail "y6" | fail "y7" | fail "y8" | fail "y9" | fail "y10" | fail "y11" | fail "y12")
local macro_rules | `(tactic| fail "z1") => `(tactic| first | with_reducible refine wp_seq ?_ | fail "z0")
local macro_rules | `(tactic| walk_at "z") => `(tactic| (repeat fail "z1"))
local macro_rules | `(tactic| fail "zb") => `(tactic| (with_reducible refine And.intro ?_ ?_; (all_goals (intro hb; first | (simp at hb; done) | (simp at hb; skip) | skip))))
local macro_rules | `(tactic| walk_at "zz") => `(tactic| (repeat' (first | fail "z1" | fail "zb")))
local macro_rules | `(tactic| walk_at "zy") => `(tactic| (repeat' (first | fail "z0" | fail "zb")))
local macro_rules | `(tactic| walk_at "zn") => `(tactic| (with_reducible refine wp_seq ?_; walk_at "zy"))
local macro_rules | `(tactic| walk_at "zs") => `(tactic| fail "zs")
local macro_rules | `(tactic| walk_at "zg") => `(tactic| fail "zg")
local macro_rules | `(tactic| walk_at "za") => `(tactic| fail "za")
local macro_rules | `(tactic| walk_at "z0") => `(tactic| fail "z0")
local macro_rules | `(tactic| walk_at "z1") => `(tactic| fail "z1")
local macro_rules | `(tactic| walk_at "zb") => `(tactic| fail "zb")
namespace K02
open PySem PySem.Spec PyProof.Rows L2 Z
/-- an expression -/
inductive Xp where
  | num (n : Int) | nm (w : Str) | rd (a : Str) (x : Xp) | op (s : Str) (l r : Xp) | mn (x y : Xp) | mx (x y : Xp) | nth (x : Xp) | pick (x y z : Xp)
def Xp.d : Xp → D
  | .num n => .tup [.str "number", .int n]
  | .nm w => .tup [.str "name", .str w]
  | .rd a x => .tup [.str "read", .str a, x.d]
  | .op s l r => .tup [.str "op", .str s, l.d, r.d]
  | .mn x y => .tup [.str "call", .str "min", .tup [x.d, y.d]]
  | .mx x y => .tup [.str "call", .str "max", .tup [x.d, y.d]]
  | .nth x => .tup [.str "call", .str "nth", .tup [x.d]]
  | .pick x y z => .tup [.str "call", .str "pick", .tup [x.d, y.d, z.d]]
def Xp.parts : Xp → List Xp
  | .num _ => []
  | .nm _ => []
  | .rd _ x => [x]
  | .op _ l r => [l, r]
  | .mn x y => [x, y]
  | .mx x y => [x, y]
  | .nth x => [x]
  | .pick x y z => [x, y, z]
def Xp.dep : Xp → Nat
  | .num _ => 1
  | .nm _ => 1
  | .rd _ x => x.dep + 1
  | .op _ l r => max l.dep r.dep + 1
  | .mn x y => max x.dep y.dep + 1
  | .mx x y => max x.dep y.dep + 1
  | .nth x => x.dep + 1
  | .pick x y z => max x.dep (max y.dep z.dep) + 1
theorem part_dep : ∀ {x p : Xp}, p ∈ x.parts → p.dep + 1 ≤ x.dep
  | .num _, p, h => nomatch h
  | .nm _, p, h => nomatch h
  | .rd _ x, p, h => by
    rw [List.mem_singleton.mp h]
    exact Nat.le_refl _
  | .nth x, p, h => by
    rw [List.mem_singleton.mp h]
    exact Nat.le_refl _
  | .op _ l r, p, h => by
    show p.dep + 1 ≤ max l.dep r.dep + 1
    rcases List.mem_cons.mp h with rfl | h
    · omega
    · rw [List.mem_singleton.mp h]
      omega
  | .mn l r, p, h => by
    show p.dep + 1 ≤ max l.dep r.dep + 1
    rcases List.mem_cons.mp h with rfl | h
    · omega
    · rw [List.mem_singleton.mp h]
      omega
  | .mx l r, p, h => by
    show p.dep + 1 ≤ max l.dep r.dep + 1
    rcases List.mem_cons.mp h with rfl | h
    · omega
    · rw [List.mem_singleton.mp h]
      omega
  | .pick x y z, p, h => by
    show p.dep + 1 ≤ max x.dep (max y.dep z.dep) + 1
    rcases List.mem_cons.mp h with rfl | h
    · omega
    rcases List.mem_cons.mp h with rfl | h
    · omega
    rw [List.mem_singleton.mp h]
    omega
def big : Int := 1000000000000
def bi (b : Bool) : Int := if b then 1 else 0
def OPS : List Str := ["+", "-", "*", "div", "mod", "<", "<=", ">", ">=", "=", "!="]
/-- words of an expression, numbers' bounds -/
def Xp.ok (ws sh : List Str) : Xp → Prop
  | .num n => 0 ≤ n ∧ n ≤ big
  | .nm w => w ∈ ws
  | .rd a x => a ∈ sh ∧ x.ok ws sh
  | .op s l r => s ∈ OPS ∧ l.ok ws sh ∧ r.ok ws sh
  | .mn x y => x.ok ws sh ∧ y.ok ws sh
  | .mx x y => x.ok ws sh ∧ y.ok ws sh
  | .nth x => x.ok ws sh
  | .pick x y z => x.ok ws sh ∧ y.ok ws sh ∧ z.ok ws sh
end K02
end
section
set_option Elab.async false
set_option linter.all false
set_option maxRecDepth 100000
set_option maxHeartbeats 4000000
namespace K02
open PySem PySem.Spec PyProof.Rows L2 Z
/-! the tokens of an expression with the fewest parentheses, and how they are taken -/
def opTok (s : Str) : Tok := if s = ("div" : Str) ∨ s = ("mod" : Str) then .word s else .sign s
def olev (s : Str) : Nat := if s ∈ SUMS then 2 else if s ∈ PRODS then 3 else 1
def lev : Xp → Nat
  | .op s _ _ => olev s
  | _ => 4
def par (b : Bool) (t : List Tok) : List Tok := if b then .sign "(" :: (t ++ [.sign ")"]) else t
def tk : Xp → List Tok
  | .num n => [.num n]
  | .nm w => [.word w]
  | .rd a x => .word a :: .sign "[" :: (tk x ++ [.sign "]"])
  | .op s l r => par (decide (lev l < max (olev s) 2)) (tk l) ++ opTok s :: par (decide (lev r < olev s + 1)) (tk r)
  | .mn x y => .word "min" :: .sign "(" :: (tk x ++ .sign "," :: (tk y ++ [.sign ")"]))
  | .mx x y => .word "max" :: .sign "(" :: (tk x ++ .sign "," :: (tk y ++ [.sign ")"]))
  | .nth x => .word "nth" :: .sign "(" :: (tk x ++ [.sign ")"])
  | .pick x y z => .word "pick" :: .sign "(" :: (tk x ++ .sign "," :: (tk y ++ .sign "," :: (tk z ++ [.sign ")"])))
/-- words that stand for a name or an array -/
structure Pw (w : Str) : Prop where
  p : w ≠ "("
  a : T_ARGUMENT_COUNTS.lookup w = none
  s : (NOTS.any fun y => y == w) = false
def Xp.pok : Xp → Prop
  | .num _ => True
  | .nm w => Pw w
  | .rd a x => Pw a ∧ x.pok
  | .op s l r => s ∈ OPS ∧ l.pok ∧ r.pok
  | .mn x y => x.pok ∧ y.pok
  | .mx x y => x.pok ∧ y.pok
  | .nth x => x.pok
  | .pick x y z => x.pok ∧ y.pok ∧ z.pok
theorem opTok_txt (s : Str) : (opTok s).txt = some s := by
  unfold opTok
  split <;> rfl
theorem dep_pos (x : Xp) : 1 ≤ x.dep := by cases x <;> simp [Xp.dep]
/-- L stands in T at p -/
def At (T : List Tok) (p : Nat) (L : List Tok) : Prop := ∃ post, T.drop p = L ++ post
section
variable {T L M : List Tok} {p : Nat} {t : Tok}
theorem At.get (h : At T p (t :: L)) : T[p]? = some t := by
  obtain ⟨post, h⟩ := h
  have := congrArg (fun l : List Tok => l[0]?) h
  simpa using this
theorem At.app (h : At T p (L ++ M)) : At T p L ∧ At T (p + L.length) M := by
  obtain ⟨post, h⟩ := h
  refine ⟨⟨M ++ post, by rw [h, List.append_assoc]⟩, post, ?_⟩
  rw [← List.drop_drop, h, List.append_assoc, List.drop_left]
theorem At.cons (h : At T p (t :: L)) : T[p]? = some t ∧ At T (p + 1) L := ⟨h.get, (At.app (L := [t]) h).2⟩
theorem one_at {ss : List Str} {z : Str} (h : T[p]? = some t) (e : t.txt = some z) : one T p ss = ss.any fun y => y == z := by
  unfold one
  rw [h]
  show (match t.txt with
    | some z => ss.any fun y => y == z
    | none => false) = _
  rw [e]
theorem sgn_at {z : Str} (h : T[p]? = some t) (e : t.txt = some z) : sgn T p = z := by
  unfold sgn
  rw [h]
  show t.txt.getD "" = z
  rw [e]
  rfl
theorem one_sign {ss : List Str} {z : Str} (h : T[p]? = some (.sign z)) : one T p ss = ss.any fun y => y == z := one_at h rfl
/-- what may not follow -/
def N4 (T : List Tok) (p : Nat) : Prop := one T p ["["] = false
def N3 (T : List Tok) (p : Nat) : Prop := N4 T p ∧ one T p PRODS = false
def N2 (T : List Tok) (p : Nat) : Prop := N3 T p ∧ one T p SUMS = false
def N1 (T : List Tok) (p : Nat) : Prop := N2 T p ∧ one T p CMPS = false
theorem n1_cl (h : T[p]? = some (.sign ")")) : N1 T p := by
  unfold N1 N2 N3 N4
  rw [one_sign h, one_sign h, one_sign h, one_sign h]
  decide
theorem n1_br (h : T[p]? = some (.sign "]")) : N1 T p := by
  unfold N1 N2 N3 N4
  rw [one_sign h, one_sign h, one_sign h, one_sign h]
  decide
theorem n1_co (h : T[p]? = some (.sign ",")) : N1 T p := by
  unfold N1 N2 N3 N4
  rw [one_sign h, one_sign h, one_sign h, one_sign h]
  decide
theorem n1_end (h : T.length ≤ p) : N1 T p := by
  have e : T[p]? = none := List.getElem?_eq_none h
  have : ∀ ss, one T p ss = false := fun ss => by
    unfold one
    rw [e]
  exact ⟨⟨⟨this _, this _⟩, this _⟩, this _⟩
theorem ops_cases {s : Str} (h : s ∈ OPS) : (s ∈ PRODS ∧ olev s = 3) ∨ (s ∈ SUMS ∧ olev s = 2) ∨ (s ∈ CMPS ∧ olev s = 1) := by
  unfold OPS at h
  simp only [List.mem_cons, List.not_mem_nil, or_false] at h
  rcases h with rfl | rfl | rfl | rfl | rfl | rfl | rfl | rfl | rfl | rfl | rfl <;> decide
theorem any_of {ss : List Str} {s : Str} (h : s ∈ ss) : (ss.any fun y => y == s) = true := List.any_eq_true.mpr ⟨s, h, by simp⟩
theorem n4_op {s : Str} (h : T[p]? = some (opTok s)) (k : s ∈ OPS) : N4 T p := by
  unfold N4
  rw [one_at h (opTok_txt s)]
  revert k
  unfold OPS
  intro k
  simp only [List.mem_cons, List.not_mem_nil, or_false] at k
  rcases k with rfl | rfl | rfl | rfl | rfl | rfl | rfl | rfl | rfl | rfl | rfl <;> decide
theorem n3_op {s : Str} (h : T[p]? = some (opTok s)) (k : s ∈ SUMS) : N3 T p := by
  unfold N3 N4
  rw [one_at h (opTok_txt s), one_at h (opTok_txt s)]
  revert k
  unfold SUMS
  intro k
  simp only [List.mem_cons, List.not_mem_nil, or_false] at k
  rcases k with rfl | rfl <;> decide
theorem n2_op {s : Str} (h : T[p]? = some (opTok s)) (k : s ∈ CMPS) : N2 T p := by
  unfold N2 N3 N4
  rw [one_at h (opTok_txt s), one_at h (opTok_txt s), one_at h (opTok_txt s)]
  revert k
  unfold CMPS
  intro k
  simp only [List.mem_cons, List.not_mem_nil, or_false] at k
  rcases k with rfl | rfl | rfl | rfl | rfl | rfl <;> decide
end
end K02
end
section
set_option Elab.async false
set_option linter.all false
set_option maxRecDepth 100000
set_option maxHeartbeats 4000000
namespace K02
open PySem PySem.Spec PyProof.Rows L2 Z
def pl (b : Bool) (x : Xp) : Nat := (par b (tk x)).length
structure Pz (T : List Tok) (x : Xp) : Prop where
  c4 : lev x = 4 → ∀ {n p o : Nat}, At T p (tk x) → 6 * x.dep ≤ n + 5 → o + x.dep ≤ 13 → N4 T (p + (tk x).length) → Par T n .atom p o (some (x.d, p + (tk x).length, x.dep))
  c3 : 3 ≤ lev x → ∀ {n p o m : Nat} {r : Pr}, At T p (tk x) → 6 * x.dep ≤ n + 5 → o + x.dep ≤ 13 → N4 T (p + (tk x).length) → Par T n (.lpP (some (x.d, p + (tk x).length, x.dep)) m) p o r → ∃ t k, Par T n .atom p o t ∧ Par T n (.lpP t (k + m)) p o r ∧ k ≤ (tk x).length
  c2 : 2 ≤ lev x → ∀ {n p o m : Nat} {r : Pr}, At T p (tk x) → 6 * x.dep ≤ n + 4 → o + x.dep ≤ 13 → N3 T (p + (tk x).length) → Par T n (.lpS (some (x.d, p + (tk x).length, x.dep)) m) p o r → ∃ t k, Par T n .prod p o t ∧ Par T n (.lpS t (k + m)) p o r ∧ k ≤ (tk x).length
  c1 : ∀ {n p o : Nat}, At T p (tk x) → 6 * x.dep ≤ n + 2 → o + x.dep ≤ 13 → N1 T (p + (tk x).length) → Par T n .whole p o (some (x.d, p + (tk x).length, x.dep))
theorem At.len {T L : List Tok} {p : Nat} (h : At T p L) (h0 : L ≠ []) : p + L.length ≤ T.length := by
  obtain ⟨post, h⟩ := h
  have e := congrArg List.length h
  rw [List.length_drop, List.length_append] at e
  have : L.length ≠ 0 := fun e => h0 (List.length_eq_zero_iff.mp e)
  omega
theorem tk_ne (x : Xp) : tk x ≠ [] := by
  cases x <;> simp [tk]
theorem lev_le (x : Xp) : lev x ≤ 4 := by
  cases x <;> simp [lev]
  unfold olev
  split
  · omega
  · split <;> omega
section
variable {T : List Tok} {x l r : Xp} {n p o m : Nat} {b : Bool} {s : Str}
theorem pl_t : pl true x = (tk x).length + 2 := by
  simp [pl, par]
theorem paren (hx : Pz T x) (ha : At T p (par true (tk x))) (hn : 6 * x.dep + 1 ≤ n) (ho : o + x.dep ≤ 12) : Par T n .atom p o (some (x.d, p + pl true x, x.dep)) := by
  obtain ⟨n, rfl⟩ : ∃ k, n = k + 1 := ⟨n - 1, by have := dep_pos x; omega⟩
  obtain ⟨n, rfl⟩ : ∃ k, n = k + 1 := ⟨n - 1, by have := dep_pos x; omega⟩
  obtain ⟨h0, h1⟩ := At.cons (L := tk x ++ [.sign ")"]) ha
  obtain ⟨h1, h2⟩ := h1.app
  have h2 := h2.get
  have w : Par T n .whole (p + 1) (o + 1) (some (x.d, p + 1 + (tk x).length, x.dep)) := hx.c1 h1 (by omega) (by omega) (n1_cl h2)
  have i := Par.in3 (c := Str.ofString ")") (by have := dep_pos x; omega) w (by rw [one_sign h2]; decide)
  have a := Par.atomP h0 rfl i
  rw [pl_t, show p + ((tk x).length + 2) = p + 1 + (tk x).length + 1 by omega]
  exact a
theorem atomP' (hx : Pz T x) (hb : b = true ∨ (b = false ∧ lev x = 4)) (ha : At T p (par b (tk x))) (hn : 6 * x.dep + 1 ≤ n) (ho : o + x.dep ≤ 12) (h4 : N4 T (p + pl b x)) : Par T n .atom p o (some (x.d, p + pl b x, x.dep)) := by
  rcases hb with rfl | ⟨rfl, hb⟩
  · exact paren hx ha hn ho
  · exact hx.c4 hb ha (by omega) (by omega) h4
theorem leftP (hx : Pz T x) (hb : b = true ∨ (b = false ∧ 3 ≤ lev x)) {q : Pr} (ha : At T p (par b (tk x))) (hn : 6 * x.dep + 1 ≤ n) (ho : o + x.dep ≤ 12) (h4 : N4 T (p + pl b x)) (w : Par T n (.lpP (some (x.d, p + pl b x, x.dep)) m) p o q) : ∃ t k, Par T n .atom p o t ∧ Par T n (.lpP t (k + m)) p o q ∧ k ≤ pl b x := by
  rcases hb with rfl | ⟨rfl, hb⟩
  · exact ⟨_, 0, paren hx ha hn ho, by rw [Nat.zero_add]; exact w, Nat.zero_le _⟩
  · exact hx.c3 hb ha (by omega) (by omega) h4 w
theorem prod_of (hT : T.length < 900000) (hb : b = true ∨ (b = false ∧ 3 ≤ lev x)) (hx : Pz T x) (ha : At T p (par b (tk x))) (hn : 6 * x.dep + 2 ≤ n) (ho : o + x.dep ≤ 12) (h3 : N3 T (p + pl b x)) : Par T n .prod p o (some (x.d, p + pl b x, x.dep)) := by
  obtain ⟨n, rfl⟩ : ∃ k, n = k + 1 := ⟨n - 1, by omega⟩
  obtain ⟨t, k, h1, h2, h5⟩ := leftP (m := 0) (n := n) hx hb ha (by omega) ho h3.1 (.lpPE h3.2)
  have hl : p + pl b x ≤ T.length := ha.len (by cases b <;> simp [par, tk_ne])
  exact .prod h1 (by omega) h2
theorem leftS (hT : T.length < 900000) (hx : Pz T x) (hb : b = true ∨ (b = false ∧ 2 ≤ lev x)) {q : Pr} (ha : At T p (par b (tk x))) (hn : 6 * x.dep + 2 ≤ n) (ho : o + x.dep ≤ 12) (h3 : N3 T (p + pl b x)) (w : Par T n (.lpS (some (x.d, p + pl b x, x.dep)) m) p o q) : ∃ t k, Par T n .prod p o t ∧ Par T n (.lpS t (k + m)) p o q ∧ k ≤ pl b x := by
  rcases hb with rfl | ⟨rfl, hb⟩
  · exact ⟨_, 0, prod_of hT (.inl rfl) hx ha hn ho h3, by rw [Nat.zero_add]; exact w, Nat.zero_le _⟩
  · exact hx.c2 hb ha (by omega) (by omega) h3 w
theorem sum_of (hT : T.length < 900000) (hb : b = true ∨ (b = false ∧ 2 ≤ lev x)) (hx : Pz T x) (ha : At T p (par b (tk x))) (hn : 6 * x.dep + 3 ≤ n) (ho : o + x.dep ≤ 12) (h2 : N2 T (p + pl b x)) : Par T n .sum p o (some (x.d, p + pl b x, x.dep)) := by
  obtain ⟨n, rfl⟩ : ∃ k, n = k + 1 := ⟨n - 1, by omega⟩
  obtain ⟨t, k, h1, h3, h5⟩ := leftS (m := 0) (n := n) hT hx hb ha (by omega) ho h2.1 (.lpSE h2.2)
  have hl : p + pl b x ≤ T.length := ha.len (by cases b <;> simp [par, tk_ne])
  exact .sum h1 (by omega) h3
/-- what follows of the claim for an atom -/
theorem Pz.of4 (hT : T.length < 900000) (h4 : lev x = 4) (c4 : ∀ {n p o : Nat}, At T p (tk x) → 6 * x.dep ≤ n + 5 → o + x.dep ≤ 13 → N4 T (p + (tk x).length) → Par T n .atom p o (some (x.d, p + (tk x).length, x.dep))) : Pz T x := by
  have hl : ∀ {p}, At T p (tk x) → p + (tk x).length ≤ T.length := fun ha => ha.len (tk_ne x)
  have c3 : ∀ {n p o m : Nat} {r : Pr}, At T p (tk x) → 6 * x.dep ≤ n + 5 → o + x.dep ≤ 13 → N4 T (p + (tk x).length) → Par T n (.lpP (some (x.d, p + (tk x).length, x.dep)) m) p o r → ∃ t k, Par T n .atom p o t ∧ Par T n (.lpP t (k + m)) p o r ∧ k ≤ (tk x).length := fun ha hn ho h4 w => ⟨_, 0, c4 ha hn ho h4, by rw [Nat.zero_add]; exact w, Nat.zero_le _⟩
  have c2 : ∀ {n p o m : Nat} {r : Pr}, At T p (tk x) → 6 * x.dep ≤ n + 4 → o + x.dep ≤ 13 → N3 T (p + (tk x).length) → Par T n (.lpS (some (x.d, p + (tk x).length, x.dep)) m) p o r → ∃ t k, Par T n .prod p o t ∧ Par T n (.lpS t (k + m)) p o r ∧ k ≤ (tk x).length := fun {n p o m q} ha hn ho h3 w => by
    obtain ⟨n, rfl⟩ : ∃ k, n = k + 1 := ⟨n - 1, by have := dep_pos x; omega⟩
    exact ⟨_, 0, .prod (c4 ha (by omega) ho h3.1) (show 0 < 900000 by omega) (.lpPE h3.2), by rw [Nat.zero_add]; exact w, Nat.zero_le _⟩
  refine ⟨fun _ => c4, fun _ => c3, fun _ => c2, fun {n p o} ha hn ho h1 => ?_⟩
  obtain ⟨n, rfl⟩ : ∃ k, n = k + 1 := ⟨n - 1, by have := dep_pos x; omega⟩
  obtain ⟨n, rfl⟩ : ∃ k, n = k + 1 := ⟨n - 1, by have := dep_pos x; omega⟩
  obtain ⟨t, k, e1, e2, e3⟩ := c2 (m := 0) (n := n) ha (by omega) ho h1.1.1 (.lpSE h1.1.2)
  have := hl ha
  exact .whole1 (.sum e1 (by omega) e2) h1.2
theorem join_op {a c : Nat} (h : max l.dep r.dep + 1 ≤ 12) : joinP s (l.d, a, l.dep) (some (r.d, c, r.dep)) = some ((Xp.op s l r).d, c, (Xp.op s l r).dep) := by
  unfold joinP
  dsimp only
  rw [if_neg (by omega)]
  have e : (Xp.op s l r).dep = 1 + max l.dep r.dep := by
    show max l.dep r.dep + 1 = _
    omega
  rw [e]
  rfl
theorem Pz.op (hT : T.length < 900000) (hs : s ∈ OPS) (hl : Pz T l) (hr : Pz T r) (hd : (Xp.op s l r).dep ≤ 12) : Pz T (.op s l r) := by
  have d1 : (Xp.op s l r).dep = max l.dep r.dep + 1 := rfl
  have le4 := lev_le r
  have tke : tk (.op s l r) = par (decide (lev l < max (olev s) 2)) (tk l) ++ opTok s :: par (decide (lev r < olev s + 1)) (tk r) := rfl
  have lt : (tk (.op s l r)).length = pl (decide (lev l < max (olev s) 2)) l + 1 + pl (decide (lev r < olev s + 1)) r := by
    rw [tke, List.length_append, List.length_cons]
    unfold pl
    omega
  have split : ∀ {p}, At T p (tk (.op s l r)) → At T p (par (decide (lev l < max (olev s) 2)) (tk l)) ∧ T[p + pl (decide (lev l < max (olev s) 2)) l]? = some (opTok s) ∧ At T (p + pl (decide (lev l < max (olev s) 2)) l + 1) (par (decide (lev r < olev s + 1)) (tk r)) := fun ha => by
    rw [tke] at ha
    obtain ⟨h1, h2⟩ := ha.app
    obtain ⟨h2, h3⟩ := h2.cons
    exact ⟨h1, h2, h3⟩
  have hN : ∀ {p}, At T p (tk (.op s l r)) → p + (tk (.op s l r)).length ≤ T.length := fun ha => ha.len (tk_ne _)
  have sg : ∀ {p}, At T p (tk (.op s l r)) → sgn T (p + pl (decide (lev l < max (olev s) 2)) l) = s := fun ha => sgn_at (split ha).2.1 (opTok_txt s)
  have ends : ∀ p, p + pl (decide (lev l < max (olev s) 2)) l + 1 + pl (decide (lev r < olev s + 1)) r = p + (tk (.op s l r)).length := fun p => by rw [lt]; omega
  have dec : ∀ (a c : Nat), decide (a < c) = true ∨ (decide (a < c) = false ∧ c ≤ a) := fun a c => by
    by_cases h : a < c
    · exact .inl (decide_eq_true h)
    · exact .inr ⟨decide_eq_false h, by omega⟩
  have hm := Nat.le_max_left l.dep r.dep
  have hm' := Nat.le_max_right l.dep r.dep
  rcases ops_cases hs with ⟨k, e⟩ | ⟨k, e⟩ | ⟨k, e⟩
  · have L : lev (.op s l r) = 3 := e
    have bl := dec (lev l) (max (olev s) 2)
    have br := dec (lev r) (olev s + 1)
    have c3 : ∀ {n p o m : Nat} {q : Pr}, At T p (tk (.op s l r)) → 6 * (Xp.op s l r).dep ≤ n + 5 → o + (Xp.op s l r).dep ≤ 13 → N4 T (p + (tk (.op s l r)).length) → Par T n (.lpP (some ((Xp.op s l r).d, p + (tk (.op s l r)).length, (Xp.op s l r).dep)) m) p o q → ∃ t k, Par T n .atom p o t ∧ Par T n (.lpP t (k + m)) p o q ∧ k ≤ (tk (.op s l r)).length := fun {n p o m q} ha hn ho h4 w => by
      obtain ⟨a1, a2, a3⟩ := split ha
      have R : Par T n .atom (p + pl (decide (lev l < max (olev s) 2)) l + 1) o (some (r.d, p + (tk (.op s l r)).length, r.dep)) := by
        rw [← ends]
        refine atomP' hr ?_ a3 (by omega) (by omega) (by rw [ends]; exact h4)
        rcases br with br | ⟨br, h⟩
        · exact .inl br
        · exact .inr ⟨br, by omega⟩
      have w2 : Par T n (.lpP (some (l.d, p + pl (decide (lev l < max (olev s) 2)) l, l.dep)) (m + 1)) p o q := .lpPS (by rw [one_at a2 (opTok_txt s)]; exact any_of k) R (by rw [sg ha, join_op (by omega)]; exact w)
      obtain ⟨t, j, e1, e2, e3⟩ := leftP hl (by
        rcases bl with bl | ⟨bl, h⟩
        · exact .inl bl
        · exact .inr ⟨bl, by omega⟩) a1 (by omega) (by omega) (n4_op a2 hs) w2
      exact ⟨t, j + 1, e1, by rw [show j + 1 + m = j + (m + 1) by omega]; exact e2, by rw [lt]; omega⟩
    have c2 : ∀ {n p o m : Nat} {q : Pr}, At T p (tk (.op s l r)) → 6 * (Xp.op s l r).dep ≤ n + 4 → o + (Xp.op s l r).dep ≤ 13 → N3 T (p + (tk (.op s l r)).length) → Par T n (.lpS (some ((Xp.op s l r).d, p + (tk (.op s l r)).length, (Xp.op s l r).dep)) m) p o q → ∃ t k, Par T n .prod p o t ∧ Par T n (.lpS t (k + m)) p o q ∧ k ≤ (tk (.op s l r)).length := fun {n p o m q} ha hn ho h3 w => by
      obtain ⟨n, rfl⟩ : ∃ k, n = k + 1 := ⟨n - 1, by omega⟩
      obtain ⟨t, j, e1, e2, e3⟩ := c3 (m := 0) (n := n) ha (by omega) ho h3.1 (.lpPE h3.2)
      have := hN ha
      exact ⟨_, 0, .prod e1 (by omega) e2, by rw [Nat.zero_add]; exact w, Nat.zero_le _⟩
    refine ⟨fun h => by omega, fun _ => c3, fun _ => c2, fun {n p o} ha hn ho h1 => ?_⟩
    obtain ⟨n, rfl⟩ : ∃ k, n = k + 1 := ⟨n - 1, by omega⟩
    obtain ⟨n, rfl⟩ : ∃ k, n = k + 1 := ⟨n - 1, by omega⟩
    obtain ⟨t, j, e1, e2, e3⟩ := c2 (m := 0) (n := n) ha (by omega) ho h1.1.1 (.lpSE h1.1.2)
    have := hN ha
    exact .whole1 (.sum e1 (by omega) e2) h1.2
  · have L : lev (.op s l r) = 2 := e
    have bl := dec (lev l) (max (olev s) 2)
    have br := dec (lev r) (olev s + 1)
    have c2 : ∀ {n p o m : Nat} {q : Pr}, At T p (tk (.op s l r)) → 6 * (Xp.op s l r).dep ≤ n + 4 → o + (Xp.op s l r).dep ≤ 13 → N3 T (p + (tk (.op s l r)).length) → Par T n (.lpS (some ((Xp.op s l r).d, p + (tk (.op s l r)).length, (Xp.op s l r).dep)) m) p o q → ∃ t k, Par T n .prod p o t ∧ Par T n (.lpS t (k + m)) p o q ∧ k ≤ (tk (.op s l r)).length := fun {n p o m q} ha hn ho h3 w => by
      obtain ⟨a1, a2, a3⟩ := split ha
      have R : Par T n .prod (p + pl (decide (lev l < max (olev s) 2)) l + 1) o (some (r.d, p + (tk (.op s l r)).length, r.dep)) := by
        rw [← ends]
        refine prod_of hT ?_ hr a3 (by omega) (by omega) (by rw [ends]; exact h3)
        rcases br with br | ⟨br, h⟩
        · exact .inl br
        · exact .inr ⟨br, by omega⟩
      have w2 : Par T n (.lpS (some (l.d, p + pl (decide (lev l < max (olev s) 2)) l, l.dep)) (m + 1)) p o q := .lpSS (by rw [one_at a2 (opTok_txt s)]; exact any_of k) R (by rw [sg ha, join_op (by omega)]; exact w)
      obtain ⟨t, j, e1, e2, e3⟩ := leftS hT hl (by
        rcases bl with bl | ⟨bl, h⟩
        · exact .inl bl
        · exact .inr ⟨bl, by omega⟩) a1 (by omega) (by omega) (n3_op a2 k) w2
      exact ⟨t, j + 1, e1, by rw [show j + 1 + m = j + (m + 1) by omega]; exact e2, by rw [lt]; omega⟩
    refine ⟨fun h => by omega, fun h => by omega, fun _ => c2, fun {n p o} ha hn ho h1 => ?_⟩
    obtain ⟨n, rfl⟩ : ∃ k, n = k + 1 := ⟨n - 1, by omega⟩
    obtain ⟨n, rfl⟩ : ∃ k, n = k + 1 := ⟨n - 1, by omega⟩
    obtain ⟨t, j, e1, e2, e3⟩ := c2 (m := 0) (n := n) ha (by omega) ho h1.1.1 (.lpSE h1.1.2)
    have := hN ha
    exact .whole1 (.sum e1 (by omega) e2) h1.2
  · have L : lev (.op s l r) = 1 := e
    have bl := dec (lev l) (max (olev s) 2)
    have br := dec (lev r) (olev s + 1)
    refine ⟨fun h => by omega, fun h => by omega, fun h => by omega, fun {n p o} ha hn ho h1 => ?_⟩
    obtain ⟨a1, a2, a3⟩ := split ha
    obtain ⟨n, rfl⟩ : ∃ k, n = k + 1 := ⟨n - 1, by omega⟩
    have A : Par T n .sum p o (some (l.d, p + pl (decide (lev l < max (olev s) 2)) l, l.dep)) := sum_of hT (by
      rcases bl with bl | ⟨bl, h⟩
      · exact .inl bl
      · exact .inr ⟨bl, by omega⟩) hl a1 (by omega) (by omega) (n2_op a2 k)
    have R : Par T n .sum (p + pl (decide (lev l < max (olev s) 2)) l + 1) o (some (r.d, p + (tk (.op s l r)).length, r.dep)) := by
      rw [← ends]
      refine sum_of hT ?_ hr a3 (by omega) (by omega) (by rw [ends]; exact h1.1)
      rcases br with br | ⟨br, h⟩
      · exact .inl br
      · exact .inr ⟨br, by omega⟩
    have w := Par.whole2 A (by rw [one_at a2 (opTok_txt s)]; exact any_of k) R
    rw [sg ha, join_op (by omega)] at w
    exact w
end
end K02
end
section
set_option Elab.async false
set_option linter.all false
set_option maxRecDepth 100000
set_option maxHeartbeats 4000000
namespace K02
open PySem PySem.Spec PyProof.Rows L2 Z
section
variable {T : List Tok} {n p e o r j dp : Nat} {as : List D} {x y z : Xp} {t : Pr}
theorem arg_step (hx : Pz T x) (h : j = 0 ∨ one T e [","] = true) (ha : At T (e + 1) (tk x)) (hn : 6 * x.dep ≤ n + 2) (ho : o + 1 + x.dep ≤ 13) (h1 : N1 T (e + 1 + (tk x).length)) (w : Par T n (.args r (j + 1) (as ++ [x.d]) (max dp x.dep)) (e + 1 + (tk x).length) o t) : Par T n (.args (r + 1) j as dp) e o t :=
  .args3 h (hx.c1 ha hn ho h1) w
theorem call_of {w : Str} {c k q : Nat} (hw : w ≠ "(") (hl : T_ARGUMENT_COUNTS.lookup w = some ((c : Nat) : Int)) (c3 : c ≤ 3) (h0 : T[p]? = some (.word w)) (h1 : T[p + 1]? = some (.sign "(")) (hq : T[q]? = some (.sign ")")) (hk : k ≤ 11) (ho : o ≤ 11) (a : Par T n (.args c 0 [] 0) (p + 1) o (some (.tup as, q, k))) : Par T (n + 2) .atom p o (some (.tup [.str "call", .str w, .tup as], q + 1, k + 1)) := by
  have sg : sgn T p = w := sgn_at h0 rfl
  rw [Nat.add_comm k 1]
  refine .atomC h0 rfl hw (by rw [hl]; rfl) ?_
  have b := Par.call3 (T := T) (n := n) (at_ := p) (o := o) (c := c) (as := as) (p := q) (k := k) (by rw [one_sign h1]; decide) (by omega) (by rw [sg]; exact hl) c3 a (by rw [one_sign hq]; decide) (by omega)
  rw [sg] at b
  exact b
theorem co_true (h : T[p]? = some (.sign ",")) : one T p [","] = true := by rw [one_sign h]; decide
theorem pz_num {k : Int} (hT : T.length < 900000) : Pz T (.num k) := Pz.of4 hT rfl fun {n p o} ha hn ho h4 => by
  obtain ⟨n, rfl⟩ : ∃ k, n = k + 1 := ⟨n - 1, by have : (Xp.num k).dep = 1 := rfl; omega⟩
  exact .atomN ha.get
theorem pz_nm {w : Str} (hw : Pw w) (hT : T.length < 900000) : Pz T (.nm w) := Pz.of4 hT rfl fun {n p o} ha hn ho h4 => by
  obtain ⟨n, rfl⟩ : ∃ k, n = k + 1 := ⟨n - 1, by have : (Xp.nm w).dep = 1 := rfl; omega⟩
  exact .atomW ha.get hw.p (by rw [hw.a]; rfl) hw.s h4
theorem pz_rd {w : Str} (hw : Pw w) (hT : T.length < 900000) (hx : Pz T x) (hd : x.dep + 1 ≤ 12) : Pz T (.rd w x) := Pz.of4 hT rfl fun {n p o} ha hn ho h4 => by
  have d1 : (Xp.rd w x).dep = x.dep + 1 := rfl
  have lt : (tk (.rd w x)).length = (tk x).length + 3 := by simp [tk]
  obtain ⟨n, rfl⟩ : ∃ k, n = k + 3 := ⟨n - 3, by have := dep_pos x; omega⟩
  obtain ⟨h0, ha⟩ := At.cons (L := .sign "[" :: (tk x ++ [.sign "]"])) ha
  obtain ⟨h1, ha⟩ := ha.cons
  obtain ⟨ha, h2⟩ := ha.app
  have h2 := h2.get
  have w' : Par T n .whole (p + 2) (o + 1) (some (x.d, p + 2 + (tk x).length, x.dep)) := hx.c1 ha (by omega) (by omega) (n1_br h2)
  have i := Par.in3 (c := Str.ofString "]") (by have := dep_pos x; omega) w' (by rw [one_sign h2]; decide)
  have b := Par.atomR h0 hw.p (by rw [hw.a]; rfl) hw.s (by rw [one_sign h1]; decide) (.read2 h0 i (by dsimp only; omega))
  rw [lt, d1, show p + ((tk x).length + 3) = p + 2 + (tk x).length + 1 by omega, Nat.add_comm x.dep 1]
  exact b
theorem pz_nth (hT : T.length < 900000) (hx : Pz T x) (hd : x.dep + 1 ≤ 12) : Pz T (.nth x) := Pz.of4 hT rfl fun {n p o} ha hn ho h4 => by
  have d1 : (Xp.nth x).dep = x.dep + 1 := rfl
  have lt : (tk (.nth x)).length = (tk x).length + 3 := by simp [tk]
  obtain ⟨n, rfl⟩ : ∃ k, n = k + 2 := ⟨n - 2, by have := dep_pos x; omega⟩
  obtain ⟨h0, ha⟩ := At.cons (L := .sign "(" :: (tk x ++ [.sign ")"])) ha
  obtain ⟨h1, ha⟩ := ha.cons
  obtain ⟨ha, h2⟩ := ha.app
  have h2 := h2.get
  have e1 : max 0 x.dep = x.dep := by omega
  rw [lt, d1, show p + ((tk x).length + 3) = p + 1 + 1 + (tk x).length + 1 by omega]
  exact call_of (c := 1) (by decide) (by decide) (by omega) h0 h1 h2 (by omega) (by have := dep_pos x; omega) (arg_step hx (.inl rfl) ha (by omega) (by omega) (n1_cl h2) (by rw [e1]; exact .args0))
theorem pz_mn (hT : T.length < 900000) (hx : Pz T x) (hy : Pz T y) (hd : max x.dep y.dep + 1 ≤ 12) : Pz T (.mn x y) := Pz.of4 hT rfl fun {n p o} ha hn ho h4 => by
  have d1 : (Xp.mn x y).dep = max x.dep y.dep + 1 := rfl
  have lt : (tk (.mn x y)).length = (tk x).length + (tk y).length + 4 := by simp [tk]; omega
  have px := dep_pos x
  obtain ⟨n, rfl⟩ : ∃ k, n = k + 2 := ⟨n - 2, by omega⟩
  obtain ⟨h0, ha⟩ := At.cons (L := .sign "(" :: (tk x ++ .sign "," :: (tk y ++ [.sign ")"]))) ha
  obtain ⟨h1, ha⟩ := ha.cons
  obtain ⟨ha, h2⟩ := ha.app
  obtain ⟨h2, h3⟩ := h2.cons
  obtain ⟨h3, h5⟩ := h3.app
  have h5 := h5.get
  have e1 : max (max 0 x.dep) y.dep = max x.dep y.dep := by omega
  rw [lt, d1, show p + ((tk x).length + (tk y).length + 4) = p + 1 + 1 + (tk x).length + 1 + (tk y).length + 1 by omega]
  exact call_of (c := 2) (by decide) (by decide) (by omega) h0 h1 h5 (by omega) (by omega) (arg_step hx (.inl rfl) ha (by omega) (by omega) (n1_co h2) (arg_step hy (.inr (co_true h2)) h3 (by omega) (by omega) (n1_cl h5) (by rw [e1]; exact .args0)))
theorem pz_mx (hT : T.length < 900000) (hx : Pz T x) (hy : Pz T y) (hd : max x.dep y.dep + 1 ≤ 12) : Pz T (.mx x y) := Pz.of4 hT rfl fun {n p o} ha hn ho h4 => by
  have d1 : (Xp.mx x y).dep = max x.dep y.dep + 1 := rfl
  have lt : (tk (.mx x y)).length = (tk x).length + (tk y).length + 4 := by simp [tk]; omega
  have px := dep_pos x
  obtain ⟨n, rfl⟩ : ∃ k, n = k + 2 := ⟨n - 2, by omega⟩
  obtain ⟨h0, ha⟩ := At.cons (L := .sign "(" :: (tk x ++ .sign "," :: (tk y ++ [.sign ")"]))) ha
  obtain ⟨h1, ha⟩ := ha.cons
  obtain ⟨ha, h2⟩ := ha.app
  obtain ⟨h2, h3⟩ := h2.cons
  obtain ⟨h3, h5⟩ := h3.app
  have h5 := h5.get
  have e1 : max (max 0 x.dep) y.dep = max x.dep y.dep := by omega
  rw [lt, d1, show p + ((tk x).length + (tk y).length + 4) = p + 1 + 1 + (tk x).length + 1 + (tk y).length + 1 by omega]
  exact call_of (c := 2) (by decide) (by decide) (by omega) h0 h1 h5 (by omega) (by omega) (arg_step hx (.inl rfl) ha (by omega) (by omega) (n1_co h2) (arg_step hy (.inr (co_true h2)) h3 (by omega) (by omega) (n1_cl h5) (by rw [e1]; exact .args0)))
theorem pz_pick (hT : T.length < 900000) (hx : Pz T x) (hy : Pz T y) (hz : Pz T z) (hd : max x.dep (max y.dep z.dep) + 1 ≤ 12) : Pz T (.pick x y z) := Pz.of4 hT rfl fun {n p o} ha hn ho h4 => by
  have d1 : (Xp.pick x y z).dep = max x.dep (max y.dep z.dep) + 1 := rfl
  have lt : (tk (.pick x y z)).length = (tk x).length + (tk y).length + (tk z).length + 5 := by simp [tk]; omega
  have px := dep_pos x
  obtain ⟨n, rfl⟩ : ∃ k, n = k + 2 := ⟨n - 2, by omega⟩
  obtain ⟨h0, ha⟩ := At.cons (L := .sign "(" :: (tk x ++ .sign "," :: (tk y ++ .sign "," :: (tk z ++ [.sign ")"])))) ha
  obtain ⟨h1, ha⟩ := ha.cons
  obtain ⟨ha, h2⟩ := ha.app
  obtain ⟨h2, h3⟩ := h2.cons
  obtain ⟨h3, h5⟩ := h3.app
  obtain ⟨h5, h6⟩ := h5.cons
  obtain ⟨h6, h7⟩ := h6.app
  have h7 := h7.get
  have e1 : max (max (max 0 x.dep) y.dep) z.dep = max x.dep (max y.dep z.dep) := by omega
  rw [lt, d1, show p + ((tk x).length + (tk y).length + (tk z).length + 5) = p + 1 + 1 + (tk x).length + 1 + (tk y).length + 1 + (tk z).length + 1 by omega]
  exact call_of (c := 3) (by decide) (by decide) (by omega) h0 h1 h7 (by omega) (by omega) (arg_step hx (.inl rfl) ha (by omega) (by omega) (n1_co h2) (arg_step hy (.inr (co_true h2)) h3 (by omega) (by omega) (n1_co h5) (arg_step hz (.inr (co_true h5)) h6 (by omega) (by omega) (n1_cl h7) (by rw [e1]; exact .args0))))
end
theorem pz_all {T : List Tok} (hT : T.length < 900000) : ∀ x : Xp, x.pok → x.dep ≤ 12 → Pz T x
  | .num n, _, _ => pz_num hT
  | .nm w, h, _ => pz_nm h hT
  | .rd a x, h, hd => by
    have hd : x.dep + 1 ≤ 12 := hd
    exact pz_rd h.1 hT (pz_all hT x h.2 (by omega)) hd
  | .op s l r, h, hd => by
    have hd' : max l.dep r.dep + 1 ≤ 12 := hd
    exact Pz.op hT h.1 (pz_all hT l h.2.1 (by omega)) (pz_all hT r h.2.2 (by omega)) hd
  | .mn x y, h, hd => by
    have hd : max x.dep y.dep + 1 ≤ 12 := hd
    exact pz_mn hT (pz_all hT x h.1 (by omega)) (pz_all hT y h.2 (by omega)) hd
  | .mx x y, h, hd => by
    have hd : max x.dep y.dep + 1 ≤ 12 := hd
    exact pz_mx hT (pz_all hT x h.1 (by omega)) (pz_all hT y h.2 (by omega)) hd
  | .nth x, h, hd => by
    have hd : x.dep + 1 ≤ 12 := hd
    exact pz_nth hT (pz_all hT x h (by omega)) hd
  | .pick x y z, h, hd => by
    have hd : max x.dep (max y.dep z.dep) + 1 ≤ 12 := hd
    exact pz_pick hT (pz_all hT x h.1 (by omega)) (pz_all hT y h.2.1 (by omega)) (pz_all hT z h.2.2 (by omega)) hd
/-- the tokens of an expression are taken whole as this expression -/
theorem par_all {x : Xp} (hx : x.pok) (hd : x.dep ≤ 12) (hT : (tk x).length < 900000) : Par (tk x) 90 .whole 0 0 (some (x.d, (tk x).length, x.dep)) := by
  have h := (pz_all hT x hx hd).c1 (n := 90) (p := 0) (o := 0) ⟨[], by simp⟩ (by omega) (by omega) (by rw [Nat.zero_add]; exact n1_end (Nat.le_refl _))
  rw [Nat.zero_add] at h
  exact h
end K02
end
section
set_option Elab.async false
set_option linter.all false
set_option maxRecDepth 100000
set_option maxHeartbeats 4000000
open PySem PySem.Spec PyProof.Rows L2 Z
local macro_rules | `(tactic| fail "zs") => `(tactic| first
  | assumption
  | with_reducible exact at_last
  | (with_reducible apply at_set; fail "zs")
  | (with_reducible apply at_app; fail "zs")
  | (with_reducible apply at_setne; (first | assumption | (apply Ne.symm; assumption) | omega); fail "zs")
  | (with_reducible refine Gr.keep (by assumption) ?_; fail "zs")
  | (with_reducible refine Gx.keep (by assumption) ?_ ?_; (first | assumption | (apply Ne.symm; assumption) | omega); fail "zs"))
local macro_rules | `(tactic| fail "zg") => `(tactic| first
  | assumption
  | (with_reducible apply getL_of; fail "zs")
  | (with_reducible apply getW_of; fail "zs")
  | (with_reducible apply getI_of; fail "zs"))
local macro_rules | `(tactic| fail "za") => `(tactic| first | (with_reducible apply atI_int; (first | assumption | omega); (first | assumption | omega | (simp only [List.length_set]; omega))) | with_unfolding_all exact rfl | assumption)
local macro_rules | `(tactic| fail "y0") => `(tactic| first
  | (with_reducible refine' wp_var ?z1 ?z2; (case z1 => with_unfolding_all exact rfl))
  | with_reducible refine wp_c2 ?_
  | with_reducible refine wp_cons ?_
  | with_reducible refine wp_c ?_
  | with_reducible refine wp_nil ?_
  | with_reducible refine wp_call ?_
  | with_reducible refine wp_c1 ?_)
local macro_rules | `(tactic| fail "y1") => `(tactic| first
  | with_reducible refine wp_set ?_
  | with_reducible refine wp_if ?_
  | with_reducible refine wp_next ?_
  | with_reducible refine wp_ret ?_
  | with_reducible refine af_nx ?_
  | with_reducible refine bk_rt ?_
  | (with_reducible refine' wp_ixL ?z1 ?z2 ?z3; (case z1 => fail "zg"); (case z2 => fail "za"))
  | (with_reducible refine' wp_ixT ?z1 ?z2; (case z1 => fail "za")))
local macro_rules | `(tactic| fail "y2") => `(tactic| first
  | with_reducible refine af_rt ?_
  | with_reducible refine af_bk ?_
  | with_reducible refine bk_nx ?_
  | with_reducible refine turned_nx ?_
  | with_reducible refine turned_bk ?_
  | with_reducible refine turned_rt ?_
  | with_reducible refine wp_and ?_
  | with_reducible refine wp_or ?_)
local macro_rules | `(tactic| fail "y3") => `(tactic| first
  | with_reducible refine wp_not ?_
  | with_reducible refine wp_sub ?_
  | with_reducible refine wp_subA ?_
  | with_reducible refine wp_chain ?_
  | with_reducible refine wp_neAI ?_
  | with_reducible refine wp_neAS ?_
  | with_reducible refine wp_dic0 ?_
  | with_reducible refine wp_drop ?_)
local macro_rules | `(tactic| fail "y4") => `(tactic| first
  | with_reducible refine wp_vK ?_
  | with_reducible refine wp_nox ?_
  | with_reducible refine wp_break ?_
  | with_reducible refine wp_retN ?_
  | with_reducible refine wp_sfld ?_
  | with_reducible refine wp_yes ?_
  | with_reducible refine wp_addI ?_
  | with_reducible refine wp_subI ?_)
local macro_rules | `(tactic| fail "y5") => `(tactic| first
  | with_reducible refine wp_neg ?_
  | with_reducible refine wp_eqI ?_
  | with_reducible refine wp_neI ?_
  | with_reducible refine wp_ltI ?_
  | with_reducible refine wp_leI ?_
  | with_reducible refine wp_gtI ?_
  | with_reducible refine wp_geI ?_
  | with_reducible refine wp_eqS ?_)
local macro_rules | `(tactic| fail "y6") => `(tactic| first
  | with_reducible refine wp_neS ?_
  | with_reducible refine wp_eqB ?_
  | with_reducible refine wp_isN ?_
  | with_reducible refine wp_isNotN ?_
  | with_reducible refine wp_int ?_
  | with_reducible refine wp_max2 ?_
  | with_reducible refine wp_min2 ?_
  | with_reducible refine wp_tr_bl ?_)
local macro_rules | `(tactic| fail "y7") => `(tactic| first
  | with_reducible refine wp_tr_int ?_
  | with_reducible refine wp_tupT ?_
  | with_reducible refine wp_slT ?_
  | with_reducible refine wp_nopart ?_
  | with_reducible refine wp_lst ?_
  | with_reducible refine wp_tup ?_
  | with_reducible refine wp_slice ?_
  | with_reducible refine wp_callK ?_)
local macro_rules | `(tactic| fail "y8") => `(tactic| first
  | with_reducible refine wp_make ?_
  | with_reducible refine wp_meth ?_
  | with_reducible refine wp_is ?_
  | with_reducible refine wp_vand ?_
  | with_reducible refine wp_vor ?_
  | with_reducible refine wp_vnot ?_
  | with_reducible refine wp_asg ?_
  | with_reducible refine wp_part ?_)
local macro_rules | `(tactic| fail "y9") => `(tactic| first
  | with_reducible refine wp_forR1 ?_
  | with_reducible refine wp_forR2 ?_
  | with_reducible refine wp_compR1 ?_
  | with_reducible refine wp_compR2 ?_
  | (with_reducible refine' wp_ixAL ?z1 ?z2 ?z3; (case z1 => fail "zg"); (case z2 => fail "za"))
  | (with_reducible refine' wp_ixAT ?z1 ?z2; (case z1 => fail "za"))
  | (with_reducible refine' and_isL ?z1 ?z2; (case z1 => fail "zg"))
  | (with_reducible refine' wp_append ?z1 ?z2 ?z3; (case z1 => fail "zg"); (case z2 => first | omega | (simp only [List.length_map, List.length_append, List.length_cons, List.length_nil]; omega))))
local macro_rules | `(tactic| fail "y10") => `(tactic| first
  | (with_reducible refine' wp_lenL ?z1 ?z2; (case z1 => fail "zg"))
  | with_reducible refine wp_lenT ?_
  | (with_reducible refine' wp_lenAL ?z1 ?z2; (case z1 => fail "zg"))
  | with_reducible refine wp_lenAT ?_
  | (with_reducible refine' wp_listL ?z1 ?z2; (case z1 => fail "zg"))
  | with_reducible refine wp_listT ?_
  | with_reducible refine ex_bl ?_
  | (with_reducible refine' ex_ty ?z1 ?z2 ?z3; (case z1 => with_unfolding_all exact rfl); (case z2 => with_unfolding_all exact rfl)))
local macro_rules | `(tactic| fail "y11") => `(tactic| first
  | (with_reducible refine' wp_mulT ?z1 ?z2 ?z3; (case z1 => omega); (case z2 => omega))
  | (with_reducible refine' wp_setF ?z1 ?z2 ?z3; (case z1 => fail "zg"); (case z2 => with_unfolding_all exact Nat.le_of_ble_eq_true rfl))
  | (with_reducible refine' wp_setInt ?z1 ?z2 ?z3 ?z4; (case z1 => fail "zg"); (case z2 => first | assumption | omega); (case z3 => first | assumption | omega | (simp only [List.length_set]; omega)))
  | (with_reducible refine' wp_setIx ?z1 ?z2 ?z3; (case z1 => fail "zg"); (case z2 => first | (with_reducible apply ixN_of; (first | assumption | omega); (first | assumption | omega | (rw [List.length_map]; omega))) | with_unfolding_all exact rfl | assumption))
  | (with_reducible refine' wp_setAI ?z1 ?z2 ?z3 ?z4; (case z1 => fail "zg"); (case z2 => first | assumption | omega); (case z3 => first | assumption | omega | (simp only [List.length_set]; omega)))
  | (with_reducible refine' wp_setAX ?z1 ?z2 ?z3; (case z1 => fail "zg"); (case z2 => first | (with_reducible apply ixN_of; (first | assumption | omega); (first | assumption | omega | (rw [List.length_map]; omega))) | with_unfolding_all exact rfl | assumption))
  | (with_reducible refine' wp_modI ?z1 ?z2; (case z1 => omega))
  | (with_reducible refine' wp_divA0 ?z1 ?z2 ?z3; (case z1 => omega); (case z2 => omega)))
local macro_rules | `(tactic| fail "y12") => `(tactic| first
  | (with_reducible refine' wp_mulA ?z1 ?z2; (case z1 => omega))
  | (with_reducible refine' wp_divI ?z1 ?z2 ?z3; (case z1 => omega); (case z2 => omega))
  | (with_reducible refine' wp_mulI ?z1 ?z2; (case z1 => omega))
  | (with_reducible refine' wp_powI ?z1 ?z2; (case z1 => with_unfolding_all decide))
  | (with_reducible refine' wp_fld ?z1 ?z2 ?z3; (case z1 => fail "zg"); (case z2 => first | with_unfolding_all exact rfl | assumption))
  | (with_reducible refine' wp_prop ?z1 ?z2; (case z1 => fail "zg"))
  | (with_reducible refine' wp_tupL ?z1 ?z2; (case z1 => fail "zg"))
  | (with_reducible refine' And.intro ?z1 ?z2; (case z1 => first | with_unfolding_all exact Nat.le_of_ble_eq_true rfl | with_unfolding_all decide)))
local macro_rules | `(tactic| fail "z0") => `(tactic| first | fail "y0" | fail "y1" | fail "y2" | fail "y3" | fail "y4" | fail "y5" | fail "y6" | fail "y7" | fail "y8" | fail "y9" | fail "y10" | fail "y11" | fail "y12")
local macro_rules | `(tactic| fail "z1") => `(tactic| first | with_reducible refine wp_seq ?_ | fail "z0")
local macro_rules | `(tactic| walk_at "z") => `(tactic| (repeat fail "z1"))
local macro_rules | `(tactic| fail "zb") => `(tactic| (with_reducible refine And.intro ?_ ?_; (all_goals (intro hb; first | (simp at hb; done) | (simp at hb; skip) | skip))))
local macro_rules | `(tactic| walk_at "zz") => `(tactic| (repeat' (first | fail "z1" | fail "zb")))
local macro_rules | `(tactic| walk_at "zy") => `(tactic| (repeat' (first | fail "z0" | fail "zb")))
local macro_rules | `(tactic| walk_at "zn") => `(tactic| (with_reducible refine wp_seq ?_; walk_at "zy"))
local macro_rules | `(tactic| walk_at "zs") => `(tactic| fail "zs")
local macro_rules | `(tactic| walk_at "zg") => `(tactic| fail "zg")
local macro_rules | `(tactic| walk_at "za") => `(tactic| fail "za")
local macro_rules | `(tactic| walk_at "z0") => `(tactic| fail "z0")
local macro_rules | `(tactic| walk_at "z1") => `(tactic| fail "z1")
local macro_rules | `(tactic| walk_at "zb") => `(tactic| fail "zb")
namespace K02
open PySem PySem.Spec PyProof.Rows L2 Z
/-! a text cut into tokens -/
abbrev tl (x : Str) : List Nat := x.cps.toList
def mkS (l : List Nat) : Str := ⟨l.toArray⟩
theorem tl_mk (l : List Nat) : tl (mkS l) = l := by simp [tl, mkS]
theorem mk_tl (x : Str) : mkS (tl x) = x := TL.mk_tl x
theorem len_mk (l : List Nat) : (mkS l).length = l.length := by rw [TL.len_tl]; exact congrArg List.length (tl_mk l)
theorem len_tl (x : Str) : x.length = (tl x).length := TL.len_tl x
/-- a sign of a word -/
def W (c : Nat) : Prop := (97 ≤ c ∧ c ≤ 122) ∨ (48 ≤ c ∧ c ≤ 57) ∨ c = 95
def ABC : Str := "abcdefghijklmnopqrstuvwxyz"
def DIG : Str := "0123456789"
def WCH : Str := "abcdefghijklmnopqrstuvwxyz0123456789_"
theorem abc_tl : tl ABC = (List.range 26).map (97 + ·) := by decide +kernel
theorem dig_tl : tl DIG = (List.range 10).map (48 + ·) := by decide +kernel
theorem wch_tl : tl WCH = (List.range 26).map (97 + ·) ++ (List.range 10).map (48 + ·) ++ [95] := by decide +kernel
theorem mem_add {a n c : Nat} : c ∈ (List.range n).map (a + ·) ↔ a ≤ c ∧ c < a + n := by
  rw [List.mem_map]
  constructor
  · rintro ⟨i, hi, rfl⟩
    have := List.mem_range.mp hi
    omega
  · rintro ⟨h1, h2⟩
    exact ⟨c - a, List.mem_range.mpr (by omega), by omega⟩
theorem mem_abc {c : Nat} : c ∈ tl ABC ↔ 97 ≤ c ∧ c ≤ 122 := by
  rw [abc_tl, mem_add]
  omega
theorem mem_dig {c : Nat} : c ∈ tl DIG ↔ 48 ≤ c ∧ c ≤ 57 := by
  rw [dig_tl, mem_add]
  omega
theorem mem_wch {c : Nat} : c ∈ tl WCH ↔ W c := by
  rw [wch_tl, List.mem_append, List.mem_append, mem_add, mem_add, List.mem_singleton]
  unfold W
  omega
def LONG : List Str := ["<=", ">=", "!=", ":="]
def SHORT : List Str := ["+", "-", "*", "(", ")", "[", "]", ",", "<", ">", "=", ";"]
/-- the token of a run -/
inductive TokOf : List Nat → Tok → Prop where
  | word {c : Nat} {r : List Nat} : 97 ≤ c ∧ c ≤ 122 → (c :: r).length ≤ 12 → TokOf (c :: r) (.word (mkS (c :: r)))
  | num {n : Nat} : n ≤ 1000000000000 → TokOf (TL.numL n) (.num (n : Nat))
/-- the signs of a text and its tokens, in k steps -/
inductive Lx : Nat → List Nat → List Tok → Prop where
  | nil : Lx 0 [] []
  | sp {k L ts} : Lx k L ts → Lx (k + 1) (32 :: L) ts
  | run {k L ts r t} : r ≠ [] → (∀ c ∈ r, W c) → (∀ c, L.head? = some c → ¬ W c) → TokOf r t → Lx k L ts → Lx (k + 1) (r ++ L) (t :: ts)
  | s1 {k L ts c} : ¬ W c → c ≠ 32 → (LONG.any fun y => y == mkS ((c :: L).take 2)) = false → (SHORT.any fun y => y == mkS [c]) = true → Lx k L ts → Lx (k + 1) (c :: L) (.sign (mkS [c]) :: ts)
  | s2 {k L ts c d} : ¬ W c → c ≠ 32 → (LONG.any fun y => y == mkS [c, d]) = true → Lx k L ts → Lx (k + 1) (c :: d :: L) (.sign (mkS [c, d]) :: ts)
section
variable {s st : S} {text : Str} {p c : Nat} {Q : D → S → Prop} {QB : Bool → S → Prop} {L r : List Nat}
theorem at_of {α : Type} {xs : List α} {k : Int} {d : α} (h0 : 0 ≤ k) (h : xs[k.toNat]? = some d) : L2.atI xs k = some d := by
  have : k.toNat < xs.length := (List.getElem?_eq_some_iff.mp h).1
  unfold L2.atI
  rw [ixN_of h0 (by omega)]
  exact h
theorem drop_get (h : (tl text).drop p = c :: L) : (tl text)[p]? = some c := by
  have := congrArg (fun l : List Nat => l[0]?) h
  simpa using this
theorem drop_lt (h : (tl text).drop p = c :: L) : p < (tl text).length := (List.getElem?_eq_some_iff.mp (drop_get h)).1
theorem wp_chr {x : Int} (hl : text.length ≤ 16000000) (h : (tl text)[p]? = some c) (hx : x = (p : Nat)) (q : Q (.str (mkS [c])) s) : Wp (ixA (.str text) (.int x) s) Q := by
  subst hx
  exact wp_ixAS (c := c) hl (at_of (Int.natCast_nonneg p) (by rw [Int.toNat_natCast]; exact h)) q
theorem wp_inC {b : Str} (q : QB (decide (c ∈ tl b)) s) : Wp (kInA (.str (mkS [c])) (.str b) s) QB := q
theorem wp_notInC {b : Str} (q : QB (!decide (c ∈ tl b)) s) : Wp (kNotInA (.str (mkS [c])) (.str b) s) QB := q
theorem wp_cutS {lo hi : Option Int} (hl : text.length ≤ 16000000) (q : Q (.str (cutS text lo hi)) s) : Wp (slD (.str text) lo hi s) Q := by
  unfold slD
  dsimp only
  rw [if_pos hl]
  exact q
theorem cut_eq {a b : Nat} (hb : a ≤ b) : cutS text (some (a : Int)) (some (b : Int)) = mkS (((tl text).drop a).take (b - a)) := by
  show mkS (((tl text).drop (HT.sIx text.length 0 (some (a : Int)))).take (HT.sIx text.length text.length (some (b : Int)) - HT.sIx text.length 0 (some (a : Int)))) = _
  rw [HT.sIx_nat, HT.sIx_nat, len_tl]
  by_cases h : a ≤ (tl text).length
  · rw [Nat.min_eq_left h]
    by_cases h2 : b ≤ (tl text).length
    · rw [Nat.min_eq_left h2]
    · rw [Nat.min_eq_right (by omega)]
      congr 1
      rw [List.take_of_length_le (by rw [List.length_drop]; omega), List.take_of_length_le (by rw [List.length_drop]; omega)]
  · rw [Nat.min_eq_right (a := a) (by omega), List.drop_of_length_le (l := tl text) (i := (tl text).length) (Nat.le_refl _), List.drop_of_length_le (l := tl text) (i := a) (by omega), List.take_nil, List.take_nil]
theorem runEnd_wp (hl : text.length ≤ 16000000) (h : (tl text).drop p = r ++ L) (hp : p < (tl text).length) (hr : ∀ c ∈ r, W c) (hL : ∀ c, L.head? = some c → ¬ W c) (hn : r.length < 1000000) (q : Q (.int ((p + r.length : Nat) : Int)) st) : Wp (F_run_end [.str text, .int (p : Nat)] st) Q := by
  have ll : (tl text).length = p + r.length + L.length := by
    have := congrArg List.length h
    rw [List.length_drop, List.length_append] at this
    omega
  have hl' := hl
  rw [len_tl] at hl'
  have en : (text.length : Int) = ((p + r.length + L.length : Nat) : Int) := by rw [len_tl, ll]
  clear hp hl'
  unfold F_run_end b_run_end K_WORD_CHARS
  refine wp_fn rfl ?_
  walk_at "zn"
  refine wp_seq ?_
  refine wp_while (fun m e s => s = st ∧ ∃ i, i + m = r.length ∧ e = [some (.str text), some (.int (p : Nat)), some (.int ((p + i : Nat) : Int))]) (m := r.length) hn ⟨rfl, 0, by omega, rfl⟩ ?_
  rintro m e s ⟨rfl, i, hi, rfl⟩
  have gi : (tl text)[p + i]? = (r ++ L)[i]? := by rw [← h, List.getElem?_drop]
  walk_at "zy"
  refine wp_lenAS hl ?_
  rw [en]
  by_cases hm : m = 0
  · obtain rfl : i = r.length := by omega
    rw [List.getElem?_append_right (Nat.le_refl _), Nat.sub_self] at gi
    cases L with
    | nil =>
      walk_at "zz"
      exact q
    | cons c L =>
      walk_at "zz"
      · refine wp_chr hl gi rfl ?_
        walk_at "zz"
        refine wp_inC (b := WCH) ?_
        have : ¬ W c := hL c rfl
        rw [decide_eq_false (fun h => this (mem_wch.mp h))]
        walk_at "zz"
        exact q
      · omega
  · have hi2 : i < r.length := by omega
    rw [List.getElem?_append_left hi2, List.getElem?_eq_getElem hi2] at gi
    walk_at "zz"
    · refine wp_chr hl gi rfl ?_
      walk_at "zz"
      refine wp_inC (b := WCH) ?_
      rw [decide_eq_true (mem_wch.mpr (hr _ (List.getElem_mem hi2)))]
      walk_at "zz"
      exact ⟨m - 1, by omega, rfl, i + 1, by omega, rfl⟩
    · omega
theorem emp_ne {c : Nat} {l : List Nat} : ¬ mkS (c :: l) = Str.ofString "" := fun h => by
  have := congrArg Str.length h
  rw [len_mk] at this
  have e : (Str.ofString "").length = 0 := by decide
  rw [e] at this
  cases this
theorem s1_wp (hl : text.length ≤ 16000000) (h : (tl text).drop p = c :: L) (h1 : (LONG.any fun y => y == mkS ((c :: L).take 2)) = false) (h2 : (SHORT.any fun y => y == mkS [c]) = true) (q : Q (.str (mkS [c])) st) : Wp (F_sign_at [.str text, .int (p : Nat)] st) Q := by
  have e : cutS text (some (p : Int)) (some ((p : Int) + 2)) = mkS ((c :: L).take 2) := by
    rw [show (p : Int) + 2 = ((p + 2 : Nat) : Int) by omega, cut_eq (by omega), h, show p + 2 - p = 2 by omega]
  unfold F_sign_at b_sign_at K_LONG_SIGNS K_SHORT_SIGNS
  refine wp_fn rfl ?_
  walk_at "zn"
  refine ⟨_, rfl, ?_⟩
  walk_at "zz"
  refine ⟨_, rfl, ?_⟩
  refine wp_cutS hl ?_
  rw [e]
  walk_at "zz"
  refine wp_inTS (ns := LONG) ?_
  rw [h1]
  walk_at "zz"
  refine wp_chr hl (drop_get h) rfl ?_
  walk_at "zz"
  refine wp_inTS (ns := SHORT) ?_
  rw [h2]
  walk_at "zz"
  refine wp_chr hl (drop_get h) rfl ?_
  walk_at "zz"
  exact q
theorem s2_wp {d : Nat} (hl : text.length ≤ 16000000) (h : (tl text).drop p = c :: d :: L) (h1 : (LONG.any fun y => y == mkS [c, d]) = true) (q : Q (.str (mkS [c, d])) st) : Wp (F_sign_at [.str text, .int (p : Nat)] st) Q := by
  have e : cutS text (some (p : Int)) (some ((p : Int) + 2)) = mkS [c, d] := by
    rw [show (p : Int) + 2 = ((p + 2 : Nat) : Int) by omega, cut_eq (by omega), h, show p + 2 - p = 2 by omega]
    rfl
  unfold F_sign_at b_sign_at K_LONG_SIGNS K_SHORT_SIGNS
  refine wp_fn rfl ?_
  walk_at "zn"
  refine ⟨_, rfl, ?_⟩
  walk_at "zz"
  refine ⟨_, rfl, ?_⟩
  refine wp_cutS hl ?_
  rw [e]
  walk_at "zz"
  refine wp_inTS (ns := LONG) ?_
  rw [h1]
  walk_at "zz"
  refine ⟨_, rfl, ?_⟩
  walk_at "zz"
  refine ⟨_, rfl, ?_⟩
  refine wp_cutS hl ?_
  rw [e]
  walk_at "zz"
  exact q
theorem wp_forS {set : Ev → D → Option Ev} {b : M Out} {es : Ev} {m : M D} {QO : Out → S → Prop} (h : Wp (m es st) fun d s => ∃ x, d = .str x ∧ Wp (forT set b (charsD x) es s) QO) : Wp (sForS m set b es st) QO := wp_bind (h.mono fun d s q => by
  obtain ⟨x, rfl, q⟩ := q
  exact q)
theorem wp_intS {a : Str} {n : Int} (h : PySem.intText? a = some n) (hl : a.length ≤ 640) (q : Q (.int n) s) : Wp (fIntS [.str a] s) Q := by
  unfold fIntS
  dsimp only
  rw [h]
  dsimp only
  rw [if_pos hl]
  exact q
theorem numL_head : ∀ n : Nat, 1 ≤ n → ∃ c r, TL.numL n = c :: r ∧ c ≠ 48 := by
  intro n
  induction n using Nat.strongRecOn with
  | _ n ih =>
    intro h1
    by_cases h : n < 10
    · rw [TL.numL_lt h]
      exact ⟨_, _, rfl, by omega⟩
    · obtain ⟨c, r, e, hc⟩ := ih (n / 10) (by omega) (by omega)
      rw [TL.numL_step (by omega), e]
      exact ⟨c, _, rfl, hc⟩
theorem mk_num (n : Nat) : mkS (TL.numL n) = Str.ofString (toString ((n : Nat) : Int)) := TL.ext_tl (by rw [TL.tl_num]; exact tl_mk _)
theorem mk_ne0 {c : Nat} (h : c ≠ 48) : ¬ mkS [c] = Str.ofString "0" := fun e => by
  have := congrArg tl e
  rw [tl_mk] at this
  have z : tl (Str.ofString "0") = [48] := by decide
  rw [z] at this
  cases this
  exact h rfl
theorem runTok_wp {t : Tok} (h : TokOf r t) (q : Q t.d st) : Wp (F_run_token [.str (mkS r)] st) Q := by
  unfold F_run_token b_run_token K_LETTERS K_LONGEST_WORD K_LONGEST_NUMBER K_LIMIT K_DIGITS
  refine wp_fn rfl ?_
  cases h with
  | @word c r hc hl =>
    have l1 : (mkS (c :: r)).length ≤ 16000000 := by rw [len_mk]; omega
    have g0 : (tl (mkS (c :: r)))[0]? = some c := by rw [tl_mk]; rfl
    walk_at "zn"
    refine wp_chr l1 g0 rfl ?_
    walk_at "zz"
    refine wp_inC (b := ABC) ?_
    rw [decide_eq_true (mem_abc.mpr hc)]
    walk_at "zz"
    refine wp_lenAS l1 ?_
    rw [len_mk]
    walk_at "zz"
    · have : r.length + 1 ≤ 12 := hl
      omega
    · exact q
  | @num n hn =>
    have hl : (TL.numL n).length ≤ 13 := TL.numL_len (by omega) (by omega)
    have hd := TL.numL_digits n
    have hv : PySem.intText? (mkS (TL.numL n)) = some (n : Int) := by
      rw [mk_num]
      exact TL.int_num (by omega)
    have h0 : (∃ c r, TL.numL n = c :: r ∧ c ≠ 48) ∨ TL.numL n = [48] := by
      by_cases e : n = 0
      · subst e
        exact .inr (TL.numL_lt (by omega))
      · exact .inl (numL_head n (by omega))
    revert hl hd hv h0
    generalize TL.numL n = r
    intro hl hd hv h0
    have l1 : (mkS r).length ≤ 16000000 := by rw [len_mk]; omega
    have ln : (mkS r).length = r.length := len_mk r
    have hr : ∃ c r', r = c :: r' := by
      rcases h0 with ⟨c, r', e, -⟩ | e
      · exact ⟨c, r', e⟩
      · exact ⟨_, _, e⟩
    obtain ⟨c, r', er⟩ := hr
    have hc := hd c (er ▸ List.mem_cons_self ..)
    have g0 : (tl (mkS r))[0]? = some c := by rw [tl_mk, er]; rfl
    walk_at "zn"
    refine wp_chr l1 g0 rfl ?_
    walk_at "zz"
    refine wp_inC (b := ABC) ?_
    rw [decide_eq_false (fun h => by have := mem_abc.mp h; omega)]
    walk_at "zy"
    refine wp_mid (fun e s => e = [some (.str (mkS r)), none] ∧ s = st) ?_ ?_
    · walk_at "zy"
      refine wp_lenAS l1 ?_
      rw [ln]
      walk_at "zz"
      · omega
      refine wp_chr l1 g0 rfl ?_
      rcases h0 with ⟨c2, r2, e2, hc2⟩ | e2
      · have : c = c2 := by
          rw [er] at e2
          cases e2
          rfl
        walk_at "zz"
        · exact absurd (by assumption) (mk_ne0 (this ▸ hc2))
        · exact ⟨_, rfl, rfl, rfl⟩
      · walk_at "zz"
        · refine wp_lenAS l1 ?_
          rw [ln, e2]
          walk_at "zz"
          exact ⟨_, rfl, rfl, rfl⟩
        · exact ⟨_, rfl, rfl, rfl⟩
    rintro e s ⟨rfl, rfl⟩
    refine wp_mid (fun e t => ∃ v, e = [some (.str (mkS r)), v] ∧ t = s) ?_ ?_
    · refine wp_forS ?_
      walk_at "zy"
      refine ⟨_, rfl, ?_⟩
      refine wp_forT (fun i e t => ∃ v, e = [some (.str (mkS r)), v] ∧ t = s) ⟨none, rfl, rfl⟩ ?_ ?_
      · rintro i d e t hd2 ⟨v, rfl, rfl⟩
        obtain ⟨c3, h3, rfl⟩ := charsD_get hd2
        have h3 : c3 ∈ r := by
          have e3 : (tl (mkS r))[i]? = some c3 := by simpa using h3
          rw [tl_mk] at e3
          exact List.mem_of_getElem? e3
        refine ⟨_, rfl, ?_⟩
        walk_at "zz"
        refine wp_notInC (c := c3) (b := DIG) ?_
        have b3 := hd c3 h3
        rw [decide_eq_true (mem_dig.mpr (by omega))]
        walk_at "zz"
        exact ⟨_, rfl, rfl⟩
      · rintro e t ⟨v, rfl, rfl⟩
        exact ⟨_, rfl, v, rfl, rfl⟩
    rintro e t ⟨v, rfl, rfl⟩
    walk_at "zn"
    refine wp_intS hv (by omega) ?_
    walk_at "zz"
    · omega
    refine wp_intS hv (by omega) ?_
    walk_at "zz"
    exact q
end
end K02
end
section
set_option Elab.async false
set_option linter.all false
set_option maxRecDepth 100000
set_option maxHeartbeats 4000000
open PySem PySem.Spec PyProof.Rows L2 Z
local macro_rules | `(tactic| fail "zs") => `(tactic| first
  | assumption
  | with_reducible exact at_last
  | (with_reducible apply at_set; fail "zs")
  | (with_reducible apply at_app; fail "zs")
  | (with_reducible apply at_setne; (first | assumption | (apply Ne.symm; assumption) | omega); fail "zs")
  | (with_reducible refine Gr.keep (by assumption) ?_; fail "zs")
  | (with_reducible refine Gx.keep (by assumption) ?_ ?_; (first | assumption | (apply Ne.symm; assumption) | omega); fail "zs"))
local macro_rules | `(tactic| fail "zg") => `(tactic| first
  | assumption
  | (with_reducible apply getL_of; fail "zs")
  | (with_reducible apply getW_of; fail "zs")
  | (with_reducible apply getI_of; fail "zs"))
local macro_rules | `(tactic| fail "za") => `(tactic| first | (with_reducible apply atI_int; (first | assumption | omega); (first | assumption | omega | (simp only [List.length_set]; omega))) | with_unfolding_all exact rfl | assumption)
local macro_rules | `(tactic| fail "y0") => `(tactic| first
  | (with_reducible refine' wp_var ?z1 ?z2; (case z1 => with_unfolding_all exact rfl))
  | with_reducible refine wp_c2 ?_
  | with_reducible refine wp_cons ?_
  | with_reducible refine wp_c ?_
  | with_reducible refine wp_nil ?_
  | with_reducible refine wp_call ?_
  | with_reducible refine wp_c1 ?_)
local macro_rules | `(tactic| fail "y1") => `(tactic| first
  | with_reducible refine wp_set ?_
  | with_reducible refine wp_if ?_
  | with_reducible refine wp_next ?_
  | with_reducible refine wp_ret ?_
  | with_reducible refine af_nx ?_
  | with_reducible refine bk_rt ?_
  | (with_reducible refine' wp_ixL ?z1 ?z2 ?z3; (case z1 => fail "zg"); (case z2 => fail "za"))
  | (with_reducible refine' wp_ixT ?z1 ?z2; (case z1 => fail "za")))
local macro_rules | `(tactic| fail "y2") => `(tactic| first
  | with_reducible refine af_rt ?_
  | with_reducible refine af_bk ?_
  | with_reducible refine bk_nx ?_
  | with_reducible refine turned_nx ?_
  | with_reducible refine turned_bk ?_
  | with_reducible refine turned_rt ?_
  | with_reducible refine wp_and ?_
  | with_reducible refine wp_or ?_)
local macro_rules | `(tactic| fail "y3") => `(tactic| first
  | with_reducible refine wp_not ?_
  | with_reducible refine wp_sub ?_
  | with_reducible refine wp_subA ?_
  | with_reducible refine wp_chain ?_
  | with_reducible refine wp_neAI ?_
  | with_reducible refine wp_neAS ?_
  | with_reducible refine wp_dic0 ?_
  | with_reducible refine wp_drop ?_)
local macro_rules | `(tactic| fail "y4") => `(tactic| first
  | with_reducible refine wp_vK ?_
  | with_reducible refine wp_nox ?_
  | with_reducible refine wp_break ?_
  | with_reducible refine wp_retN ?_
  | with_reducible refine wp_sfld ?_
  | with_reducible refine wp_yes ?_
  | with_reducible refine wp_addI ?_
  | with_reducible refine wp_subI ?_)
local macro_rules | `(tactic| fail "y5") => `(tactic| first
  | with_reducible refine wp_neg ?_
  | with_reducible refine wp_eqI ?_
  | with_reducible refine wp_neI ?_
  | with_reducible refine wp_ltI ?_
  | with_reducible refine wp_leI ?_
  | with_reducible refine wp_gtI ?_
  | with_reducible refine wp_geI ?_
  | with_reducible refine wp_eqS ?_)
local macro_rules | `(tactic| fail "y6") => `(tactic| first
  | with_reducible refine wp_neS ?_
  | with_reducible refine wp_eqB ?_
  | with_reducible refine wp_isN ?_
  | with_reducible refine wp_isNotN ?_
  | with_reducible refine wp_int ?_
  | with_reducible refine wp_max2 ?_
  | with_reducible refine wp_min2 ?_
  | with_reducible refine wp_tr_bl ?_)
local macro_rules | `(tactic| fail "y7") => `(tactic| first
  | with_reducible refine wp_tr_int ?_
  | with_reducible refine wp_tupT ?_
  | with_reducible refine wp_slT ?_
  | with_reducible refine wp_nopart ?_
  | with_reducible refine wp_lst ?_
  | with_reducible refine wp_tup ?_
  | with_reducible refine wp_slice ?_
  | with_reducible refine wp_callK ?_)
local macro_rules | `(tactic| fail "y8") => `(tactic| first
  | with_reducible refine wp_make ?_
  | with_reducible refine wp_meth ?_
  | with_reducible refine wp_is ?_
  | with_reducible refine wp_vand ?_
  | with_reducible refine wp_vor ?_
  | with_reducible refine wp_vnot ?_
  | with_reducible refine wp_asg ?_
  | with_reducible refine wp_part ?_)
local macro_rules | `(tactic| fail "y9") => `(tactic| first
  | with_reducible refine wp_forR1 ?_
  | with_reducible refine wp_forR2 ?_
  | with_reducible refine wp_compR1 ?_
  | with_reducible refine wp_compR2 ?_
  | (with_reducible refine' wp_ixAL ?z1 ?z2 ?z3; (case z1 => fail "zg"); (case z2 => fail "za"))
  | (with_reducible refine' wp_ixAT ?z1 ?z2; (case z1 => fail "za"))
  | (with_reducible refine' and_isL ?z1 ?z2; (case z1 => fail "zg"))
  | (with_reducible refine' wp_append ?z1 ?z2 ?z3; (case z1 => fail "zg"); (case z2 => first | omega | (simp only [List.length_map, List.length_append, List.length_cons, List.length_nil]; omega))))
local macro_rules | `(tactic| fail "y10") => `(tactic| first
  | (with_reducible refine' wp_lenL ?z1 ?z2; (case z1 => fail "zg"))
  | with_reducible refine wp_lenT ?_
  | (with_reducible refine' wp_lenAL ?z1 ?z2; (case z1 => fail "zg"))
  | with_reducible refine wp_lenAT ?_
  | (with_reducible refine' wp_listL ?z1 ?z2; (case z1 => fail "zg"))
  | with_reducible refine wp_listT ?_
  | with_reducible refine ex_bl ?_
  | (with_reducible refine' ex_ty ?z1 ?z2 ?z3; (case z1 => with_unfolding_all exact rfl); (case z2 => with_unfolding_all exact rfl)))
local macro_rules | `(tactic| fail "y11") => `(tactic| first
  | (with_reducible refine' wp_mulT ?z1 ?z2 ?z3; (case z1 => omega); (case z2 => omega))
  | (with_reducible refine' wp_setF ?z1 ?z2 ?z3; (case z1 => fail "zg"); (case z2 => with_unfolding_all exact Nat.le_of_ble_eq_true rfl))
  | (with_reducible refine' wp_setInt ?z1 ?z2 ?z3 ?z4; (case z1 => fail "zg"); (case z2 => first | assumption | omega); (case z3 => first | assumption | omega | (simp only [List.length_set]; omega)))
  | (with_reducible refine' wp_setIx ?z1 ?z2 ?z3; (case z1 => fail "zg"); (case z2 => first | (with_reducible apply ixN_of; (first | assumption | omega); (first | assumption | omega | (rw [List.length_map]; omega))) | with_unfolding_all exact rfl | assumption))
  | (with_reducible refine' wp_setAI ?z1 ?z2 ?z3 ?z4; (case z1 => fail "zg"); (case z2 => first | assumption | omega); (case z3 => first | assumption | omega | (simp only [List.length_set]; omega)))
  | (with_reducible refine' wp_setAX ?z1 ?z2 ?z3; (case z1 => fail "zg"); (case z2 => first | (with_reducible apply ixN_of; (first | assumption | omega); (first | assumption | omega | (rw [List.length_map]; omega))) | with_unfolding_all exact rfl | assumption))
  | (with_reducible refine' wp_modI ?z1 ?z2; (case z1 => omega))
  | (with_reducible refine' wp_divA0 ?z1 ?z2 ?z3; (case z1 => omega); (case z2 => omega)))
local macro_rules | `(tactic| fail "y12") => `(tactic| first
  | (with_reducible refine' wp_mulA ?z1 ?z2; (case z1 => omega))
  | (with_reducible refine' wp_divI ?z1 ?z2 ?z3; (case z1 => omega); (case z2 => omega))
  | (with_reducible refine' wp_mulI ?z1 ?z2; (case z1 => omega))
  | (with_reducible refine' wp_powI ?z1 ?z2; (case z1 => with_unfolding_all decide))
  | (with_reducible refine' wp_fld ?z1 ?z2 ?z3; (case z1 => fail "zg"); (case z2 => first | with_unfolding_all exact rfl | assumption))
  | (with_reducible refine' wp_prop ?z1 ?z2; (case z1 => fail "zg"))
  | (with_reducible refine' wp_tupL ?z1 ?z2; (case z1 => fail "zg"))
  | (with_reducible refine' And.intro ?z1 ?z2; (case z1 => first | with_unfolding_all exact Nat.le_of_ble_eq_true rfl | with_unfolding_all decide)))
local macro_rules | `(tactic| fail "z0") => `(tactic| first | fail "y0" | fail "y1" | fail "y2" | fail "y3" | fail "y4" | fail "y5" | fail "y6" | fail "y7" | fail "y8" | fail "y9" | fail "y10" | fail "y11" | fail "y12")
local macro_rules | `(tactic| fail "z1") => `(tactic| first | with_reducible refine wp_seq ?_ | fail "z0")
local macro_rules | `(tactic| walk_at "z") => `(tactic| (repeat fail "z1"))
local macro_rules | `(tactic| fail "zb") => `(tactic| (with_reducible refine And.intro ?_ ?_; (all_goals (intro hb; first | (simp at hb; done) | (simp at hb; skip) | skip))))
local macro_rules | `(tactic| walk_at "zz") => `(tactic| (repeat' (first | fail "z1" | fail "zb")))
local macro_rules | `(tactic| walk_at "zy") => `(tactic| (repeat' (first | fail "z0" | fail "zb")))
local macro_rules | `(tactic| walk_at "zn") => `(tactic| (with_reducible refine wp_seq ?_; walk_at "zy"))
local macro_rules | `(tactic| walk_at "zs") => `(tactic| fail "zs")
local macro_rules | `(tactic| walk_at "zg") => `(tactic| fail "zg")
local macro_rules | `(tactic| walk_at "za") => `(tactic| fail "za")
local macro_rules | `(tactic| walk_at "z0") => `(tactic| fail "z0")
local macro_rules | `(tactic| walk_at "z1") => `(tactic| fail "z1")
local macro_rules | `(tactic| walk_at "zb") => `(tactic| fail "zb")
namespace K02
open PySem PySem.Spec PyProof.Rows L2 Z
/-! tokens_of: the text's tokens -/
theorem mk_sp_ne {c : Nat} (h : c ≠ 32) : ¬ mkS [c] = Str.ofString " " := fun e => by
  have := congrArg tl e
  rw [tl_mk] at this
  have z : tl (Str.ofString " ") = [32] := by decide
  rw [z] at this
  cases this
  exact h rfl
theorem mk_sp : mkS [32] = Str.ofString " " := by decide
theorem tok_ne {r : List Nat} {t : Tok} (h : TokOf r t) : isNonD t.d = false := by
  cases t <;> rfl
theorem lex_wp {text : Str} {ts : List Tok} {k : Nat} {st : S} {Q : D → S → Prop} (h : Lx k (tl text) ts) (hk : k < 1000000) (hl : text.length ≤ 16000000) (ht : ts.length < 1000000) (q : ∀ s, Gr st s → Q (.tup (ts.map Tok.d)) s) : Wp (F_tokens_of [.str text] st) Q := by
  unfold F_tokens_of b_tokens_of K_WORD_CHARS
  refine wp_fn rfl ?_
  walk_at "zn"
  walk_at "zn"
  refine wp_seq ?_
  refine wp_while (fun m e s => ∃ (p : Nat) (t1 t2 : List Tok) (v3 v4 v5 : Option D), e = [some (.str text), some (.loc st.length), some (.int (p : Nat)), v3, v4, v5] ∧ s[st.length]? = some (.lst (t1.map Tok.d)) ∧ Gr st s ∧ t1 ++ t2 = ts ∧ Lx m ((tl text).drop p) t2) (m := k) hk ⟨0, [], ts, none, none, none, rfl, at_last, Gr.app, rfl, h⟩ ?_
  rintro m e s ⟨p, t1, t2, v3, v4, v5, rfl, ha, g, et, h⟩
  have hlt : t1.length < 1000000 ∨ t2 = [] := by
    cases t2 with
    | nil => exact .inr rfl
    | cons t t2 =>
      refine .inl ?_
      rw [← et, List.length_append] at ht
      omega
  have lm : ∀ (t : Tok), t1.length < 1000000 → (t1.map Tok.d).length < 1000000 := fun _ h => by rw [List.length_map]; exact h
  generalize eL : (tl text).drop p = L at h
  walk_at "zy"
  refine wp_lenAS hl ?_
  obtain ⟨N, hN⟩ : ∃ N, N = (tl text).length := ⟨_, rfl⟩
  have en : (text.length : Int) = (N : Int) := by rw [len_tl, hN]
  rw [en]
  cases h with
  | nil =>
    have hp : N ≤ p := by
      have := congrArg List.length eL
      rw [List.length_drop, List.length_nil] at this
      omega
    walk_at "zz"
    · rw [List.append_nil] at et
      subst et
      exact q s g
    · omega
  | @sp k L ts h =>
    have hp : p < N := hN ▸ drop_lt eL
    have eL2 : (tl text).drop (p + 1) = L := by rw [← List.drop_drop, eL]; rfl
    walk_at "zz"
    · omega
    refine wp_chr hl (drop_get eL) rfl ?_
    rw [mk_sp]
    walk_at "zz"
    exact ⟨k, by omega, p + 1, t1, t2, _, _, _, rfl, ha, g, et, eL2 ▸ h⟩
  | @run k L ts r t hr0 hr hL ht h =>
    obtain ⟨c, r', er⟩ := List.exists_cons_of_ne_nil hr0
    have eL1 : (tl text).drop p = c :: (r' ++ L) := by rw [eL, er]; rfl
    have hp : p < N := hN ▸ drop_lt eL1
    have eL2 : (tl text).drop (p + r.length) = L := by rw [← List.drop_drop, eL, List.drop_left]
    have hc := hr c (er ▸ List.mem_cons_self ..)
    have hrl : r.length < 1000000 := by
      cases ht with
      | word h1 h2 => omega
      | @num n hn =>
        have := TL.numL_len (n := n) (k := 13) (by omega) (by omega)
        omega
    have c32 : c ≠ 32 := by
      unfold W at hc
      omega
    have nn := tok_ne ht
    have hlt : t1.length < 1000000 := by
      rcases hlt with h | h
      · exact h
      · cases h
    walk_at "zz"
    · omega
    refine wp_chr hl (drop_get eL1) rfl ?_
    walk_at "zz"
    · exact absurd (by assumption) (mk_sp_ne c32)
    refine wp_chr hl (drop_get eL1) rfl ?_
    walk_at "zz"
    refine wp_inC (b := WCH) ?_
    rw [decide_eq_true (mem_wch.mpr hc)]
    walk_at "zz"
    refine runEnd_wp hl eL (hN ▸ hp) hr hL hrl ?_
    walk_at "zz"
    refine ⟨_, rfl, ?_⟩
    walk_at "zz"
    refine ⟨_, rfl, ?_⟩
    refine wp_cutS hl ?_
    rw [cut_eq (by omega), eL, show p + r.length - p = r.length by omega, List.take_left]
    walk_at "zz"
    refine runTok_wp ht ?_
    walk_at "zz"
    · rw [nn] at *
      exact absurd (by assumption) Bool.false_ne_true
    · refine ⟨k, by omega, p + r.length, t1 ++ [t], ts, _, _, _, rfl, ?_, g.setNew (Nat.le_refl _), by rw [← et, List.append_assoc]; rfl, eL2 ▸ h⟩
      rw [List.map_append]
      exact at_set ha
  | @s1 k L ts c hc c32 h1 h2 h =>
    have hp : p < N := hN ▸ drop_lt eL
    have eL2 : (tl text).drop (p + 1) = L := by rw [← List.drop_drop, eL]; rfl
    have hlt : t1.length < 1000000 := by
      rcases hlt with h | h
      · exact h
      · cases h
    walk_at "zz"
    · omega
    refine wp_chr hl (drop_get eL) rfl ?_
    walk_at "zz"
    · exact absurd (by assumption) (mk_sp_ne c32)
    refine wp_chr hl (drop_get eL) rfl ?_
    walk_at "zz"
    refine wp_inC (b := WCH) ?_
    rw [decide_eq_false (fun h => hc (mem_wch.mp h))]
    walk_at "zz"
    refine s1_wp hl eL h1 h2 ?_
    walk_at "zz"
    · exact absurd (by assumption) emp_ne
    refine wp_lenAS (by rw [len_mk]; show 1 ≤ _; omega) ?_
    rw [len_mk]
    walk_at "zz"
    refine ⟨k, by omega, p + 1, t1 ++ [.sign (mkS [c])], ts, _, _, _, rfl, ?_, g.setNew (Nat.le_refl _), by rw [← et, List.append_assoc]; rfl, eL2 ▸ h⟩
    rw [List.map_append]
    exact at_set ha
  | @s2 k L ts c d hc c32 h1 h =>
    have hp : p < N := hN ▸ drop_lt eL
    have eL2 : (tl text).drop (p + 2) = L := by rw [← List.drop_drop, eL]; rfl
    have hlt : t1.length < 1000000 := by
      rcases hlt with h | h
      · exact h
      · cases h
    walk_at "zz"
    · omega
    refine wp_chr hl (drop_get eL) rfl ?_
    walk_at "zz"
    · exact absurd (by assumption) (mk_sp_ne c32)
    refine wp_chr hl (drop_get eL) rfl ?_
    walk_at "zz"
    refine wp_inC (b := WCH) ?_
    rw [decide_eq_false (fun h => hc (mem_wch.mp h))]
    walk_at "zz"
    refine s2_wp hl eL h1 ?_
    walk_at "zz"
    · exact absurd (by assumption) emp_ne
    refine wp_lenAS (by rw [len_mk]; show 2 ≤ _; omega) ?_
    rw [len_mk]
    walk_at "zz"
    refine ⟨k, by omega, p + 2, t1 ++ [.sign (mkS [c, d])], ts, _, _, _, rfl, ?_, g.setNew (Nat.le_refl _), by rw [← et, List.append_assoc]; rfl, eL2 ▸ h⟩
    rw [List.map_append]
    exact at_set ha
end K02
end
section
set_option Elab.async false
set_option linter.all false
set_option maxRecDepth 100000
set_option maxHeartbeats 4000000
namespace K02
open PySem PySem.Spec PyProof.Rows L2 Z
/-! the text of an expression, and its tokens -/
def parL (b : Bool) (l : List Nat) : List Nat := if b then 40 :: (l ++ [41]) else l
def wr : Xp → List Nat
  | .num n => TL.numL n.toNat
  | .nm w => tl w
  | .rd a x => tl a ++ 91 :: (wr x ++ [93])
  | .op s l r => parL (decide (lev l < max (olev s) 2)) (wr l) ++ 32 :: (tl s ++ 32 :: parL (decide (lev r < olev s + 1)) (wr r))
  | .mn x y => tl "min" ++ 40 :: (wr x ++ 44 :: 32 :: (wr y ++ [41]))
  | .mx x y => tl "max" ++ 40 :: (wr x ++ 44 :: 32 :: (wr y ++ [41]))
  | .nth x => tl "nth" ++ 40 :: (wr x ++ [41])
  | .pick x y z => tl "pick" ++ 40 :: (wr x ++ 44 :: 32 :: (wr y ++ 44 :: 32 :: (wr z ++ [41])))
/-- a word -/
structure Nm (w : Str) : Prop where
  c : ∃ c r, tl w = c :: r ∧ 97 ≤ c ∧ c ≤ 122 ∧ (∀ x ∈ r, W x) ∧ r.length ≤ 11
  s : w ∉ NOTS
def Xp.wok : Xp → Prop
  | .num n => 0 ≤ n ∧ n ≤ big
  | .nm w => Nm w
  | .rd a x => Nm a ∧ x.wok
  | .op s l r => s ∈ OPS ∧ l.wok ∧ r.wok
  | .mn x y => x.wok ∧ y.wok
  | .mx x y => x.wok ∧ y.wok
  | .nth x => x.wok
  | .pick x y z => x.wok ∧ y.wok ∧ z.wok
theorem Nm.pw {w : Str} (h : Nm w) : Pw w := by
  obtain ⟨⟨c, r, e, c0, c1, -, -⟩, hs⟩ := h
  have hn : ∀ z ∈ NOTS, ¬ z = w := fun z hz e => hs (e ▸ hz)
  refine ⟨?_, ?_, ?_⟩
  · rintro rfl
    have z : tl (Str.ofString "(") = [40] := by decide
    rw [z] at e
    cases e
    omega
  · have a1 := hn "min" (by decide)
    have a2 := hn "max" (by decide)
    have a3 := hn "pick" (by decide)
    have a4 := hn "nth" (by decide)
    unfold T_ARGUMENT_COUNTS
    simp only [List.lookup]
    have q : ∀ z : Str, ¬ z = w → (w == z) = false := fun z h => by
      cases e : w == z with
      | false => rfl
      | true => exact absurd (by simpa using e : w = z).symm h
    rw [q _ a1, q _ a2, q _ a3, q _ a4]
  · cases e : (NOTS.any fun y => y == w) with
    | false => rfl
    | true =>
      obtain ⟨z, hz, e⟩ := List.any_eq_true.mp e
      exact absurd (by simpa using e) (hn z hz)
theorem wok_pok : ∀ {x : Xp}, x.wok → x.pok
  | .num _, _ => trivial
  | .nm _, h => h.pw
  | .rd _ x, h => ⟨h.1.pw, wok_pok (x := x) h.2⟩
  | .op _ l r, h => ⟨h.1, wok_pok (x := l) h.2.1, wok_pok (x := r) h.2.2⟩
  | .mn x y, h => ⟨wok_pok (x := x) h.1, wok_pok (x := y) h.2⟩
  | .mx x y, h => ⟨wok_pok (x := x) h.1, wok_pok (x := y) h.2⟩
  | .nth x, h => wok_pok (x := x) h
  | .pick x y z, h => ⟨wok_pok (x := x) h.1, wok_pok (x := y) h.2.1, wok_pok (x := z) h.2.2⟩
/-- steps -/
def Bn : Nat → Nat
  | 0 => 0
  | 1 => 1
  | n + 2 => 3 * Bn (n + 1) + 7
def Ln : Nat → Nat
  | 0 => 0
  | 1 => 13
  | n + 2 => 3 * Ln (n + 1) + 20
theorem Bn_s {n : Nat} (h : 1 ≤ n) : Bn (n + 1) = 3 * Bn n + 7 := by
  obtain ⟨m, rfl⟩ : ∃ m, n = m + 1 := ⟨n - 1, by omega⟩
  rfl
theorem Ln_s {n : Nat} (h : 1 ≤ n) : Ln (n + 1) = 3 * Ln n + 20 := by
  obtain ⟨m, rfl⟩ : ∃ m, n = m + 1 := ⟨n - 1, by omega⟩
  rfl
theorem Bn_mono : ∀ {m n : Nat}, m ≤ n → Bn m ≤ Bn n
  | m, 0, h => by
    obtain rfl : m = 0 := by omega
    exact Nat.le_refl _
  | m, n + 1, h => by
    by_cases e : m = n + 1
    · rw [e]
      exact Nat.le_refl _
    · have ih := Bn_mono (m := m) (n := n) (by omega)
      cases n with
      | zero =>
        obtain rfl : m = 0 := by omega
        exact Nat.zero_le _
      | succ n =>
        rw [Bn_s (by omega)]
        omega
theorem Ln_mono : ∀ {m n : Nat}, m ≤ n → Ln m ≤ Ln n
  | m, 0, h => by
    obtain rfl : m = 0 := by omega
    exact Nat.le_refl _
  | m, n + 1, h => by
    by_cases e : m = n + 1
    · rw [e]
      exact Nat.le_refl _
    · have ih := Ln_mono (m := m) (n := n) (by omega)
      cases n with
      | zero =>
        obtain rfl : m = 0 := by omega
        exact Nat.zero_le _
      | succ n =>
        rw [Ln_s (by omega)]
        omega
theorem B12 : Bn 12 = 797158 := by decide
theorem L12 : Ln 12 = 4074371 := by decide
theorem parL_len {b : Bool} {l : List Nat} : (parL b l).length ≤ l.length + 2 := by
  cases b <;> simp [parL]
theorem wr_len : ∀ {x : Xp}, x.wok → (wr x).length ≤ Ln x.dep
  | .num n, h => by
    have h : 0 ≤ n ∧ n ≤ big := h
    have : big = 1000000000000 := rfl
    exact TL.numL_len (k := 13) (by omega) (by omega)
  | .nm w, h => by
    obtain ⟨⟨c, r, e, -, -, -, hl⟩, -⟩ := h
    show (tl w).length ≤ 13
    rw [e, List.length_cons]
    omega
  | .rd a x, h => by
    obtain ⟨⟨⟨c, r, e, -, -, -, hl⟩, -⟩, hx⟩ := h
    have ih := wr_len hx
    show (tl a ++ 91 :: (wr x ++ [93])).length ≤ Ln (x.dep + 1)
    rw [Ln_s (dep_pos x), e]
    simp only [List.length_append, List.length_cons, List.length_nil]
    omega
  | .op s l r, h => by
    obtain ⟨hs, hl, hr⟩ := h
    have i1 := wr_len hl
    have i2 := wr_len hr
    have m1 := Ln_mono (Nat.le_max_left l.dep r.dep)
    have m2 := Ln_mono (Nat.le_max_right l.dep r.dep)
    have d1 := dep_pos l
    have s3 : (tl s).length ≤ 3 := by
      revert hs
      unfold OPS
      intro hs
      simp only [List.mem_cons, List.not_mem_nil, or_false] at hs
      rcases hs with rfl | rfl | rfl | rfl | rfl | rfl | rfl | rfl | rfl | rfl | rfl <;> decide
    have p1 := @parL_len (decide (lev l < max (olev s) 2)) (wr l)
    have p2 := @parL_len (decide (lev r < olev s + 1)) (wr r)
    show (parL (decide (lev l < max (olev s) 2)) (wr l) ++ 32 :: (tl s ++ 32 :: parL (decide (lev r < olev s + 1)) (wr r))).length ≤ Ln (max l.dep r.dep + 1)
    rw [Ln_s (by omega)]
    simp only [List.length_append, List.length_cons, List.length_nil]
    omega
  | .mn x y, h => by
    have i1 := wr_len h.1
    have i2 := wr_len h.2
    have m1 := Ln_mono (Nat.le_max_left x.dep y.dep)
    have m2 := Ln_mono (Nat.le_max_right x.dep y.dep)
    have d1 := dep_pos x
    have e : (tl "min").length = 3 := by decide
    show (tl "min" ++ 40 :: (wr x ++ 44 :: 32 :: (wr y ++ [41]))).length ≤ Ln (max x.dep y.dep + 1)
    rw [Ln_s (by omega)]
    simp only [List.length_append, List.length_cons, List.length_nil]
    omega
  | .mx x y, h => by
    have i1 := wr_len h.1
    have i2 := wr_len h.2
    have m1 := Ln_mono (Nat.le_max_left x.dep y.dep)
    have m2 := Ln_mono (Nat.le_max_right x.dep y.dep)
    have d1 := dep_pos x
    have e : (tl "max").length = 3 := by decide
    show (tl "max" ++ 40 :: (wr x ++ 44 :: 32 :: (wr y ++ [41]))).length ≤ Ln (max x.dep y.dep + 1)
    rw [Ln_s (by omega)]
    simp only [List.length_append, List.length_cons, List.length_nil]
    omega
  | .nth x, h => by
    have i1 := wr_len (x := x) h
    have d1 := dep_pos x
    have e : (tl "nth").length = 3 := by decide
    show (tl "nth" ++ 40 :: (wr x ++ [41])).length ≤ Ln (x.dep + 1)
    rw [Ln_s (by omega)]
    simp only [List.length_append, List.length_cons, List.length_nil]
    omega
  | .pick x y z, h => by
    have i1 := wr_len h.1
    have i2 := wr_len h.2.1
    have i3 := wr_len h.2.2
    have m1 := Ln_mono (show x.dep ≤ max x.dep (max y.dep z.dep) by omega)
    have m2 := Ln_mono (show y.dep ≤ max x.dep (max y.dep z.dep) by omega)
    have m3 := Ln_mono (show z.dep ≤ max x.dep (max y.dep z.dep) by omega)
    have d1 := dep_pos x
    have e : (tl "pick").length = 4 := by decide
    show (tl "pick" ++ 40 :: (wr x ++ 44 :: 32 :: (wr y ++ 44 :: 32 :: (wr z ++ [41])))).length ≤ Ln (max x.dep (max y.dep z.dep) + 1)
    rw [Ln_s (by omega)]
    simp only [List.length_append, List.length_cons, List.length_nil]
    omega
/-! its tokens -/
section
variable {k : Nat} {L : List Nat} {ts : List Tok} {w s : Str} {c : Nat}
/-- the next sign does not go on with a word -/
def Sep (L : List Nat) : Prop := ∀ c, L.head? = some c → ¬ W c
theorem sep_of (h : ¬ W c) : Sep (c :: L) := fun d e => by
  cases e
  exact h
theorem lx_word (hw : Nm w) (hL : Sep L) (h : Lx k L ts) : Lx (k + 1) (tl w ++ L) (.word w :: ts) := by
  obtain ⟨⟨c, r, e, c0, c1, hr, hl⟩, -⟩ := hw
  have t : TokOf (tl w) (.word w) := by
    have := TokOf.word (c := c) (r := r) ⟨c0, c1⟩ (by rw [List.length_cons]; omega)
    rw [← e, mk_tl] at this
    exact this
  refine .run (by rw [e]; simp) (fun x hx => ?_) hL t h
  rw [e] at hx
  rcases List.mem_cons.mp hx with rfl | hx
  · exact .inl ⟨c0, c1⟩
  · exact hr x hx
theorem lx_num {n : Int} (h0 : 0 ≤ n) (h1 : n ≤ big) (hL : Sep L) (h : Lx k L ts) : Lx (k + 1) (TL.numL n.toNat ++ L) (.num n :: ts) := by
  obtain ⟨m, rfl⟩ := Int.eq_ofNat_of_zero_le h0
  have hb : big = 1000000000000 := rfl
  exact .run (TL.numL_ne m) (fun x hx => .inr (.inl (TL.numL_digits m x hx))) hL (.num (by omega)) h
theorem kw (r : List Nat) (w : Str) (e : tl w = r) (hc : ∃ c r', r = c :: r' ∧ 97 ≤ c ∧ c ≤ 122) (hr : ∀ x ∈ r, 97 ≤ x ∧ x ≤ 122) (hl : r.length ≤ 12) (hL : Sep L) (h : Lx k L ts) : Lx (k + 1) (tl w ++ L) (.word w :: ts) := by
  obtain ⟨c, r', rfl, c0, c1⟩ := hc
  have t : TokOf (tl w) (.word w) := by
    have := TokOf.word (c := c) (r := r') ⟨c0, c1⟩ hl
    rw [← e, mk_tl] at this
    exact this
  exact .run (by rw [e]; simp) (fun x hx => .inl (hr x (e ▸ hx))) hL t h
theorem kw_min (hL : Sep L) (h : Lx k L ts) : Lx (k + 1) (tl "min" ++ L) (.word "min" :: ts) := kw [109, 105, 110] _ (by decide) ⟨_, _, rfl, by omega, by omega⟩ (by decide) (by decide) hL h
theorem kw_max (hL : Sep L) (h : Lx k L ts) : Lx (k + 1) (tl "max" ++ L) (.word "max" :: ts) := kw [109, 97, 120] _ (by decide) ⟨_, _, rfl, by omega, by omega⟩ (by decide) (by decide) hL h
theorem kw_nth (hL : Sep L) (h : Lx k L ts) : Lx (k + 1) (tl "nth" ++ L) (.word "nth" :: ts) := kw [110, 116, 104] _ (by decide) ⟨_, _, rfl, by omega, by omega⟩ (by decide) (by decide) hL h
theorem kw_pick (hL : Sep L) (h : Lx k L ts) : Lx (k + 1) (tl "pick" ++ L) (.word "pick" :: ts) := kw [112, 105, 99, 107] _ (by decide) ⟨_, _, rfl, by omega, by omega⟩ (by decide) (by decide) hL h
theorem kw_div (hL : Sep L) (h : Lx k L ts) : Lx (k + 1) (tl "div" ++ L) (.word "div" :: ts) := kw [100, 105, 118] _ (by decide) ⟨_, _, rfl, by omega, by omega⟩ (by decide) (by decide) hL h
theorem kw_mod (hL : Sep L) (h : Lx k L ts) : Lx (k + 1) (tl "mod" ++ L) (.word "mod" :: ts) := kw [109, 111, 100] _ (by decide) ⟨_, _, rfl, by omega, by omega⟩ (by decide) (by decide) hL h
theorem long_no {d : Nat} (h : ∀ z ∈ LONG, ∃ a b, tl z = [a, b] ∧ a ≠ c) : (LONG.any fun y => y == mkS (c :: d :: L)) = false ∧ (LONG.any fun y => y == mkS [c]) = false := by
  have q : ∀ l, (LONG.any fun y => y == mkS (c :: l)) = false := fun l => by
    cases e : (LONG.any fun y => y == mkS (c :: l)) with
    | false => rfl
    | true =>
      obtain ⟨z, hz, e⟩ := List.any_eq_true.mp e
      obtain ⟨a, b, e2, ne⟩ := h z hz
      have e3 : z = mkS (c :: l) := by simpa using e
      rw [e3, tl_mk] at e2
      cases e2
      exact absurd rfl ne
  exact ⟨q _, q _⟩
theorem long_no' (h : c ≠ 60 ∧ c ≠ 62 ∧ c ≠ 33 ∧ c ≠ 58) : (LONG.any fun y => y == mkS ((c :: L).take 2)) = false := by
  have q : ∀ z ∈ LONG, ∃ a b, tl z = [a, b] ∧ a ≠ c := by
    intro z hz
    unfold LONG at hz
    simp only [List.mem_cons, List.not_mem_nil, or_false] at hz
    rcases hz with rfl | rfl | rfl | rfl
    · exact ⟨60, 61, by decide, by omega⟩
    · exact ⟨62, 61, by decide, by omega⟩
    · exact ⟨33, 61, by decide, by omega⟩
    · exact ⟨58, 61, by decide, by omega⟩
  cases L with
  | nil => exact (long_no (L := []) (d := 0) q).2
  | cons d L => exact (long_no (L := []) (d := d) q).1
theorem sg (c : Nat) (z : Str) (ez : mkS [c] = z) (hW : ¬ W c) (h32 : c ≠ 32) (hl : c ≠ 60 ∧ c ≠ 62 ∧ c ≠ 33 ∧ c ≠ 58) (hs : (SHORT.any fun y => y == mkS [c]) = true) (h : Lx k L ts) : Lx (k + 1) (c :: L) (.sign z :: ts) := ez ▸ .s1 hW h32 (long_no' hl) hs h
theorem nW {c : Nat} (h : c < 48 ∨ (57 < c ∧ c < 95) ∨ c = 96 ∨ 122 < c) : ¬ W c := by
  unfold W
  omega
theorem sg_op (h : Lx k L ts) : Lx (k + 1) (40 :: L) (.sign "(" :: ts) := sg 40 _ (by decide) (nW (by omega)) (by omega) (by omega) (by decide) h
theorem sg_cl (h : Lx k L ts) : Lx (k + 1) (41 :: L) (.sign ")" :: ts) := sg 41 _ (by decide) (nW (by omega)) (by omega) (by omega) (by decide) h
theorem sg_co (h : Lx k L ts) : Lx (k + 1) (44 :: L) (.sign "," :: ts) := sg 44 _ (by decide) (nW (by omega)) (by omega) (by omega) (by decide) h
theorem sg_bo (h : Lx k L ts) : Lx (k + 1) (91 :: L) (.sign "[" :: ts) := sg 91 _ (by decide) (nW (by omega)) (by omega) (by omega) (by decide) h
theorem sg_bc (h : Lx k L ts) : Lx (k + 1) (93 :: L) (.sign "]" :: ts) := sg 93 _ (by decide) (nW (by omega)) (by omega) (by omega) (by decide) h
theorem lx_opt (hs : s ∈ OPS) (h : Lx k L ts) : Lx (k + 2) (tl s ++ 32 :: L) (opTok s :: ts) := by
  have h := Lx.sp h
  have s32 : Sep (32 :: L) := sep_of (nW (by omega))
  unfold OPS at hs
  simp only [List.mem_cons, List.not_mem_nil, or_false] at hs
  rcases hs with rfl | rfl | rfl | rfl | rfl | rfl | rfl | rfl | rfl | rfl | rfl
  · exact sg 43 _ (by decide) (nW (by omega)) (by omega) (by omega) (by decide) h
  · exact sg 45 _ (by decide) (nW (by omega)) (by omega) (by omega) (by decide) h
  · exact sg 42 _ (by decide) (nW (by omega)) (by omega) (by omega) (by decide) h
  · exact kw_div s32 h
  · exact kw_mod s32 h
  · exact (show mkS [60] = "<" by decide) ▸ Lx.s1 (c := 60) (nW (by omega)) (by omega) (by show (LONG.any fun y => y == mkS [60, 32]) = false; decide) (by decide) h
  · exact (show mkS [60, 61] = "<=" by decide) ▸ Lx.s2 (c := 60) (d := 61) (nW (by omega)) (by omega) (by decide) h
  · exact (show mkS [62] = ">" by decide) ▸ Lx.s1 (c := 62) (nW (by omega)) (by omega) (by show (LONG.any fun y => y == mkS [62, 32]) = false; decide) (by decide) h
  · exact (show mkS [62, 61] = ">=" by decide) ▸ Lx.s2 (c := 62) (d := 61) (nW (by omega)) (by omega) (by decide) h
  · exact sg 61 _ (by decide) (nW (by omega)) (by omega) (by omega) (by decide) h
  · exact (show mkS [33, 61] = "!=" by decide) ▸ Lx.s2 (c := 33) (d := 61) (nW (by omega)) (by omega) (by decide) h
end
end K02
end
section
set_option Elab.async false
set_option linter.all false
set_option maxRecDepth 100000
set_option maxHeartbeats 4000000
open PySem PySem.Spec PyProof.Rows L2 Z
local macro_rules | `(tactic| fail "zs") => `(tactic| first
  | assumption
  | with_reducible exact at_last
  | (with_reducible apply at_set; fail "zs")
  | (with_reducible apply at_app; fail "zs")
  | (with_reducible apply at_setne; (first | assumption | (apply Ne.symm; assumption) | omega); fail "zs")
  | (with_reducible refine Gr.keep (by assumption) ?_; fail "zs")
  | (with_reducible refine Gx.keep (by assumption) ?_ ?_; (first | assumption | (apply Ne.symm; assumption) | omega); fail "zs"))
local macro_rules | `(tactic| fail "zg") => `(tactic| first
  | assumption
  | (with_reducible apply getL_of; fail "zs")
  | (with_reducible apply getW_of; fail "zs")
  | (with_reducible apply getI_of; fail "zs"))
local macro_rules | `(tactic| fail "za") => `(tactic| first | (with_reducible apply atI_int; (first | assumption | omega); (first | assumption | omega | (simp only [List.length_set]; omega))) | with_unfolding_all exact rfl | assumption)
local macro_rules | `(tactic| fail "y0") => `(tactic| first
  | (with_reducible refine' wp_var ?z1 ?z2; (case z1 => with_unfolding_all exact rfl))
  | with_reducible refine wp_c2 ?_
  | with_reducible refine wp_cons ?_
  | with_reducible refine wp_c ?_
  | with_reducible refine wp_nil ?_
  | with_reducible refine wp_call ?_
  | with_reducible refine wp_c1 ?_)
local macro_rules | `(tactic| fail "y1") => `(tactic| first
  | with_reducible refine wp_set ?_
  | with_reducible refine wp_if ?_
  | with_reducible refine wp_next ?_
  | with_reducible refine wp_ret ?_
  | with_reducible refine af_nx ?_
  | with_reducible refine bk_rt ?_
  | (with_reducible refine' wp_ixL ?z1 ?z2 ?z3; (case z1 => fail "zg"); (case z2 => fail "za"))
  | (with_reducible refine' wp_ixT ?z1 ?z2; (case z1 => fail "za")))
local macro_rules | `(tactic| fail "y2") => `(tactic| first
  | with_reducible refine af_rt ?_
  | with_reducible refine af_bk ?_
  | with_reducible refine bk_nx ?_
  | with_reducible refine turned_nx ?_
  | with_reducible refine turned_bk ?_
  | with_reducible refine turned_rt ?_
  | with_reducible refine wp_and ?_
  | with_reducible refine wp_or ?_)
local macro_rules | `(tactic| fail "y3") => `(tactic| first
  | with_reducible refine wp_not ?_
  | with_reducible refine wp_sub ?_
  | with_reducible refine wp_subA ?_
  | with_reducible refine wp_chain ?_
  | with_reducible refine wp_neAI ?_
  | with_reducible refine wp_neAS ?_
  | with_reducible refine wp_dic0 ?_
  | with_reducible refine wp_drop ?_)
local macro_rules | `(tactic| fail "y4") => `(tactic| first
  | with_reducible refine wp_vK ?_
  | with_reducible refine wp_nox ?_
  | with_reducible refine wp_break ?_
  | with_reducible refine wp_retN ?_
  | with_reducible refine wp_sfld ?_
  | with_reducible refine wp_yes ?_
  | with_reducible refine wp_addI ?_
  | with_reducible refine wp_subI ?_)
local macro_rules | `(tactic| fail "y5") => `(tactic| first
  | with_reducible refine wp_neg ?_
  | with_reducible refine wp_eqI ?_
  | with_reducible refine wp_neI ?_
  | with_reducible refine wp_ltI ?_
  | with_reducible refine wp_leI ?_
  | with_reducible refine wp_gtI ?_
  | with_reducible refine wp_geI ?_
  | with_reducible refine wp_eqS ?_)
local macro_rules | `(tactic| fail "y6") => `(tactic| first
  | with_reducible refine wp_neS ?_
  | with_reducible refine wp_eqB ?_
  | with_reducible refine wp_isN ?_
  | with_reducible refine wp_isNotN ?_
  | with_reducible refine wp_int ?_
  | with_reducible refine wp_max2 ?_
  | with_reducible refine wp_min2 ?_
  | with_reducible refine wp_tr_bl ?_)
local macro_rules | `(tactic| fail "y7") => `(tactic| first
  | with_reducible refine wp_tr_int ?_
  | with_reducible refine wp_tupT ?_
  | with_reducible refine wp_slT ?_
  | with_reducible refine wp_nopart ?_
  | with_reducible refine wp_lst ?_
  | with_reducible refine wp_tup ?_
  | with_reducible refine wp_slice ?_
  | with_reducible refine wp_callK ?_)
local macro_rules | `(tactic| fail "y8") => `(tactic| first
  | with_reducible refine wp_make ?_
  | with_reducible refine wp_meth ?_
  | with_reducible refine wp_is ?_
  | with_reducible refine wp_vand ?_
  | with_reducible refine wp_vor ?_
  | with_reducible refine wp_vnot ?_
  | with_reducible refine wp_asg ?_
  | with_reducible refine wp_part ?_)
local macro_rules | `(tactic| fail "y9") => `(tactic| first
  | with_reducible refine wp_forR1 ?_
  | with_reducible refine wp_forR2 ?_
  | with_reducible refine wp_compR1 ?_
  | with_reducible refine wp_compR2 ?_
  | (with_reducible refine' wp_ixAL ?z1 ?z2 ?z3; (case z1 => fail "zg"); (case z2 => fail "za"))
  | (with_reducible refine' wp_ixAT ?z1 ?z2; (case z1 => fail "za"))
  | (with_reducible refine' and_isL ?z1 ?z2; (case z1 => fail "zg"))
  | (with_reducible refine' wp_append ?z1 ?z2 ?z3; (case z1 => fail "zg"); (case z2 => first | omega | (simp only [List.length_map, List.length_append, List.length_cons, List.length_nil]; omega))))
local macro_rules | `(tactic| fail "y10") => `(tactic| first
  | (with_reducible refine' wp_lenL ?z1 ?z2; (case z1 => fail "zg"))
  | with_reducible refine wp_lenT ?_
  | (with_reducible refine' wp_lenAL ?z1 ?z2; (case z1 => fail "zg"))
  | with_reducible refine wp_lenAT ?_
  | (with_reducible refine' wp_listL ?z1 ?z2; (case z1 => fail "zg"))
  | with_reducible refine wp_listT ?_
  | with_reducible refine ex_bl ?_
  | (with_reducible refine' ex_ty ?z1 ?z2 ?z3; (case z1 => with_unfolding_all exact rfl); (case z2 => with_unfolding_all exact rfl)))
local macro_rules | `(tactic| fail "y11") => `(tactic| first
  | (with_reducible refine' wp_mulT ?z1 ?z2 ?z3; (case z1 => omega); (case z2 => omega))
  | (with_reducible refine' wp_setF ?z1 ?z2 ?z3; (case z1 => fail "zg"); (case z2 => with_unfolding_all exact Nat.le_of_ble_eq_true rfl))
  | (with_reducible refine' wp_setInt ?z1 ?z2 ?z3 ?z4; (case z1 => fail "zg"); (case z2 => first | assumption | omega); (case z3 => first | assumption | omega | (simp only [List.length_set]; omega)))
  | (with_reducible refine' wp_setIx ?z1 ?z2 ?z3; (case z1 => fail "zg"); (case z2 => first | (with_reducible apply ixN_of; (first | assumption | omega); (first | assumption | omega | (rw [List.length_map]; omega))) | with_unfolding_all exact rfl | assumption))
  | (with_reducible refine' wp_setAI ?z1 ?z2 ?z3 ?z4; (case z1 => fail "zg"); (case z2 => first | assumption | omega); (case z3 => first | assumption | omega | (simp only [List.length_set]; omega)))
  | (with_reducible refine' wp_setAX ?z1 ?z2 ?z3; (case z1 => fail "zg"); (case z2 => first | (with_reducible apply ixN_of; (first | assumption | omega); (first | assumption | omega | (rw [List.length_map]; omega))) | with_unfolding_all exact rfl | assumption))
  | (with_reducible refine' wp_modI ?z1 ?z2; (case z1 => omega))
  | (with_reducible refine' wp_divA0 ?z1 ?z2 ?z3; (case z1 => omega); (case z2 => omega)))
local macro_rules | `(tactic| fail "y12") => `(tactic| first
  | (with_reducible refine' wp_mulA ?z1 ?z2; (case z1 => omega))
  | (with_reducible refine' wp_divI ?z1 ?z2 ?z3; (case z1 => omega); (case z2 => omega))
  | (with_reducible refine' wp_mulI ?z1 ?z2; (case z1 => omega))
  | (with_reducible refine' wp_powI ?z1 ?z2; (case z1 => with_unfolding_all decide))
  | (with_reducible refine' wp_fld ?z1 ?z2 ?z3; (case z1 => fail "zg"); (case z2 => first | with_unfolding_all exact rfl | assumption))
  | (with_reducible refine' wp_prop ?z1 ?z2; (case z1 => fail "zg"))
  | (with_reducible refine' wp_tupL ?z1 ?z2; (case z1 => fail "zg"))
  | (with_reducible refine' And.intro ?z1 ?z2; (case z1 => first | with_unfolding_all exact Nat.le_of_ble_eq_true rfl | with_unfolding_all decide)))
local macro_rules | `(tactic| fail "z0") => `(tactic| first | fail "y0" | fail "y1" | fail "y2" | fail "y3" | fail "y4" | fail "y5" | fail "y6" | fail "y7" | fail "y8" | fail "y9" | fail "y10" | fail "y11" | fail "y12")
local macro_rules | `(tactic| fail "z1") => `(tactic| first | with_reducible refine wp_seq ?_ | fail "z0")
local macro_rules | `(tactic| walk_at "z") => `(tactic| (repeat fail "z1"))
local macro_rules | `(tactic| fail "zb") => `(tactic| (with_reducible refine And.intro ?_ ?_; (all_goals (intro hb; first | (simp at hb; done) | (simp at hb; skip) | skip))))
local macro_rules | `(tactic| walk_at "zz") => `(tactic| (repeat' (first | fail "z1" | fail "zb")))
local macro_rules | `(tactic| walk_at "zy") => `(tactic| (repeat' (first | fail "z0" | fail "zb")))
local macro_rules | `(tactic| walk_at "zn") => `(tactic| (with_reducible refine wp_seq ?_; walk_at "zy"))
local macro_rules | `(tactic| walk_at "zs") => `(tactic| fail "zs")
local macro_rules | `(tactic| walk_at "zg") => `(tactic| fail "zg")
local macro_rules | `(tactic| walk_at "za") => `(tactic| fail "za")
local macro_rules | `(tactic| walk_at "z0") => `(tactic| fail "z0")
local macro_rules | `(tactic| walk_at "z1") => `(tactic| fail "z1")
local macro_rules | `(tactic| walk_at "zb") => `(tactic| fail "zb")
namespace K02
open PySem PySem.Spec PyProof.Rows L2 Z
theorem lx_len : ∀ {k : Nat} {L : List Nat} {ts : List Tok}, Lx k L ts → ts.length ≤ k
  | _, _, _, .nil => Nat.le_refl _
  | _, _, _, .sp h => Nat.le_succ_of_le (lx_len h)
  | _, _, _, .run _ _ _ _ h => Nat.succ_le_succ (lx_len h)
  | _, _, _, .s1 _ _ _ _ h => Nat.succ_le_succ (lx_len h)
  | _, _, _, .s2 _ _ _ h => Nat.succ_le_succ (lx_len h)
/-- what a text does to tokens -/
def Lxs (n : Nat) (l : List Nat) (t : List Tok) : Prop := ∀ {k : Nat} {L : List Nat} {ts : List Tok}, Sep L → Lx k L ts → ∃ j, j ≤ n ∧ Lx (j + k) (l ++ L) (t ++ ts)
theorem lx_to {k k' : Nat} {L L' : List Nat} {ts ts' : List Tok} (h : Lx k L ts) (e1 : k = k') (e2 : L = L') (e3 : ts = ts') : Lx k' L' ts' := by
  subst e1 e2 e3
  exact h
theorem lxs_par {n : Nat} {l : List Nat} {t : List Tok} (h : Lxs n l t) (b : Bool) : Lxs (n + 2) (parL b l) (par b t) := by
  intro k L ts hL hl
  cases b with
  | false =>
    obtain ⟨j, hj, h⟩ := h hL hl
    exact ⟨j, by omega, h⟩
  | true =>
    obtain ⟨j, hj, h⟩ := h (sep_of (nW (c := 41) (by omega))) (sg_cl hl)
    exact ⟨j + 2, by omega, lx_to (sg_op h) (by omega) (by simp [parL]) (by simp [par])⟩
theorem lx_wr : ∀ {x : Xp}, x.wok → Lxs (Bn x.dep) (wr x) (tk x)
  | .num n, h => fun hL hl => ⟨1, Nat.le_refl _, lx_to (lx_num h.1 h.2 hL hl) (by omega) rfl rfl⟩
  | .nm w, h => fun hL hl => ⟨1, Nat.le_refl _, lx_to (lx_word h hL hl) (by omega) rfl rfl⟩
  | .rd a x, h => by
    intro hL hl
    obtain ⟨j, hj, r⟩ := lx_wr h.2 (sep_of (nW (c := 93) (by omega))) (sg_bc hl)
    have e : Bn (x.dep + 1) = 3 * Bn x.dep + 7 := Bn_s (dep_pos x)
    exact ⟨j + 3, by show j + 3 ≤ Bn (x.dep + 1); omega, lx_to (lx_word h.1 (sep_of (nW (c := 91) (by omega))) (sg_bo r)) (by omega) (by simp [wr]) (by simp [tk])⟩
  | .op s l r, h => by
    intro hL hl
    have i1 : Lxs (Bn l.dep + 2) (parL (decide (lev l < max (olev s) 2)) (wr l)) (par (decide (lev l < max (olev s) 2)) (tk l)) := lxs_par (lx_wr h.2.1) _
    have i2 : Lxs (Bn r.dep + 2) (parL (decide (lev r < olev s + 1)) (wr r)) (par (decide (lev r < olev s + 1)) (tk r)) := lxs_par (lx_wr h.2.2) _
    have d1 := dep_pos l
    have m1 := Bn_mono (Nat.le_max_left l.dep r.dep)
    have m2 := Bn_mono (Nat.le_max_right l.dep r.dep)
    have e : Bn (max l.dep r.dep + 1) = 3 * Bn (max l.dep r.dep) + 7 := Bn_s (by omega)
    obtain ⟨j2, hj2, r2⟩ := i2 hL hl
    obtain ⟨j1, hj1, r1⟩ := i1 (sep_of (nW (c := 32) (by omega))) (.sp (lx_opt h.1 r2))
    exact ⟨j1 + 3 + j2, by show _ ≤ Bn (max l.dep r.dep + 1); omega, lx_to r1 (by omega) (by simp [wr]) (by simp [tk])⟩
  | .mn x y, h => by
    intro hL hl
    have d1 := dep_pos x
    have m1 := Bn_mono (Nat.le_max_left x.dep y.dep)
    have m2 := Bn_mono (Nat.le_max_right x.dep y.dep)
    have e : Bn (max x.dep y.dep + 1) = 3 * Bn (max x.dep y.dep) + 7 := Bn_s (by omega)
    obtain ⟨j2, hj2, r2⟩ := lx_wr h.2 (sep_of (nW (c := 41) (by omega))) (sg_cl hl)
    obtain ⟨j1, hj1, r1⟩ := lx_wr h.1 (sep_of (nW (c := 44) (by omega))) (sg_co (.sp r2))
    exact ⟨j1 + j2 + 5, by show _ ≤ Bn (max x.dep y.dep + 1); omega, lx_to (kw_min (sep_of (nW (c := 40) (by omega))) (sg_op r1)) (by omega) (by simp [wr]) (by simp [tk])⟩
  | .mx x y, h => by
    intro hL hl
    have d1 := dep_pos x
    have m1 := Bn_mono (Nat.le_max_left x.dep y.dep)
    have m2 := Bn_mono (Nat.le_max_right x.dep y.dep)
    have e : Bn (max x.dep y.dep + 1) = 3 * Bn (max x.dep y.dep) + 7 := Bn_s (by omega)
    obtain ⟨j2, hj2, r2⟩ := lx_wr h.2 (sep_of (nW (c := 41) (by omega))) (sg_cl hl)
    obtain ⟨j1, hj1, r1⟩ := lx_wr h.1 (sep_of (nW (c := 44) (by omega))) (sg_co (.sp r2))
    exact ⟨j1 + j2 + 5, by show _ ≤ Bn (max x.dep y.dep + 1); omega, lx_to (kw_max (sep_of (nW (c := 40) (by omega))) (sg_op r1)) (by omega) (by simp [wr]) (by simp [tk])⟩
  | .nth x, h => by
    intro hL hl
    obtain ⟨j, hj, r⟩ := lx_wr (x := x) h (sep_of (nW (c := 41) (by omega))) (sg_cl hl)
    have e : Bn (x.dep + 1) = 3 * Bn x.dep + 7 := Bn_s (dep_pos x)
    exact ⟨j + 3, by show j + 3 ≤ Bn (x.dep + 1); omega, lx_to (kw_nth (sep_of (nW (c := 40) (by omega))) (sg_op r)) (by omega) (by simp [wr]) (by simp [tk])⟩
  | .pick x y z, h => by
    intro hL hl
    have d1 := dep_pos x
    have m1 := Bn_mono (show x.dep ≤ max x.dep (max y.dep z.dep) by omega)
    have m2 := Bn_mono (show y.dep ≤ max x.dep (max y.dep z.dep) by omega)
    have m3 := Bn_mono (show z.dep ≤ max x.dep (max y.dep z.dep) by omega)
    have e : Bn (max x.dep (max y.dep z.dep) + 1) = 3 * Bn (max x.dep (max y.dep z.dep)) + 7 := Bn_s (by omega)
    obtain ⟨j3, hj3, r3⟩ := lx_wr h.2.2 (sep_of (nW (c := 41) (by omega))) (sg_cl hl)
    obtain ⟨j2, hj2, r2⟩ := lx_wr h.2.1 (sep_of (nW (c := 44) (by omega))) (sg_co (.sp r3))
    obtain ⟨j1, hj1, r1⟩ := lx_wr h.1 (sep_of (nW (c := 44) (by omega))) (sg_co (.sp r2))
    exact ⟨j1 + j2 + j3 + 7, by show _ ≤ Bn (max x.dep (max y.dep z.dep) + 1); omega, lx_to (kw_pick (sep_of (nW (c := 40) (by omega))) (sg_op r1)) (by omega) (by simp [wr]) (by simp [tk])⟩
section
variable {x : Xp} {st : S} {Q : D → S → Prop}
theorem wr12 (h : x.wok) (hd : x.dep ≤ 12) : (mkS (wr x)).length ≤ 4074371 := by
  rw [len_mk]
  exact Nat.le_trans (wr_len h) (L12 ▸ Ln_mono hd)
theorem taken_wp {T : List Tok} {l : D × Nat × Nat} (p : Par T 90 .whole 0 0 (some l)) (q : ∀ s, Gr st s → Q (.tup [l.1, .int (l.2.1 : Nat)]) s) : Wp (F_take_expression [.tup (T.map Tok.d), .int 0] st) Q := by
  unfold F_take_expression b_take_expression F_taken_whole
  refine wp_fn rfl ?_
  walk_at "zn"
  refine ((says T 90).whole p rfl rfl).mono ?_
  rintro d s ⟨rfl, g⟩
  unfold prD
  dsimp only
  walk_at "zz"
  · exact (nonT (by assumption)).elim
  · exact q s g
/-- reading what is written gives the expression -/
theorem read_wp (h : x.wok) (hd : x.dep ≤ 12) (q : ∀ s, Gr st s → Q x.d s) : Wp (F_read_expression [.str (mkS (wr x))] st) Q := by
  obtain ⟨j, hj, hx⟩ := lx_wr h (L := []) (fun c e => nomatch e) .nil
  rw [List.append_nil, List.append_nil, Nat.add_zero] at hx
  have hb := Bn_mono hd
  rw [B12] at hb
  have hT := lx_len hx
  have hl := wr12 h hd
  have P := par_all (wok_pok h) hd (by omega)
  unfold F_read_expression b_read_expression
  refine wp_fn rfl ?_
  walk_at "zn"
  refine lex_wp (text := mkS (wr x)) (by rw [tl_mk]; exact hx) (by omega) (by omega) (by omega) ?_
  intro s1 g1
  walk_at "zz"
  · exact (nonT (by assumption)).elim
  refine taken_wp P ?_
  intro s2 g2
  walk_at "zz"
  · exact (nonT (by assumption)).elim
  · exact q s2 (g1.trans g2)
end
end K02
end
section
set_option Elab.async false
set_option linter.all false
set_option maxRecDepth 100000
set_option maxHeartbeats 4000000
open PySem PySem.Spec PyProof.Rows L2 Z
local macro_rules | `(tactic| fail "zs") => `(tactic| first
  | assumption
  | with_reducible exact at_last
  | (with_reducible apply at_set; fail "zs")
  | (with_reducible apply at_app; fail "zs")
  | (with_reducible apply at_setne; (first | assumption | (apply Ne.symm; assumption) | omega); fail "zs")
  | (with_reducible refine Gr.keep (by assumption) ?_; fail "zs")
  | (with_reducible refine Gx.keep (by assumption) ?_ ?_; (first | assumption | (apply Ne.symm; assumption) | omega); fail "zs"))
local macro_rules | `(tactic| fail "zg") => `(tactic| first
  | assumption
  | (with_reducible apply getL_of; fail "zs")
  | (with_reducible apply getW_of; fail "zs")
  | (with_reducible apply getI_of; fail "zs"))
local macro_rules | `(tactic| fail "za") => `(tactic| first | (with_reducible apply atI_int; (first | assumption | omega); (first | assumption | omega | (simp only [List.length_set]; omega))) | with_unfolding_all exact rfl | assumption)
local macro_rules | `(tactic| fail "y0") => `(tactic| first
  | (with_reducible refine' wp_var ?z1 ?z2; (case z1 => with_unfolding_all exact rfl))
  | with_reducible refine wp_c2 ?_
  | with_reducible refine wp_cons ?_
  | with_reducible refine wp_c ?_
  | with_reducible refine wp_nil ?_
  | with_reducible refine wp_call ?_
  | with_reducible refine wp_c1 ?_)
local macro_rules | `(tactic| fail "y1") => `(tactic| first
  | with_reducible refine wp_set ?_
  | with_reducible refine wp_if ?_
  | with_reducible refine wp_next ?_
  | with_reducible refine wp_ret ?_
  | with_reducible refine af_nx ?_
  | with_reducible refine bk_rt ?_
  | (with_reducible refine' wp_ixL ?z1 ?z2 ?z3; (case z1 => fail "zg"); (case z2 => fail "za"))
  | (with_reducible refine' wp_ixT ?z1 ?z2; (case z1 => fail "za")))
local macro_rules | `(tactic| fail "y2") => `(tactic| first
  | with_reducible refine af_rt ?_
  | with_reducible refine af_bk ?_
  | with_reducible refine bk_nx ?_
  | with_reducible refine turned_nx ?_
  | with_reducible refine turned_bk ?_
  | with_reducible refine turned_rt ?_
  | with_reducible refine wp_and ?_
  | with_reducible refine wp_or ?_)
local macro_rules | `(tactic| fail "y3") => `(tactic| first
  | with_reducible refine wp_not ?_
  | with_reducible refine wp_sub ?_
  | with_reducible refine wp_subA ?_
  | with_reducible refine wp_chain ?_
  | with_reducible refine wp_neAI ?_
  | with_reducible refine wp_neAS ?_
  | with_reducible refine wp_dic0 ?_
  | with_reducible refine wp_drop ?_)
local macro_rules | `(tactic| fail "y4") => `(tactic| first
  | with_reducible refine wp_vK ?_
  | with_reducible refine wp_nox ?_
  | with_reducible refine wp_break ?_
  | with_reducible refine wp_retN ?_
  | with_reducible refine wp_sfld ?_
  | with_reducible refine wp_yes ?_
  | with_reducible refine wp_addI ?_
  | with_reducible refine wp_subI ?_)
local macro_rules | `(tactic| fail "y5") => `(tactic| first
  | with_reducible refine wp_neg ?_
  | with_reducible refine wp_eqI ?_
  | with_reducible refine wp_neI ?_
  | with_reducible refine wp_ltI ?_
  | with_reducible refine wp_leI ?_
  | with_reducible refine wp_gtI ?_
  | with_reducible refine wp_geI ?_
  | with_reducible refine wp_eqS ?_)
local macro_rules | `(tactic| fail "y6") => `(tactic| first
  | with_reducible refine wp_neS ?_
  | with_reducible refine wp_eqB ?_
  | with_reducible refine wp_isN ?_
  | with_reducible refine wp_isNotN ?_
  | with_reducible refine wp_int ?_
  | with_reducible refine wp_max2 ?_
  | with_reducible refine wp_min2 ?_
  | with_reducible refine wp_tr_bl ?_)
local macro_rules | `(tactic| fail "y7") => `(tactic| first
  | with_reducible refine wp_tr_int ?_
  | with_reducible refine wp_tupT ?_
  | with_reducible refine wp_slT ?_
  | with_reducible refine wp_nopart ?_
  | with_reducible refine wp_lst ?_
  | with_reducible refine wp_tup ?_
  | with_reducible refine wp_slice ?_
  | with_reducible refine wp_callK ?_)
local macro_rules | `(tactic| fail "y8") => `(tactic| first
  | with_reducible refine wp_make ?_
  | with_reducible refine wp_meth ?_
  | with_reducible refine wp_is ?_
  | with_reducible refine wp_vand ?_
  | with_reducible refine wp_vor ?_
  | with_reducible refine wp_vnot ?_
  | with_reducible refine wp_asg ?_
  | with_reducible refine wp_part ?_)
local macro_rules | `(tactic| fail "y9") => `(tactic| first
  | with_reducible refine wp_forR1 ?_
  | with_reducible refine wp_forR2 ?_
  | with_reducible refine wp_compR1 ?_
  | with_reducible refine wp_compR2 ?_
  | (with_reducible refine' wp_ixAL ?z1 ?z2 ?z3; (case z1 => fail "zg"); (case z2 => fail "za"))
  | (with_reducible refine' wp_ixAT ?z1 ?z2; (case z1 => fail "za"))
  | (with_reducible refine' and_isL ?z1 ?z2; (case z1 => fail "zg"))
  | (with_reducible refine' wp_append ?z1 ?z2 ?z3; (case z1 => fail "zg"); (case z2 => first | omega | (simp only [List.length_map, List.length_append, List.length_cons, List.length_nil]; omega))))
local macro_rules | `(tactic| fail "y10") => `(tactic| first
  | (with_reducible refine' wp_lenL ?z1 ?z2; (case z1 => fail "zg"))
  | with_reducible refine wp_lenT ?_
  | (with_reducible refine' wp_lenAL ?z1 ?z2; (case z1 => fail "zg"))
  | with_reducible refine wp_lenAT ?_
  | (with_reducible refine' wp_listL ?z1 ?z2; (case z1 => fail "zg"))
  | with_reducible refine wp_listT ?_
  | with_reducible refine ex_bl ?_
  | (with_reducible refine' ex_ty ?z1 ?z2 ?z3; (case z1 => with_unfolding_all exact rfl); (case z2 => with_unfolding_all exact rfl)))
local macro_rules | `(tactic| fail "y11") => `(tactic| first
  | (with_reducible refine' wp_mulT ?z1 ?z2 ?z3; (case z1 => omega); (case z2 => omega))
  | (with_reducible refine' wp_setF ?z1 ?z2 ?z3; (case z1 => fail "zg"); (case z2 => with_unfolding_all exact Nat.le_of_ble_eq_true rfl))
  | (with_reducible refine' wp_setInt ?z1 ?z2 ?z3 ?z4; (case z1 => fail "zg"); (case z2 => first | assumption | omega); (case z3 => first | assumption | omega | (simp only [List.length_set]; omega)))
  | (with_reducible refine' wp_setIx ?z1 ?z2 ?z3; (case z1 => fail "zg"); (case z2 => first | (with_reducible apply ixN_of; (first | assumption | omega); (first | assumption | omega | (rw [List.length_map]; omega))) | with_unfolding_all exact rfl | assumption))
  | (with_reducible refine' wp_setAI ?z1 ?z2 ?z3 ?z4; (case z1 => fail "zg"); (case z2 => first | assumption | omega); (case z3 => first | assumption | omega | (simp only [List.length_set]; omega)))
  | (with_reducible refine' wp_setAX ?z1 ?z2 ?z3; (case z1 => fail "zg"); (case z2 => first | (with_reducible apply ixN_of; (first | assumption | omega); (first | assumption | omega | (rw [List.length_map]; omega))) | with_unfolding_all exact rfl | assumption))
  | (with_reducible refine' wp_modI ?z1 ?z2; (case z1 => omega))
  | (with_reducible refine' wp_divA0 ?z1 ?z2 ?z3; (case z1 => omega); (case z2 => omega)))
local macro_rules | `(tactic| fail "y12") => `(tactic| first
  | (with_reducible refine' wp_mulA ?z1 ?z2; (case z1 => omega))
  | (with_reducible refine' wp_divI ?z1 ?z2 ?z3; (case z1 => omega); (case z2 => omega))
  | (with_reducible refine' wp_mulI ?z1 ?z2; (case z1 => omega))
  | (with_reducible refine' wp_powI ?z1 ?z2; (case z1 => with_unfolding_all decide))
  | (with_reducible refine' wp_fld ?z1 ?z2 ?z3; (case z1 => fail "zg"); (case z2 => first | with_unfolding_all exact rfl | assumption))
  | (with_reducible refine' wp_prop ?z1 ?z2; (case z1 => fail "zg"))
  | (with_reducible refine' wp_tupL ?z1 ?z2; (case z1 => fail "zg"))
  | (with_reducible refine' And.intro ?z1 ?z2; (case z1 => first | with_unfolding_all exact Nat.le_of_ble_eq_true rfl | with_unfolding_all decide)))
local macro_rules | `(tactic| fail "z0") => `(tactic| first | fail "y0" | fail "y1" | fail "y2" | fail "y3" | fail "y4" | fail "y5" | fail "y6" | fail "y7" | fail "y8" | fail "y9" | fail "y10" | fail "y11" | fail "y12")
local macro_rules | `(tactic| fail "z1") => `(tactic| first | with_reducible refine wp_seq ?_ | fail "z0")
local macro_rules | `(tactic| walk_at "z") => `(tactic| (repeat fail "z1"))
local macro_rules | `(tactic| fail "zb") => `(tactic| (with_reducible refine And.intro ?_ ?_; (all_goals (intro hb; first | (simp at hb; done) | (simp at hb; skip) | skip))))
local macro_rules | `(tactic| walk_at "zz") => `(tactic| (repeat' (first | fail "z1" | fail "zb")))
local macro_rules | `(tactic| walk_at "zy") => `(tactic| (repeat' (first | fail "z0" | fail "zb")))
local macro_rules | `(tactic| walk_at "zn") => `(tactic| (with_reducible refine wp_seq ?_; walk_at "zy"))
local macro_rules | `(tactic| walk_at "zs") => `(tactic| fail "zs")
local macro_rules | `(tactic| walk_at "zg") => `(tactic| fail "zg")
local macro_rules | `(tactic| walk_at "za") => `(tactic| fail "za")
local macro_rules | `(tactic| walk_at "z0") => `(tactic| fail "z0")
local macro_rules | `(tactic| walk_at "z1") => `(tactic| fail "z1")
local macro_rules | `(tactic| walk_at "zb") => `(tactic| fail "zb")
namespace K02
open PySem PySem.Spec PyProof.Rows L2 Z
local macro_rules | `(tactic| fail "zb") => `(tactic| (with_reducible refine And.intro ?_ ?_; (all_goals (intro hb; first | (exact absurd hb (by decide)) | (simp at hb; done) | (simp only [decide_eq_true_eq, decide_eq_false_iff_not, Bool.not_eq_true', Bool.not_eq_false'] at hb; skip) | skip))))
/-! the written text, by the program -/
section
variable {x l r : Xp} {s st : S} {Q : D → S → Prop} {QB : Bool → S → Prop}
theorem wp_addS' {x y : Str} (h : x.length + y.length ≤ 16000000) (q : Q (.str (x ++ y)) s) : Wp (bAdd (.str x) (.str y) s) Q := by
  unfold bAdd
  dsimp only
  rw [if_pos h]
  exact q
theorem log_ok {n : Int} (h0 : 0 ≤ n) (h1 : n ≤ big) : n.natAbs.log2 < 1920 := by
  have hb : big = 1000000000000 := rfl
  by_cases e : n.natAbs = 0
  · rw [e]
    decide
  · rw [Nat.log2_lt e]
    exact Nat.lt_of_lt_of_le (show n.natAbs < 2 ^ 41 by omega) (Nat.pow_le_pow_right (by decide) (by decide))
theorem wp_str {n : Int} (h0 : 0 ≤ n) (h1 : n ≤ big) (q : Q (.str (mkS (TL.numL n.toNat))) s) : Wp (fStr [.int n] s) Q := by
  unfold fStr
  dsimp only
  rw [if_pos (log_ok h0 h1)]
  obtain ⟨m, rfl⟩ := Int.eq_ofNat_of_zero_le h0
  have e : mkS (TL.numL m) = Str.ofString (toString ((m : Nat) : Int)) := mk_num m
  rw [Int.toNat_natCast, e] at q
  exact q
theorem wp_getC {es : Ev} {c : Nat} {ks : List (Str × Int)} {mb md : M D} {k : Int} {w : Str} (h : Wp (mb es st) fun y s => y = .str w ∧ Wp (md es s) fun z s => z = .int k ∧ Q (.int ((ks.lookup w).getD k)) s) : Wp (cGetC c ks mb md es st) Q := by
  unfold cGetC
  refine wp_bind (h.mono fun y s q => ?_)
  obtain ⟨rfl, q⟩ := q
  refine wp_bind (q.mono fun z s q => ?_)
  obtain ⟨rfl, q⟩ := q
  dsimp only
  cases e : ks.lookup w with
  | none =>
    rw [e] at q
    exact q
  | some i =>
    rw [e] at q
    exact q
theorem lev_get {z : Str} (h : z ∈ OPS) : (T_LEVELS.lookup z).getD 1 = (olev z : Nat) := by
  unfold OPS at h
  simp only [List.mem_cons, List.not_mem_nil, or_false] at h
  rcases h with rfl | rfl | rfl | rfl | rfl | rfl | rfl | rfl | rfl | rfl | rfl <;> decide
theorem bind_wp (h : x.wok) (q : Q (.int (lev x : Nat)) st) : Wp (F_binding_level [x.d] st) Q := by
  unfold F_binding_level b_binding_level
  cases x with
  | op z l r =>
    have e := lev_get h.1
    unfold Xp.d
    refine wp_fn rfl ?_
    walk_at "zz"
    refine wp_getC (k := 1) (w := z) ?_
    walk_at "zz"
    refine ⟨rfl, ?_⟩
    walk_at "zz"
    refine ⟨rfl, ?_⟩
    rw [e]
    exact q
  | _ =>
    unfold Xp.d
    refine wp_fn rfl ?_
    walk_at "zz"
    exact q
theorem wp_join {a : Str} {mb : M D} {es : Ev} {ys : List Str} (h : Wp (mb es st) fun d s => ∃ l, d = .loc l ∧ getL s l = some (ys.map D.str) ∧ (ys.map (·.length)).sum + ys.length * a.length ≤ 16777216 ∧ Q (.str (Txt.join a ys)) s) : Wp (cStr1 (cC (.str a)) mb fJoin es st) Q := by
  unfold cStr1
  refine wp_bind (wp_c ?_)
  dsimp only
  refine wp_bind (h.mono fun d s q => ?_)
  obtain ⟨l, rfl, e, hl, q⟩ := q
  unfold fJoin seqOf
  dsimp only
  rw [e]
  dsimp only
  rw [strsD_map]
  dsimp only
  rw [if_pos hl]
  exact q
def wt (x : Xp) : D := .str (mkS (wr x))
theorem parts_wp {R : List D → S → R D} {i : Nat} {es : Ev} {m : M D} (ps : List Xp) (hR : ∀ p ∈ ps, ∀ s, Wp (R [p.d] s) fun d t => d = wt p ∧ Gr s t) (hl : ps.length ≤ 3) (hi : i < es.length) (hm : Wp (m es st) fun d s => d = .tup (ps.map Xp.d) ∧ s = st) (q : ∀ s, Gr st s → s[st.length]? = some (.lst ((ps.map fun p => mkS (wr p)).map D.str)) → Q (.loc st.length) s) : Wp (cComp m (setN i) [i] cYes (cCall (cCons (cVar i) cNil) R) es st) Q := by
  refine wp_comp_tup (xs := ps.map Xp.d) (hm.mono (fun d s q2 => ?_))
  obtain ⟨rfl, rfl⟩ := q2
  refine ⟨rfl, ?_⟩
  refine wp_compV (fun k t => Gr s t ∧ t[s.length]? = some (.lst (((ps.take k).map fun p => mkS (wr p)).map D.str))) ⟨Gr.app, by rw [List.take_zero]; exact at_last⟩ ?_ ?_
  · rintro k d t hd ⟨g, e⟩
    rw [List.getElem?_map] at hd
    cases ep : ps[k]? with
    | none => rw [ep] at hd; cases hd
    | some p =>
      rw [ep] at hd
      cases hd
      have hk := (List.getElem?_eq_some_iff.mp ep).1
      have hz : (wipeD es [i]).length = es.length := by simp [wipeD]
      refine ⟨(wipeD es [i]).set i (some p.d), ?_, ?_⟩
      · unfold setN
        first
          | rfl
          | (rw [if_pos (by omega)])
      · refine wp_compTurn (wp_yes ⟨fun _ => ?_, fun h => nomatch h⟩)
        refine wp_call ?_
        refine wp_cons ?_
        refine wp_var (d := p.d) (List.getElem?_set_self (by omega)) ?_
        refine wp_nil ?_
        refine (hR p (List.mem_of_getElem? ep) t).mono ?_
        rintro d t2 ⟨rfl, g2⟩
        have e2 := g2.keep e
        refine wp_addIt (getW_of e2) (by simp; omega) ?_
        refine ⟨(g.trans g2).setNew (Nat.le_refl _), ?_⟩
        have e3 : ps.take (k + 1) = ps.take k ++ [p] := by rw [List.take_succ, ep]; rfl
        rw [e3, List.map_append, List.map_append]
        exact at_set e2
  · rintro t ⟨g, e⟩
    rw [List.length_map, List.take_length] at e
    exact q t g e
end
end K02
end
section
set_option Elab.async false
set_option linter.all false
set_option maxRecDepth 100000
set_option maxHeartbeats 4000000
open PySem PySem.Spec PyProof.Rows L2 Z
local macro_rules | `(tactic| fail "zs") => `(tactic| first
  | assumption
  | with_reducible exact at_last
  | (with_reducible apply at_set; fail "zs")
  | (with_reducible apply at_app; fail "zs")
  | (with_reducible apply at_setne; (first | assumption | (apply Ne.symm; assumption) | omega); fail "zs")
  | (with_reducible refine Gr.keep (by assumption) ?_; fail "zs")
  | (with_reducible refine Gx.keep (by assumption) ?_ ?_; (first | assumption | (apply Ne.symm; assumption) | omega); fail "zs"))
local macro_rules | `(tactic| fail "zg") => `(tactic| first
  | assumption
  | (with_reducible apply getL_of; fail "zs")
  | (with_reducible apply getW_of; fail "zs")
  | (with_reducible apply getI_of; fail "zs"))
local macro_rules | `(tactic| fail "za") => `(tactic| first | (with_reducible apply atI_int; (first | assumption | omega); (first | assumption | omega | (simp only [List.length_set]; omega))) | with_unfolding_all exact rfl | assumption)
local macro_rules | `(tactic| fail "y0") => `(tactic| first
  | (with_reducible refine' wp_var ?z1 ?z2; (case z1 => with_unfolding_all exact rfl))
  | with_reducible refine wp_c2 ?_
  | with_reducible refine wp_cons ?_
  | with_reducible refine wp_c ?_
  | with_reducible refine wp_nil ?_
  | with_reducible refine wp_call ?_
  | with_reducible refine wp_c1 ?_)
local macro_rules | `(tactic| fail "y1") => `(tactic| first
  | with_reducible refine wp_set ?_
  | with_reducible refine wp_if ?_
  | with_reducible refine wp_next ?_
  | with_reducible refine wp_ret ?_
  | with_reducible refine af_nx ?_
  | with_reducible refine bk_rt ?_
  | (with_reducible refine' wp_ixL ?z1 ?z2 ?z3; (case z1 => fail "zg"); (case z2 => fail "za"))
  | (with_reducible refine' wp_ixT ?z1 ?z2; (case z1 => fail "za")))
local macro_rules | `(tactic| fail "y2") => `(tactic| first
  | with_reducible refine af_rt ?_
  | with_reducible refine af_bk ?_
  | with_reducible refine bk_nx ?_
  | with_reducible refine turned_nx ?_
  | with_reducible refine turned_bk ?_
  | with_reducible refine turned_rt ?_
  | with_reducible refine wp_and ?_
  | with_reducible refine wp_or ?_)
local macro_rules | `(tactic| fail "y3") => `(tactic| first
  | with_reducible refine wp_not ?_
  | with_reducible refine wp_sub ?_
  | with_reducible refine wp_subA ?_
  | with_reducible refine wp_chain ?_
  | with_reducible refine wp_neAI ?_
  | with_reducible refine wp_neAS ?_
  | with_reducible refine wp_dic0 ?_
  | with_reducible refine wp_drop ?_)
local macro_rules | `(tactic| fail "y4") => `(tactic| first
  | with_reducible refine wp_vK ?_
  | with_reducible refine wp_nox ?_
  | with_reducible refine wp_break ?_
  | with_reducible refine wp_retN ?_
  | with_reducible refine wp_sfld ?_
  | with_reducible refine wp_yes ?_
  | with_reducible refine wp_addI ?_
  | with_reducible refine wp_subI ?_)
local macro_rules | `(tactic| fail "y5") => `(tactic| first
  | with_reducible refine wp_neg ?_
  | with_reducible refine wp_eqI ?_
  | with_reducible refine wp_neI ?_
  | with_reducible refine wp_ltI ?_
  | with_reducible refine wp_leI ?_
  | with_reducible refine wp_gtI ?_
  | with_reducible refine wp_geI ?_
  | with_reducible refine wp_eqS ?_)
local macro_rules | `(tactic| fail "y6") => `(tactic| first
  | with_reducible refine wp_neS ?_
  | with_reducible refine wp_eqB ?_
  | with_reducible refine wp_isN ?_
  | with_reducible refine wp_isNotN ?_
  | with_reducible refine wp_int ?_
  | with_reducible refine wp_max2 ?_
  | with_reducible refine wp_min2 ?_
  | with_reducible refine wp_tr_bl ?_)
local macro_rules | `(tactic| fail "y7") => `(tactic| first
  | with_reducible refine wp_tr_int ?_
  | with_reducible refine wp_tupT ?_
  | with_reducible refine wp_slT ?_
  | with_reducible refine wp_nopart ?_
  | with_reducible refine wp_lst ?_
  | with_reducible refine wp_tup ?_
  | with_reducible refine wp_slice ?_
  | with_reducible refine wp_callK ?_)
local macro_rules | `(tactic| fail "y8") => `(tactic| first
  | with_reducible refine wp_make ?_
  | with_reducible refine wp_meth ?_
  | with_reducible refine wp_is ?_
  | with_reducible refine wp_vand ?_
  | with_reducible refine wp_vor ?_
  | with_reducible refine wp_vnot ?_
  | with_reducible refine wp_asg ?_
  | with_reducible refine wp_part ?_)
local macro_rules | `(tactic| fail "y9") => `(tactic| first
  | with_reducible refine wp_forR1 ?_
  | with_reducible refine wp_forR2 ?_
  | with_reducible refine wp_compR1 ?_
  | with_reducible refine wp_compR2 ?_
  | (with_reducible refine' wp_ixAL ?z1 ?z2 ?z3; (case z1 => fail "zg"); (case z2 => fail "za"))
  | (with_reducible refine' wp_ixAT ?z1 ?z2; (case z1 => fail "za"))
  | (with_reducible refine' and_isL ?z1 ?z2; (case z1 => fail "zg"))
  | (with_reducible refine' wp_append ?z1 ?z2 ?z3; (case z1 => fail "zg"); (case z2 => first | omega | (simp only [List.length_map, List.length_append, List.length_cons, List.length_nil]; omega))))
local macro_rules | `(tactic| fail "y10") => `(tactic| first
  | (with_reducible refine' wp_lenL ?z1 ?z2; (case z1 => fail "zg"))
  | with_reducible refine wp_lenT ?_
  | (with_reducible refine' wp_lenAL ?z1 ?z2; (case z1 => fail "zg"))
  | with_reducible refine wp_lenAT ?_
  | (with_reducible refine' wp_listL ?z1 ?z2; (case z1 => fail "zg"))
  | with_reducible refine wp_listT ?_
  | with_reducible refine ex_bl ?_
  | (with_reducible refine' ex_ty ?z1 ?z2 ?z3; (case z1 => with_unfolding_all exact rfl); (case z2 => with_unfolding_all exact rfl)))
local macro_rules | `(tactic| fail "y11") => `(tactic| first
  | (with_reducible refine' wp_mulT ?z1 ?z2 ?z3; (case z1 => omega); (case z2 => omega))
  | (with_reducible refine' wp_setF ?z1 ?z2 ?z3; (case z1 => fail "zg"); (case z2 => with_unfolding_all exact Nat.le_of_ble_eq_true rfl))
  | (with_reducible refine' wp_setInt ?z1 ?z2 ?z3 ?z4; (case z1 => fail "zg"); (case z2 => first | assumption | omega); (case z3 => first | assumption | omega | (simp only [List.length_set]; omega)))
  | (with_reducible refine' wp_setIx ?z1 ?z2 ?z3; (case z1 => fail "zg"); (case z2 => first | (with_reducible apply ixN_of; (first | assumption | omega); (first | assumption | omega | (rw [List.length_map]; omega))) | with_unfolding_all exact rfl | assumption))
  | (with_reducible refine' wp_setAI ?z1 ?z2 ?z3 ?z4; (case z1 => fail "zg"); (case z2 => first | assumption | omega); (case z3 => first | assumption | omega | (simp only [List.length_set]; omega)))
  | (with_reducible refine' wp_setAX ?z1 ?z2 ?z3; (case z1 => fail "zg"); (case z2 => first | (with_reducible apply ixN_of; (first | assumption | omega); (first | assumption | omega | (rw [List.length_map]; omega))) | with_unfolding_all exact rfl | assumption))
  | (with_reducible refine' wp_modI ?z1 ?z2; (case z1 => omega))
  | (with_reducible refine' wp_divA0 ?z1 ?z2 ?z3; (case z1 => omega); (case z2 => omega)))
local macro_rules | `(tactic| fail "y12") => `(tactic| first
  | (with_reducible refine' wp_mulA ?z1 ?z2; (case z1 => omega))
  | (with_reducible refine' wp_divI ?z1 ?z2 ?z3; (case z1 => omega); (case z2 => omega))
  | (with_reducible refine' wp_mulI ?z1 ?z2; (case z1 => omega))
  | (with_reducible refine' wp_powI ?z1 ?z2; (case z1 => with_unfolding_all decide))
  | (with_reducible refine' wp_fld ?z1 ?z2 ?z3; (case z1 => fail "zg"); (case z2 => first | with_unfolding_all exact rfl | assumption))
  | (with_reducible refine' wp_prop ?z1 ?z2; (case z1 => fail "zg"))
  | (with_reducible refine' wp_tupL ?z1 ?z2; (case z1 => fail "zg"))
  | (with_reducible refine' And.intro ?z1 ?z2; (case z1 => first | with_unfolding_all exact Nat.le_of_ble_eq_true rfl | with_unfolding_all decide)))
local macro_rules | `(tactic| fail "z0") => `(tactic| first | fail "y0" | fail "y1" | fail "y2" | fail "y3" | fail "y4" | fail "y5" | fail "y6" | fail "y7" | fail "y8" | fail "y9" | fail "y10" | fail "y11" | fail "y12")
local macro_rules | `(tactic| fail "z1") => `(tactic| first | with_reducible refine wp_seq ?_ | fail "z0")
local macro_rules | `(tactic| walk_at "z") => `(tactic| (repeat fail "z1"))
local macro_rules | `(tactic| fail "zb") => `(tactic| (with_reducible refine And.intro ?_ ?_; (all_goals (intro hb; first | (simp at hb; done) | (simp at hb; skip) | skip))))
local macro_rules | `(tactic| walk_at "zz") => `(tactic| (repeat' (first | fail "z1" | fail "zb")))
local macro_rules | `(tactic| walk_at "zy") => `(tactic| (repeat' (first | fail "z0" | fail "zb")))
local macro_rules | `(tactic| walk_at "zn") => `(tactic| (with_reducible refine wp_seq ?_; walk_at "zy"))
local macro_rules | `(tactic| walk_at "zs") => `(tactic| fail "zs")
local macro_rules | `(tactic| walk_at "zg") => `(tactic| fail "zg")
local macro_rules | `(tactic| walk_at "za") => `(tactic| fail "za")
local macro_rules | `(tactic| walk_at "z0") => `(tactic| fail "z0")
local macro_rules | `(tactic| walk_at "z1") => `(tactic| fail "z1")
local macro_rules | `(tactic| walk_at "zb") => `(tactic| fail "zb")
namespace K02
open PySem PySem.Spec PyProof.Rows L2 Z
local macro_rules | `(tactic| fail "zb") => `(tactic| (with_reducible refine And.intro ?_ ?_; (all_goals (intro hb; first | (exact absurd hb (by decide)) | (simp at hb; done) | (simp only [decide_eq_true_eq, decide_eq_false_iff_not, Bool.not_eq_true', Bool.not_eq_false'] at hb; skip) | skip))))
/-! write_expression -/
def WrR (R : List D → S → R D) (x : Xp) : Prop := ∀ s, Wp (R [x.d] s) fun d t => d = wt x ∧ Gr s t
theorem t40 : tl "(" = [40] := by decide
theorem t41 : tl ")" = [41] := by decide
theorem t91 : tl "[" = [91] := by decide
theorem t93 : tl "]" = [93] := by decide
theorem t32 : tl " " = [32] := by decide
theorem t44 : tl ", " = [44, 32] := by decide
theorem tlen {x : Str} : x.length = (tl x).length := TL.len_tl x
theorem tl_app {x y : Str} : tl (x ++ y) = tl x ++ tl y := TL.tl_append x y
theorem tl_join {y : Str} {parts : List Str} : tl (Txt.join y parts) = TL.joinL (tl y) (parts.map tl) := by
  rw [TL.join_eq]
  exact TL.tl_join _ _
theorem ext_t {x y : Str} (h : tl x = tl y) : x = y := TL.ext_tl h
theorem len_app {x y : Str} : (x ++ y).length = x.length + y.length := Str.length_append x y
section
variable {x l r : Xp} {s st : S} {Q : D → S → Prop} {n k : Nat}
theorem opd_wp (h : x.wok) (hd : x.dep ≤ 12) (hR : WrR (R_write_expression n) x) (q : ∀ t, Gr s t → Q (.str (mkS (parL (decide (lev x < k)) (wr x)))) t) : Wp (R_operand_text (n + 1) [x.d, .int (k : Nat)] s) Q := by
  have hl := wr12 h hd
  unfold R_operand_text b_operand_text
  refine wp_fn rfl ?_
  walk_at "zn"
  refine (hR s).mono ?_
  rintro d t ⟨rfl, g⟩
  unfold wt
  walk_at "zz"
  refine bind_wp h ?_
  walk_at "zz"
  · refine wp_addS' (by show 1 + _ ≤ _; omega) ?_
    walk_at "zz"
    refine wp_addS' (by rw [len_app]; show 1 + _ + 1 ≤ _; omega) ?_
    have e : decide (lev x < k) = true := decide_eq_true (by omega)
    rw [e] at q
    have e2 : (Str.ofString "(" ++ mkS (wr x) ++ Str.ofString ")") = mkS (parL true (wr x)) := ext_t (by rw [tl_mk, tl_app, tl_app, tl_mk]; rfl)
    walk_at "zz"
    rw [e2]
    exact q t g
  · have e : decide (lev x < k) = false := decide_eq_false (by omega)
    rw [e] at q
    exact q t g
/-- a call's text -/
theorem call_wp {R : List D → S → R D} {i : Nat} {w : Str} {ps : List Xp} {es : Ev} {m2 : M D} (hR : ∀ p ∈ ps, WrR R p) (hp : ps.length ≤ 3) (hi : i < es.length) (hl : ∀ p ∈ ps, (mkS (wr p)).length ≤ 4074371) (hm2 : Wp (m2 es st) fun d s => d = .tup (ps.map Xp.d) ∧ s = st) (hz : (w ++ Str.ofString "(" ++ Txt.join (Str.ofString ", ") (ps.map fun p => mkS (wr p)) ++ Str.ofString ")").length ≤ 16000000) (q : ∀ t, Gr st t → Q (.str (w ++ Str.ofString "(" ++ Txt.join (Str.ofString ", ") (ps.map fun p => mkS (wr p)) ++ Str.ofString ")")) t) : Wp (bAdd (.str w) (.str "(") st) fun x1 s1 => Wp (cStr1 (cC (.str ", ")) (cComp m2 (setN i) [i] cYes (cCall (cCons (cVar i) cNil) R)) fJoin es s1) fun y1 s2 => Wp (bAdd x1 y1 s2) fun x2 s3 => Wp (cC (.str ")") es s3) fun y2 s4 => Wp (bAdd x2 y2 s4) Q := by
  rw [len_app, len_app, len_app] at hz
  refine wp_addS' (by omega) ?_
  refine wp_join (ys := ps.map fun p => mkS (wr p)) ?_
  refine parts_wp ps hR hp hi hm2 ?_
  intro t g e
  refine ⟨_, rfl, getL_of e, ?_, ?_⟩
  · have : ((ps.map fun p => mkS (wr p)).map (·.length)).sum + (ps.map fun p => mkS (wr p)).length * (Str.ofString ", ").length ≤ 16777216 := by
      have b : ∀ qs : List Xp, (∀ p ∈ qs, (mkS (wr p)).length ≤ 4074371) → ((qs.map fun p => mkS (wr p)).map (·.length)).sum ≤ qs.length * 4074371 := by
        intro qs
        induction qs with
        | nil => intro _; exact Nat.le_refl _
        | cons p qs ih =>
          intro h
          have h1 := h p (List.mem_cons_self ..)
          have h2 := ih fun y hy => h y (List.mem_cons_of_mem _ hy)
          simp only [List.map_cons, List.sum_cons, List.length_cons]
          omega
      have b := b ps hl
      have e2 : (Str.ofString ", ").length = 2 := by decide
      rw [e2, List.length_map]
      have : ps.length * 4074371 ≤ 3 * 4074371 := Nat.mul_le_mul_right _ hp
      omega
    exact this
  refine wp_addS' (by rw [len_app]; omega) ?_
  refine wp_c (wp_addS' (by rw [len_app, len_app]; omega) ?_)
  exact q t g
theorem call_txt {w : Str} {ps : List Xp} {l : List Nat} (e : tl w ++ 40 :: (TL.joinL [44, 32] (ps.map wr) ++ [41]) = l) : w ++ Str.ofString "(" ++ Txt.join (Str.ofString ", ") (ps.map fun p => mkS (wr p)) ++ Str.ofString ")" = mkS l := by
  refine ext_t ?_
  have a : (ps.map fun p => mkS (wr p)).map tl = ps.map wr := by
    rw [List.map_map]
    exact List.map_congr_left fun p _ => tl_mk _
  rw [tl_mk, ← e, tl_app, tl_app, tl_app, tl_join, a, t40, t41, t44, List.append_assoc, List.append_assoc]
  rfl
def Wok (n : Nat) : Prop := ∀ x : Xp, x.wok → x.dep ≤ 12 → 2 * x.dep ≤ n → WrR (R_write_expression n) x
theorem write_step (n : Nat) (ih0 : Wok n) (ih1 : Wok (n + 1)) : Wok (n + 2) := by
  intro x h hd hn s
  have g0 : Gr s s := Gr.refl
  have hl := wr12 h hd
  rw [len_mk] at hl
  show Wp (fnD 6 1 (b_write_expression (R_write_expression (n + 1)) (R_operand_text (n + 1))) [x.d] s) _
  unfold b_write_expression
  cases x with
  | num k =>
    unfold Xp.d
    refine wp_fn rfl ?_
    walk_at "zz"
    refine wp_str h.1 h.2 ?_
    walk_at "zz"
    exact ⟨rfl, g0⟩
  | nm w =>
    unfold Xp.d
    refine wp_fn rfl ?_
    walk_at "zz"
    refine ⟨?_, g0⟩
    show D.str w = D.str (mkS (tl w))
    rw [mk_tl]
  | rd a x =>
    have hd' : x.dep + 1 ≤ 12 := hd
    have hn' : 2 * (x.dep + 1) ≤ n + 2 := hn
    have e : (wr (.rd a x)).length = (tl a).length + (wr x).length + 2 := by simp [wr]; omega
    unfold Xp.d
    refine wp_fn rfl ?_
    walk_at "zz"
    refine wp_addS' (by rw [tlen, tlen (x := "["), t91]; show _ + 1 ≤ _; omega) ?_
    walk_at "zz"
    refine (ih1 x h.2 (by omega) (by omega) s).mono ?_
    rintro d t ⟨rfl, g⟩
    unfold wt
    walk_at "zz"
    refine wp_addS' (by rw [len_app, tlen, tlen (x := "["), t91, len_mk]; show _ + 1 + _ ≤ _; omega) ?_
    walk_at "zz"
    refine wp_addS' (by rw [len_app, len_app, tlen, tlen (x := "["), tlen (x := "]"), t91, t93, len_mk]; show _ + 1 + _ + 1 ≤ _; omega) ?_
    walk_at "zz"
    refine ⟨?_, g⟩
    congr 1
    refine ext_t ?_
    rw [tl_app, tl_app, tl_app, tl_mk, tl_mk, t91, t93, List.append_assoc, List.append_assoc]
    rfl
  | mn x y =>
    have hd' : max x.dep y.dep + 1 ≤ 12 := hd
    have hn' : 2 * (max x.dep y.dep + 1) ≤ n + 2 := hn
    have et := call_txt (w := Str.ofString "min") (ps := [x, y]) (l := wr (.mn x y)) (by simp [wr, TL.joinL])
    unfold Xp.d
    refine wp_fn rfl ?_
    walk_at "zn"
    walk_at "zn"
    walk_at "zn"
    walk_at "zn"
    walk_at "zn"
    refine call_wp (ps := [x, y]) ?_ (by simp) (by simp) ?_ (by walk_at "zy"; exact ⟨rfl, rfl⟩) (by rw [et, len_mk]; omega) ?_
    · intro p hp
      simp only [List.mem_cons, List.not_mem_nil, or_false] at hp
      rcases hp with rfl | rfl
      · exact ih1 _ h.1 (by omega) (by omega)
      · exact ih1 _ h.2 (by omega) (by omega)
    · intro p hp
      simp only [List.mem_cons, List.not_mem_nil, or_false] at hp
      rcases hp with rfl | rfl
      · exact wr12 h.1 (by omega)
      · exact wr12 h.2 (by omega)
    intro t g
    rw [et]
    exact ⟨rfl, g⟩
  | mx x y =>
    have hd' : max x.dep y.dep + 1 ≤ 12 := hd
    have hn' : 2 * (max x.dep y.dep + 1) ≤ n + 2 := hn
    have et := call_txt (w := Str.ofString "max") (ps := [x, y]) (l := wr (.mx x y)) (by simp [wr, TL.joinL])
    unfold Xp.d
    refine wp_fn rfl ?_
    walk_at "zn"
    walk_at "zn"
    walk_at "zn"
    walk_at "zn"
    walk_at "zn"
    refine call_wp (ps := [x, y]) ?_ (by simp) (by simp) ?_ (by walk_at "zy"; exact ⟨rfl, rfl⟩) (by rw [et, len_mk]; omega) ?_
    · intro p hp
      simp only [List.mem_cons, List.not_mem_nil, or_false] at hp
      rcases hp with rfl | rfl
      · exact ih1 _ h.1 (by omega) (by omega)
      · exact ih1 _ h.2 (by omega) (by omega)
    · intro p hp
      simp only [List.mem_cons, List.not_mem_nil, or_false] at hp
      rcases hp with rfl | rfl
      · exact wr12 h.1 (by omega)
      · exact wr12 h.2 (by omega)
    intro t g
    rw [et]
    exact ⟨rfl, g⟩
  | nth x =>
    have hd' : x.dep + 1 ≤ 12 := hd
    have hn' : 2 * (x.dep + 1) ≤ n + 2 := hn
    have et := call_txt (w := Str.ofString "nth") (ps := [x]) (l := wr (.nth x)) (by simp [wr, TL.joinL])
    unfold Xp.d
    refine wp_fn rfl ?_
    walk_at "zn"
    walk_at "zn"
    walk_at "zn"
    walk_at "zn"
    walk_at "zn"
    refine call_wp (ps := [x]) ?_ (by simp) (by simp) ?_ (by walk_at "zy"; exact ⟨rfl, rfl⟩) (by rw [et, len_mk]; omega) ?_
    · intro p hp
      simp only [List.mem_cons, List.not_mem_nil, or_false] at hp
      subst hp
      exact ih1 _ h (by omega) (by omega)
    · intro p hp
      simp only [List.mem_cons, List.not_mem_nil, or_false] at hp
      subst hp
      exact wr12 h (by omega)
    intro t g
    rw [et]
    exact ⟨rfl, g⟩
  | pick x y z =>
    have hd' : max x.dep (max y.dep z.dep) + 1 ≤ 12 := hd
    have hn' : 2 * (max x.dep (max y.dep z.dep) + 1) ≤ n + 2 := hn
    have et := call_txt (w := Str.ofString "pick") (ps := [x, y, z]) (l := wr (.pick x y z)) (by simp [wr, TL.joinL])
    unfold Xp.d
    refine wp_fn rfl ?_
    walk_at "zn"
    walk_at "zn"
    walk_at "zn"
    walk_at "zn"
    walk_at "zn"
    refine call_wp (ps := [x, y, z]) ?_ (by simp) (by simp) ?_ (by walk_at "zy"; exact ⟨rfl, rfl⟩) (by rw [et, len_mk]; omega) ?_
    · intro p hp
      simp only [List.mem_cons, List.not_mem_nil, or_false] at hp
      rcases hp with rfl | rfl | rfl
      · exact ih1 _ h.1 (by omega) (by omega)
      · exact ih1 _ h.2.1 (by omega) (by omega)
      · exact ih1 _ h.2.2 (by omega) (by omega)
    · intro p hp
      simp only [List.mem_cons, List.not_mem_nil, or_false] at hp
      rcases hp with rfl | rfl | rfl
      · exact wr12 h.1 (by omega)
      · exact wr12 h.2.1 (by omega)
      · exact wr12 h.2.2 (by omega)
    intro t g
    rw [et]
    exact ⟨rfl, g⟩
  | op z l r =>
    have hd' : max l.dep r.dep + 1 ≤ 12 := hd
    have hn' : 2 * (max l.dep r.dep + 1) ≤ n + 2 := hn
    have ew : wr (.op z l r) = parL (decide (lev l < max (olev z) 2)) (wr l) ++ 32 :: (tl z ++ 32 :: parL (decide (lev r < olev z + 1)) (wr r)) := rfl
    have el : (wr (.op z l r)).length = (parL (decide (lev l < max (olev z) 2)) (wr l)).length + (tl z).length + (parL (decide (lev r < olev z + 1)) (wr r)).length + 2 := by
      rw [ew]
      simp only [List.length_append, List.length_cons]
      omega
    have hb : Wp (F_binding_level [(Xp.op z l r).d] s) fun d t => d = .int (olev z : Nat) ∧ t = s := bind_wp h ⟨rfl, rfl⟩
    unfold Xp.d at hb ⊢
    refine wp_fn rfl ?_
    walk_at "zn"
    walk_at "zn"
    walk_at "zn"
    walk_at "zn"
    walk_at "zn"
    walk_at "zn"
    refine hb.mono ?_
    rintro d t ⟨rfl, rfl⟩
    walk_at "zy"
    walk_at "zn"
    rw [show (if (2 : Int) > (olev z : Int) then (2 : Int) else (olev z : Int)) = ((max (olev z) 2 : Nat) : Int) by split <;> omega]
    refine opd_wp h.2.1 (by omega) (ih0 l h.2.1 (by omega) (by omega)) ?_
    intro t2 g2
    walk_at "zz"
    rw [show (olev z : Int) + 1 = ((olev z + 1 : Nat) : Int) by omega]
    refine opd_wp h.2.2 (by omega) (ih0 r h.2.2 (by omega) (by omega)) ?_
    intro t3 g3
    walk_at "zz"
    have e32 : (Str.ofString " ").length = 1 := by decide
    have ez : z.length = (tl z).length := tlen
    refine wp_addS' (by rw [e32, len_mk]; omega) ?_
    walk_at "zz"
    refine wp_addS' (by rw [len_app, e32, len_mk, ez]; omega) ?_
    walk_at "zz"
    refine wp_addS' (by rw [len_app, len_app, e32, len_mk, ez]; omega) ?_
    walk_at "zz"
    refine wp_addS' (by rw [len_app, len_app, len_app, e32, len_mk, len_mk, ez]; omega) ?_
    walk_at "zz"
    refine ⟨?_, g2.trans g3⟩
    unfold wt
    congr 1
    refine ext_t ?_
    rw [tl_mk, ew, tl_app, tl_app, tl_app, tl_app, tl_mk, tl_mk, t32]
    simp only [List.append_assoc]
    rfl
theorem write_all : ∀ n, Wok n
  | 0 => fun x h hd hn => by
    have := dep_pos x
    omega
  | 1 => fun x h hd hn => by
    have := dep_pos x
    omega
  | n + 2 => write_step n (write_all n) (write_all (n + 1))
theorem write_wp (h : x.wok) (hd : x.dep ≤ 12) (q : ∀ t, Gr s t → Q (wt x) t) : Wp (F_write_expression [x.d] s) Q := (write_all 32 x h hd (by omega) s).mono fun d t k => by
  obtain ⟨rfl, g⟩ := k
  exact q t g
end
end K02
end
section
set_option Elab.async false
set_option linter.all false
set_option maxRecDepth 100000
set_option maxHeartbeats 4000000
open PySem PySem.Spec PyProof.Rows L2 Z
local macro_rules | `(tactic| fail "zs") => `(tactic| first
  | assumption
  | with_reducible exact at_last
  | (with_reducible apply at_set; fail "zs")
  | (with_reducible apply at_app; fail "zs")
  | (with_reducible apply at_setne; (first | assumption | (apply Ne.symm; assumption) | omega); fail "zs")
  | (with_reducible refine Gr.keep (by assumption) ?_; fail "zs")
  | (with_reducible refine Gx.keep (by assumption) ?_ ?_; (first | assumption | (apply Ne.symm; assumption) | omega); fail "zs"))
local macro_rules | `(tactic| fail "zg") => `(tactic| first
  | assumption
  | (with_reducible apply getL_of; fail "zs")
  | (with_reducible apply getW_of; fail "zs")
  | (with_reducible apply getI_of; fail "zs"))
local macro_rules | `(tactic| fail "za") => `(tactic| first | (with_reducible apply atI_int; (first | assumption | omega); (first | assumption | omega | (simp only [List.length_set]; omega))) | with_unfolding_all exact rfl | assumption)
local macro_rules | `(tactic| fail "y0") => `(tactic| first
  | (with_reducible refine' wp_var ?z1 ?z2; (case z1 => with_unfolding_all exact rfl))
  | with_reducible refine wp_c2 ?_
  | with_reducible refine wp_cons ?_
  | with_reducible refine wp_c ?_
  | with_reducible refine wp_nil ?_
  | with_reducible refine wp_call ?_
  | with_reducible refine wp_c1 ?_)
local macro_rules | `(tactic| fail "y1") => `(tactic| first
  | with_reducible refine wp_set ?_
  | with_reducible refine wp_if ?_
  | with_reducible refine wp_next ?_
  | with_reducible refine wp_ret ?_
  | with_reducible refine af_nx ?_
  | with_reducible refine bk_rt ?_
  | (with_reducible refine' wp_ixL ?z1 ?z2 ?z3; (case z1 => fail "zg"); (case z2 => fail "za"))
  | (with_reducible refine' wp_ixT ?z1 ?z2; (case z1 => fail "za")))
local macro_rules | `(tactic| fail "y2") => `(tactic| first
  | with_reducible refine af_rt ?_
  | with_reducible refine af_bk ?_
  | with_reducible refine bk_nx ?_
  | with_reducible refine turned_nx ?_
  | with_reducible refine turned_bk ?_
  | with_reducible refine turned_rt ?_
  | with_reducible refine wp_and ?_
  | with_reducible refine wp_or ?_)
local macro_rules | `(tactic| fail "y3") => `(tactic| first
  | with_reducible refine wp_not ?_
  | with_reducible refine wp_sub ?_
  | with_reducible refine wp_subA ?_
  | with_reducible refine wp_chain ?_
  | with_reducible refine wp_neAI ?_
  | with_reducible refine wp_neAS ?_
  | with_reducible refine wp_dic0 ?_
  | with_reducible refine wp_drop ?_)
local macro_rules | `(tactic| fail "y4") => `(tactic| first
  | with_reducible refine wp_vK ?_
  | with_reducible refine wp_nox ?_
  | with_reducible refine wp_break ?_
  | with_reducible refine wp_retN ?_
  | with_reducible refine wp_sfld ?_
  | with_reducible refine wp_yes ?_
  | with_reducible refine wp_addI ?_
  | with_reducible refine wp_subI ?_)
local macro_rules | `(tactic| fail "y5") => `(tactic| first
  | with_reducible refine wp_neg ?_
  | with_reducible refine wp_eqI ?_
  | with_reducible refine wp_neI ?_
  | with_reducible refine wp_ltI ?_
  | with_reducible refine wp_leI ?_
  | with_reducible refine wp_gtI ?_
  | with_reducible refine wp_geI ?_
  | with_reducible refine wp_eqS ?_)
local macro_rules | `(tactic| fail "y6") => `(tactic| first
  | with_reducible refine wp_neS ?_
  | with_reducible refine wp_eqB ?_
  | with_reducible refine wp_isN ?_
  | with_reducible refine wp_isNotN ?_
  | with_reducible refine wp_int ?_
  | with_reducible refine wp_max2 ?_
  | with_reducible refine wp_min2 ?_
  | with_reducible refine wp_tr_bl ?_)
local macro_rules | `(tactic| fail "y7") => `(tactic| first
  | with_reducible refine wp_tr_int ?_
  | with_reducible refine wp_tupT ?_
  | with_reducible refine wp_slT ?_
  | with_reducible refine wp_nopart ?_
  | with_reducible refine wp_lst ?_
  | with_reducible refine wp_tup ?_
  | with_reducible refine wp_slice ?_
  | with_reducible refine wp_callK ?_)
local macro_rules | `(tactic| fail "y8") => `(tactic| first
  | with_reducible refine wp_make ?_
  | with_reducible refine wp_meth ?_
  | with_reducible refine wp_is ?_
  | with_reducible refine wp_vand ?_
  | with_reducible refine wp_vor ?_
  | with_reducible refine wp_vnot ?_
  | with_reducible refine wp_asg ?_
  | with_reducible refine wp_part ?_)
local macro_rules | `(tactic| fail "y9") => `(tactic| first
  | with_reducible refine wp_forR1 ?_
  | with_reducible refine wp_forR2 ?_
  | with_reducible refine wp_compR1 ?_
  | with_reducible refine wp_compR2 ?_
  | (with_reducible refine' wp_ixAL ?z1 ?z2 ?z3; (case z1 => fail "zg"); (case z2 => fail "za"))
  | (with_reducible refine' wp_ixAT ?z1 ?z2; (case z1 => fail "za"))
  | (with_reducible refine' and_isL ?z1 ?z2; (case z1 => fail "zg"))
  | (with_reducible refine' wp_append ?z1 ?z2 ?z3; (case z1 => fail "zg"); (case z2 => first | omega | (simp only [List.length_map, List.length_append, List.length_cons, List.length_nil]; omega))))
local macro_rules | `(tactic| fail "y10") => `(tactic| first
  | (with_reducible refine' wp_lenL ?z1 ?z2; (case z1 => fail "zg"))
  | with_reducible refine wp_lenT ?_
  | (with_reducible refine' wp_lenAL ?z1 ?z2; (case z1 => fail "zg"))
  | with_reducible refine wp_lenAT ?_
  | (with_reducible refine' wp_listL ?z1 ?z2; (case z1 => fail "zg"))
  | with_reducible refine wp_listT ?_
  | with_reducible refine ex_bl ?_
  | (with_reducible refine' ex_ty ?z1 ?z2 ?z3; (case z1 => with_unfolding_all exact rfl); (case z2 => with_unfolding_all exact rfl)))
local macro_rules | `(tactic| fail "y11") => `(tactic| first
  | (with_reducible refine' wp_mulT ?z1 ?z2 ?z3; (case z1 => omega); (case z2 => omega))
  | (with_reducible refine' wp_setF ?z1 ?z2 ?z3; (case z1 => fail "zg"); (case z2 => with_unfolding_all exact Nat.le_of_ble_eq_true rfl))
  | (with_reducible refine' wp_setInt ?z1 ?z2 ?z3 ?z4; (case z1 => fail "zg"); (case z2 => first | assumption | omega); (case z3 => first | assumption | omega | (simp only [List.length_set]; omega)))
  | (with_reducible refine' wp_setIx ?z1 ?z2 ?z3; (case z1 => fail "zg"); (case z2 => first | (with_reducible apply ixN_of; (first | assumption | omega); (first | assumption | omega | (rw [List.length_map]; omega))) | with_unfolding_all exact rfl | assumption))
  | (with_reducible refine' wp_setAI ?z1 ?z2 ?z3 ?z4; (case z1 => fail "zg"); (case z2 => first | assumption | omega); (case z3 => first | assumption | omega | (simp only [List.length_set]; omega)))
  | (with_reducible refine' wp_setAX ?z1 ?z2 ?z3; (case z1 => fail "zg"); (case z2 => first | (with_reducible apply ixN_of; (first | assumption | omega); (first | assumption | omega | (rw [List.length_map]; omega))) | with_unfolding_all exact rfl | assumption))
  | (with_reducible refine' wp_modI ?z1 ?z2; (case z1 => omega))
  | (with_reducible refine' wp_divA0 ?z1 ?z2 ?z3; (case z1 => omega); (case z2 => omega)))
local macro_rules | `(tactic| fail "y12") => `(tactic| first
  | (with_reducible refine' wp_mulA ?z1 ?z2; (case z1 => omega))
  | (with_reducible refine' wp_divI ?z1 ?z2 ?z3; (case z1 => omega); (case z2 => omega))
  | (with_reducible refine' wp_mulI ?z1 ?z2; (case z1 => omega))
  | (with_reducible refine' wp_powI ?z1 ?z2; (case z1 => with_unfolding_all decide))
  | (with_reducible refine' wp_fld ?z1 ?z2 ?z3; (case z1 => fail "zg"); (case z2 => first | with_unfolding_all exact rfl | assumption))
  | (with_reducible refine' wp_prop ?z1 ?z2; (case z1 => fail "zg"))
  | (with_reducible refine' wp_tupL ?z1 ?z2; (case z1 => fail "zg"))
  | (with_reducible refine' And.intro ?z1 ?z2; (case z1 => first | with_unfolding_all exact Nat.le_of_ble_eq_true rfl | with_unfolding_all decide)))
local macro_rules | `(tactic| fail "z0") => `(tactic| first | fail "y0" | fail "y1" | fail "y2" | fail "y3" | fail "y4" | fail "y5" | fail "y6" | fail "y7" | fail "y8" | fail "y9" | fail "y10" | fail "y11" | fail "y12")
local macro_rules | `(tactic| fail "z1") => `(tactic| first | with_reducible refine wp_seq ?_ | fail "z0")
local macro_rules | `(tactic| walk_at "z") => `(tactic| (repeat fail "z1"))
local macro_rules | `(tactic| fail "zb") => `(tactic| (with_reducible refine And.intro ?_ ?_; (all_goals (intro hb; first | (simp at hb; done) | (simp at hb; skip) | skip))))
local macro_rules | `(tactic| walk_at "zz") => `(tactic| (repeat' (first | fail "z1" | fail "zb")))
local macro_rules | `(tactic| walk_at "zy") => `(tactic| (repeat' (first | fail "z0" | fail "zb")))
local macro_rules | `(tactic| walk_at "zn") => `(tactic| (with_reducible refine wp_seq ?_; walk_at "zy"))
local macro_rules | `(tactic| walk_at "zs") => `(tactic| fail "zs")
local macro_rules | `(tactic| walk_at "zg") => `(tactic| fail "zg")
local macro_rules | `(tactic| walk_at "za") => `(tactic| fail "za")
local macro_rules | `(tactic| walk_at "z0") => `(tactic| fail "z0")
local macro_rules | `(tactic| walk_at "z1") => `(tactic| fail "z1")
local macro_rules | `(tactic| walk_at "zb") => `(tactic| fail "zb")
namespace K02
open PySem PySem.Spec PyProof.Rows L2 Z
local macro_rules | `(tactic| fail "zb") => `(tactic| (with_reducible refine And.intro ?_ ?_; (all_goals (intro hb; first | (exact absurd hb (by decide)) | (simp at hb; done) | (simp only [decide_eq_true_eq, decide_eq_false_iff_not, Bool.not_eq_true', Bool.not_eq_false'] at hb; skip) | skip))))
/-! the law's own writer -/
section
variable {x l r : Xp} {s st : S} {Q : D → S → Prop} {QB : Bool → S → Prop} {n k : Nat} {z : Str}
theorem in_lst {w : Str} {n : Nat} {zs : List Str} (h : getL s n = some (zs.map D.str)) (q : QB (zs.any fun z => z == w) s) : Wp (kInA (.str w) (.loc n) s) QB := wp_inAL h (wp_inStr h q)
theorem olev_any (z : Str) : olev z = if (SUMS.any fun y => y == z) = true then 2 else if (PRODS.any fun y => y == z) = true then 3 else 1 := by
  have e : ∀ ss : List Str, ((ss.any fun y => y == z) = true) = (z ∈ ss) := fun ss => by
    apply propext
    constructor
    · intro h
      obtain ⟨y, hy, e⟩ := List.any_eq_true.mp h
      have : y = z := by simpa using e
      exact this ▸ hy
    · exact any_of
  unfold olev
  simp only [e]
theorem llev_wp (q : ∀ t, Gr st t → Q (.int (lev x : Nat)) t) : Wp (F_law_level [x.d] st) Q := by
  unfold F_law_level b_law_level
  cases x with
  | op z l r =>
    have e : lev (.op z l r) = olev z := rfl
    rw [e, olev_any] at q
    unfold Xp.d
    refine wp_fn rfl ?_
    walk_at "zz"
    refine in_lst (zs := SUMS) (getL_of at_last) ?_
    cases h : (SUMS.any fun y => y == z) with
    | true =>
      walk_at "zz"
      rw [h] at q
      exact q _ Gr.app
    | false =>
      rw [h] at q
      walk_at "zz"
      refine in_lst (zs := PRODS) (getL_of at_last) ?_
      cases h2 : (PRODS.any fun y => y == z) with
      | true =>
        rw [h2] at q
        walk_at "zz"
        exact q _ (Gr.app.trans Gr.app)
      | false =>
        rw [h2] at q
        walk_at "zz"
        exact q _ (Gr.app.trans Gr.app)
  | _ =>
    unfold Xp.d
    refine wp_fn rfl ?_
    walk_at "zz"
    exact q _ Gr.refl
theorem olev_pos (z : Str) : 1 ≤ olev z := by
  unfold olev
  split
  · omega
  · split <;> omega
theorem lev_pos (x : Xp) : 1 ≤ lev x := by
  cases x <;> simp [lev]
  exact olev_pos _
theorem needs2 (q : ∀ t, Gr st t → Q (.bl (decide (lev l < max (olev z) 2))) t) : Wp (F_law_needs [(Xp.op z l r).d, .int 2] st) Q := by
  have h1 : ∀ {s : S} {Q : D → S → Prop}, (∀ t, Gr s t → Q (.int (olev z : Nat)) t) → Wp (F_law_level [(Xp.op z l r).d] s) Q := fun q => llev_wp (x := .op z l r) q
  have lp := lev_pos l
  unfold F_law_needs b_law_needs
  unfold Xp.d at h1 ⊢
  refine wp_fn rfl ?_
  walk_at "zn"
  refine h1 ?_
  intro t g
  walk_at "zz"
  refine llev_wp ?_
  intro t2 g2
  walk_at "zz"
  · have e : decide (lev l < max (olev z) 2) = true := decide_eq_true (by omega)
    rw [e] at q
    exact q t2 (g.trans g2)
  · have e : decide ((lev l : Int) < (olev z : Int)) = decide (lev l < max (olev z) 2) := decide_eq_decide.mpr (by omega)
    rw [e]
    exact q t2 (g.trans g2)
theorem needs3 (q : ∀ t, Gr st t → Q (.bl (decide (lev r < olev z + 1))) t) : Wp (F_law_needs [(Xp.op z l r).d, .int 3] st) Q := by
  have h1 : ∀ {s : S} {Q : D → S → Prop}, (∀ t, Gr s t → Q (.int (olev z : Nat)) t) → Wp (F_law_level [(Xp.op z l r).d] s) Q := fun q => llev_wp (x := .op z l r) q
  have lp := olev_pos z
  unfold F_law_needs b_law_needs
  unfold Xp.d at h1 ⊢
  refine wp_fn rfl ?_
  walk_at "zn"
  refine h1 ?_
  intro t g
  walk_at "zz"
  refine llev_wp ?_
  intro t2 g2
  walk_at "zz"
  · have e : decide (lev r < olev z + 1) = true := decide_eq_true (by omega)
    rw [e] at q
    exact q t2 (g.trans g2)
  · have e : decide ((lev r : Int) ≤ (olev z : Int)) = decide (lev r < olev z + 1) := decide_eq_decide.mpr (by omega)
    rw [e]
    exact q t2 (g.trans g2)
end
end K02
end
section
set_option Elab.async false
set_option linter.all false
set_option maxRecDepth 100000
set_option maxHeartbeats 2000000
open PySem PySem.Spec PyProof.Rows L2 Z
local macro_rules | `(tactic| fail "zs") => `(tactic| first
  | assumption
  | with_reducible exact at_last
  | (with_reducible apply at_set; fail "zs")
  | (with_reducible apply at_app; fail "zs")
  | (with_reducible apply at_setne; (first | assumption | (apply Ne.symm; assumption) | omega); fail "zs")
  | (with_reducible refine Gr.keep (by assumption) ?_; fail "zs")
  | (with_reducible refine Gx.keep (by assumption) ?_ ?_; (first | assumption | (apply Ne.symm; assumption) | omega); fail "zs"))
local macro_rules | `(tactic| fail "zg") => `(tactic| first
  | assumption
  | (with_reducible apply getL_of; fail "zs")
  | (with_reducible apply getW_of; fail "zs")
  | (with_reducible apply getI_of; fail "zs"))
local macro_rules | `(tactic| fail "za") => `(tactic| first | (with_reducible apply atI_int; (first | assumption | omega); (first | assumption | omega | (simp only [List.length_set]; omega))) | with_unfolding_all exact rfl | assumption)
local macro_rules | `(tactic| fail "y0") => `(tactic| first
  | (with_reducible refine' wp_var ?z1 ?z2; (case z1 => with_unfolding_all exact rfl))
  | with_reducible refine wp_c2 ?_
  | with_reducible refine wp_cons ?_
  | with_reducible refine wp_c ?_
  | with_reducible refine wp_nil ?_
  | with_reducible refine wp_call ?_
  | with_reducible refine wp_c1 ?_)
local macro_rules | `(tactic| fail "y1") => `(tactic| first
  | with_reducible refine wp_set ?_
  | with_reducible refine wp_if ?_
  | with_reducible refine wp_next ?_
  | with_reducible refine wp_ret ?_
  | with_reducible refine af_nx ?_
  | with_reducible refine bk_rt ?_
  | (with_reducible refine' wp_ixL ?z1 ?z2 ?z3; (case z1 => fail "zg"); (case z2 => fail "za"))
  | (with_reducible refine' wp_ixT ?z1 ?z2; (case z1 => fail "za")))
local macro_rules | `(tactic| fail "y2") => `(tactic| first
  | with_reducible refine af_rt ?_
  | with_reducible refine af_bk ?_
  | with_reducible refine bk_nx ?_
  | with_reducible refine turned_nx ?_
  | with_reducible refine turned_bk ?_
  | with_reducible refine turned_rt ?_
  | with_reducible refine wp_and ?_
  | with_reducible refine wp_or ?_)
local macro_rules | `(tactic| fail "y3") => `(tactic| first
  | with_reducible refine wp_not ?_
  | with_reducible refine wp_sub ?_
  | with_reducible refine wp_subA ?_
  | with_reducible refine wp_chain ?_
  | with_reducible refine wp_neAI ?_
  | with_reducible refine wp_neAS ?_
  | with_reducible refine wp_dic0 ?_
  | with_reducible refine wp_drop ?_)
local macro_rules | `(tactic| fail "y4") => `(tactic| first
  | with_reducible refine wp_vK ?_
  | with_reducible refine wp_nox ?_
  | with_reducible refine wp_break ?_
  | with_reducible refine wp_retN ?_
  | with_reducible refine wp_sfld ?_
  | with_reducible refine wp_yes ?_
  | with_reducible refine wp_addI ?_
  | with_reducible refine wp_subI ?_)
local macro_rules | `(tactic| fail "y5") => `(tactic| first
  | with_reducible refine wp_neg ?_
  | with_reducible refine wp_eqI ?_
  | with_reducible refine wp_neI ?_
  | with_reducible refine wp_ltI ?_
  | with_reducible refine wp_leI ?_
  | with_reducible refine wp_gtI ?_
  | with_reducible refine wp_geI ?_
  | with_reducible refine wp_eqS ?_)
local macro_rules | `(tactic| fail "y6") => `(tactic| first
  | with_reducible refine wp_neS ?_
  | with_reducible refine wp_eqB ?_
  | with_reducible refine wp_isN ?_
  | with_reducible refine wp_isNotN ?_
  | with_reducible refine wp_int ?_
  | with_reducible refine wp_max2 ?_
  | with_reducible refine wp_min2 ?_
  | with_reducible refine wp_tr_bl ?_)
local macro_rules | `(tactic| fail "y7") => `(tactic| first
  | with_reducible refine wp_tr_int ?_
  | with_reducible refine wp_tupT ?_
  | with_reducible refine wp_slT ?_
  | with_reducible refine wp_nopart ?_
  | with_reducible refine wp_lst ?_
  | with_reducible refine wp_tup ?_
  | with_reducible refine wp_slice ?_
  | with_reducible refine wp_callK ?_)
local macro_rules | `(tactic| fail "y8") => `(tactic| first
  | with_reducible refine wp_make ?_
  | with_reducible refine wp_meth ?_
  | with_reducible refine wp_is ?_
  | with_reducible refine wp_vand ?_
  | with_reducible refine wp_vor ?_
  | with_reducible refine wp_vnot ?_
  | with_reducible refine wp_asg ?_
  | with_reducible refine wp_part ?_)
local macro_rules | `(tactic| fail "y9") => `(tactic| first
  | with_reducible refine wp_forR1 ?_
  | with_reducible refine wp_forR2 ?_
  | with_reducible refine wp_compR1 ?_
  | with_reducible refine wp_compR2 ?_
  | (with_reducible refine' wp_ixAL ?z1 ?z2 ?z3; (case z1 => fail "zg"); (case z2 => fail "za"))
  | (with_reducible refine' wp_ixAT ?z1 ?z2; (case z1 => fail "za"))
  | (with_reducible refine' and_isL ?z1 ?z2; (case z1 => fail "zg"))
  | (with_reducible refine' wp_append ?z1 ?z2 ?z3; (case z1 => fail "zg"); (case z2 => first | omega | (simp only [List.length_map, List.length_append, List.length_cons, List.length_nil]; omega))))
local macro_rules | `(tactic| fail "y10") => `(tactic| first
  | (with_reducible refine' wp_lenL ?z1 ?z2; (case z1 => fail "zg"))
  | with_reducible refine wp_lenT ?_
  | (with_reducible refine' wp_lenAL ?z1 ?z2; (case z1 => fail "zg"))
  | with_reducible refine wp_lenAT ?_
  | (with_reducible refine' wp_listL ?z1 ?z2; (case z1 => fail "zg"))
  | with_reducible refine wp_listT ?_
  | with_reducible refine ex_bl ?_
  | (with_reducible refine' ex_ty ?z1 ?z2 ?z3; (case z1 => with_unfolding_all exact rfl); (case z2 => with_unfolding_all exact rfl)))
local macro_rules | `(tactic| fail "y11") => `(tactic| first
  | (with_reducible refine' wp_mulT ?z1 ?z2 ?z3; (case z1 => omega); (case z2 => omega))
  | (with_reducible refine' wp_setF ?z1 ?z2 ?z3; (case z1 => fail "zg"); (case z2 => with_unfolding_all exact Nat.le_of_ble_eq_true rfl))
  | (with_reducible refine' wp_setInt ?z1 ?z2 ?z3 ?z4; (case z1 => fail "zg"); (case z2 => first | assumption | omega); (case z3 => first | assumption | omega | (simp only [List.length_set]; omega)))
  | (with_reducible refine' wp_setIx ?z1 ?z2 ?z3; (case z1 => fail "zg"); (case z2 => first | (with_reducible apply ixN_of; (first | assumption | omega); (first | assumption | omega | (rw [List.length_map]; omega))) | with_unfolding_all exact rfl | assumption))
  | (with_reducible refine' wp_setAI ?z1 ?z2 ?z3 ?z4; (case z1 => fail "zg"); (case z2 => first | assumption | omega); (case z3 => first | assumption | omega | (simp only [List.length_set]; omega)))
  | (with_reducible refine' wp_setAX ?z1 ?z2 ?z3; (case z1 => fail "zg"); (case z2 => first | (with_reducible apply ixN_of; (first | assumption | omega); (first | assumption | omega | (rw [List.length_map]; omega))) | with_unfolding_all exact rfl | assumption))
  | (with_reducible refine' wp_modI ?z1 ?z2; (case z1 => omega))
  | (with_reducible refine' wp_divA0 ?z1 ?z2 ?z3; (case z1 => omega); (case z2 => omega)))
local macro_rules | `(tactic| fail "y12") => `(tactic| first
  | (with_reducible refine' wp_mulA ?z1 ?z2; (case z1 => omega))
  | (with_reducible refine' wp_divI ?z1 ?z2 ?z3; (case z1 => omega); (case z2 => omega))
  | (with_reducible refine' wp_mulI ?z1 ?z2; (case z1 => omega))
  | (with_reducible refine' wp_powI ?z1 ?z2; (case z1 => with_unfolding_all decide))
  | (with_reducible refine' wp_fld ?z1 ?z2 ?z3; (case z1 => fail "zg"); (case z2 => first | with_unfolding_all exact rfl | assumption))
  | (with_reducible refine' wp_prop ?z1 ?z2; (case z1 => fail "zg"))
  | (with_reducible refine' wp_tupL ?z1 ?z2; (case z1 => fail "zg"))
  | (with_reducible refine' And.intro ?z1 ?z2; (case z1 => first | with_unfolding_all exact Nat.le_of_ble_eq_true rfl | with_unfolding_all decide)))
local macro_rules | `(tactic| fail "z0") => `(tactic| first | fail "y0" | fail "y1" | fail "y2" | fail "y3" | fail "y4" | fail "y5" | fail "y6" | fail "y7" | fail "y8" | fail "y9" | fail "y10" | fail "y11" | fail "y12")
local macro_rules | `(tactic| fail "z1") => `(tactic| first | with_reducible refine wp_seq ?_ | fail "z0")
local macro_rules | `(tactic| walk_at "z") => `(tactic| (repeat fail "z1"))
local macro_rules | `(tactic| fail "zb") => `(tactic| (with_reducible refine And.intro ?_ ?_; (all_goals (intro hb; first | (simp at hb; done) | (simp at hb; skip) | skip))))
local macro_rules | `(tactic| walk_at "zz") => `(tactic| (repeat' (first | fail "z1" | fail "zb")))
local macro_rules | `(tactic| walk_at "zy") => `(tactic| (repeat' (first | fail "z0" | fail "zb")))
local macro_rules | `(tactic| walk_at "zn") => `(tactic| (with_reducible refine wp_seq ?_; walk_at "zy"))
local macro_rules | `(tactic| walk_at "zs") => `(tactic| fail "zs")
local macro_rules | `(tactic| walk_at "zg") => `(tactic| fail "zg")
local macro_rules | `(tactic| walk_at "za") => `(tactic| fail "za")
local macro_rules | `(tactic| walk_at "z0") => `(tactic| fail "z0")
local macro_rules | `(tactic| walk_at "z1") => `(tactic| fail "z1")
local macro_rules | `(tactic| walk_at "zb") => `(tactic| fail "zb")
namespace K02
open PySem PySem.Spec PyProof.Rows L2 Z
local macro_rules | `(tactic| fail "zb") => `(tactic| (with_reducible refine And.intro ?_ ?_; (all_goals (intro hb; first | (exact absurd hb (by decide)) | (simp at hb; done) | (simp only [decide_eq_true_eq, decide_eq_false_iff_not, Bool.not_eq_true', Bool.not_eq_false'] at hb; skip) | skip))))
theorem p12 : (10 : Int) ^ (Int.toNat 12) = 1000000000000 := by decide
theorem p6 : (10 : Int) ^ (Int.toNat 6) = 1000000 := by decide
section
variable {s st : S} {a : Nat} {Q QD : D → S → Prop} {QB : Bool → S → Prop} {l r n : Int}
theorem number_wp (hf : Feed st a) (q : ∀ (d : Int) (s : S), 0 ≤ d → d ≤ big → Gx a st s → Feed s a → Q (.int d) s) : Wp (F_law_number [.loc a] st) Q := by
  have eb : big = 1000000000000 := rfl
  rw [eb] at q
  unfold F_law_number b_law_number
  refine wp_fn rfl ?_
  walk_at "zn"
  refine take_wp hf (by omega) (by omega) ?_
  intro k s1 k0 k1 g1 f1 l1
  walk_at "zz"
  all_goals (try simp only [p12, p6])
  all_goals (refine take_wp f1 (by omega) (by omega) ?_; intro d s2 d0 d1 g2 f2 l2; walk_at "zz"; try simp only [p12, p6])
  all_goals first | exact q _ _ (by omega) (by omega) (g1.trans g2) f2 | skip
  refine take_wp f2 (by omega) (by omega) ?_
  intro e s3 e0 e1 g3 f3 l3
  walk_at "zz"
  exact q _ _ (by split <;> omega) (by split <;> omega) ((g1.trans g2).trans g3) f3
/-! words -/
/-- a word's signs -/
def Ww (w : Str) : Prop := ∃ c r, tl w = c :: r ∧ 97 ≤ c ∧ c ≤ 122 ∧ (∀ x ∈ r, W x) ∧ r.length ≤ 11
instance (c : Nat) : Decidable (W c) := by
  unfold W
  infer_instance
def nmB (w : Str) : Bool := match tl w with
  | c :: r => decide (97 ≤ c ∧ c ≤ 122) && (r.all fun x => decide (W x)) && decide (r.length ≤ 11) && !(NOTS.any fun y => y == w)
  | [] => false
theorem nm_of {w : Str} (h : nmB w = true) : Nm w := by
  unfold nmB at h
  cases e : tl w with
  | nil => rw [e] at h; cases h
  | cons c r =>
    rw [e] at h
    dsimp only at h
    simp only [Bool.and_eq_true, decide_eq_true_eq, List.all_eq_true, Bool.not_eq_true'] at h
    obtain ⟨⟨⟨h1, h2⟩, h3⟩, h4⟩ := h
    refine ⟨⟨c, r, e, h1.1, h1.2, h2, h3⟩, fun hm => ?_⟩
    rw [any_of hm] at h4
    cases h4
theorem nm_ww {w : Str} (h : Ww w) (k : (NOTS.any fun y => y == w) = false) : Nm w := ⟨h, fun hm => by
  rw [any_of hm] at k
  cases k⟩
def LET : Str := "abcdefghijklmnopqrstuvwxyz0123456789_"
def STOP : List Str := ["div", "mod", "min", "max", "pick", "nth", "when"]
def MENU : List Str := ["a", "b", "me", "x_1", "place", "divs", "mode", "min2", "maxi", "pick_", "nth0", "whenever", "mo", "first", "sum", "end", "in", "do", "for", "step", "lanes", "most", "least", "array"]
theorem menu_wd : ∀ z ∈ MENU, Nm z := fun z hz => nm_of ((by decide +kernel : ∀ z ∈ MENU, nmB z = true) z hz)
theorem stop_s : ∀ z ∈ STOP, Nm (z ++ "s") := fun z hz => nm_of ((by decide +kernel : ∀ z ∈ STOP, nmB (z ++ "s") = true) z hz)
theorem let_len : LET.length = 37 := by decide +kernel
theorem mk_app (a b : List Nat) : mkS a ++ mkS b = mkS (a ++ b) := TL.ext_tl (by
  show tl (mkS a ++ mkS b) = tl (mkS (a ++ b))
  rw [show tl (mkS a ++ mkS b) = tl (mkS a) ++ tl (mkS b) from TL.tl_append _ _, tl_mk, tl_mk, tl_mk])
theorem wp_addS {x y : Str} (h : x.length + y.length ≤ 1000) (q : QD (.str (x ++ y)) s) : Wp (bAdd (.str x) (.str y) s) QD := by
  unfold bAdd
  dsimp only
  rw [if_pos (by omega)]
  exact q
theorem wp_slS {z : Str} {lo hi : Option Int} (h : z.length ≤ 1000) (q : QD (.str (cutS z lo hi)) s) : Wp (slD (.str z) lo hi s) QD := by
  unfold slD
  dsimp only
  rw [if_pos (by omega)]
  exact q
theorem letter_wp {m : Int} (h0 : 0 ≤ m) (h1 : m < 37) (q : ∀ c : Nat, W c → (m < 26 → 97 ≤ c ∧ c ≤ 122) → QD (.str (mkS [c])) s) : Wp (ixA (.str LET) (.int m) s) QD := by
  have l := let_len
  have e : (tl LET).length = 37 := by rw [← len_tl]; exact l
  have lm : m.toNat < (tl LET).length := by omega
  have g := List.getElem?_eq_getElem lm
  have hw : W (tl LET)[m.toNat] := mem_wch.mp (List.getElem_mem lm)
  have h26 : m < 26 → 97 ≤ (tl LET)[m.toNat] ∧ (tl LET)[m.toNat] ≤ 122 := fun h => by
    have g2 : (tl LET)[m.toNat]? = some (97 + m.toNat) := by
      rw [show tl LET = _ from wch_tl, List.append_assoc, List.getElem?_append_left (by simp; omega), List.getElem?_map, List.getElem?_range (by omega)]
      rfl
    rw [g] at g2
    have := Option.some.inj g2
    omega
  revert g hw h26
  generalize (tl LET)[m.toNat] = c
  intro g hw h26
  exact wp_chr (p := m.toNat) (by omega) g (by omega) (q c hw h26)
theorem wp_strIx {n : Nat} {zs : List Str} {m : Int} (h : getL s n = some (zs.map D.str)) (h0 : 0 ≤ m) (h1 : m < zs.length) (q : ∀ z ∈ zs, QD (.str z) s) : Wp (ixA (.loc n) (.int m) s) QD := by
  have l : m.toNat < zs.length := by omega
  refine wp_ixAL h (atI_of h0 ?_) (q (zs[m.toNat]'l) (List.getElem_mem l))
  rw [List.getElem?_map, List.getElem?_eq_getElem l]
  rfl
theorem cut_to {z : Str} (k : Nat) : cutS z none (some (k : Int)) = mkS ((tl z).take k) := by
  show mkS (((tl z).drop 0).take (HT.sIx z.length z.length (some (k : Int)) - 0)) = _
  rw [HT.sIx_nat, len_tl, List.drop_zero, Nat.sub_zero]
  congr 1
  by_cases h : k ≤ (tl z).length
  · rw [Nat.min_eq_left h]
  · rw [Nat.min_eq_right (by omega), List.take_of_length_le (Nat.le_refl _), List.take_of_length_le (by omega)]
theorem cut_from {z : Str} (k : Nat) : cutS z (some (k : Int)) none = mkS ((tl z).drop k) := by
  show mkS (((tl z).drop (HT.sIx z.length 0 (some (k : Int)))).take (z.length - HT.sIx z.length 0 (some (k : Int)))) = _
  rw [HT.sIx_nat, len_tl]
  congr 1
  rw [List.take_of_length_le (by rw [List.length_drop]; exact Nat.le_refl _)]
  by_cases h : k ≤ (tl z).length
  · rw [Nat.min_eq_left h]
  · rw [Nat.min_eq_right (by omega), List.drop_of_length_le (Nat.le_refl _), List.drop_of_length_le (by omega)]
theorem stop_wp {w : Str} {n : Nat} (h : getL s n = some (STOP.map D.str)) (q : ∀ b, (b = true → w ∈ STOP) → (b = false → (NOTS.any fun y => y == w) = false) → QB b s) : Wp (kInA (.str w) (.loc n) s) QB := by
  refine wp_inAL h (wp_inStr h (q _ ?_ fun e => e))
  intro e
  obtain ⟨z, hz, e⟩ := List.any_eq_true.mp e
  have e : z = w := by simpa using e
  exact e ▸ hz
theorem ww_cons {c : Nat} {r : List Nat} (h0 : 97 ≤ c ∧ c ≤ 122) (hr : ∀ x ∈ r, W x) (hl : r.length ≤ 11) : Ww (mkS (c :: r)) := ⟨c, r, tl_mk _, h0.1, h0.2, hr, hl⟩
theorem ww_len {w : Str} (h : Ww w) : 1 ≤ w.length ∧ w.length ≤ 12 := by
  obtain ⟨c, r, e, -, -, -, hl⟩ := h
  rw [len_tl, e, List.length_cons]
  omega
theorem s_len : ("s" : Str).length = 1 := by decide +kernel
theorem word_wp (hf : Feed st a) (q : ∀ (w : Str) (s : S), Nm w → Gx a st s → Feed s a → Q (.str w) s) : Wp (F_law_word [.loc a] st) Q := by
  have la := hf.lt
  unfold F_law_word b_law_word
  refine wp_fn rfl ?_
  walk_at "zn"
  refine wp_mid (fun e s => ∃ m, e = [some (.loc a), some (.loc m), none, none, none, none, none] ∧ Gr st s ∧ s[m]? = some (.lst (MENU.map D.str)) ∧ st.length ≤ m) ?_ ?_
  · walk_at "zy"
    refine wp_addL (getW_of (by walk_at "zs")) (getW_of (by walk_at "zs")) (by simp) ?_
    exact ⟨_, rfl, _, rfl, (Gr.app.trans Gr.app).trans Gr.app, at_last, by simp⟩
  rintro e s0 ⟨m, rfl, g0, em, lm⟩
  have f0 := hf.gr g0
  walk_at "zn"
  walk_at "zn"
  refine take_wp f0 (by omega) (by omega) ?_
  intro k s1 k0 k1 g1 f1 l1
  have em1 := g1.keep (by omega) em
  have G1 : Gx a st s1 := g0.gx.trans g1
  walk_at "zy"
  walk_at "zn"
  · refine take_wp f1 (by omega) (by omega) ?_
    intro j s2 j0 j1 g2 f2 l2
    refine wp_strIx (getL_of (g2.keep (by omega) em1)) j0 j1 ?_
    intro z hz
    walk_at "zz"
    exact q _ _ (menu_wd z hz) (G1.trans g2) f2
  rename_i hb
  refine wp_mid (fun e s => ∃ z : Int, e = [some (.loc a), some (.loc m), some (.str LET), some (.int k), some (.int z), none, none] ∧ Gx a st s ∧ Feed s a ∧ 1 ≤ z ∧ z ≤ 12) ?_ ?_
  · walk_at "zy"
    refine take_wp f1 (by omega) (by omega) ?_
    intro j s2 j0 j1 g2 f2 l2
    walk_at "zy"
    have h1 : (1 : Int) ≤ gI [1, 2, 12, 1 + j] (k - 1) ∧ gI [1, 2, 12, 1 + j] (k - 1) ≤ 12 := by
      have := gI_mem (ns := [1, 2, 12, 1 + j]) (k := k - 1) (by omega) (by simp; omega)
      revert this
      generalize gI [1, 2, 12, 1 + j] (k - 1) = y
      intro h
      simp only [List.mem_cons, List.not_mem_nil, or_false] at h
      omega
    refine wp_ixAL (getL_of at_last) (atI_int (ns := [1, 2, 12, 1 + j]) (by omega) (by simp; omega)) ?_
    exact ⟨_, rfl, _, rfl, (G1.trans g2).trans Gx.app, f2.gr Gr.app, h1.1, h1.2⟩
  clear em1 G1 f1 l1 g1 em f0
  rintro e s2 ⟨z, rfl, g2, f2, z1, z2⟩
  refine wp_mid (fun e s => ∃ (w : Str) (v : Option D), e = [some (.loc a), some (.loc m), some (.str LET), some (.int k), some (.int z), some (.str w), v] ∧ Gx a st s ∧ Feed s a ∧ ∃ c, w = mkS [c] ∧ 97 ≤ c ∧ c ≤ 122) ?_ ?_
  · walk_at "zy"
    refine take_wp f2 (by omega) (by omega) ?_
    intro j s3 j0 j1 g3 f3 l3
    refine letter_wp j0 (by omega) ?_
    intro c hc h26
    exact ⟨_, rfl, _, _, rfl, g2.trans g3, f3, c, rfl, (h26 j1).1, (h26 j1).2⟩
  clear g2 f2
  rintro e s2 ⟨w, v, rfl, g2, f2, c, rfl, c0, c1⟩
  refine wp_mid (fun e s => ∃ (w : Str) (v : Option D), e = [some (.loc a), some (.loc m), some (.str LET), some (.int k), some (.int z), some (.str w), v] ∧ Gx a st s ∧ Feed s a ∧ Ww w) ?_ ?_
  · walk_at "zy"
    refine ⟨_, rfl, by omega, by omega, ?_⟩
    refine wp_forT (fun i e s => ∃ (r : List Nat) (v : Option D), e = [some (.loc a), some (.loc m), some (.str LET), some (.int k), some (.int z), some (.str (mkS (c :: r))), v] ∧ Gx a st s ∧ Feed s a ∧ r.length = i ∧ ∀ x ∈ r, W x) ⟨[], v, rfl, g2, f2, rfl, fun _ h => nomatch h⟩ ?_ ?_
    · rintro i d es s hd ⟨r, v, rfl, g, f, l, hr⟩
      obtain ⟨rfl, hi⟩ := get_range hd
      refine ⟨_, rfl, ?_⟩
      walk_at "zy"
      refine take_wp f (by omega) (by omega) ?_
      intro j s3 j0 j1 g3 f3 l3
      refine letter_wp j0 (by omega) ?_
      intro c2 hc2 _
      refine wp_addS (by rw [len_mk, len_mk, List.length_cons, List.length_cons]; show _ + 1 ≤ 1000; omega) ?_
      rw [mk_app]
      walk_at "zy"
      refine ⟨r ++ [c2], _, rfl, g.trans g3, f3, by rw [List.length_append, l]; rfl, ?_⟩
      intro x hx
      rcases List.mem_append.mp hx with hx | hx
      · exact hr x hx
      · rw [List.mem_singleton.mp hx]
        exact hc2
    · rintro es s ⟨r, v, rfl, g, f, l, hr⟩
      rw [len_range] at l
      exact ⟨_, rfl, _, v, rfl, g, f, ww_cons ⟨c0, c1⟩ hr (by omega)⟩
  clear g2 f2 v
  rintro e s2 ⟨w, v, rfl, g2, f2, lw⟩
  have lw2 := ww_len lw
  have ls := s_len
  walk_at "zz"
  refine stop_wp (getL_of at_last) ?_
  intro b hb2 hb4
  walk_at "zz"
  · rename_i hb3
    have := hb2 hb3
    refine wp_addS (by omega) ?_
    walk_at "zz"
    exact q _ _ (stop_s _ this) (g2.trans Gx.app) (f2.gr Gr.app)
  · rename_i hb3
    exact q _ _ (nm_ww lw (hb4 hb3)) (g2.trans Gx.app) (f2.gr Gr.app)
theorem near_wp {w : Str} (hw : Nm w) (hf : Feed st a) (q : ∀ (w : Str) (s : S), Nm w → Gx a st s → Feed s a → Q (.str w) s) : Wp (F_law_near [.loc a, .str w] st) Q := by
  have la := hf.lt
  have ls := s_len
  obtain ⟨w1, w2⟩ := ww_len hw.c
  obtain ⟨⟨c, r, ew, c0, c1, hr, hl⟩, -⟩ := hw
  have lw : w.length = r.length + 1 := by rw [len_tl, ew, List.length_cons]
  have hrt : ∀ k, ∀ x ∈ r.take k, W x := fun k x hx => hr x (List.mem_of_mem_take hx)
  have c11 : cutS w none (some 11) = mkS (c :: r.take 10) := by
    rw [show (11 : Int) = ((11 : Nat) : Int) from rfl, cut_to, ew]
    rfl
  unfold F_law_near b_law_near
  refine wp_fn rfl ?_
  walk_at "zn"
  walk_at "zn"
  refine take_wp hf (by omega) (by omega) ?_
  intro k s1 k0 k1 g1 f1 l1
  walk_at "zy"
  refine wp_mid (fun e s => ∃ z : Str, e = [some (.loc a), some (.str w), some (.str LET), some (.int k), some (.str z), none] ∧ Gx a st s ∧ Feed s a ∧ Ww z) ?_ ?_
  · walk_at "zy"
    refine ⟨_, rfl, ?_⟩
    refine wp_slS (by omega) ?_
    walk_at "zy"
    refine take_wp f1 (by omega) (by omega) ?_
    intro j s2 j0 j1 g2 f2 l2
    refine letter_wp j0 (by omega) ?_
    intro c2 hc2 _
    rw [c11]
    refine wp_addS (by rw [len_mk, len_mk, List.length_cons, List.length_take]; show _ + 1 ≤ 1000; omega) ?_
    rw [mk_app]
    walk_at "zy"
    refine ⟨_, rfl, _, rfl, g1.trans g2, f2, ww_cons ⟨c0, c1⟩ (r := r.take 10 ++ [c2]) ?_ (by rw [List.length_append, List.length_take]; show _ + 1 ≤ 11; omega)⟩
    intro x hx
    rcases List.mem_append.mp hx with hx | hx
    · exact hrt _ x hx
    · rw [List.mem_singleton.mp hx]
      exact hc2
  clear g1 f1 l1
  rintro e s1 ⟨z, rfl, g1, f1, hz⟩
  refine wp_mid (fun e s => ∃ z : Str, e = [some (.loc a), some (.str w), some (.str LET), some (.int k), some (.str z), none] ∧ Gx a st s ∧ Feed s a ∧ Ww z) ?_ ?_
  · walk_at "zy"
    · refine wp_lenAS (by omega) ?_
      walk_at "zy"
      · rename_i h1 h2
        refine wp_lenAS (by omega) ?_
        walk_at "zy"
        refine ⟨_, rfl, ?_⟩
        refine wp_slS (by omega) ?_
        walk_at "zy"
        have e : cutS w none (some ((w.length : Int) - 1)) = mkS (c :: r.take (r.length - 1)) := by
          rw [show (w.length : Int) - 1 = ((r.length - 1 + 1 : Nat) : Int) by omega, cut_to, ew, List.take_succ_cons]
        rw [e]
        exact ⟨_, rfl, _, rfl, g1, f1, ww_cons ⟨c0, c1⟩ (hrt _) (by rw [List.length_take]; omega)⟩
      · exact ⟨_, rfl, _, rfl, g1, f1, hz⟩
    · exact ⟨_, rfl, _, rfl, g1, f1, hz⟩
  clear g1 f1 hz z
  rintro e s1 ⟨z, rfl, g1, f1, hz⟩
  refine wp_mid (fun e s => ∃ (z : Str) (v : Option D), e = [some (.loc a), some (.str w), some (.str LET), some (.int k), some (.str z), v] ∧ Gx a st s ∧ Feed s a ∧ Ww z) ?_ ?_
  · walk_at "zy"
    · refine wp_seq ?_
      walk_at "zy"
      refine wp_lenAS (by omega) ?_
      walk_at "zy"
      refine take_wp f1 (by omega) (by omega) ?_
      intro t s2 t0 t1 g2 f2 l2
      walk_at "zy"
      refine ⟨_, rfl, ?_⟩
      refine wp_slS (by omega) ?_
      walk_at "zy"
      refine take_wp f2 (by omega) (by omega) ?_
      intro j s3 j0 j1 g3 f3 l3
      refine letter_wp j0 (by omega) ?_
      intro c2 hc2 h26
      obtain ⟨m, rfl⟩ := Int.eq_ofNat_of_zero_le t0
      have e1 : cutS w none (some (m : Int)) = mkS ((c :: r).take m) := by rw [cut_to, ew]
      have e2 : cutS w (some ((m : Int) + 1)) none = mkS ((c :: r).drop (m + 1)) := by rw [show (m : Int) + 1 = ((m + 1 : Nat) : Int) by omega, cut_from, ew]
      have l1 : ((c :: r).take m).length ≤ 12 := by
        rw [List.length_take, List.length_cons]
        omega
      have l2 : ((c :: r).drop (m + 1)).length ≤ 12 := by
        rw [List.length_drop, List.length_cons]
        omega
      rw [e1]
      refine wp_addS (by rw [len_mk, len_mk]; show _ + 1 ≤ 1000; omega) ?_
      rw [mk_app]
      walk_at "zy"
      refine ⟨_, rfl, ?_⟩
      refine wp_slS (by omega) ?_
      rw [e2]
      refine wp_addS (by rw [len_mk, len_mk, List.length_append]; show _ + 1 + _ ≤ 1000; omega) ?_
      rw [mk_app]
      walk_at "zy"
      refine ⟨_, rfl, _, _, rfl, (g1.trans g2).trans g3, f3, ?_⟩
      cases m with
      | zero => exact ww_cons (h26 j1) hr hl
      | succ m =>
        refine ww_cons (r := r.take m ++ [c2] ++ r.drop (m + 1)) ⟨c0, c1⟩ ?_ (by
          rw [List.length_append, List.length_append, List.length_take, List.length_drop]
          show _ + 1 + _ ≤ 11
          omega)
        intro x hx
        rcases List.mem_append.mp hx with hx | hx
        · rcases List.mem_append.mp hx with hx | hx
          · exact hrt _ x hx
          · rw [List.mem_singleton.mp hx]
            exact hc2
        · exact hr x (List.mem_of_mem_drop hx)
    · exact ⟨_, rfl, _, _, rfl, g1, f1, hz⟩
  clear g1 f1 hz z
  rintro e s2 ⟨z, v, rfl, g2, f2, lw⟩
  obtain ⟨z1, z2⟩ := ww_len lw
  walk_at "zz"
  refine stop_wp (getL_of at_last) ?_
  intro b hb2 hb4
  walk_at "zz"
  · rename_i hb3
    have := hb2 hb3
    refine wp_addS (by omega) ?_
    walk_at "zz"
    exact q _ _ (stop_s _ this) (g2.trans Gx.app) (f2.gr Gr.app)
  · rename_i hb3
    exact q _ _ (nm_ww lw (hb4 hb3)) (g2.trans Gx.app) (f2.gr Gr.app)
end
end K02
end
section
set_option Elab.async false
set_option linter.all false
set_option maxRecDepth 100000
set_option maxHeartbeats 2000000
open PySem PySem.Spec PyProof.Rows L2 Z
local macro_rules | `(tactic| fail "zs") => `(tactic| first
  | assumption
  | with_reducible exact at_last
  | (with_reducible apply at_set; fail "zs")
  | (with_reducible apply at_app; fail "zs")
  | (with_reducible apply at_setne; (first | assumption | (apply Ne.symm; assumption) | omega); fail "zs")
  | (with_reducible refine Gr.keep (by assumption) ?_; fail "zs")
  | (with_reducible refine Gx.keep (by assumption) ?_ ?_; (first | assumption | (apply Ne.symm; assumption) | omega); fail "zs"))
local macro_rules | `(tactic| fail "zg") => `(tactic| first
  | assumption
  | (with_reducible apply getL_of; fail "zs")
  | (with_reducible apply getW_of; fail "zs")
  | (with_reducible apply getI_of; fail "zs"))
local macro_rules | `(tactic| fail "za") => `(tactic| first | (with_reducible apply atI_int; (first | assumption | omega); (first | assumption | omega | (simp only [List.length_set]; omega))) | with_unfolding_all exact rfl | assumption)
local macro_rules | `(tactic| fail "y0") => `(tactic| first
  | (with_reducible refine' wp_var ?z1 ?z2; (case z1 => with_unfolding_all exact rfl))
  | with_reducible refine wp_c2 ?_
  | with_reducible refine wp_cons ?_
  | with_reducible refine wp_c ?_
  | with_reducible refine wp_nil ?_
  | with_reducible refine wp_call ?_
  | with_reducible refine wp_c1 ?_)
local macro_rules | `(tactic| fail "y1") => `(tactic| first
  | with_reducible refine wp_set ?_
  | with_reducible refine wp_if ?_
  | with_reducible refine wp_next ?_
  | with_reducible refine wp_ret ?_
  | with_reducible refine af_nx ?_
  | with_reducible refine bk_rt ?_
  | (with_reducible refine' wp_ixL ?z1 ?z2 ?z3; (case z1 => fail "zg"); (case z2 => fail "za"))
  | (with_reducible refine' wp_ixT ?z1 ?z2; (case z1 => fail "za")))
local macro_rules | `(tactic| fail "y2") => `(tactic| first
  | with_reducible refine af_rt ?_
  | with_reducible refine af_bk ?_
  | with_reducible refine bk_nx ?_
  | with_reducible refine turned_nx ?_
  | with_reducible refine turned_bk ?_
  | with_reducible refine turned_rt ?_
  | with_reducible refine wp_and ?_
  | with_reducible refine wp_or ?_)
local macro_rules | `(tactic| fail "y3") => `(tactic| first
  | with_reducible refine wp_not ?_
  | with_reducible refine wp_sub ?_
  | with_reducible refine wp_subA ?_
  | with_reducible refine wp_chain ?_
  | with_reducible refine wp_neAI ?_
  | with_reducible refine wp_neAS ?_
  | with_reducible refine wp_dic0 ?_
  | with_reducible refine wp_drop ?_)
local macro_rules | `(tactic| fail "y4") => `(tactic| first
  | with_reducible refine wp_vK ?_
  | with_reducible refine wp_nox ?_
  | with_reducible refine wp_break ?_
  | with_reducible refine wp_retN ?_
  | with_reducible refine wp_sfld ?_
  | with_reducible refine wp_yes ?_
  | with_reducible refine wp_addI ?_
  | with_reducible refine wp_subI ?_)
local macro_rules | `(tactic| fail "y5") => `(tactic| first
  | with_reducible refine wp_neg ?_
  | with_reducible refine wp_eqI ?_
  | with_reducible refine wp_neI ?_
  | with_reducible refine wp_ltI ?_
  | with_reducible refine wp_leI ?_
  | with_reducible refine wp_gtI ?_
  | with_reducible refine wp_geI ?_
  | with_reducible refine wp_eqS ?_)
local macro_rules | `(tactic| fail "y6") => `(tactic| first
  | with_reducible refine wp_neS ?_
  | with_reducible refine wp_eqB ?_
  | with_reducible refine wp_isN ?_
  | with_reducible refine wp_isNotN ?_
  | with_reducible refine wp_int ?_
  | with_reducible refine wp_max2 ?_
  | with_reducible refine wp_min2 ?_
  | with_reducible refine wp_tr_bl ?_)
local macro_rules | `(tactic| fail "y7") => `(tactic| first
  | with_reducible refine wp_tr_int ?_
  | with_reducible refine wp_tupT ?_
  | with_reducible refine wp_slT ?_
  | with_reducible refine wp_nopart ?_
  | with_reducible refine wp_lst ?_
  | with_reducible refine wp_tup ?_
  | with_reducible refine wp_slice ?_
  | with_reducible refine wp_callK ?_)
local macro_rules | `(tactic| fail "y8") => `(tactic| first
  | with_reducible refine wp_make ?_
  | with_reducible refine wp_meth ?_
  | with_reducible refine wp_is ?_
  | with_reducible refine wp_vand ?_
  | with_reducible refine wp_vor ?_
  | with_reducible refine wp_vnot ?_
  | with_reducible refine wp_asg ?_
  | with_reducible refine wp_part ?_)
local macro_rules | `(tactic| fail "y9") => `(tactic| first
  | with_reducible refine wp_forR1 ?_
  | with_reducible refine wp_forR2 ?_
  | with_reducible refine wp_compR1 ?_
  | with_reducible refine wp_compR2 ?_
  | (with_reducible refine' wp_ixAL ?z1 ?z2 ?z3; (case z1 => fail "zg"); (case z2 => fail "za"))
  | (with_reducible refine' wp_ixAT ?z1 ?z2; (case z1 => fail "za"))
  | (with_reducible refine' and_isL ?z1 ?z2; (case z1 => fail "zg"))
  | (with_reducible refine' wp_append ?z1 ?z2 ?z3; (case z1 => fail "zg"); (case z2 => first | omega | (simp only [List.length_map, List.length_append, List.length_cons, List.length_nil]; omega))))
local macro_rules | `(tactic| fail "y10") => `(tactic| first
  | (with_reducible refine' wp_lenL ?z1 ?z2; (case z1 => fail "zg"))
  | with_reducible refine wp_lenT ?_
  | (with_reducible refine' wp_lenAL ?z1 ?z2; (case z1 => fail "zg"))
  | with_reducible refine wp_lenAT ?_
  | (with_reducible refine' wp_listL ?z1 ?z2; (case z1 => fail "zg"))
  | with_reducible refine wp_listT ?_
  | with_reducible refine ex_bl ?_
  | (with_reducible refine' ex_ty ?z1 ?z2 ?z3; (case z1 => with_unfolding_all exact rfl); (case z2 => with_unfolding_all exact rfl)))
local macro_rules | `(tactic| fail "y11") => `(tactic| first
  | (with_reducible refine' wp_mulT ?z1 ?z2 ?z3; (case z1 => omega); (case z2 => omega))
  | (with_reducible refine' wp_setF ?z1 ?z2 ?z3; (case z1 => fail "zg"); (case z2 => with_unfolding_all exact Nat.le_of_ble_eq_true rfl))
  | (with_reducible refine' wp_setInt ?z1 ?z2 ?z3 ?z4; (case z1 => fail "zg"); (case z2 => first | assumption | omega); (case z3 => first | assumption | omega | (simp only [List.length_set]; omega)))
  | (with_reducible refine' wp_setIx ?z1 ?z2 ?z3; (case z1 => fail "zg"); (case z2 => first | (with_reducible apply ixN_of; (first | assumption | omega); (first | assumption | omega | (rw [List.length_map]; omega))) | with_unfolding_all exact rfl | assumption))
  | (with_reducible refine' wp_setAI ?z1 ?z2 ?z3 ?z4; (case z1 => fail "zg"); (case z2 => first | assumption | omega); (case z3 => first | assumption | omega | (simp only [List.length_set]; omega)))
  | (with_reducible refine' wp_setAX ?z1 ?z2 ?z3; (case z1 => fail "zg"); (case z2 => first | (with_reducible apply ixN_of; (first | assumption | omega); (first | assumption | omega | (rw [List.length_map]; omega))) | with_unfolding_all exact rfl | assumption))
  | (with_reducible refine' wp_modI ?z1 ?z2; (case z1 => omega))
  | (with_reducible refine' wp_divA0 ?z1 ?z2 ?z3; (case z1 => omega); (case z2 => omega)))
local macro_rules | `(tactic| fail "y12") => `(tactic| first
  | (with_reducible refine' wp_mulA ?z1 ?z2; (case z1 => omega))
  | (with_reducible refine' wp_divI ?z1 ?z2 ?z3; (case z1 => omega); (case z2 => omega))
  | (with_reducible refine' wp_mulI ?z1 ?z2; (case z1 => omega))
  | (with_reducible refine' wp_powI ?z1 ?z2; (case z1 => with_unfolding_all decide))
  | (with_reducible refine' wp_fld ?z1 ?z2 ?z3; (case z1 => fail "zg"); (case z2 => first | with_unfolding_all exact rfl | assumption))
  | (with_reducible refine' wp_prop ?z1 ?z2; (case z1 => fail "zg"))
  | (with_reducible refine' wp_tupL ?z1 ?z2; (case z1 => fail "zg"))
  | (with_reducible refine' And.intro ?z1 ?z2; (case z1 => first | with_unfolding_all exact Nat.le_of_ble_eq_true rfl | with_unfolding_all decide)))
local macro_rules | `(tactic| fail "z0") => `(tactic| first | fail "y0" | fail "y1" | fail "y2" | fail "y3" | fail "y4" | fail "y5" | fail "y6" | fail "y7" | fail "y8" | fail "y9" | fail "y10" | fail "y11" | fail "y12")
local macro_rules | `(tactic| fail "z1") => `(tactic| first | with_reducible refine wp_seq ?_ | fail "z0")
local macro_rules | `(tactic| walk_at "z") => `(tactic| (repeat fail "z1"))
local macro_rules | `(tactic| fail "zb") => `(tactic| (with_reducible refine And.intro ?_ ?_; (all_goals (intro hb; first | (simp at hb; done) | (simp at hb; skip) | skip))))
local macro_rules | `(tactic| walk_at "zz") => `(tactic| (repeat' (first | fail "z1" | fail "zb")))
local macro_rules | `(tactic| walk_at "zy") => `(tactic| (repeat' (first | fail "z0" | fail "zb")))
local macro_rules | `(tactic| walk_at "zn") => `(tactic| (with_reducible refine wp_seq ?_; walk_at "zy"))
local macro_rules | `(tactic| walk_at "zs") => `(tactic| fail "zs")
local macro_rules | `(tactic| walk_at "zg") => `(tactic| fail "zg")
local macro_rules | `(tactic| walk_at "za") => `(tactic| fail "za")
local macro_rules | `(tactic| walk_at "z0") => `(tactic| fail "z0")
local macro_rules | `(tactic| walk_at "z1") => `(tactic| fail "z1")
local macro_rules | `(tactic| walk_at "zb") => `(tactic| fail "zb")
namespace K02
open PySem PySem.Spec PyProof.Rows L2 Z
local macro_rules | `(tactic| fail "zb") => `(tactic| (with_reducible refine And.intro ?_ ?_; (all_goals (intro hb; first | (exact absurd hb (by decide)) | (simp at hb; done) | (simp only [decide_eq_true_eq, decide_eq_false_iff_not, Bool.not_eq_true', Bool.not_eq_false'] at hb; skip) | skip))))
section
variable {s st : S} {a : Nat} {Q QD : D → S → Prop} {QB : Bool → S → Prop} {l r n : Int}
theorem wrow_wp {many : Int} (hf : Feed st a) (h0 : 0 ≤ many) (h1 : many ≤ 6) (q : ∀ (ws : List Str) (s : S), (∀ w ∈ ws, Nm w) → ws.length = many → s[st.length]? = some (.lst (ws.map D.str)) → Gx a st s → Feed s a → Q (.loc st.length) s) : Wp (F_law_word_row [.loc a, .int many] st) Q := by
  have la := hf.lt
  unfold F_law_word_row b_law_word_row
  refine wp_fn rfl ?_
  walk_at "zn"
  refine wp_mid (fun e s => ∃ (v w : Option D), e = [some (.loc a), some (.int many), some (.loc st.length), v, w] ∧ ∃ ws : List Str, (∀ w ∈ ws, Nm w) ∧ ws.length = many ∧ s[st.length]? = some (.lst (ws.map D.str)) ∧ Gx a st s ∧ Feed s a) ?_ ?_
  · walk_at "zy"
    refine ⟨_, rfl, by omega, by omega, ?_⟩
    refine wp_forT (fun i e s => ∃ (v w : Option D), e = [some (.loc a), some (.int many), some (.loc st.length), v, w] ∧ ∃ ws : List Str, (∀ w ∈ ws, Nm w) ∧ ws.length = i ∧ s[st.length]? = some (.lst (ws.map D.str)) ∧ Gx a st s ∧ Feed s a) ⟨none, none, rfl, [], (fun _ h => nomatch h), rfl, at_last, Gx.app, hf.gr Gr.app⟩ ?_ ?_
    · rintro i d es s hd ⟨v, w, rfl, ws, hw, lw, e, g, f⟩
      obtain ⟨rfl, hi⟩ := get_range hd
      refine ⟨_, rfl, ?_⟩
      walk_at "zn"
      refine word_wp f ?_
      intro w1 s1 hw1 g1 f1
      have e1 := g1.keep (by omega) e
      walk_at "zy"
      refine wp_mid (fun e s => ∃ (v : Option D) (w : Str), e = [some (.loc a), some (.int many), some (.loc st.length), v, some (.str w)] ∧ Nm w ∧ s[st.length]? = some (.lst (ws.map D.str)) ∧ Gx a st s ∧ Feed s a) ?_ ?_
      · walk_at "zy"
        · refine take_wp f1 (by omega) (by omega) ?_
          intro t s2 t0 t1 g2 f2 l2
          have e2 := g2.keep (by omega) e1
          walk_at "zy"
          · refine take_wp f2 (by omega) (by omega) ?_
            intro j s3 j0 j1 g3 f3 l3
            have e3 := g3.keep (by omega) e2
            refine wp_strIx (getL_of e3) j0 (by omega) ?_
            intro z hz
            walk_at "zy"
            refine near_wp (hw z hz) f3 ?_
            intro w2 s4 hw2 g4 f4
            exact ⟨_, rfl, _, _, rfl, hw2, g4.keep (by omega) e3, ((g.trans g1).trans (g2.trans g3)).trans g4, f4⟩
          · exact ⟨_, rfl, _, _, rfl, hw1, e2, (g.trans g1).trans g2, f2⟩
        · exact ⟨_, rfl, _, _, rfl, hw1, e1, g.trans g1, f1⟩
      rintro e s2 ⟨v, w, rfl, hw2, e2, g2, f2⟩
      walk_at "zy"
      refine ⟨_, _, rfl, ws ++ [w], ?_, by rw [List.length_append, lw]; rfl, ?_, g2.setNew (Nat.le_refl _), f2.set (by omega)⟩
      · intro x hx
        rcases List.mem_append.mp hx with hx | hx
        · exact hw x hx
        · rw [List.mem_singleton.mp hx]
          exact hw2
      · rw [List.map_append]
        exact at_set e2
    · rintro es s ⟨v, w, rfl, ws, hw, lw, e, g, f⟩
      rw [len_range] at lw
      exact ⟨_, rfl, v, w, rfl, ws, hw, by omega, e, g, f⟩
  rintro e s2 ⟨v, w, rfl, ws, hw, lw, e, g, f⟩
  walk_at "zz"
  exact q ws s2 hw lw e g f
/-- x stands for an expression of ok words, of depth at most n -/
def Xok (ws sh : List Str) (n : Nat) (x : Xp) : Prop := x.ok ws sh ∧ x.dep ≤ n
theorem leaf_wp {ws sh : List Str} {nm : Nat} (hf : Feed st a) (hn : st[nm]? = some (.lst (ws.map D.str))) (na : nm ≠ a) (h0 : ws ≠ []) (h1 : ws.length ≤ 6) (q : ∀ (x : Xp) (s : S), Xok ws sh 1 x → Gx a st s → Feed s a → Q x.d s) : Wp (F_law_leaf [.loc a, .loc nm] st) Q := by
  have l0 : ws.length ≠ 0 := fun h => h0 (List.length_eq_zero_iff.mp h)
  unfold F_law_leaf b_law_leaf
  refine wp_fn rfl ?_
  walk_at "zn"
  refine take_wp hf (by omega) (by omega) ?_
  intro k s1 k0 k1 g1 f1 l1
  walk_at "zz"
  · refine number_wp f1 ?_
    intro d s2 d0 d1 g2 f2
    walk_at "zz"
    exact q (.num d) s2 ⟨⟨d0, d1⟩, Nat.le_refl _⟩ (g1.trans g2) f2
  · refine take_wp f1 (by rw [List.length_map]; omega) (by rw [List.length_map]; omega) ?_
    intro j s2 j0 j1 g2 f2 l2
    rw [List.length_map] at j1
    refine wp_strIx (getL_of (g2.keep na (g1.keep na hn))) j0 j1 ?_
    intro z hz
    walk_at "zz"
    exact q (.nm z) s2 ⟨hz, Nat.le_refl _⟩ (g1.trans g2) f2
theorem deep_wp (hf : Feed st a) (q : ∀ (n : Nat) (s : S), 1 ≤ n → n ≤ 12 → Gx a st s → Feed s a → Q (.int n) s) : Wp (F_law_deep [.loc a] st) Q := by
  have q : ∀ (n : Int) (s : S), 1 ≤ n → n ≤ 12 → Gx a st s → Feed s a → Q (.int n) s := fun n s h0 h1 g f => by
    obtain ⟨n, rfl⟩ := Int.eq_ofNat_of_zero_le (show 0 ≤ n by omega)
    exact q n s (by omega) (by omega) g f
  unfold F_law_deep b_law_deep
  refine wp_fn rfl ?_
  walk_at "zn"
  refine take_wp hf (by omega) (by omega) ?_
  intro k s1 k0 k1 g1 f1 l1
  walk_at "zz"
  · exact q _ s1 (by omega) (by omega) g1 f1
  · refine take_wp f1 (by omega) (by omega) ?_
    intro j s2 j0 j1 g2 f2 l2
    walk_at "zz"
    exact q _ s2 (by omega) (by omega) (g1.trans g2) f2
  · refine take_wp f1 (by omega) (by omega) ?_
    intro j s2 j0 j1 g2 f2 l2
    walk_at "zz"
    exact q _ s2 (by omega) (by omega) (g1.trans g2) f2
end
end K02
end
section
set_option Elab.async false
set_option linter.all false
set_option maxRecDepth 100000
set_option maxHeartbeats 2000000
open PySem PySem.Spec PyProof.Rows L2 Z
local macro_rules | `(tactic| fail "zs") => `(tactic| first
  | assumption
  | with_reducible exact at_last
  | (with_reducible apply at_set; fail "zs")
  | (with_reducible apply at_app; fail "zs")
  | (with_reducible apply at_setne; (first | assumption | (apply Ne.symm; assumption) | omega); fail "zs")
  | (with_reducible refine Gr.keep (by assumption) ?_; fail "zs")
  | (with_reducible refine Gx.keep (by assumption) ?_ ?_; (first | assumption | (apply Ne.symm; assumption) | omega); fail "zs"))
local macro_rules | `(tactic| fail "zg") => `(tactic| first
  | assumption
  | (with_reducible apply getL_of; fail "zs")
  | (with_reducible apply getW_of; fail "zs")
  | (with_reducible apply getI_of; fail "zs"))
local macro_rules | `(tactic| fail "za") => `(tactic| first | (with_reducible apply atI_int; (first | assumption | omega); (first | assumption | omega | (simp only [List.length_set]; omega))) | with_unfolding_all exact rfl | assumption)
local macro_rules | `(tactic| fail "y0") => `(tactic| first
  | (with_reducible refine' wp_var ?z1 ?z2; (case z1 => with_unfolding_all exact rfl))
  | with_reducible refine wp_c2 ?_
  | with_reducible refine wp_cons ?_
  | with_reducible refine wp_c ?_
  | with_reducible refine wp_nil ?_
  | with_reducible refine wp_call ?_
  | with_reducible refine wp_c1 ?_)
local macro_rules | `(tactic| fail "y1") => `(tactic| first
  | with_reducible refine wp_set ?_
  | with_reducible refine wp_if ?_
  | with_reducible refine wp_next ?_
  | with_reducible refine wp_ret ?_
  | with_reducible refine af_nx ?_
  | with_reducible refine bk_rt ?_
  | (with_reducible refine' wp_ixL ?z1 ?z2 ?z3; (case z1 => fail "zg"); (case z2 => fail "za"))
  | (with_reducible refine' wp_ixT ?z1 ?z2; (case z1 => fail "za")))
local macro_rules | `(tactic| fail "y2") => `(tactic| first
  | with_reducible refine af_rt ?_
  | with_reducible refine af_bk ?_
  | with_reducible refine bk_nx ?_
  | with_reducible refine turned_nx ?_
  | with_reducible refine turned_bk ?_
  | with_reducible refine turned_rt ?_
  | with_reducible refine wp_and ?_
  | with_reducible refine wp_or ?_)
local macro_rules | `(tactic| fail "y3") => `(tactic| first
  | with_reducible refine wp_not ?_
  | with_reducible refine wp_sub ?_
  | with_reducible refine wp_subA ?_
  | with_reducible refine wp_chain ?_
  | with_reducible refine wp_neAI ?_
  | with_reducible refine wp_neAS ?_
  | with_reducible refine wp_dic0 ?_
  | with_reducible refine wp_drop ?_)
local macro_rules | `(tactic| fail "y4") => `(tactic| first
  | with_reducible refine wp_vK ?_
  | with_reducible refine wp_nox ?_
  | with_reducible refine wp_break ?_
  | with_reducible refine wp_retN ?_
  | with_reducible refine wp_sfld ?_
  | with_reducible refine wp_yes ?_
  | with_reducible refine wp_addI ?_
  | with_reducible refine wp_subI ?_)
local macro_rules | `(tactic| fail "y5") => `(tactic| first
  | with_reducible refine wp_neg ?_
  | with_reducible refine wp_eqI ?_
  | with_reducible refine wp_neI ?_
  | with_reducible refine wp_ltI ?_
  | with_reducible refine wp_leI ?_
  | with_reducible refine wp_gtI ?_
  | with_reducible refine wp_geI ?_
  | with_reducible refine wp_eqS ?_)
local macro_rules | `(tactic| fail "y6") => `(tactic| first
  | with_reducible refine wp_neS ?_
  | with_reducible refine wp_eqB ?_
  | with_reducible refine wp_isN ?_
  | with_reducible refine wp_isNotN ?_
  | with_reducible refine wp_int ?_
  | with_reducible refine wp_max2 ?_
  | with_reducible refine wp_min2 ?_
  | with_reducible refine wp_tr_bl ?_)
local macro_rules | `(tactic| fail "y7") => `(tactic| first
  | with_reducible refine wp_tr_int ?_
  | with_reducible refine wp_tupT ?_
  | with_reducible refine wp_slT ?_
  | with_reducible refine wp_nopart ?_
  | with_reducible refine wp_lst ?_
  | with_reducible refine wp_tup ?_
  | with_reducible refine wp_slice ?_
  | with_reducible refine wp_callK ?_)
local macro_rules | `(tactic| fail "y8") => `(tactic| first
  | with_reducible refine wp_make ?_
  | with_reducible refine wp_meth ?_
  | with_reducible refine wp_is ?_
  | with_reducible refine wp_vand ?_
  | with_reducible refine wp_vor ?_
  | with_reducible refine wp_vnot ?_
  | with_reducible refine wp_asg ?_
  | with_reducible refine wp_part ?_)
local macro_rules | `(tactic| fail "y9") => `(tactic| first
  | with_reducible refine wp_forR1 ?_
  | with_reducible refine wp_forR2 ?_
  | with_reducible refine wp_compR1 ?_
  | with_reducible refine wp_compR2 ?_
  | (with_reducible refine' wp_ixAL ?z1 ?z2 ?z3; (case z1 => fail "zg"); (case z2 => fail "za"))
  | (with_reducible refine' wp_ixAT ?z1 ?z2; (case z1 => fail "za"))
  | (with_reducible refine' and_isL ?z1 ?z2; (case z1 => fail "zg"))
  | (with_reducible refine' wp_append ?z1 ?z2 ?z3; (case z1 => fail "zg"); (case z2 => first | omega | (simp only [List.length_map, List.length_append, List.length_cons, List.length_nil]; omega))))
local macro_rules | `(tactic| fail "y10") => `(tactic| first
  | (with_reducible refine' wp_lenL ?z1 ?z2; (case z1 => fail "zg"))
  | with_reducible refine wp_lenT ?_
  | (with_reducible refine' wp_lenAL ?z1 ?z2; (case z1 => fail "zg"))
  | with_reducible refine wp_lenAT ?_
  | (with_reducible refine' wp_listL ?z1 ?z2; (case z1 => fail "zg"))
  | with_reducible refine wp_listT ?_
  | with_reducible refine ex_bl ?_
  | (with_reducible refine' ex_ty ?z1 ?z2 ?z3; (case z1 => with_unfolding_all exact rfl); (case z2 => with_unfolding_all exact rfl)))
local macro_rules | `(tactic| fail "y11") => `(tactic| first
  | (with_reducible refine' wp_mulT ?z1 ?z2 ?z3; (case z1 => omega); (case z2 => omega))
  | (with_reducible refine' wp_setF ?z1 ?z2 ?z3; (case z1 => fail "zg"); (case z2 => with_unfolding_all exact Nat.le_of_ble_eq_true rfl))
  | (with_reducible refine' wp_setInt ?z1 ?z2 ?z3 ?z4; (case z1 => fail "zg"); (case z2 => first | assumption | omega); (case z3 => first | assumption | omega | (simp only [List.length_set]; omega)))
  | (with_reducible refine' wp_setIx ?z1 ?z2 ?z3; (case z1 => fail "zg"); (case z2 => first | (with_reducible apply ixN_of; (first | assumption | omega); (first | assumption | omega | (rw [List.length_map]; omega))) | with_unfolding_all exact rfl | assumption))
  | (with_reducible refine' wp_setAI ?z1 ?z2 ?z3 ?z4; (case z1 => fail "zg"); (case z2 => first | assumption | omega); (case z3 => first | assumption | omega | (simp only [List.length_set]; omega)))
  | (with_reducible refine' wp_setAX ?z1 ?z2 ?z3; (case z1 => fail "zg"); (case z2 => first | (with_reducible apply ixN_of; (first | assumption | omega); (first | assumption | omega | (rw [List.length_map]; omega))) | with_unfolding_all exact rfl | assumption))
  | (with_reducible refine' wp_modI ?z1 ?z2; (case z1 => omega))
  | (with_reducible refine' wp_divA0 ?z1 ?z2 ?z3; (case z1 => omega); (case z2 => omega)))
local macro_rules | `(tactic| fail "y12") => `(tactic| first
  | (with_reducible refine' wp_mulA ?z1 ?z2; (case z1 => omega))
  | (with_reducible refine' wp_divI ?z1 ?z2 ?z3; (case z1 => omega); (case z2 => omega))
  | (with_reducible refine' wp_mulI ?z1 ?z2; (case z1 => omega))
  | (with_reducible refine' wp_powI ?z1 ?z2; (case z1 => with_unfolding_all decide))
  | (with_reducible refine' wp_fld ?z1 ?z2 ?z3; (case z1 => fail "zg"); (case z2 => first | with_unfolding_all exact rfl | assumption))
  | (with_reducible refine' wp_prop ?z1 ?z2; (case z1 => fail "zg"))
  | (with_reducible refine' wp_tupL ?z1 ?z2; (case z1 => fail "zg"))
  | (with_reducible refine' And.intro ?z1 ?z2; (case z1 => first | with_unfolding_all exact Nat.le_of_ble_eq_true rfl | with_unfolding_all decide)))
local macro_rules | `(tactic| fail "z0") => `(tactic| first | fail "y0" | fail "y1" | fail "y2" | fail "y3" | fail "y4" | fail "y5" | fail "y6" | fail "y7" | fail "y8" | fail "y9" | fail "y10" | fail "y11" | fail "y12")
local macro_rules | `(tactic| fail "z1") => `(tactic| first | with_reducible refine wp_seq ?_ | fail "z0")
local macro_rules | `(tactic| walk_at "z") => `(tactic| (repeat fail "z1"))
local macro_rules | `(tactic| fail "zb") => `(tactic| (with_reducible refine And.intro ?_ ?_; (all_goals (intro hb; first | (simp at hb; done) | (simp at hb; skip) | skip))))
local macro_rules | `(tactic| walk_at "zz") => `(tactic| (repeat' (first | fail "z1" | fail "zb")))
local macro_rules | `(tactic| walk_at "zy") => `(tactic| (repeat' (first | fail "z0" | fail "zb")))
local macro_rules | `(tactic| walk_at "zn") => `(tactic| (with_reducible refine wp_seq ?_; walk_at "zy"))
local macro_rules | `(tactic| walk_at "zs") => `(tactic| fail "zs")
local macro_rules | `(tactic| walk_at "zg") => `(tactic| fail "zg")
local macro_rules | `(tactic| walk_at "za") => `(tactic| fail "za")
local macro_rules | `(tactic| walk_at "z0") => `(tactic| fail "z0")
local macro_rules | `(tactic| walk_at "z1") => `(tactic| fail "z1")
local macro_rules | `(tactic| walk_at "zb") => `(tactic| fail "zb")
namespace K02
open PySem PySem.Spec PyProof.Rows L2 Z
local macro_rules | `(tactic| fail "zb") => `(tactic| (with_reducible refine And.intro ?_ ?_; (all_goals (intro hb; first | (exact absurd hb (by decide)) | (simp at hb; done) | (simp only [decide_eq_true_eq, decide_eq_false_iff_not, Bool.not_eq_true', Bool.not_eq_false'] at hb; skip) | skip))))
/-- all stands but a and r -/
structure Gy (a r : Nat) (s t : S) : Prop where
  len : s.length ≤ t.length
  at_ : ∀ n, n < s.length → n ≠ a → n ≠ r → t[n]? = s[n]?
theorem _root_.Z.Gx.gy {a r : Nat} {s t : S} (h : Gx a s t) : Gy a r s t := ⟨h.len, fun n l e _ => h.at_ n l e⟩
theorem _root_.Z.Gx.gyr {a r : Nat} {s t : S} (h : Gx r s t) : Gy a r s t := ⟨h.len, fun n l _ e => h.at_ n l e⟩
theorem Gy.trans {a r : Nat} {s t u : S} (h : Gy a r s t) (k : Gy a r t u) : Gy a r s u := ⟨Nat.le_trans h.len k.len, fun n l e f => (k.at_ n (Nat.lt_of_lt_of_le l h.len) e f).trans (h.at_ n l e f)⟩
theorem Gy.keep {a r n : Nat} {s t : S} {o : O} (h : Gy a r s t) (e : n ≠ a) (f : n ≠ r) (k : s[n]? = some o) : t[n]? = some o := (h.at_ n (at_lt k) e f).trans k
theorem Gy.setNew {a r n : Nat} {s t : S} {o : O} (h : Gy a r s t) (k : s.length ≤ n) : Gy a r s (t.set n o) := ⟨by rw [List.length_set]; exact h.len, fun m l e f => by rw [List.getElem?_set_ne (by omega)]; exact h.at_ m l e f⟩
def MN : List Str := ["leaf", "read", "op", "op", "op", "op", "op", "call"]
def Room (s : S) (r : Nat) : Prop := ∃ v : Int, s[r]? = some (.lst [.int v])
/-- what a tree is made of -/
structure Tr (a r nm ar mu : Nat) (ws sh : List Str) (s : S) : Prop where
  f : Feed s a
  v : Room s r
  n : s[nm]? = some (.lst (ws.map D.str))
  h : s[ar]? = some (.lst (sh.map D.str))
  m : ∃ mn : List Str, s[mu]? = some (.lst (mn.map D.str)) ∧ 0 < mn.length ∧ mn.length ≤ 8
structure Nq (a r nm ar mu : Nat) (ws sh : List Str) : Prop where
  e0 : r ≠ a
  n1 : nm ≠ a
  n2 : nm ≠ r
  r1 : ar ≠ a
  r2 : ar ≠ r
  m1 : mu ≠ a
  m2 : mu ≠ r
  w0 : ws ≠ []
  w1 : ws.length ≤ 6
  s0 : sh ≠ []
  s1 : sh.length ≤ 6
theorem wp_midR {b b2 : M Out} {es : Ev} {st : S} {Q : Out → S → Prop} (P : Ev → S → Prop) (h : Wp (b es st) (fun o s => (∃ e, o = .nx e ∧ P e s) ∨ After b2 Q o s)) (k : ∀ e s, P e s → Wp (b2 e s) Q) : Wp (sSeq b b2 es st) Q := wp_seq (h.mono fun o s h => by
  rcases h with ⟨e, rfl, p⟩ | h
  · exact k e s p
  · exact h)
theorem len2 : ∀ {ys : List Xp}, ys.length = 2 → ∃ x y, ys = [x, y]
  | [x, y], _ => ⟨x, y, rfl⟩
theorem len3 : ∀ {ys : List Xp}, ys.length = 3 → ∃ x y z, ys = [x, y, z]
  | [x, y, z], _ => ⟨x, y, z, rfl⟩
def SIGNS : List Str := ["+", "-", "*", "div", "mod", "+", "-", "*", "div", "mod", "<", "<=", ">", ">=", "=", "!="]
theorem int_bl {st : S} {Q : D → S → Prop} {b : Bool} (q : Q (.int (bi b)) st) : Wp (fInt [.bl b] st) Q := by
  cases b <;> exact q
section
variable {a r nm ar mu : Nat} {ws sh : List Str} {s t st : S} {Q : D → S → Prop}
theorem Tr.gx (T : Tr a r nm ar mu ws sh s) (N : Nq a r nm ar mu ws sh) (g : Gx a s t) (f : Feed t a) : Tr a r nm ar mu ws sh t := by
  obtain ⟨v, h⟩ := T.v
  obtain ⟨mn, em, hm⟩ := T.m
  exact ⟨f, ⟨v, g.keep N.e0 h⟩, g.keep N.n1 T.n, g.keep N.r1 T.h, mn, g.keep N.m1 em, hm⟩
theorem Tr.gr (T : Tr a r nm ar mu ws sh s) (g : Gr s t) : Tr a r nm ar mu ws sh t := by
  obtain ⟨v, h⟩ := T.v
  obtain ⟨mn, em, hm⟩ := T.m
  exact ⟨T.f.gr g, ⟨v, g.keep h⟩, g.keep T.n, g.keep T.h, mn, g.keep em, hm⟩
theorem Tr.gy (T : Tr a r nm ar mu ws sh s) (N : Nq a r nm ar mu ws sh) (g : Gy a r s t) (f : Feed t a) (v : Room t r) : Tr a r nm ar mu ws sh t := by
  obtain ⟨mn, em, hm⟩ := T.m
  exact ⟨f, v, g.keep N.n1 N.n2 T.n, g.keep N.r1 N.r2 T.h, mn, g.keep N.m1 N.m2 em, hm⟩
theorem Tr.setNew {n : Nat} {o : O} (T : Tr a r nm ar mu ws sh s) (e1 : n ≠ a) (e2 : n ≠ r) (e3 : n ≠ nm) (e4 : n ≠ ar) (e5 : n ≠ mu) : Tr a r nm ar mu ws sh (s.set n o) := by
  obtain ⟨v, h⟩ := T.v
  obtain ⟨mn, em, hm⟩ := T.m
  exact ⟨T.f.set e1, ⟨v, at_setne e2 h⟩, at_setne e3 T.n, at_setne e4 T.h, mn, at_setne e5 em, hm⟩
/-- a kind: the sort, the word, how many parts -/
inductive Kd (sh : List Str) : Str → Str → Int → Prop
  | rd {w : Str} : w ∈ sh → Kd sh "read" w 1
  | mn : Kd sh "call" "min" 2
  | mx : Kd sh "call" "max" 2
  | pick : Kd sh "call" "pick" 3
  | nth : Kd sh "call" "nth" 1
  | op {z w : Str} : z ≠ "read" → z ≠ "call" → w ∈ OPS → Kd sh z w 2
theorem signs_ops : ∀ w ∈ SIGNS, w ∈ OPS := by decide
def CALLS : List Str := ["min", "max", "pick", "nth"]
theorem calls_kd : ∀ z ∈ CALLS, Kd sh "call" z (2 + bi (decide (z = ("pick" : Str))) - bi (decide (z = ("nth" : Str)))) := by
  intro z hz
  unfold CALLS at hz
  simp only [List.mem_cons, List.not_mem_nil, or_false] at hz
  rcases hz with rfl | rfl | rfl | rfl
  · exact .mn
  · exact .mx
  · exact .pick
  · exact .nth
theorem Kd.b {z w : Str} {m : Int} (h : Kd sh z w m) : 1 ≤ m ∧ m ≤ 3 := by cases h <;> omega
def TreeR (R : List D → S → R D) (a r nm ar mu : Nat) (ws sh : List Str) (deep : Nat) : Prop := ∀ (tight : Bool) (st : S) (Q : D → S → Prop), Tr a r nm ar mu ws sh st → (∀ (x : Xp) (s : S), Xok ws sh deep x → Gy a r st s → Tr a r nm ar mu ws sh s → Q x.d s) → Wp (R [.loc a, .loc r, .int deep, .bl tight, .loc nm, .loc ar, .loc mu] st) Q
theorem tree_ih (N : Nq a r nm ar mu ws sh) : ∀ (n deep : Nat), 1 ≤ deep → deep ≤ n → deep ≤ 12 → TreeR (R_law_tree n) a r nm ar mu ws sh deep
  | 0, deep, h0, h1, _ => by omega
  | n + 1, deep, h0, h1, h12 => by
    intro tight st Q T q
    have ih : ∀ d : Nat, 1 ≤ d → d < deep → TreeR (R_law_tree n) a r nm ar mu ws sh d := fun d a b => tree_ih N n d a (by omega) (by omega)
    show Wp (fnD 14 7 (b_law_tree (R_law_tree n)) [.loc a, .loc r, .int deep, .bl tight, .loc nm, .loc ar, .loc mu] st) Q
    revert ih
    generalize R_law_tree n = R1
    intro ih
    have lw : ws.length ≠ 0 := fun h => N.w0 (List.length_eq_zero_iff.mp h)
    have ls : sh.length ≠ 0 := fun h => N.s0 (List.length_eq_zero_iff.mp h)
    have hw6 := N.w1
    have hs6 := N.s1
    have a1 := T.f.lt
    have a3 := at_lt T.n
    have a4 := at_lt T.h
    have a5 : mu < st.length := by
      obtain ⟨mn, em, -⟩ := T.m
      exact at_lt em
    have a2 : r < st.length := by
      obtain ⟨v, hv⟩ := T.v
      exact at_lt hv
    unfold b_law_tree
    refine wp_fn rfl ?_
    refine wp_mid (fun e s => e = [some (.loc a), some (.loc r), some (.int deep), some (.bl tight), some (.loc nm), some (.loc ar), some (.loc mu), none, none, none, none, none, none, none] ∧ Gy a r st s ∧ Tr a r nm ar mu ws sh s) ?_ ?_
    · obtain ⟨v, hv⟩ := T.v
      walk_at "zy"
      obtain ⟨mn, em, hm⟩ := T.m
      exact ⟨_, rfl, rfl, Gx.set.gyr, T.f.set N.e0, ⟨_, at_set hv⟩, at_setne N.n2.symm T.n, at_setne N.r2.symm T.h, mn, at_setne N.m2.symm em, hm⟩
    rintro e s1 ⟨rfl, g1, T1⟩
    clear T
    refine wp_mid (fun e s => ∃ z : Str, e = [some (.loc a), some (.loc r), some (.int deep), some (.bl tight), some (.loc nm), some (.loc ar), some (.loc mu), some (.str z), none, none, none, none, none, none] ∧ Gy a r st s ∧ Tr a r nm ar mu ws sh s) ?_ ?_
    · obtain ⟨mn, hm, mn0, mn1⟩ := T1.m
      walk_at "zy"
      refine take_wp T1.f (by rw [List.length_map]; omega) (by rw [List.length_map]; omega) ?_
      intro j s2 j0 j1 g2 f2 l2
      rw [List.length_map] at j1
      have T2 := T1.gx N g2 f2
      refine wp_strIx (getL_of (g2.keep N.m1 hm)) j0 j1 ?_
      intro z hz
      exact ⟨_, rfl, z, rfl, g1.trans g2.gy, T2⟩
    clear g1 T1 s1
    rintro e s1 ⟨z, rfl, g1, T1⟩
    refine wp_midR (fun e s => e = [some (.loc a), some (.loc r), some (.int deep), some (.bl tight), some (.loc nm), some (.loc ar), some (.loc mu), some (.str z), none, none, none, none, none, none] ∧ s = s1 ∧ 2 ≤ deep) ?_ ?_
    · obtain ⟨v, hv⟩ := T1.v
      have L : ∀ {Q : D → S → Prop}, (∀ (x : Xp) (s : S), Xok ws sh deep x → Gy a r st s → Tr a r nm ar mu ws sh s → Q x.d s) → Wp (F_law_leaf [.loc a, .loc nm] s1) Q := fun q => leaf_wp T1.f T1.n N.n1 N.w0 N.w1 fun x s hx g f => q x s ⟨hx.1, Nat.le_trans hx.2 h0⟩ (g1.trans g.gy) (T1.gx N g f)
      have R : ∀ {b2}, ∀ (x : Xp) (s : S), Xok ws sh deep x → Gy a r st s → Tr a r nm ar mu ws sh s → After b2 (Z.Back Q) (.rt x.d) s := fun x s h1 h2 h3 => q x s h1 h2 h3
      walk_at "zy"
      · exact L fun x s a b c => Or.inr (R x s a b c)
      · exact L fun x s a b c => Or.inr (R x s a b c)
      · exact L fun x s a b c => Or.inr (R x s a b c)
      · exact Or.inl ⟨_, rfl, rfl, rfl, by omega⟩
      · exact Or.inl ⟨_, rfl, rfl, rfl, by omega⟩
    rintro e _ ⟨rfl, rfl, d2⟩
    refine wp_mid (fun e s => ∃ m8, e = [some (.loc a), some (.loc r), some (.int deep), some (.bl tight), some (.loc nm), some (.loc ar), some (.loc mu), some (.str z), some (.loc m8), none, none, none, none, none] ∧ Gy a r st s ∧ Tr a r nm ar mu ws sh s ∧ s[m8]? = some (.lst (SIGNS.map D.str)) ∧ st.length ≤ m8) ?_ ?_
    · walk_at "zy"
      exact ⟨_, rfl, _, rfl, g1.trans Gx.app.gy, T1.gr Gr.app, at_last, g1.len⟩
    clear T1 g1
    rintro e s1 ⟨m8, rfl, g1, T1, e8, l8⟩
    refine wp_mid (fun e s => ∃ v8 w, e = [some (.loc a), some (.loc r), some (.int deep), some (.bl tight), some (.loc nm), some (.loc ar), some (.loc mu), some (.str z), v8, some (.str w), none, none, none, none] ∧ Gy a r st s ∧ Tr a r nm ar mu ws sh s ∧ w ∈ OPS) ?_ ?_
    · walk_at "zy"
      refine take_wp T1.f (by omega) (by omega) ?_
      intro j s2 j0 j1 g2 f2 l2
      refine wp_strIx (getL_of (g2.keep (by omega) e8)) j0 j1 ?_
      intro w hw
      exact ⟨_, rfl, _, w, rfl, g1.trans g2.gy, T1.gx N g2 f2, signs_ops w hw⟩
    clear T1 g1 e8 l8 s1
    rintro e s1 ⟨v8, w, rfl, g1, T1, wo⟩
    walk_at "zn"
    refine wp_mid (fun e s => ∃ w m, e = [some (.loc a), some (.loc r), some (.int deep), some (.bl tight), some (.loc nm), some (.loc ar), some (.loc mu), some (.str z), v8, some (.str w), some (.int m), none, none, none] ∧ Gy a r st s ∧ Tr a r nm ar mu ws sh s ∧ ((z = "read" ∧ w ∈ sh ∧ m = 1) ∨ (z ≠ "read" ∧ m = 2 ∧ w ∈ OPS))) ?_ ?_
    · have hr := T1.h
      walk_at "zy"
      · rename_i hb
        refine wp_seq ?_
        walk_at "zy"
        refine take_wp T1.f (by rw [List.length_map]; omega) (by rw [List.length_map]; omega) ?_
        intro j s2 j0 j1 g2 f2 l2
        rw [List.length_map] at j1
        have T2 := T1.gx N g2 f2
        refine wp_strIx (getL_of T2.h) j0 j1 ?_
        intro w hw
        walk_at "zy"
        exact ⟨_, rfl, w, _, rfl, g1.trans g2.gy, T2, Or.inl ⟨hb, hw, rfl⟩⟩
      · rename_i hb
        exact ⟨_, rfl, w, _, rfl, g1, T1, Or.inr ⟨hb, rfl, wo⟩⟩
    clear T1 g1 s1 wo w
    rintro e s1 ⟨w, m, rfl, g1, T1, hk⟩
    refine wp_mid (fun e s => ∃ w m, e = [some (.loc a), some (.loc r), some (.int deep), some (.bl tight), some (.loc nm), some (.loc ar), some (.loc mu), some (.str z), v8, some (.str w), some (.int m), none, none, none] ∧ Gy a r st s ∧ Tr a r nm ar mu ws sh s ∧ Kd sh z w m) ?_ ?_
    · walk_at "zy"
      · rename_i hb
        subst hb
        refine wp_seq ?_
        walk_at "zy"
        refine take_wp (T1.f.gr Gr.app) (by omega) (by omega) ?_
        intro j s2 j0 j1 g2 f2 l2
        have e9 : s2[s1.length]? = some (.lst (CALLS.map D.str)) := g2.keep (by have := g1.len; omega) at_last
        refine wp_strIx (getL_of e9) j0 j1 ?_
        intro w hw
        walk_at "zy"
        refine int_bl ?_
        walk_at "zy"
        refine int_bl ?_
        walk_at "zy"
        exact ⟨_, rfl, w, _, rfl, (g1.trans Gx.app.gy).trans g2.gy, (T1.gr Gr.app).gx N g2 f2, calls_kd w hw⟩
      · rename_i hb
        refine ⟨_, rfl, w, m, rfl, g1, T1, ?_⟩
        rcases hk with ⟨rfl, h, rfl⟩ | ⟨h, rfl, wo⟩
        · exact .rd h
        · exact .op h hb wo
    clear T1 g1 s1 w m hk
    rintro e s1 ⟨w, m, rfl, g1, T1, hk⟩
    obtain ⟨b1, b3⟩ := hk.b
    walk_at "zn"
    refine take_wp T1.f (by omega) (by omega) ?_
    intro sp s2 p0 p1 g2 f2 l2
    walk_at "zy"
    have T2 := T1.gx N g2 f2
    have G2 := g1.trans g2.gy
    have sl := G2.len
    clear T1 g1 g2 f2 l2
    walk_at "zn"
    refine wp_mid (fun e s => ∃ (v : Option D) (xs : List Xp), e = [some (.loc a), some (.loc r), some (.int deep), some (.bl tight), some (.loc nm), some (.loc ar), some (.loc mu), some (.str z), v8, some (.str w), some (.int m), some (.int sp), some (.loc s2.length), v] ∧ Gy a r st s ∧ Tr a r nm ar mu ws sh s ∧ s[s2.length]? = some (.lst (xs.map Xp.d)) ∧ (∀ x ∈ xs, Xok ws sh (deep - 1) x) ∧ xs.length = m) ?_ ?_
    · walk_at "zy"
      refine ⟨_, rfl, by omega, by omega, ?_⟩
      refine wp_forT (fun i e s => ∃ (v : Option D) (xs : List Xp), e = [some (.loc a), some (.loc r), some (.int deep), some (.bl tight), some (.loc nm), some (.loc ar), some (.loc mu), some (.str z), v8, some (.str w), some (.int m), some (.int sp), some (.loc s2.length), v] ∧ Gy a r st s ∧ Tr a r nm ar mu ws sh s ∧ s[s2.length]? = some (.lst (xs.map Xp.d)) ∧ (∀ x ∈ xs, Xok ws sh (deep - 1) x) ∧ xs.length = i) ⟨none, [], rfl, G2.trans Gx.app.gy, T2.gr Gr.app, at_last, (fun _ h => nomatch h), rfl⟩ ?_ ?_
      · rintro i d es s hd ⟨v, xs, rfl, g, T, e, hx, lx⟩
        obtain ⟨rfl, hi⟩ := get_range hd
        refine ⟨_, rfl, ?_⟩
        have fin : ∀ (x : Xp) (t : S) (k : D), Xok ws sh (deep - 1) x → Gy a r s t → Tr a r nm ar mu ws sh t → ∃ (v : Option D) (ys : List Xp), [some (.loc a), some (.loc r), some (.int deep), some (.bl tight), some (.loc nm), some (.loc ar), some (.loc mu), some (.str z), v8, some (.str w), some (.int m), some (.int sp), some (.loc s2.length), some k] = [some (.loc a), some (.loc r), some (.int deep), some (.bl tight), some (.loc nm), some (.loc ar), some (.loc mu), some (.str z), v8, some (.str w), some (.int m), some (.int sp), some (.loc s2.length), v] ∧ Gy a r st (t.set s2.length (.lst (xs.map Xp.d ++ [x.d]))) ∧ Tr a r nm ar mu ws sh (t.set s2.length (.lst (xs.map Xp.d ++ [x.d]))) ∧ (t.set s2.length (.lst (xs.map Xp.d ++ [x.d])))[s2.length]? = some (.lst (ys.map Xp.d)) ∧ (∀ x ∈ ys, Xok ws sh (deep - 1) x) ∧ ys.length = i + 1 := by
          intro x t k hk gt Tt
          refine ⟨_, xs ++ [x], rfl, (g.trans gt).setNew (by omega), Tt.setNew (by omega) (by omega) (by omega) (by omega) (by omega), ?_, ?_, by rw [List.length_append, lx]; rfl⟩
          · rw [List.map_append]
            exact at_set (gt.keep (by omega) (by omega) e)
          · intro y hy
            rcases List.mem_append.mp hy with hy | hy
            · exact hx y hy
            · rw [List.mem_singleton.mp hy]
              exact hk
        have one : (deep : Int) - 1 = ((deep - 1 : Nat) : Int) := by omega
        have lm : (xs.map Xp.d).length < 1000000 := by rw [List.length_map]; omega
        have free : ∀ (u : S) (b : Bool) (Q : D → S → Prop), Gy a r s u → Tr a r nm ar mu ws sh u → (∀ (x : Xp) (t : S), Xok ws sh (deep - 1) x → Gy a r s t → Tr a r nm ar mu ws sh t → Q x.d t) → Wp (F_law_take [.loc a, .int ((deep : Int) - 1)] u) fun j s => Wp (bAdd (.int 1) j s) fun y s => Wp (R1 [.loc a, .loc r, y, .bl b, .loc nm, .loc ar, .loc mu] s) Q := by
          intro u b Q gu Tu q
          refine take_wp Tu.f (by omega) (by omega) ?_
          intro j s3 j0 j1 g3 f3 l3
          refine wp_addI ?_
          rw [show (1 : Int) + j = ((1 + j.toNat : Nat) : Int) by omega]
          refine ih _ (by omega) (by omega) b s3 Q (Tu.gx N g3 f3) ?_
          intro x t hx gx Tx
          exact q x t ⟨hx.1, by have := hx.2; omega⟩ ((gu.trans g3.gy).trans gx) Tx
        walk_at "zy"
        · rw [one]
          refine ih _ (by omega) (by omega) true s _ T ?_
          intro x t hk gt Tt
          have et := gt.keep (by omega) (by omega) e
          walk_at "zy"
          exact fin x t _ hk gt Tt
        · refine free s false _ ⟨Nat.le_refl _, fun _ _ _ _ => rfl⟩ T ?_
          intro x t hk gt Tt
          have et := gt.keep (by omega) (by omega) e
          walk_at "zy"
          exact fin x t _ hk gt Tt
        · refine free s false _ ⟨Nat.le_refl _, fun _ _ _ _ => rfl⟩ T ?_
          intro x t hk gt Tt
          have et := gt.keep (by omega) (by omega) e
          walk_at "zy"
          exact fin x t _ hk gt Tt
      · rintro es s ⟨v, xs, rfl, g, T, e, hx, lx⟩
        rw [len_range] at lx
        exact ⟨_, rfl, v, xs, rfl, g, T, e, hx, by omega⟩
    rintro e s3 ⟨v, xs, rfl, g, T, e, hx, lx⟩
    have one : ∀ {ys : List Xp}, (ys.length : Int) = 1 → ∃ x, ys = [x] := fun h => List.length_eq_one_iff.mp (by omega)
    have two : ∀ {ys : List Xp}, (ys.length : Int) = 2 → ∃ x y, ys = [x, y] := fun h => len2 (by omega)
    have three : ∀ {ys : List Xp}, (ys.length : Int) = 3 → ∃ x y z, ys = [x, y, z] := fun h => len3 (by omega)
    cases hk with
    | rd hw =>
      obtain ⟨x, rfl⟩ := one lx
      have h1 := hx x (List.mem_cons_self ..)
      have h2 := h1.2
      simp only [List.map_cons, List.map_nil] at e
      walk_at "zz"
      exact q (.rd w x) s3 ⟨⟨hw, h1.1⟩, by show x.dep + 1 ≤ deep; omega⟩ g T
    | mn =>
      obtain ⟨x, y, rfl⟩ := two lx
      have h1 := hx x (List.mem_cons_self ..)
      have k1 := hx y (List.mem_cons_of_mem _ (List.mem_cons_self ..))
      have h2 := h1.2
      have k2 := k1.2
      simp only [List.map_cons, List.map_nil] at e
      walk_at "zz"
      exact q (.mn x y) s3 ⟨⟨h1.1, k1.1⟩, by show max x.dep y.dep + 1 ≤ deep; omega⟩ g T
    | mx =>
      obtain ⟨x, y, rfl⟩ := two lx
      have h1 := hx x (List.mem_cons_self ..)
      have k1 := hx y (List.mem_cons_of_mem _ (List.mem_cons_self ..))
      have h2 := h1.2
      have k2 := k1.2
      simp only [List.map_cons, List.map_nil] at e
      walk_at "zz"
      exact q (.mx x y) s3 ⟨⟨h1.1, k1.1⟩, by show max x.dep y.dep + 1 ≤ deep; omega⟩ g T
    | pick =>
      obtain ⟨x, y, z, rfl⟩ := three lx
      have h1 := hx x (List.mem_cons_self ..)
      have k1 := hx y (List.mem_cons_of_mem _ (List.mem_cons_self ..))
      have m1 := hx z (List.mem_cons_of_mem _ (List.mem_cons_of_mem _ (List.mem_cons_self ..)))
      have h2 := h1.2
      have k2 := k1.2
      have m2 := m1.2
      simp only [List.map_cons, List.map_nil] at e
      walk_at "zz"
      exact q (.pick x y z) s3 ⟨⟨h1.1, k1.1, m1.1⟩, by show max x.dep (max y.dep z.dep) + 1 ≤ deep; omega⟩ g T
    | nth =>
      obtain ⟨x, rfl⟩ := one lx
      have h1 := hx x (List.mem_cons_self ..)
      have h2 := h1.2
      simp only [List.map_cons, List.map_nil] at e
      walk_at "zz"
      exact q (.nth x) s3 ⟨h1.1, by show x.dep + 1 ≤ deep; omega⟩ g T
    | op z1 z2 wo =>
      obtain ⟨x, y, rfl⟩ := two lx
      have h1 := hx x (List.mem_cons_self ..)
      have k1 := hx y (List.mem_cons_of_mem _ (List.mem_cons_self ..))
      have h2 := h1.2
      have k2 := k1.2
      simp only [List.map_cons, List.map_nil] at e
      walk_at "zz"
      · exact absurd (by assumption) z1
      · exact absurd (by assumption) z2
      · exact q (.op w x y) s3 ⟨⟨wo, h1.1, k1.1⟩, by show max x.dep y.dep + 1 ≤ deep; omega⟩ g T
end
end K02
end
section
set_option Elab.async false
set_option linter.all false
set_option maxRecDepth 100000
set_option maxHeartbeats 2000000
open PySem PySem.Spec PyProof.Rows L2 Z
local macro_rules | `(tactic| fail "zs") => `(tactic| first
  | assumption
  | with_reducible exact at_last
  | (with_reducible apply at_set; fail "zs")
  | (with_reducible apply at_app; fail "zs")
  | (with_reducible apply at_setne; (first | assumption | (apply Ne.symm; assumption) | omega); fail "zs")
  | (with_reducible refine Gr.keep (by assumption) ?_; fail "zs")
  | (with_reducible refine Gx.keep (by assumption) ?_ ?_; (first | assumption | (apply Ne.symm; assumption) | omega); fail "zs"))
local macro_rules | `(tactic| fail "zg") => `(tactic| first
  | assumption
  | (with_reducible apply getL_of; fail "zs")
  | (with_reducible apply getW_of; fail "zs")
  | (with_reducible apply getI_of; fail "zs"))
local macro_rules | `(tactic| fail "za") => `(tactic| first | (with_reducible apply atI_int; (first | assumption | omega); (first | assumption | omega | (simp only [List.length_set]; omega))) | with_unfolding_all exact rfl | assumption)
local macro_rules | `(tactic| fail "y0") => `(tactic| first
  | (with_reducible refine' wp_var ?z1 ?z2; (case z1 => with_unfolding_all exact rfl))
  | with_reducible refine wp_c2 ?_
  | with_reducible refine wp_cons ?_
  | with_reducible refine wp_c ?_
  | with_reducible refine wp_nil ?_
  | with_reducible refine wp_call ?_
  | with_reducible refine wp_c1 ?_)
local macro_rules | `(tactic| fail "y1") => `(tactic| first
  | with_reducible refine wp_set ?_
  | with_reducible refine wp_if ?_
  | with_reducible refine wp_next ?_
  | with_reducible refine wp_ret ?_
  | with_reducible refine af_nx ?_
  | with_reducible refine bk_rt ?_
  | (with_reducible refine' wp_ixL ?z1 ?z2 ?z3; (case z1 => fail "zg"); (case z2 => fail "za"))
  | (with_reducible refine' wp_ixT ?z1 ?z2; (case z1 => fail "za")))
local macro_rules | `(tactic| fail "y2") => `(tactic| first
  | with_reducible refine af_rt ?_
  | with_reducible refine af_bk ?_
  | with_reducible refine bk_nx ?_
  | with_reducible refine turned_nx ?_
  | with_reducible refine turned_bk ?_
  | with_reducible refine turned_rt ?_
  | with_reducible refine wp_and ?_
  | with_reducible refine wp_or ?_)
local macro_rules | `(tactic| fail "y3") => `(tactic| first
  | with_reducible refine wp_not ?_
  | with_reducible refine wp_sub ?_
  | with_reducible refine wp_subA ?_
  | with_reducible refine wp_chain ?_
  | with_reducible refine wp_neAI ?_
  | with_reducible refine wp_neAS ?_
  | with_reducible refine wp_dic0 ?_
  | with_reducible refine wp_drop ?_)
local macro_rules | `(tactic| fail "y4") => `(tactic| first
  | with_reducible refine wp_vK ?_
  | with_reducible refine wp_nox ?_
  | with_reducible refine wp_break ?_
  | with_reducible refine wp_retN ?_
  | with_reducible refine wp_sfld ?_
  | with_reducible refine wp_yes ?_
  | with_reducible refine wp_addI ?_
  | with_reducible refine wp_subI ?_)
local macro_rules | `(tactic| fail "y5") => `(tactic| first
  | with_reducible refine wp_neg ?_
  | with_reducible refine wp_eqI ?_
  | with_reducible refine wp_neI ?_
  | with_reducible refine wp_ltI ?_
  | with_reducible refine wp_leI ?_
  | with_reducible refine wp_gtI ?_
  | with_reducible refine wp_geI ?_
  | with_reducible refine wp_eqS ?_)
local macro_rules | `(tactic| fail "y6") => `(tactic| first
  | with_reducible refine wp_neS ?_
  | with_reducible refine wp_eqB ?_
  | with_reducible refine wp_isN ?_
  | with_reducible refine wp_isNotN ?_
  | with_reducible refine wp_int ?_
  | with_reducible refine wp_max2 ?_
  | with_reducible refine wp_min2 ?_
  | with_reducible refine wp_tr_bl ?_)
local macro_rules | `(tactic| fail "y7") => `(tactic| first
  | with_reducible refine wp_tr_int ?_
  | with_reducible refine wp_tupT ?_
  | with_reducible refine wp_slT ?_
  | with_reducible refine wp_nopart ?_
  | with_reducible refine wp_lst ?_
  | with_reducible refine wp_tup ?_
  | with_reducible refine wp_slice ?_
  | with_reducible refine wp_callK ?_)
local macro_rules | `(tactic| fail "y8") => `(tactic| first
  | with_reducible refine wp_make ?_
  | with_reducible refine wp_meth ?_
  | with_reducible refine wp_is ?_
  | with_reducible refine wp_vand ?_
  | with_reducible refine wp_vor ?_
  | with_reducible refine wp_vnot ?_
  | with_reducible refine wp_asg ?_
  | with_reducible refine wp_part ?_)
local macro_rules | `(tactic| fail "y9") => `(tactic| first
  | with_reducible refine wp_forR1 ?_
  | with_reducible refine wp_forR2 ?_
  | with_reducible refine wp_compR1 ?_
  | with_reducible refine wp_compR2 ?_
  | (with_reducible refine' wp_ixAL ?z1 ?z2 ?z3; (case z1 => fail "zg"); (case z2 => fail "za"))
  | (with_reducible refine' wp_ixAT ?z1 ?z2; (case z1 => fail "za"))
  | (with_reducible refine' and_isL ?z1 ?z2; (case z1 => fail "zg"))
  | (with_reducible refine' wp_append ?z1 ?z2 ?z3; (case z1 => fail "zg"); (case z2 => first | omega | (simp only [List.length_map, List.length_append, List.length_cons, List.length_nil]; omega))))
local macro_rules | `(tactic| fail "y10") => `(tactic| first
  | (with_reducible refine' wp_lenL ?z1 ?z2; (case z1 => fail "zg"))
  | with_reducible refine wp_lenT ?_
  | (with_reducible refine' wp_lenAL ?z1 ?z2; (case z1 => fail "zg"))
  | with_reducible refine wp_lenAT ?_
  | (with_reducible refine' wp_listL ?z1 ?z2; (case z1 => fail "zg"))
  | with_reducible refine wp_listT ?_
  | with_reducible refine ex_bl ?_
  | (with_reducible refine' ex_ty ?z1 ?z2 ?z3; (case z1 => with_unfolding_all exact rfl); (case z2 => with_unfolding_all exact rfl)))
local macro_rules | `(tactic| fail "y11") => `(tactic| first
  | (with_reducible refine' wp_mulT ?z1 ?z2 ?z3; (case z1 => omega); (case z2 => omega))
  | (with_reducible refine' wp_setF ?z1 ?z2 ?z3; (case z1 => fail "zg"); (case z2 => with_unfolding_all exact Nat.le_of_ble_eq_true rfl))
  | (with_reducible refine' wp_setInt ?z1 ?z2 ?z3 ?z4; (case z1 => fail "zg"); (case z2 => first | assumption | omega); (case z3 => first | assumption | omega | (simp only [List.length_set]; omega)))
  | (with_reducible refine' wp_setIx ?z1 ?z2 ?z3; (case z1 => fail "zg"); (case z2 => first | (with_reducible apply ixN_of; (first | assumption | omega); (first | assumption | omega | (rw [List.length_map]; omega))) | with_unfolding_all exact rfl | assumption))
  | (with_reducible refine' wp_setAI ?z1 ?z2 ?z3 ?z4; (case z1 => fail "zg"); (case z2 => first | assumption | omega); (case z3 => first | assumption | omega | (simp only [List.length_set]; omega)))
  | (with_reducible refine' wp_setAX ?z1 ?z2 ?z3; (case z1 => fail "zg"); (case z2 => first | (with_reducible apply ixN_of; (first | assumption | omega); (first | assumption | omega | (rw [List.length_map]; omega))) | with_unfolding_all exact rfl | assumption))
  | (with_reducible refine' wp_modI ?z1 ?z2; (case z1 => omega))
  | (with_reducible refine' wp_divA0 ?z1 ?z2 ?z3; (case z1 => omega); (case z2 => omega)))
local macro_rules | `(tactic| fail "y12") => `(tactic| first
  | (with_reducible refine' wp_mulA ?z1 ?z2; (case z1 => omega))
  | (with_reducible refine' wp_divI ?z1 ?z2 ?z3; (case z1 => omega); (case z2 => omega))
  | (with_reducible refine' wp_mulI ?z1 ?z2; (case z1 => omega))
  | (with_reducible refine' wp_powI ?z1 ?z2; (case z1 => with_unfolding_all decide))
  | (with_reducible refine' wp_fld ?z1 ?z2 ?z3; (case z1 => fail "zg"); (case z2 => first | with_unfolding_all exact rfl | assumption))
  | (with_reducible refine' wp_prop ?z1 ?z2; (case z1 => fail "zg"))
  | (with_reducible refine' wp_tupL ?z1 ?z2; (case z1 => fail "zg"))
  | (with_reducible refine' And.intro ?z1 ?z2; (case z1 => first | with_unfolding_all exact Nat.le_of_ble_eq_true rfl | with_unfolding_all decide)))
local macro_rules | `(tactic| fail "z0") => `(tactic| first | fail "y0" | fail "y1" | fail "y2" | fail "y3" | fail "y4" | fail "y5" | fail "y6" | fail "y7" | fail "y8" | fail "y9" | fail "y10" | fail "y11" | fail "y12")
local macro_rules | `(tactic| fail "z1") => `(tactic| first | with_reducible refine wp_seq ?_ | fail "z0")
local macro_rules | `(tactic| walk_at "z") => `(tactic| (repeat fail "z1"))
local macro_rules | `(tactic| fail "zb") => `(tactic| (with_reducible refine And.intro ?_ ?_; (all_goals (intro hb; first | (simp at hb; done) | (simp at hb; skip) | skip))))
local macro_rules | `(tactic| walk_at "zz") => `(tactic| (repeat' (first | fail "z1" | fail "zb")))
local macro_rules | `(tactic| walk_at "zy") => `(tactic| (repeat' (first | fail "z0" | fail "zb")))
local macro_rules | `(tactic| walk_at "zn") => `(tactic| (with_reducible refine wp_seq ?_; walk_at "zy"))
local macro_rules | `(tactic| walk_at "zs") => `(tactic| fail "zs")
local macro_rules | `(tactic| walk_at "zg") => `(tactic| fail "zg")
local macro_rules | `(tactic| walk_at "za") => `(tactic| fail "za")
local macro_rules | `(tactic| walk_at "z0") => `(tactic| fail "z0")
local macro_rules | `(tactic| walk_at "z1") => `(tactic| fail "z1")
local macro_rules | `(tactic| walk_at "zb") => `(tactic| fail "zb")
namespace K02
open PySem PySem.Spec PyProof.Rows L2 Z
local macro_rules | `(tactic| fail "zb") => `(tactic| (with_reducible refine And.intro ?_ ?_; (all_goals (intro hb; first | (exact absurd hb (by decide)) | (simp at hb; done) | (simp only [decide_eq_true_eq, decide_eq_false_iff_not, Bool.not_eq_true', Bool.not_eq_false'] at hb; skip) | skip))))
/-! parts, subs -/
def sz : Nat → Nat
  | 0 => 0
  | n + 1 => 1 + 3 * sz n
theorem sz_mono : ∀ {m n : Nat}, m ≤ n → sz m ≤ sz n
  | 0, n, _ => Nat.zero_le _
  | m + 1, 0, h => by omega
  | m + 1, n + 1, h => by
    have := sz_mono (m := m) (n := n) (by omega)
    show 1 + 3 * sz m ≤ 1 + 3 * sz n
    omega
theorem sz12 : sz 12 = 265720 := rfl
theorem parts3 (x : Xp) : x.parts.length ≤ 3 := by cases x <;> simp [Xp.parts]
theorem parts_ok {ws sh : List Str} : ∀ {x p : Xp}, x.ok ws sh → p ∈ x.parts → p.ok ws sh
  | .num _, p, _, h => nomatch h
  | .nm _, p, _, h => nomatch h
  | .rd _ x, p, o, h => by
    rw [List.mem_singleton.mp h]
    exact o.2
  | .nth x, p, o, h => by
    rw [List.mem_singleton.mp h]
    exact o
  | .op _ l r, p, o, h => by
    rcases List.mem_cons.mp h with rfl | h
    · exact o.2.1
    · rw [List.mem_singleton.mp h]
      exact o.2.2
  | .mn l r, p, o, h => by
    rcases List.mem_cons.mp h with rfl | h
    · exact o.1
    · rw [List.mem_singleton.mp h]
      exact o.2
  | .mx l r, p, o, h => by
    rcases List.mem_cons.mp h with rfl | h
    · exact o.1
    · rw [List.mem_singleton.mp h]
      exact o.2
  | .pick x y z, p, o, h => by
    rcases List.mem_cons.mp h with rfl | h
    · exact o.1
    rcases List.mem_cons.mp h with rfl | h
    · exact o.2.1
    rw [List.mem_singleton.mp h]
    exact o.2.2
section
variable {ws sh : List Str} {s t st : S} {Q : D → S → Prop}
theorem lparts_wp {x : Xp} (q : ∀ s, Gr st s → s[st.length]? = some (.lst (x.parts.map Xp.d)) → Q (.loc st.length) s) : Wp (F_law_parts [x.d] st) Q := by
  unfold F_law_parts b_law_parts
  cases x with
  | num n =>
    simp only [Xp.d, Xp.parts, List.map_cons, List.map_nil] at *
    refine wp_fn rfl ?_
    walk_at "zz"
    exact q _ Gr.app at_last
  | nm n =>
    simp only [Xp.d, Xp.parts, List.map_cons, List.map_nil] at *
    refine wp_fn rfl ?_
    walk_at "zz"
    exact q _ Gr.app at_last
  | rd a x =>
    simp only [Xp.d, Xp.parts, List.map_cons, List.map_nil] at *
    refine wp_fn rfl ?_
    walk_at "zz"
    exact q _ Gr.app at_last
  | op a x y =>
    simp only [Xp.d, Xp.parts, List.map_cons, List.map_nil] at *
    refine wp_fn rfl ?_
    walk_at "zz"
    exact q _ Gr.app at_last
  | mn x y =>
    simp only [Xp.d, Xp.parts, List.map_cons, List.map_nil] at *
    refine wp_fn rfl ?_
    walk_at "zz"
    exact q _ Gr.app at_last
  | mx x y =>
    simp only [Xp.d, Xp.parts, List.map_cons, List.map_nil] at *
    refine wp_fn rfl ?_
    walk_at "zz"
    exact q _ Gr.app at_last
  | nth x =>
    simp only [Xp.d, Xp.parts, List.map_cons, List.map_nil] at *
    refine wp_fn rfl ?_
    walk_at "zz"
    exact q _ Gr.app at_last
  | pick x y z =>
    simp only [Xp.d, Xp.parts, List.map_cons, List.map_nil] at *
    refine wp_fn rfl ?_
    walk_at "zz"
    exact q _ Gr.app at_last
def SubR (R : List D → S → R D) (ws sh : List Str) (k : Nat) (x : Xp) : Prop := ∀ (s : S) (Q : D → S → Prop), (∀ (l : Nat) (xs : List Xp) (t : S), Gr s t → t[l]? = some (.lst (xs.map Xp.d)) → s.length ≤ l → (∀ y ∈ xs, Xok ws sh 12 y) → xs.length ≤ sz k → Q (.loc l) t) → Wp (R [x.d] s) Q
theorem subs_ih : ∀ (n k : Nat) (x : Xp), Xok ws sh k x → k ≤ n → k ≤ 12 → SubR (R_law_subs n) ws sh k x
  | 0, k, x, h, h2, _ => by
    have := h.2
    cases x <;> simp [Xp.dep] at this <;> omega
  | n + 1, k, x, h, h2, h3 => by
    intro s Q q
    have ih : ∀ p ∈ x.parts, SubR (R_law_subs n) ws sh (k - 1) p := fun p hp => subs_ih n (k - 1) p ⟨parts_ok h.1 hp, by have := part_dep hp; have := h.2; omega⟩ (by omega) (by omega)
    have k1 : 1 ≤ k := by
      have := h.2
      cases x <;> simp [Xp.dep] at this <;> omega
    have szk : sz k = 1 + 3 * sz (k - 1) := by
      rw [show k = (k - 1) + 1 by omega]
      rfl
    have szb : sz k ≤ 265720 := sz12 ▸ sz_mono h3
    have p3 := parts3 x
    show Wp (fnD 3 1 (b_law_subs (R_law_subs n)) [x.d] s) Q
    revert ih
    generalize R_law_subs n = R1
    intro ih
    unfold b_law_subs
    refine wp_fn rfl ?_
    walk_at "zn"
    refine wp_mid (fun e t => ∃ (m : Nat) (v : Option D) (xs : List Xp), e = [some x.d, some (.loc m), v] ∧ Gr s t ∧ t[m]? = some (.lst (xs.map Xp.d)) ∧ s.length ≤ m ∧ (∀ y ∈ xs, Xok ws sh 12 y) ∧ xs.length ≤ sz k) ?_ ?_
    · refine wp_for_loc ?_
      walk_at "zy"
      refine lparts_wp ?_
      intro s1 g1 e1
      refine ⟨_, rfl, ?_⟩
      refine wp_forL (xs := x.parts.map Xp.d) (fun i e t => ∃ (m : Nat) (v : Option D) (xs : List Xp), e = [some x.d, some (.loc m), v] ∧ Gr s1 t ∧ t[m]? = some (.lst (xs.map Xp.d)) ∧ s.length ≤ m ∧ (∀ y ∈ xs, Xok ws sh 12 y) ∧ xs.length ≤ 1 + i * sz (k - 1)) ⟨_, none, [x], rfl, Gr.refl, g1.keep at_last, Nat.le_refl _, ?_, by simp⟩ ?_ (by rw [List.length_map]; omega) ?_ ?_
      · intro y hy
        rw [List.mem_singleton.mp hy]
        exact ⟨h.1, Nat.le_trans h.2 h3⟩
      · rintro i es t - ⟨m, v, xs, rfl, g, e, l, hx, lx⟩
        exact getL_of (g.keep e1)
      · rintro i d es t hd ⟨m, v, xs, rfl, g, e, l, hx, lx⟩
        rw [List.getElem?_map] at hd
        cases ep : x.parts[i]? with
        | none => rw [ep] at hd; cases hd
        | some p =>
          rw [ep] at hd
          cases hd
          have hi := (List.getElem?_eq_some_iff.mp ep).1
          refine ⟨_, rfl, ?_⟩
          walk_at "zy"
          refine ih p (List.mem_of_getElem? ep) t _ ?_
          intro l2 ys t2 g2 e2 ll hy ly
          have lt : xs.length + ys.length ≤ 1 + (i + 1) * sz (k - 1) := by
            rw [Nat.add_mul, Nat.one_mul]
            omega
          have lb : (i + 1) * sz (k - 1) ≤ 3 * sz (k - 1) := Nat.mul_le_mul_right _ (by omega)
          refine wp_addL (getW_of (g2.keep e)) (getW_of e2) (by rw [List.length_map, List.length_map]; omega) ?_
          walk_at "zy"
          have l3 : s.length ≤ t2.length := by
            have := (Gr.app (s := s) (t := [O.lst [x.d]])).len
            have a1 := g1.len
            have a2 := g.len
            have a3 := g2.len
            omega
          refine ⟨_, _, xs ++ ys, rfl, (g.trans g2).trans Gr.app, ?_, l3, ?_, by rw [List.length_append]; exact lt⟩
          · rw [List.map_append]
            exact at_last
          · intro y hy2
            rcases List.mem_append.mp hy2 with hy2 | hy2
            · exact hx y hy2
            · exact hy y hy2
      · rintro es t ⟨m, v, xs, rfl, g, e, l, hx, lx⟩
        rw [List.length_map] at lx
        have lb : x.parts.length * sz (k - 1) ≤ 3 * sz (k - 1) := Nat.mul_le_mul_right _ (by omega)
        exact ⟨_, rfl, m, v, xs, rfl, (Gr.app.trans g1).trans g, e, l, hx, by omega⟩
    rintro es t ⟨m, v, xs, rfl, g, e, l, hx, lx⟩
    walk_at "zz"
    exact q m xs t g e l hx lx
/-! valued -/
theorem whole_wp {n : Int} (q : Q (.bl true) st) : Wp (F_law_whole [.int n] st) Q := by
  unfold F_law_whole b_law_whole
  refine wp_fn rfl ?_
  walk_at "zz"
  refine ⟨_, true, rfl, rfl, true, rfl, fun _ => ?_, fun h => nomatch h⟩
  walk_at "zz"
  exact ⟨_, false, rfl, rfl, false, rfl, q⟩
end
end K02
end
section
set_option Elab.async false
set_option linter.all false
set_option maxRecDepth 100000
set_option maxHeartbeats 400000
/-! ZY: rules for runs that raise, try, own ==, enumerate. -/
namespace Z
open PySem PySem.Spec PyProof.Rows L2
section
variable {α β : Type} {es : Ev} {st s : S} {QD : D → S → Prop} {QO : Out → S → Prop} {QB : Bool → S → Prop} {m ma : M D} {mA mK : M (List D)} {b b2 : M Out} {mc : M Bool} {d : D}
/-- the run raises, and Q holds of it -/
def Wx (r : R α) (Q : Nat → List (Str × D) → S → Prop) : Prop := match r with
  | .exc c fs s => Q c fs s
  | _ => False
variable {Qx : Nat → List (Str × D) → S → Prop}
theorem Wx.exc {r : R α} (h : Wx r Qx) : ∃ c fs s, r = .exc c fs s ∧ Qx c fs s := by
  cases r with
  | ok a s => exact h.elim
  | exc c fs s => exact ⟨c, fs, s, rfl, h⟩
  | bad => exact h.elim
theorem wp_try0 {sub : Nat → Option Bool} {ms : M Out} (h : Wp (b es st) QO) : Wp (sTry0 b sub ms es st) QO := by
  obtain ⟨a, s, e, q⟩ := h.ok
  unfold sTry0
  rw [e]
  exact q
end
end Z
end
section
set_option Elab.async false
set_option linter.all false
set_option maxRecDepth 100000
set_option maxHeartbeats 4000000
open PySem PySem.Spec PyProof.Rows L2 Z
local macro_rules | `(tactic| fail "zs") => `(tactic| first
  | assumption
  | with_reducible exact at_last
  | (with_reducible apply at_set; fail "zs")
  | (with_reducible apply at_app; fail "zs")
  | (with_reducible apply at_setne; (first | assumption | (apply Ne.symm; assumption) | omega); fail "zs")
  | (with_reducible refine Gr.keep (by assumption) ?_; fail "zs")
  | (with_reducible refine Gx.keep (by assumption) ?_ ?_; (first | assumption | (apply Ne.symm; assumption) | omega); fail "zs"))
local macro_rules | `(tactic| fail "zg") => `(tactic| first
  | assumption
  | (with_reducible apply getL_of; fail "zs")
  | (with_reducible apply getW_of; fail "zs")
  | (with_reducible apply getI_of; fail "zs"))
local macro_rules | `(tactic| fail "za") => `(tactic| first | (with_reducible apply atI_int; (first | assumption | omega); (first | assumption | omega | (simp only [List.length_set]; omega))) | with_unfolding_all exact rfl | assumption)
local macro_rules | `(tactic| fail "y0") => `(tactic| first
  | (with_reducible refine' wp_var ?z1 ?z2; (case z1 => with_unfolding_all exact rfl))
  | with_reducible refine wp_c2 ?_
  | with_reducible refine wp_cons ?_
  | with_reducible refine wp_c ?_
  | with_reducible refine wp_nil ?_
  | with_reducible refine wp_call ?_
  | with_reducible refine wp_c1 ?_)
local macro_rules | `(tactic| fail "y1") => `(tactic| first
  | with_reducible refine wp_set ?_
  | with_reducible refine wp_if ?_
  | with_reducible refine wp_next ?_
  | with_reducible refine wp_ret ?_
  | with_reducible refine af_nx ?_
  | with_reducible refine bk_rt ?_
  | (with_reducible refine' wp_ixL ?z1 ?z2 ?z3; (case z1 => fail "zg"); (case z2 => fail "za"))
  | (with_reducible refine' wp_ixT ?z1 ?z2; (case z1 => fail "za")))
local macro_rules | `(tactic| fail "y2") => `(tactic| first
  | with_reducible refine af_rt ?_
  | with_reducible refine af_bk ?_
  | with_reducible refine bk_nx ?_
  | with_reducible refine turned_nx ?_
  | with_reducible refine turned_bk ?_
  | with_reducible refine turned_rt ?_
  | with_reducible refine wp_and ?_
  | with_reducible refine wp_or ?_)
local macro_rules | `(tactic| fail "y3") => `(tactic| first
  | with_reducible refine wp_not ?_
  | with_reducible refine wp_sub ?_
  | with_reducible refine wp_subA ?_
  | with_reducible refine wp_chain ?_
  | with_reducible refine wp_neAI ?_
  | with_reducible refine wp_neAS ?_
  | with_reducible refine wp_dic0 ?_
  | with_reducible refine wp_drop ?_)
local macro_rules | `(tactic| fail "y4") => `(tactic| first
  | with_reducible refine wp_vK ?_
  | with_reducible refine wp_nox ?_
  | with_reducible refine wp_break ?_
  | with_reducible refine wp_retN ?_
  | with_reducible refine wp_sfld ?_
  | with_reducible refine wp_yes ?_
  | with_reducible refine wp_addI ?_
  | with_reducible refine wp_subI ?_)
local macro_rules | `(tactic| fail "y5") => `(tactic| first
  | with_reducible refine wp_neg ?_
  | with_reducible refine wp_eqI ?_
  | with_reducible refine wp_neI ?_
  | with_reducible refine wp_ltI ?_
  | with_reducible refine wp_leI ?_
  | with_reducible refine wp_gtI ?_
  | with_reducible refine wp_geI ?_
  | with_reducible refine wp_eqS ?_)
local macro_rules | `(tactic| fail "y6") => `(tactic| first
  | with_reducible refine wp_neS ?_
  | with_reducible refine wp_eqB ?_
  | with_reducible refine wp_isN ?_
  | with_reducible refine wp_isNotN ?_
  | with_reducible refine wp_int ?_
  | with_reducible refine wp_max2 ?_
  | with_reducible refine wp_min2 ?_
  | with_reducible refine wp_tr_bl ?_)
local macro_rules | `(tactic| fail "y7") => `(tactic| first
  | with_reducible refine wp_tr_int ?_
  | with_reducible refine wp_tupT ?_
  | with_reducible refine wp_slT ?_
  | with_reducible refine wp_nopart ?_
  | with_reducible refine wp_lst ?_
  | with_reducible refine wp_tup ?_
  | with_reducible refine wp_slice ?_
  | with_reducible refine wp_callK ?_)
local macro_rules | `(tactic| fail "y8") => `(tactic| first
  | with_reducible refine wp_make ?_
  | with_reducible refine wp_meth ?_
  | with_reducible refine wp_is ?_
  | with_reducible refine wp_vand ?_
  | with_reducible refine wp_vor ?_
  | with_reducible refine wp_vnot ?_
  | with_reducible refine wp_asg ?_
  | with_reducible refine wp_part ?_)
local macro_rules | `(tactic| fail "y9") => `(tactic| first
  | with_reducible refine wp_forR1 ?_
  | with_reducible refine wp_forR2 ?_
  | with_reducible refine wp_compR1 ?_
  | with_reducible refine wp_compR2 ?_
  | (with_reducible refine' wp_ixAL ?z1 ?z2 ?z3; (case z1 => fail "zg"); (case z2 => fail "za"))
  | (with_reducible refine' wp_ixAT ?z1 ?z2; (case z1 => fail "za"))
  | (with_reducible refine' and_isL ?z1 ?z2; (case z1 => fail "zg"))
  | (with_reducible refine' wp_append ?z1 ?z2 ?z3; (case z1 => fail "zg"); (case z2 => first | omega | (simp only [List.length_map, List.length_append, List.length_cons, List.length_nil]; omega))))
local macro_rules | `(tactic| fail "y10") => `(tactic| first
  | (with_reducible refine' wp_lenL ?z1 ?z2; (case z1 => fail "zg"))
  | with_reducible refine wp_lenT ?_
  | (with_reducible refine' wp_lenAL ?z1 ?z2; (case z1 => fail "zg"))
  | with_reducible refine wp_lenAT ?_
  | (with_reducible refine' wp_listL ?z1 ?z2; (case z1 => fail "zg"))
  | with_reducible refine wp_listT ?_
  | with_reducible refine ex_bl ?_
  | (with_reducible refine' ex_ty ?z1 ?z2 ?z3; (case z1 => with_unfolding_all exact rfl); (case z2 => with_unfolding_all exact rfl)))
local macro_rules | `(tactic| fail "y11") => `(tactic| first
  | (with_reducible refine' wp_mulT ?z1 ?z2 ?z3; (case z1 => omega); (case z2 => omega))
  | (with_reducible refine' wp_setF ?z1 ?z2 ?z3; (case z1 => fail "zg"); (case z2 => with_unfolding_all exact Nat.le_of_ble_eq_true rfl))
  | (with_reducible refine' wp_setInt ?z1 ?z2 ?z3 ?z4; (case z1 => fail "zg"); (case z2 => first | assumption | omega); (case z3 => first | assumption | omega | (simp only [List.length_set]; omega)))
  | (with_reducible refine' wp_setIx ?z1 ?z2 ?z3; (case z1 => fail "zg"); (case z2 => first | (with_reducible apply ixN_of; (first | assumption | omega); (first | assumption | omega | (rw [List.length_map]; omega))) | with_unfolding_all exact rfl | assumption))
  | (with_reducible refine' wp_setAI ?z1 ?z2 ?z3 ?z4; (case z1 => fail "zg"); (case z2 => first | assumption | omega); (case z3 => first | assumption | omega | (simp only [List.length_set]; omega)))
  | (with_reducible refine' wp_setAX ?z1 ?z2 ?z3; (case z1 => fail "zg"); (case z2 => first | (with_reducible apply ixN_of; (first | assumption | omega); (first | assumption | omega | (rw [List.length_map]; omega))) | with_unfolding_all exact rfl | assumption))
  | (with_reducible refine' wp_modI ?z1 ?z2; (case z1 => omega))
  | (with_reducible refine' wp_divA0 ?z1 ?z2 ?z3; (case z1 => omega); (case z2 => omega)))
local macro_rules | `(tactic| fail "y12") => `(tactic| first
  | (with_reducible refine' wp_mulA ?z1 ?z2; (case z1 => omega))
  | (with_reducible refine' wp_divI ?z1 ?z2 ?z3; (case z1 => omega); (case z2 => omega))
  | (with_reducible refine' wp_mulI ?z1 ?z2; (case z1 => omega))
  | (with_reducible refine' wp_powI ?z1 ?z2; (case z1 => with_unfolding_all decide))
  | (with_reducible refine' wp_fld ?z1 ?z2 ?z3; (case z1 => fail "zg"); (case z2 => first | with_unfolding_all exact rfl | assumption))
  | (with_reducible refine' wp_prop ?z1 ?z2; (case z1 => fail "zg"))
  | (with_reducible refine' wp_tupL ?z1 ?z2; (case z1 => fail "zg"))
  | (with_reducible refine' And.intro ?z1 ?z2; (case z1 => first | with_unfolding_all exact Nat.le_of_ble_eq_true rfl | with_unfolding_all decide)))
local macro_rules | `(tactic| fail "z0") => `(tactic| first | fail "y0" | fail "y1" | fail "y2" | fail "y3" | fail "y4" | fail "y5" | fail "y6" | fail "y7" | fail "y8" | fail "y9" | fail "y10" | fail "y11" | fail "y12")
local macro_rules | `(tactic| fail "z1") => `(tactic| first | with_reducible refine wp_seq ?_ | fail "z0")
local macro_rules | `(tactic| walk_at "z") => `(tactic| (repeat fail "z1"))
local macro_rules | `(tactic| fail "zb") => `(tactic| (with_reducible refine And.intro ?_ ?_; (all_goals (intro hb; first | (simp at hb; done) | (simp at hb; skip) | skip))))
local macro_rules | `(tactic| walk_at "zz") => `(tactic| (repeat' (first | fail "z1" | fail "zb")))
local macro_rules | `(tactic| walk_at "zy") => `(tactic| (repeat' (first | fail "z0" | fail "zb")))
local macro_rules | `(tactic| walk_at "zn") => `(tactic| (with_reducible refine wp_seq ?_; walk_at "zy"))
local macro_rules | `(tactic| walk_at "zs") => `(tactic| fail "zs")
local macro_rules | `(tactic| walk_at "zg") => `(tactic| fail "zg")
local macro_rules | `(tactic| walk_at "za") => `(tactic| fail "za")
local macro_rules | `(tactic| walk_at "z0") => `(tactic| fail "z0")
local macro_rules | `(tactic| walk_at "z1") => `(tactic| fail "z1")
local macro_rules | `(tactic| walk_at "zb") => `(tactic| fail "zb")
namespace K02
open PySem PySem.Spec PyProof.Rows L2 Z
local macro_rules | `(tactic| fail "zb") => `(tactic| (with_reducible refine And.intro ?_ ?_; (all_goals (intro hb; first | (exact absurd hb (by decide)) | (simp at hb; done) | (simp only [decide_eq_true_eq, decide_eq_false_iff_not, Bool.not_eq_true', Bool.not_eq_false'] at hb; skip) | skip))))
/-! the law's own writer, its comparison -/
section
variable {x l r : Xp} {s st : S} {Q : D → S → Prop} {QB : Bool → S → Prop} {n k : Nat} {z : Str}
theorem ptx {x : Xp} : Str.ofString "(" ++ mkS (wr x) ++ Str.ofString ")" = mkS (parL true (wr x)) := ext_t (by rw [tl_mk, tl_app, tl_app, tl_mk]; rfl)
def LWok (n : Nat) : Prop := ∀ x : Xp, x.wok → x.dep ≤ 12 → x.dep ≤ n → WrR (R_law_written n) x
theorem lwrite_step (n : Nat) (ih1 : LWok n) : LWok (n + 1) := by
  intro x h hd hn s
  have g0 : Gr s s := Gr.refl
  have hl := wr12 h hd
  rw [len_mk] at hl
  show Wp (fnD 5 1 (b_law_written (R_law_written n)) [x.d] s) _
  unfold b_law_written
  cases x with
  | num k =>
    unfold Xp.d
    refine wp_fn rfl ?_
    walk_at "zz"
    refine wp_str h.1 h.2 ?_
    walk_at "zz"
    exact ⟨rfl, g0⟩
  | nm w =>
    unfold Xp.d
    refine wp_fn rfl ?_
    walk_at "zz"
    refine ⟨?_, g0⟩
    show D.str w = D.str (mkS (tl w))
    rw [mk_tl]
  | rd a x =>
    have hd' : x.dep + 1 ≤ 12 := hd
    have hn' : x.dep + 1 ≤ n + 1 := hn
    have e : (wr (.rd a x)).length = (tl a).length + (wr x).length + 2 := by simp [wr]; omega
    unfold Xp.d
    refine wp_fn rfl ?_
    walk_at "zz"
    refine wp_addS' (by rw [tlen, tlen (x := "["), t91]; show _ + 1 ≤ _; omega) ?_
    walk_at "zz"
    refine (ih1 x h.2 (by omega) (by omega) s).mono ?_
    rintro d t ⟨rfl, g⟩
    unfold wt
    walk_at "zz"
    refine wp_addS' (by rw [len_app, tlen, tlen (x := "["), t91, len_mk]; show _ + 1 + _ ≤ _; omega) ?_
    walk_at "zz"
    refine wp_addS' (by rw [len_app, len_app, tlen, tlen (x := "["), tlen (x := "]"), t91, t93, len_mk]; show _ + 1 + _ + 1 ≤ _; omega) ?_
    walk_at "zz"
    refine ⟨?_, g⟩
    congr 1
    refine ext_t ?_
    rw [tl_app, tl_app, tl_app, tl_mk, tl_mk, t91, t93, List.append_assoc, List.append_assoc]
    rfl
  | mn x y =>
    have hd' : max x.dep y.dep + 1 ≤ 12 := hd
    have hn' : max x.dep y.dep + 1 ≤ n + 1 := hn
    have et := call_txt (w := Str.ofString "min") (ps := [x, y]) (l := wr (.mn x y)) (by simp [wr, TL.joinL])
    unfold Xp.d
    refine wp_fn rfl ?_
    walk_at "zn"
    walk_at "zn"
    walk_at "zn"
    walk_at "zn"
    refine call_wp (ps := [x, y]) ?_ (by simp) (by simp) ?_ (by walk_at "zy"; exact ⟨rfl, rfl⟩) (by rw [et, len_mk]; omega) ?_
    · intro p hp
      simp only [List.mem_cons, List.not_mem_nil, or_false] at hp
      rcases hp with rfl | rfl
      · exact ih1 _ h.1 (by omega) (by omega)
      · exact ih1 _ h.2 (by omega) (by omega)
    · intro p hp
      simp only [List.mem_cons, List.not_mem_nil, or_false] at hp
      rcases hp with rfl | rfl
      · exact wr12 h.1 (by omega)
      · exact wr12 h.2 (by omega)
    intro t g
    rw [et]
    exact ⟨rfl, g⟩
  | mx x y =>
    have hd' : max x.dep y.dep + 1 ≤ 12 := hd
    have hn' : max x.dep y.dep + 1 ≤ n + 1 := hn
    have et := call_txt (w := Str.ofString "max") (ps := [x, y]) (l := wr (.mx x y)) (by simp [wr, TL.joinL])
    unfold Xp.d
    refine wp_fn rfl ?_
    walk_at "zn"
    walk_at "zn"
    walk_at "zn"
    walk_at "zn"
    refine call_wp (ps := [x, y]) ?_ (by simp) (by simp) ?_ (by walk_at "zy"; exact ⟨rfl, rfl⟩) (by rw [et, len_mk]; omega) ?_
    · intro p hp
      simp only [List.mem_cons, List.not_mem_nil, or_false] at hp
      rcases hp with rfl | rfl
      · exact ih1 _ h.1 (by omega) (by omega)
      · exact ih1 _ h.2 (by omega) (by omega)
    · intro p hp
      simp only [List.mem_cons, List.not_mem_nil, or_false] at hp
      rcases hp with rfl | rfl
      · exact wr12 h.1 (by omega)
      · exact wr12 h.2 (by omega)
    intro t g
    rw [et]
    exact ⟨rfl, g⟩
  | nth x =>
    have hd' : x.dep + 1 ≤ 12 := hd
    have hn' : x.dep + 1 ≤ n + 1 := hn
    have et := call_txt (w := Str.ofString "nth") (ps := [x]) (l := wr (.nth x)) (by simp [wr, TL.joinL])
    unfold Xp.d
    refine wp_fn rfl ?_
    walk_at "zn"
    walk_at "zn"
    walk_at "zn"
    walk_at "zn"
    refine call_wp (ps := [x]) ?_ (by simp) (by simp) ?_ (by walk_at "zy"; exact ⟨rfl, rfl⟩) (by rw [et, len_mk]; omega) ?_
    · intro p hp
      simp only [List.mem_cons, List.not_mem_nil, or_false] at hp
      subst hp
      exact ih1 _ h (by omega) (by omega)
    · intro p hp
      simp only [List.mem_cons, List.not_mem_nil, or_false] at hp
      subst hp
      exact wr12 h (by omega)
    intro t g
    rw [et]
    exact ⟨rfl, g⟩
  | pick x y z =>
    have hd' : max x.dep (max y.dep z.dep) + 1 ≤ 12 := hd
    have hn' : max x.dep (max y.dep z.dep) + 1 ≤ n + 1 := hn
    have et := call_txt (w := Str.ofString "pick") (ps := [x, y, z]) (l := wr (.pick x y z)) (by simp [wr, TL.joinL])
    unfold Xp.d
    refine wp_fn rfl ?_
    walk_at "zn"
    walk_at "zn"
    walk_at "zn"
    walk_at "zn"
    refine call_wp (ps := [x, y, z]) ?_ (by simp) (by simp) ?_ (by walk_at "zy"; exact ⟨rfl, rfl⟩) (by rw [et, len_mk]; omega) ?_
    · intro p hp
      simp only [List.mem_cons, List.not_mem_nil, or_false] at hp
      rcases hp with rfl | rfl | rfl
      · exact ih1 _ h.1 (by omega) (by omega)
      · exact ih1 _ h.2.1 (by omega) (by omega)
      · exact ih1 _ h.2.2 (by omega) (by omega)
    · intro p hp
      simp only [List.mem_cons, List.not_mem_nil, or_false] at hp
      rcases hp with rfl | rfl | rfl
      · exact wr12 h.1 (by omega)
      · exact wr12 h.2.1 (by omega)
      · exact wr12 h.2.2 (by omega)
    intro t g
    rw [et]
    exact ⟨rfl, g⟩
  | op z l r =>
    have hd' : max l.dep r.dep + 1 ≤ 12 := hd
    have hn' : max l.dep r.dep + 1 ≤ n + 1 := hn
    have ew : wr (.op z l r) = parL (decide (lev l < max (olev z) 2)) (wr l) ++ 32 :: (tl z ++ 32 :: parL (decide (lev r < olev z + 1)) (wr r)) := rfl
    have el : (wr (.op z l r)).length = (parL (decide (lev l < max (olev z) 2)) (wr l)).length + (tl z).length + (parL (decide (lev r < olev z + 1)) (wr r)).length + 2 := by
      rw [ew]
      simp only [List.length_append, List.length_cons]
      omega
    have n2 : ∀ {s : S} {Q : D → S → Prop}, (∀ t, Gr s t → Q (.bl (decide (lev l < max (olev z) 2))) t) → Wp (F_law_needs [(Xp.op z l r).d, .int 2] s) Q := fun q => needs2 q
    have n3 : ∀ {s : S} {Q : D → S → Prop}, (∀ t, Gr s t → Q (.bl (decide (lev r < olev z + 1))) t) → Wp (F_law_needs [(Xp.op z l r).d, .int 3] s) Q := fun q => needs3 q
    revert n2 n3 ew el
    generalize decide (lev l < max (olev z) 2) = b1
    generalize decide (lev r < olev z + 1) = b2
    intro ew el n2 n3
    unfold Xp.d at n2 n3 ⊢
    refine wp_fn rfl ?_
    walk_at "zn"
    walk_at "zn"
    walk_at "zn"
    walk_at "zn"
    walk_at "zn"
    refine wp_mid (fun e t => ∃ v2 v3, e = [some (.tup [.str "op", .str z, l.d, r.d]), some (.loc s.length), v2, v3, none] ∧ Gr s t ∧ t[s.length]? = some (.lst [.str (mkS (parL (b1) (wr l))), .str (mkS (parL (b2) (wr r)))])) ?_ ?_
    · refine wp_for_loc ?_
      walk_at "zy"
      refine ⟨_, rfl, ?_⟩
      refine wp_forL (xs := [.int 2, .int 3]) (fun i e t => ∃ v2 v3, e = [some (.tup [.str "op", .str z, l.d, r.d]), some (.loc s.length), v2, v3, none] ∧ Gr s t ∧ t[s.length]? = some (.lst ([.str (mkS (parL (b1) (wr l))), .str (mkS (parL (b2) (wr r)))].take i)) ∧ t[s.length + 1]? = some (.lst [.int 2, .int 3])) ⟨none, none, rfl, Gr.app.trans Gr.app, Gr.app.keep at_last, by simpa using at_last (s := s ++ [O.lst []]) (o := .lst [.int 2, .int 3])⟩ ?_ (by show 2 < 1000000; omega) ?_ ?_
      · rintro i e t - ⟨v2, v3, rfl, g, e1, e2⟩
        simpa using getL_of e2
      · rintro i d e t hd2 ⟨v2, v3, rfl, g, e1, e2⟩
        have hi : i = 0 ∧ d = .int 2 ∨ i = 1 ∧ d = .int 3 := by
          match i, hd2 with
          | 0, h => exact .inl ⟨rfl, by cases h; rfl⟩
          | 1, h => exact .inr ⟨rfl, by cases h; rfl⟩
          | i + 2, h => cases h
        refine ⟨_, rfl, ?_⟩
        rcases hi with ⟨rfl, rfl⟩ | ⟨rfl, rfl⟩
        · have e1 : t[s.length]? = some (.lst []) := e1
          walk_at "zn"
          refine (ih1 l h.2.1 (by omega) (by omega) t).mono ?_
          rintro d t2 ⟨rfl, g2⟩
          walk_at "zz"
          refine n2 ?_
          intro t3 g3
          have e3 := g3.keep (g2.keep e1)
          have e4 := g3.keep (g2.keep e2)
          have lx : (mkS (wr l)).length ≤ 4074371 := wr12 h.2.1 (by omega)
          unfold wt
          cases b1 with
          | true =>
            walk_at "zz"
            refine wp_addS' (by show 1 + _ ≤ _; omega) ?_
            walk_at "zz"
            refine wp_addS' (by rw [len_app]; show 1 + _ + 1 ≤ _; omega) ?_
            rw [ptx]
            walk_at "zz"
            exact ⟨_, _, rfl, ((g.trans g2).trans g3).setNew (Nat.le_refl _), at_set e3, at_setne (by omega) e4⟩
          | false =>
            walk_at "zz"
            exact ⟨_, _, rfl, ((g.trans g2).trans g3).setNew (Nat.le_refl _), at_set e3, at_setne (by omega) e4⟩
        · have e1 : t[s.length]? = some (.lst [.str (mkS (parL b1 (wr l)))]) := e1
          walk_at "zn"
          refine (ih1 r h.2.2 (by omega) (by omega) t).mono ?_
          rintro d t2 ⟨rfl, g2⟩
          walk_at "zz"
          refine n3 ?_
          intro t3 g3
          have e3 := g3.keep (g2.keep e1)
          have e4 := g3.keep (g2.keep e2)
          have lx : (mkS (wr r)).length ≤ 4074371 := wr12 h.2.2 (by omega)
          unfold wt
          cases b2 with
          | true =>
            walk_at "zz"
            refine wp_addS' (by show 1 + _ ≤ _; omega) ?_
            walk_at "zz"
            refine wp_addS' (by rw [len_app]; show 1 + _ + 1 ≤ _; omega) ?_
            rw [ptx]
            walk_at "zz"
            exact ⟨_, _, rfl, ((g.trans g2).trans g3).setNew (Nat.le_refl _), at_set e3, at_setne (by omega) e4⟩
          | false =>
            walk_at "zz"
            exact ⟨_, _, rfl, ((g.trans g2).trans g3).setNew (Nat.le_refl _), at_set e3, at_setne (by omega) e4⟩
      · rintro e t ⟨v2, v3, rfl, g, e1, e2⟩
        exact ⟨_, rfl, v2, v3, rfl, g, e1⟩
    rintro e t ⟨v2, v3, rfl, g, e1⟩
    have e32 : (Str.ofString " ").length = 1 := by decide
    have ez : z.length = (tl z).length := tlen
    walk_at "zz"
    refine wp_addS' (by rw [e32, len_mk]; omega) ?_
    walk_at "zz"
    refine wp_addS' (by rw [len_app, e32, len_mk, ez]; omega) ?_
    walk_at "zz"
    refine wp_addS' (by rw [len_app, len_app, e32, len_mk, ez]; omega) ?_
    walk_at "zz"
    refine wp_addS' (by rw [len_app, len_app, len_app, e32, len_mk, len_mk, ez]; omega) ?_
    walk_at "zz"
    refine ⟨?_, g⟩
    unfold wt
    congr 1
    refine ext_t ?_
    rw [tl_mk, ew, tl_app, tl_app, tl_app, tl_app, tl_mk, tl_mk, t32]
    simp only [List.append_assoc]
    rfl
theorem lwrite_all : ∀ n, LWok n
  | 0 => fun x h hd hn => by
    have := dep_pos x
    omega
  | n + 1 => lwrite_step n (lwrite_all n)
theorem lwrite_wp (h : x.wok) (hd : x.dep ≤ 12) (q : ∀ t, Gr s t → Q (wt x) t) : Wp (F_law_written [x.d] s) Q := (lwrite_all 16 x h hd (by omega) s).mono fun d t k => by
  obtain ⟨rfl, g⟩ := k
  exact q t g
end
end K02
end
section
set_option Elab.async false
set_option linter.all false
set_option maxRecDepth 100000
set_option maxHeartbeats 4000000
open PySem PySem.Spec PyProof.Rows L2 Z
local macro_rules | `(tactic| fail "zs") => `(tactic| first
  | assumption
  | with_reducible exact at_last
  | (with_reducible apply at_set; fail "zs")
  | (with_reducible apply at_app; fail "zs")
  | (with_reducible apply at_setne; (first | assumption | (apply Ne.symm; assumption) | omega); fail "zs")
  | (with_reducible refine Gr.keep (by assumption) ?_; fail "zs")
  | (with_reducible refine Gx.keep (by assumption) ?_ ?_; (first | assumption | (apply Ne.symm; assumption) | omega); fail "zs"))
local macro_rules | `(tactic| fail "zg") => `(tactic| first
  | assumption
  | (with_reducible apply getL_of; fail "zs")
  | (with_reducible apply getW_of; fail "zs")
  | (with_reducible apply getI_of; fail "zs"))
local macro_rules | `(tactic| fail "za") => `(tactic| first | (with_reducible apply atI_int; (first | assumption | omega); (first | assumption | omega | (simp only [List.length_set]; omega))) | with_unfolding_all exact rfl | assumption)
local macro_rules | `(tactic| fail "y0") => `(tactic| first
  | (with_reducible refine' wp_var ?z1 ?z2; (case z1 => with_unfolding_all exact rfl))
  | with_reducible refine wp_c2 ?_
  | with_reducible refine wp_cons ?_
  | with_reducible refine wp_c ?_
  | with_reducible refine wp_nil ?_
  | with_reducible refine wp_call ?_
  | with_reducible refine wp_c1 ?_)
local macro_rules | `(tactic| fail "y1") => `(tactic| first
  | with_reducible refine wp_set ?_
  | with_reducible refine wp_if ?_
  | with_reducible refine wp_next ?_
  | with_reducible refine wp_ret ?_
  | with_reducible refine af_nx ?_
  | with_reducible refine bk_rt ?_
  | (with_reducible refine' wp_ixL ?z1 ?z2 ?z3; (case z1 => fail "zg"); (case z2 => fail "za"))
  | (with_reducible refine' wp_ixT ?z1 ?z2; (case z1 => fail "za")))
local macro_rules | `(tactic| fail "y2") => `(tactic| first
  | with_reducible refine af_rt ?_
  | with_reducible refine af_bk ?_
  | with_reducible refine bk_nx ?_
  | with_reducible refine turned_nx ?_
  | with_reducible refine turned_bk ?_
  | with_reducible refine turned_rt ?_
  | with_reducible refine wp_and ?_
  | with_reducible refine wp_or ?_)
local macro_rules | `(tactic| fail "y3") => `(tactic| first
  | with_reducible refine wp_not ?_
  | with_reducible refine wp_sub ?_
  | with_reducible refine wp_subA ?_
  | with_reducible refine wp_chain ?_
  | with_reducible refine wp_neAI ?_
  | with_reducible refine wp_neAS ?_
  | with_reducible refine wp_dic0 ?_
  | with_reducible refine wp_drop ?_)
local macro_rules | `(tactic| fail "y4") => `(tactic| first
  | with_reducible refine wp_vK ?_
  | with_reducible refine wp_nox ?_
  | with_reducible refine wp_break ?_
  | with_reducible refine wp_retN ?_
  | with_reducible refine wp_sfld ?_
  | with_reducible refine wp_yes ?_
  | with_reducible refine wp_addI ?_
  | with_reducible refine wp_subI ?_)
local macro_rules | `(tactic| fail "y5") => `(tactic| first
  | with_reducible refine wp_neg ?_
  | with_reducible refine wp_eqI ?_
  | with_reducible refine wp_neI ?_
  | with_reducible refine wp_ltI ?_
  | with_reducible refine wp_leI ?_
  | with_reducible refine wp_gtI ?_
  | with_reducible refine wp_geI ?_
  | with_reducible refine wp_eqS ?_)
local macro_rules | `(tactic| fail "y6") => `(tactic| first
  | with_reducible refine wp_neS ?_
  | with_reducible refine wp_eqB ?_
  | with_reducible refine wp_isN ?_
  | with_reducible refine wp_isNotN ?_
  | with_reducible refine wp_int ?_
  | with_reducible refine wp_max2 ?_
  | with_reducible refine wp_min2 ?_
  | with_reducible refine wp_tr_bl ?_)
local macro_rules | `(tactic| fail "y7") => `(tactic| first
  | with_reducible refine wp_tr_int ?_
  | with_reducible refine wp_tupT ?_
  | with_reducible refine wp_slT ?_
  | with_reducible refine wp_nopart ?_
  | with_reducible refine wp_lst ?_
  | with_reducible refine wp_tup ?_
  | with_reducible refine wp_slice ?_
  | with_reducible refine wp_callK ?_)
local macro_rules | `(tactic| fail "y8") => `(tactic| first
  | with_reducible refine wp_make ?_
  | with_reducible refine wp_meth ?_
  | with_reducible refine wp_is ?_
  | with_reducible refine wp_vand ?_
  | with_reducible refine wp_vor ?_
  | with_reducible refine wp_vnot ?_
  | with_reducible refine wp_asg ?_
  | with_reducible refine wp_part ?_)
local macro_rules | `(tactic| fail "y9") => `(tactic| first
  | with_reducible refine wp_forR1 ?_
  | with_reducible refine wp_forR2 ?_
  | with_reducible refine wp_compR1 ?_
  | with_reducible refine wp_compR2 ?_
  | (with_reducible refine' wp_ixAL ?z1 ?z2 ?z3; (case z1 => fail "zg"); (case z2 => fail "za"))
  | (with_reducible refine' wp_ixAT ?z1 ?z2; (case z1 => fail "za"))
  | (with_reducible refine' and_isL ?z1 ?z2; (case z1 => fail "zg"))
  | (with_reducible refine' wp_append ?z1 ?z2 ?z3; (case z1 => fail "zg"); (case z2 => first | omega | (simp only [List.length_map, List.length_append, List.length_cons, List.length_nil]; omega))))
local macro_rules | `(tactic| fail "y10") => `(tactic| first
  | (with_reducible refine' wp_lenL ?z1 ?z2; (case z1 => fail "zg"))
  | with_reducible refine wp_lenT ?_
  | (with_reducible refine' wp_lenAL ?z1 ?z2; (case z1 => fail "zg"))
  | with_reducible refine wp_lenAT ?_
  | (with_reducible refine' wp_listL ?z1 ?z2; (case z1 => fail "zg"))
  | with_reducible refine wp_listT ?_
  | with_reducible refine ex_bl ?_
  | (with_reducible refine' ex_ty ?z1 ?z2 ?z3; (case z1 => with_unfolding_all exact rfl); (case z2 => with_unfolding_all exact rfl)))
local macro_rules | `(tactic| fail "y11") => `(tactic| first
  | (with_reducible refine' wp_mulT ?z1 ?z2 ?z3; (case z1 => omega); (case z2 => omega))
  | (with_reducible refine' wp_setF ?z1 ?z2 ?z3; (case z1 => fail "zg"); (case z2 => with_unfolding_all exact Nat.le_of_ble_eq_true rfl))
  | (with_reducible refine' wp_setInt ?z1 ?z2 ?z3 ?z4; (case z1 => fail "zg"); (case z2 => first | assumption | omega); (case z3 => first | assumption | omega | (simp only [List.length_set]; omega)))
  | (with_reducible refine' wp_setIx ?z1 ?z2 ?z3; (case z1 => fail "zg"); (case z2 => first | (with_reducible apply ixN_of; (first | assumption | omega); (first | assumption | omega | (rw [List.length_map]; omega))) | with_unfolding_all exact rfl | assumption))
  | (with_reducible refine' wp_setAI ?z1 ?z2 ?z3 ?z4; (case z1 => fail "zg"); (case z2 => first | assumption | omega); (case z3 => first | assumption | omega | (simp only [List.length_set]; omega)))
  | (with_reducible refine' wp_setAX ?z1 ?z2 ?z3; (case z1 => fail "zg"); (case z2 => first | (with_reducible apply ixN_of; (first | assumption | omega); (first | assumption | omega | (rw [List.length_map]; omega))) | with_unfolding_all exact rfl | assumption))
  | (with_reducible refine' wp_modI ?z1 ?z2; (case z1 => omega))
  | (with_reducible refine' wp_divA0 ?z1 ?z2 ?z3; (case z1 => omega); (case z2 => omega)))
local macro_rules | `(tactic| fail "y12") => `(tactic| first
  | (with_reducible refine' wp_mulA ?z1 ?z2; (case z1 => omega))
  | (with_reducible refine' wp_divI ?z1 ?z2 ?z3; (case z1 => omega); (case z2 => omega))
  | (with_reducible refine' wp_mulI ?z1 ?z2; (case z1 => omega))
  | (with_reducible refine' wp_powI ?z1 ?z2; (case z1 => with_unfolding_all decide))
  | (with_reducible refine' wp_fld ?z1 ?z2 ?z3; (case z1 => fail "zg"); (case z2 => first | with_unfolding_all exact rfl | assumption))
  | (with_reducible refine' wp_prop ?z1 ?z2; (case z1 => fail "zg"))
  | (with_reducible refine' wp_tupL ?z1 ?z2; (case z1 => fail "zg"))
  | (with_reducible refine' And.intro ?z1 ?z2; (case z1 => first | with_unfolding_all exact Nat.le_of_ble_eq_true rfl | with_unfolding_all decide)))
local macro_rules | `(tactic| fail "z0") => `(tactic| first | fail "y0" | fail "y1" | fail "y2" | fail "y3" | fail "y4" | fail "y5" | fail "y6" | fail "y7" | fail "y8" | fail "y9" | fail "y10" | fail "y11" | fail "y12")
local macro_rules | `(tactic| fail "z1") => `(tactic| first | with_reducible refine wp_seq ?_ | fail "z0")
local macro_rules | `(tactic| walk_at "z") => `(tactic| (repeat fail "z1"))
local macro_rules | `(tactic| fail "zb") => `(tactic| (with_reducible refine And.intro ?_ ?_; (all_goals (intro hb; first | (simp at hb; done) | (simp at hb; skip) | skip))))
local macro_rules | `(tactic| walk_at "zz") => `(tactic| (repeat' (first | fail "z1" | fail "zb")))
local macro_rules | `(tactic| walk_at "zy") => `(tactic| (repeat' (first | fail "z0" | fail "zb")))
local macro_rules | `(tactic| walk_at "zn") => `(tactic| (with_reducible refine wp_seq ?_; walk_at "zy"))
local macro_rules | `(tactic| walk_at "zs") => `(tactic| fail "zs")
local macro_rules | `(tactic| walk_at "zg") => `(tactic| fail "zg")
local macro_rules | `(tactic| walk_at "za") => `(tactic| fail "za")
local macro_rules | `(tactic| walk_at "z0") => `(tactic| fail "z0")
local macro_rules | `(tactic| walk_at "z1") => `(tactic| fail "z1")
local macro_rules | `(tactic| walk_at "zb") => `(tactic| fail "zb")
namespace K02
open PySem PySem.Spec PyProof.Rows L2 Z
local macro_rules | `(tactic| fail "zb") => `(tactic| (with_reducible refine And.intro ?_ ?_; (all_goals (intro hb; first | (exact absurd hb (by decide)) | (simp at hb; done) | (simp only [decide_eq_true_eq, decide_eq_false_iff_not, Bool.not_eq_true', Bool.not_eq_false'] at hb; skip) | skip))))
/-! the law's comparison, its reading -/
/-- tuples, strings and integers, n deep -/
inductive Pd : Nat → D → Prop where
  | int {n i} : Pd n (.int i)
  | str {n z} : Pd n (.str z)
  | tup {n xs} : xs.length ≤ 1000 → (∀ x ∈ xs, Pd n x) → Pd (n + 1) (.tup xs)
theorem Pd.mono {m n : Nat} {d : D} (h : Pd m d) (k : m ≤ n) : Pd n d := by
  induction h generalizing n with
  | int => exact .int
  | str => exact .str
  | tup hl _ ih =>
    obtain ⟨n, rfl⟩ : ∃ j, n = j + 1 := ⟨n - 1, by omega⟩
    exact .tup hl fun x hx => ih x hx (by omega)
theorem pd_x : ∀ x : Xp, Pd (2 * x.dep) x.d := by
  have two : ∀ {n m : Nat} {xs : List D}, (∀ x ∈ xs, Pd n x) → xs.length ≤ 1000 → n + 1 ≤ m → Pd m (.tup xs) := fun h l k => (Pd.tup l h).mono k
  have cl : ∀ {n m : Nat} {w : Str} {xs : List D}, (∀ x ∈ xs, Pd n x) → xs.length ≤ 1000 → n + 2 ≤ m → Pd m (.tup [.str "call", .str w, .tup xs]) := fun {n m w xs} h l k => by
    refine two (n := n + 1) ?_ (by simp) (by omega)
    intro x hx
    simp only [List.mem_cons, List.not_mem_nil, or_false] at hx
    rcases hx with rfl | rfl | rfl
    · exact .str
    · exact .str
    · exact .tup l h
  intro x
  induction x with
  | num n =>
    refine two (n := 0) ?_ (by simp) (show 1 ≤ 2 * 1 by omega)
    intro x hx
    simp only [List.mem_cons, List.not_mem_nil, or_false] at hx
    rcases hx with rfl | rfl
    · exact .str
    · exact .int
  | nm w =>
    refine two (n := 0) ?_ (by simp) (show 1 ≤ 2 * 1 by omega)
    intro x hx
    simp only [List.mem_cons, List.not_mem_nil, or_false] at hx
    rcases hx with rfl | rfl
    · exact .str
    · exact .str
  | rd a x ih =>
    refine two (n := 2 * x.dep) ?_ (by simp) (show _ ≤ 2 * (x.dep + 1) by omega)
    intro y hy
    simp only [List.mem_cons, List.not_mem_nil, or_false] at hy
    rcases hy with rfl | rfl | rfl
    · exact .str
    · exact .str
    · exact ih
  | op s l r il ir =>
    refine two (n := 2 * max l.dep r.dep) ?_ (by simp) (show _ ≤ 2 * (max l.dep r.dep + 1) by omega)
    intro y hy
    simp only [List.mem_cons, List.not_mem_nil, or_false] at hy
    rcases hy with rfl | rfl | rfl | rfl
    · exact .str
    · exact .str
    · exact il.mono (by omega)
    · exact ir.mono (by omega)
  | mn x y ix iy =>
    refine cl (n := 2 * max x.dep y.dep) ?_ (by simp) (show _ ≤ 2 * (max x.dep y.dep + 1) by omega)
    intro z hz
    simp only [List.mem_cons, List.not_mem_nil, or_false] at hz
    rcases hz with rfl | rfl
    · exact ix.mono (by omega)
    · exact iy.mono (by omega)
  | mx x y ix iy =>
    refine cl (n := 2 * max x.dep y.dep) ?_ (by simp) (show _ ≤ 2 * (max x.dep y.dep + 1) by omega)
    intro z hz
    simp only [List.mem_cons, List.not_mem_nil, or_false] at hz
    rcases hz with rfl | rfl
    · exact ix.mono (by omega)
    · exact iy.mono (by omega)
  | nth x ix =>
    refine cl (n := 2 * x.dep) ?_ (by simp) (show _ ≤ 2 * (x.dep + 1) by omega)
    intro z hz
    simp only [List.mem_cons, List.not_mem_nil, or_false] at hz
    rcases hz with rfl
    exact ix
  | pick x y w ix iy iw =>
    refine cl (n := 2 * max x.dep (max y.dep w.dep)) ?_ (by simp) (show _ ≤ 2 * (max x.dep (max y.dep w.dep) + 1) by omega)
    intro z hz
    simp only [List.mem_cons, List.not_mem_nil, or_false] at hz
    rcases hz with rfl | rfl | rfl
    · exact ix.mono (by omega)
    · exact iy.mono (by omega)
    · exact iw.mono (by omega)
section
variable {x : Xp} {s st : S} {Q : D → S → Prop} {d : D}
theorem same_ih : ∀ (n : Nat) (d : D), Pd n d → ∀ (s : S), Wp (R_law_same (n + 1) [d, d] s) fun y t => y = .bl true ∧ t = s := by
  intro n
  induction n with
  | zero =>
    intro d h s
    show Wp (fnD 3 2 (b_law_same (R_law_same 0)) [d, d] s) _
    unfold b_law_same
    refine wp_fn rfl ?_
    cases h with
    | int =>
      walk_at "zz"
      refine ⟨_, false, rfl, rfl, ?_⟩
      walk_at "zz"
      refine ⟨_, false, rfl, rfl, ?_⟩
      walk_at "zz"
      refine whole_wp ?_
      walk_at "zz"
      refine ⟨_, rfl, fun _ => ?_, fun h => nomatch h⟩
      walk_at "zz"
      exact ⟨by simp, rfl⟩
    | str =>
      walk_at "zz"
      refine ⟨_, false, rfl, rfl, ?_⟩
      walk_at "zz"
      refine ⟨_, true, rfl, rfl, ?_⟩
      walk_at "zz"
      refine ⟨_, true, rfl, rfl, _, rfl, fun _ => ?_, fun h => nomatch h⟩
      walk_at "zz"
      exact ⟨by simp, rfl⟩
  | succ n ih =>
    intro d h s
    show Wp (fnD 3 2 (b_law_same (R_law_same (n + 1))) [d, d] s) _
    unfold b_law_same
    refine wp_fn rfl ?_
    cases h with
    | int =>
      walk_at "zz"
      refine ⟨_, false, rfl, rfl, ?_⟩
      walk_at "zz"
      refine ⟨_, false, rfl, rfl, ?_⟩
      walk_at "zz"
      refine whole_wp ?_
      walk_at "zz"
      refine ⟨_, rfl, fun _ => ?_, fun h => nomatch h⟩
      walk_at "zz"
      exact ⟨by simp, rfl⟩
    | str =>
      walk_at "zz"
      refine ⟨_, false, rfl, rfl, ?_⟩
      walk_at "zz"
      refine ⟨_, true, rfl, rfl, ?_⟩
      walk_at "zz"
      refine ⟨_, true, rfl, rfl, _, rfl, fun _ => ?_, fun h => nomatch h⟩
      walk_at "zz"
      exact ⟨by simp, rfl⟩
    | @tup _ xs hl hx =>
      walk_at "zz"
      refine ⟨_, true, rfl, rfl, ?_⟩
      walk_at "zz"
      refine ⟨_, true, rfl, rfl, ?_⟩
      walk_at "zz"
      refine ⟨_, rfl, by omega, by omega, ?_⟩
      refine wp_forT (fun i e t => ∃ v, e = [some (.tup xs), some (.tup xs), v] ∧ t = s) ⟨none, rfl, rfl⟩ ?_ ?_
      · rintro i e es t hd ⟨v, rfl, rfl⟩
        obtain ⟨hi, rfl⟩ := rangeD_get hd
        have hi : i < xs.length := by omega
        have ea : L2.atI xs (0 + (i : Int)) = some xs[i] := at_of (by omega) (by rw [show ((0 : Int) + (i : Int)).toNat = i by omega]; exact List.getElem?_eq_getElem hi)
        refine ⟨_, rfl, ?_⟩
        walk_at "zz"
        refine (ih _ (hx _ (List.getElem_mem hi)) t).mono ?_
        rintro y t2 ⟨rfl, rfl⟩
        walk_at "zz"
        exact ⟨_, rfl, rfl⟩
      · rintro es t ⟨v, rfl, rfl⟩
        walk_at "zz"
        exact ⟨rfl, rfl⟩
theorem same_wp {n : Nat} (h : Pd n d) (hn : n ≤ 39) (q : Q (.bl true) s) : Wp (F_law_same [d, d] s) Q := (same_ih 39 d (h.mono hn) s).mono fun y t k => by
  obtain ⟨rfl, rfl⟩ := k
  exact q
theorem lread_wp (h : x.wok) (hd : x.dep ≤ 12) (q : ∀ t, Gr s t → Q x.d t) : Wp (F_law_read [wt x] s) Q := by
  unfold F_law_read b_law_read
  refine wp_fn rfl ?_
  refine wp_try0 ?_
  walk_at "zz"
  refine read_wp h hd ?_
  intro t g
  walk_at "zz"
  exact q t g
theorem good_wp (h : x.wok) (hd : x.dep ≤ 12) (q : ∀ t, Gr s t → Q (.bl true) t) : Wp (F_law_good [x.d] s) Q := by
  unfold F_law_good b_law_good
  refine wp_fn rfl ?_
  walk_at "zn"
  refine write_wp h hd ?_
  intro t g
  unfold wt
  walk_at "zz"
  refine ⟨_, true, rfl, rfl, ?_⟩
  walk_at "zz"
  refine lwrite_wp h hd ?_
  intro t2 g2
  unfold wt
  walk_at "zz"
  refine lread_wp h hd ?_
  intro t3 g3
  walk_at "zz"
  refine same_wp (pd_x x) (by omega) ?_
  walk_at "zz"
  exact q t3 ((g.trans g2).trans g3)
end
end K02
end
section
set_option Elab.async false
set_option linter.all false
set_option maxRecDepth 100000
set_option maxHeartbeats 4000000
open PySem PySem.Spec PyProof.Rows L2 Z
local macro_rules | `(tactic| fail "zs") => `(tactic| first
  | assumption
  | with_reducible exact at_last
  | (with_reducible apply at_set; fail "zs")
  | (with_reducible apply at_app; fail "zs")
  | (with_reducible apply at_setne; (first | assumption | (apply Ne.symm; assumption) | omega); fail "zs")
  | (with_reducible refine Gr.keep (by assumption) ?_; fail "zs")
  | (with_reducible refine Gx.keep (by assumption) ?_ ?_; (first | assumption | (apply Ne.symm; assumption) | omega); fail "zs"))
local macro_rules | `(tactic| fail "zg") => `(tactic| first
  | assumption
  | (with_reducible apply getL_of; fail "zs")
  | (with_reducible apply getW_of; fail "zs")
  | (with_reducible apply getI_of; fail "zs"))
local macro_rules | `(tactic| fail "za") => `(tactic| first | (with_reducible apply atI_int; (first | assumption | omega); (first | assumption | omega | (simp only [List.length_set]; omega))) | with_unfolding_all exact rfl | assumption)
local macro_rules | `(tactic| fail "y0") => `(tactic| first
  | (with_reducible refine' wp_var ?z1 ?z2; (case z1 => with_unfolding_all exact rfl))
  | with_reducible refine wp_c2 ?_
  | with_reducible refine wp_cons ?_
  | with_reducible refine wp_c ?_
  | with_reducible refine wp_nil ?_
  | with_reducible refine wp_call ?_
  | with_reducible refine wp_c1 ?_)
local macro_rules | `(tactic| fail "y1") => `(tactic| first
  | with_reducible refine wp_set ?_
  | with_reducible refine wp_if ?_
  | with_reducible refine wp_next ?_
  | with_reducible refine wp_ret ?_
  | with_reducible refine af_nx ?_
  | with_reducible refine bk_rt ?_
  | (with_reducible refine' wp_ixL ?z1 ?z2 ?z3; (case z1 => fail "zg"); (case z2 => fail "za"))
  | (with_reducible refine' wp_ixT ?z1 ?z2; (case z1 => fail "za")))
local macro_rules | `(tactic| fail "y2") => `(tactic| first
  | with_reducible refine af_rt ?_
  | with_reducible refine af_bk ?_
  | with_reducible refine bk_nx ?_
  | with_reducible refine turned_nx ?_
  | with_reducible refine turned_bk ?_
  | with_reducible refine turned_rt ?_
  | with_reducible refine wp_and ?_
  | with_reducible refine wp_or ?_)
local macro_rules | `(tactic| fail "y3") => `(tactic| first
  | with_reducible refine wp_not ?_
  | with_reducible refine wp_sub ?_
  | with_reducible refine wp_subA ?_
  | with_reducible refine wp_chain ?_
  | with_reducible refine wp_neAI ?_
  | with_reducible refine wp_neAS ?_
  | with_reducible refine wp_dic0 ?_
  | with_reducible refine wp_drop ?_)
local macro_rules | `(tactic| fail "y4") => `(tactic| first
  | with_reducible refine wp_vK ?_
  | with_reducible refine wp_nox ?_
  | with_reducible refine wp_break ?_
  | with_reducible refine wp_retN ?_
  | with_reducible refine wp_sfld ?_
  | with_reducible refine wp_yes ?_
  | with_reducible refine wp_addI ?_
  | with_reducible refine wp_subI ?_)
local macro_rules | `(tactic| fail "y5") => `(tactic| first
  | with_reducible refine wp_neg ?_
  | with_reducible refine wp_eqI ?_
  | with_reducible refine wp_neI ?_
  | with_reducible refine wp_ltI ?_
  | with_reducible refine wp_leI ?_
  | with_reducible refine wp_gtI ?_
  | with_reducible refine wp_geI ?_
  | with_reducible refine wp_eqS ?_)
local macro_rules | `(tactic| fail "y6") => `(tactic| first
  | with_reducible refine wp_neS ?_
  | with_reducible refine wp_eqB ?_
  | with_reducible refine wp_isN ?_
  | with_reducible refine wp_isNotN ?_
  | with_reducible refine wp_int ?_
  | with_reducible refine wp_max2 ?_
  | with_reducible refine wp_min2 ?_
  | with_reducible refine wp_tr_bl ?_)
local macro_rules | `(tactic| fail "y7") => `(tactic| first
  | with_reducible refine wp_tr_int ?_
  | with_reducible refine wp_tupT ?_
  | with_reducible refine wp_slT ?_
  | with_reducible refine wp_nopart ?_
  | with_reducible refine wp_lst ?_
  | with_reducible refine wp_tup ?_
  | with_reducible refine wp_slice ?_
  | with_reducible refine wp_callK ?_)
local macro_rules | `(tactic| fail "y8") => `(tactic| first
  | with_reducible refine wp_make ?_
  | with_reducible refine wp_meth ?_
  | with_reducible refine wp_is ?_
  | with_reducible refine wp_vand ?_
  | with_reducible refine wp_vor ?_
  | with_reducible refine wp_vnot ?_
  | with_reducible refine wp_asg ?_
  | with_reducible refine wp_part ?_)
local macro_rules | `(tactic| fail "y9") => `(tactic| first
  | with_reducible refine wp_forR1 ?_
  | with_reducible refine wp_forR2 ?_
  | with_reducible refine wp_compR1 ?_
  | with_reducible refine wp_compR2 ?_
  | (with_reducible refine' wp_ixAL ?z1 ?z2 ?z3; (case z1 => fail "zg"); (case z2 => fail "za"))
  | (with_reducible refine' wp_ixAT ?z1 ?z2; (case z1 => fail "za"))
  | (with_reducible refine' and_isL ?z1 ?z2; (case z1 => fail "zg"))
  | (with_reducible refine' wp_append ?z1 ?z2 ?z3; (case z1 => fail "zg"); (case z2 => first | omega | (simp only [List.length_map, List.length_append, List.length_cons, List.length_nil]; omega))))
local macro_rules | `(tactic| fail "y10") => `(tactic| first
  | (with_reducible refine' wp_lenL ?z1 ?z2; (case z1 => fail "zg"))
  | with_reducible refine wp_lenT ?_
  | (with_reducible refine' wp_lenAL ?z1 ?z2; (case z1 => fail "zg"))
  | with_reducible refine wp_lenAT ?_
  | (with_reducible refine' wp_listL ?z1 ?z2; (case z1 => fail "zg"))
  | with_reducible refine wp_listT ?_
  | with_reducible refine ex_bl ?_
  | (with_reducible refine' ex_ty ?z1 ?z2 ?z3; (case z1 => with_unfolding_all exact rfl); (case z2 => with_unfolding_all exact rfl)))
local macro_rules | `(tactic| fail "y11") => `(tactic| first
  | (with_reducible refine' wp_mulT ?z1 ?z2 ?z3; (case z1 => omega); (case z2 => omega))
  | (with_reducible refine' wp_setF ?z1 ?z2 ?z3; (case z1 => fail "zg"); (case z2 => with_unfolding_all exact Nat.le_of_ble_eq_true rfl))
  | (with_reducible refine' wp_setInt ?z1 ?z2 ?z3 ?z4; (case z1 => fail "zg"); (case z2 => first | assumption | omega); (case z3 => first | assumption | omega | (simp only [List.length_set]; omega)))
  | (with_reducible refine' wp_setIx ?z1 ?z2 ?z3; (case z1 => fail "zg"); (case z2 => first | (with_reducible apply ixN_of; (first | assumption | omega); (first | assumption | omega | (rw [List.length_map]; omega))) | with_unfolding_all exact rfl | assumption))
  | (with_reducible refine' wp_setAI ?z1 ?z2 ?z3 ?z4; (case z1 => fail "zg"); (case z2 => first | assumption | omega); (case z3 => first | assumption | omega | (simp only [List.length_set]; omega)))
  | (with_reducible refine' wp_setAX ?z1 ?z2 ?z3; (case z1 => fail "zg"); (case z2 => first | (with_reducible apply ixN_of; (first | assumption | omega); (first | assumption | omega | (rw [List.length_map]; omega))) | with_unfolding_all exact rfl | assumption))
  | (with_reducible refine' wp_modI ?z1 ?z2; (case z1 => omega))
  | (with_reducible refine' wp_divA0 ?z1 ?z2 ?z3; (case z1 => omega); (case z2 => omega)))
local macro_rules | `(tactic| fail "y12") => `(tactic| first
  | (with_reducible refine' wp_mulA ?z1 ?z2; (case z1 => omega))
  | (with_reducible refine' wp_divI ?z1 ?z2 ?z3; (case z1 => omega); (case z2 => omega))
  | (with_reducible refine' wp_mulI ?z1 ?z2; (case z1 => omega))
  | (with_reducible refine' wp_powI ?z1 ?z2; (case z1 => with_unfolding_all decide))
  | (with_reducible refine' wp_fld ?z1 ?z2 ?z3; (case z1 => fail "zg"); (case z2 => first | with_unfolding_all exact rfl | assumption))
  | (with_reducible refine' wp_prop ?z1 ?z2; (case z1 => fail "zg"))
  | (with_reducible refine' wp_tupL ?z1 ?z2; (case z1 => fail "zg"))
  | (with_reducible refine' And.intro ?z1 ?z2; (case z1 => first | with_unfolding_all exact Nat.le_of_ble_eq_true rfl | with_unfolding_all decide)))
local macro_rules | `(tactic| fail "z0") => `(tactic| first | fail "y0" | fail "y1" | fail "y2" | fail "y3" | fail "y4" | fail "y5" | fail "y6" | fail "y7" | fail "y8" | fail "y9" | fail "y10" | fail "y11" | fail "y12")
local macro_rules | `(tactic| fail "z1") => `(tactic| first | with_reducible refine wp_seq ?_ | fail "z0")
local macro_rules | `(tactic| walk_at "z") => `(tactic| (repeat fail "z1"))
local macro_rules | `(tactic| fail "zb") => `(tactic| (with_reducible refine And.intro ?_ ?_; (all_goals (intro hb; first | (simp at hb; done) | (simp at hb; skip) | skip))))
local macro_rules | `(tactic| walk_at "zz") => `(tactic| (repeat' (first | fail "z1" | fail "zb")))
local macro_rules | `(tactic| walk_at "zy") => `(tactic| (repeat' (first | fail "z0" | fail "zb")))
local macro_rules | `(tactic| walk_at "zn") => `(tactic| (with_reducible refine wp_seq ?_; walk_at "zy"))
local macro_rules | `(tactic| walk_at "zs") => `(tactic| fail "zs")
local macro_rules | `(tactic| walk_at "zg") => `(tactic| fail "zg")
local macro_rules | `(tactic| walk_at "za") => `(tactic| fail "za")
local macro_rules | `(tactic| walk_at "z0") => `(tactic| fail "z0")
local macro_rules | `(tactic| walk_at "z1") => `(tactic| fail "z1")
local macro_rules | `(tactic| walk_at "zb") => `(tactic| fail "zb")
namespace K02
open PySem PySem.Spec PyProof.Rows L2 Z
local macro_rules | `(tactic| fail "zb") => `(tactic| (with_reducible refine And.intro ?_ ?_; (all_goals (intro hb; first | (exact absurd hb (by decide)) | (simp at hb; done) | (simp only [decide_eq_true_eq, decide_eq_false_iff_not, Bool.not_eq_true', Bool.not_eq_false'] at hb; skip) | skip))))
/-! a drawn expression, pairs -/
theorem ok_wok {ws sh : List Str} (hw : ∀ w ∈ ws, Nm w) (hs : ∀ w ∈ sh, Nm w) : ∀ {x : Xp}, x.ok ws sh → x.wok
  | .num _, h => h
  | .nm _, h => hw _ h
  | .rd _ x, h => ⟨hs _ h.1, ok_wok hw hs (x := x) h.2⟩
  | .op _ l r, h => ⟨h.1, ok_wok hw hs (x := l) h.2.1, ok_wok hw hs (x := r) h.2.2⟩
  | .mn x y, h => ⟨ok_wok hw hs (x := x) h.1, ok_wok hw hs (x := y) h.2⟩
  | .mx x y, h => ⟨ok_wok hw hs (x := x) h.1, ok_wok hw hs (x := y) h.2⟩
  | .nth x, h => ok_wok hw hs (x := x) h
  | .pick x y z, h => ⟨ok_wok hw hs (x := x) h.1, ok_wok hw hs (x := y) h.2.1, ok_wok hw hs (x := z) h.2.2⟩
/-- words' lists -/
structure Ws (s : S) (wl sl : Nat) (ws sh : List Str) : Prop where
  w : s[wl]? = some (.lst (ws.map D.str))
  h : s[sl]? = some (.lst (sh.map D.str))
  w0 : ws ≠ []
  w1 : ws.length ≤ 6
  s0 : sh ≠ []
  s1 : sh.length ≤ 6
  nw : ∀ w ∈ ws, Nm w
  ns : ∀ w ∈ sh, Nm w
theorem Ws.gr {s t : S} {wl sl : Nat} {ws sh : List Str} (h : Ws s wl sl ws sh) (g : Gr s t) : Ws t wl sl ws sh := ⟨g.keep h.w, g.keep h.h, h.w0, h.w1, h.s0, h.s1, h.nw, h.ns⟩
section
variable {s st : S} {wl sl a : Nat} {ws sh : List Str} {Q : D → S → Prop}
theorem tree_wp {r mu deep : Nat} {tight : Bool} (N : Nq a r wl sl mu ws sh) (h0 : 1 ≤ deep) (h12 : deep ≤ 12) (T : Tr a r wl sl mu ws sh st) (q : ∀ (x : Xp) (s : S), Xok ws sh deep x → Gy a r st s → Tr a r wl sl mu ws sh s → Q x.d s) : Wp (F_law_tree [.loc a, .loc r, .int deep, .bl tight, .loc wl, .loc sl, .loc mu] st) Q := tree_ih N 16 deep h0 (by omega) h12 tight st Q T q
theorem drawn_wp {n : Int} (h : Ws st wl sl ws sh) (q : ∀ (x : Xp) (s : S), Xok ws sh 12 x → Gr st s → Q x.d s) : Wp (F_law_drawn [.int n, .loc wl, .loc sl] st) Q := by
  have a1 := at_lt h.w
  have a2 := at_lt h.h
  unfold F_law_drawn b_law_drawn
  refine wp_fn rfl ?_
  walk_at "zn"
  refine feed_wp ?_
  intro s g f l
  walk_at "zy"
  refine wp_mid (fun e t => ∃ r, e = [some (.int n), some (.loc wl), some (.loc sl), some (.loc st.length), some (.loc r), none] ∧ Gx st.length s t ∧ Feed t st.length ∧ Room t r ∧ st.length < r ∧ r < t.length) ?_ ?_
  · walk_at "zy"
    refine take_wp (f.gr Gr.app) (by omega) (by omega) ?_
    intro j s2 j0 j1 g2 f2 l2
    have e2 := g2.keep (by omega) (at_last (s := s) (o := O.lst ([16, 10, 40, 120].map D.int)))
    refine wp_ixAL (getL_of e2) (atI_int (ns := [16, 10, 40, 120]) j0 (by simp; omega)) ?_
    walk_at "zy"
    have := g2.len
    simp only [List.length_append, List.length_singleton] at this
    exact ⟨_, rfl, _, rfl, (Gr.app.gx.trans g2).trans Gx.app, f2.gr Gr.app, ⟨_, at_last⟩, by omega, by simp⟩
  rintro e s2 ⟨r, rfl, g2, f2, v2, r0, r1⟩
  walk_at "zn"
  walk_at "zy"
  have F3 := f2.gr (Gr.app (s := s2) (t := [O.lst (MN.map D.str)]))
  refine deep_wp F3 ?_
  intro deep s3 d0 d1 g3 f3
  walk_at "zy"
  have w2 := (h.gr g)
  have N : Nq st.length r wl sl s2.length ws sh := ⟨by omega, by omega, by omega, by omega, by omega, by have := f2.lt; omega, by omega, h.w0, h.w1, h.s0, h.s1⟩
  have T : Tr st.length r wl sl s2.length ws sh s3 := ⟨f3, by
      obtain ⟨v, hv⟩ := v2
      exact ⟨v, g3.keep (by omega) (at_app hv)⟩, g3.keep (by omega) (at_app (g2.keep (by omega) w2.w)), g3.keep (by omega) (at_app (g2.keep (by omega) w2.h)), MN, g3.keep (by have := f2.lt; omega) at_last, by decide, by decide⟩
  refine tree_wp N d0 d1 T ?_
  intro x t hx gx Tx
  walk_at "zz"
  have l2 := g2.len
  have l3 := g3.len
  have l4 := gx.len
  rw [List.length_append] at l3
  refine q x t ⟨hx.1, Nat.le_trans hx.2 d1⟩ ⟨by omega, fun m hm => ?_⟩
  rw [gx.at_ m (by omega) (by omega) (by omega), g3.at_ m (by rw [List.length_append]; omega) (by omega), List.getElem?_append_left (by omega), g2.at_ m (by omega) (by omega), g.at_ m hm]
def MP : List Str := ["leaf", "leaf", "read", "call", "op"]
theorem pairs_wp {z : Str} (hz : z ∈ OPS) (h : Ws st wl sl ws sh) (f : Feed st a) (h1 : wl ≠ a) (h2 : sl ≠ a) (q : ∀ (s : S), Gx a st s → Q (.bl true) s) : Wp (F_law_pairs [.loc a, .str z, .loc wl, .loc sl] st) Q := by
  have a1 := at_lt h.w
  have a2 := at_lt h.h
  have a3 := f.lt
  unfold F_law_pairs b_law_pairs
  refine wp_fn rfl ?_
  walk_at "zn"
  refine wp_mid (fun e t => ∃ (l : Nat) (x y w : Xp), e = [some (.loc a), some (.str z), some (.loc wl), some (.loc sl), some (.loc st.length), some (.loc l), none, none, none, none, none] ∧ Gx a st t ∧ Xok ws sh 3 x ∧ Xok ws sh 3 y ∧ Xok ws sh 3 w ∧ t[l]? = some (.lst [x.d, y.d, w.d])) ?_ ?_
  · walk_at "zy"
    refine ⟨_, rfl, by omega, by omega, ?_⟩
    refine wp_compV (fun k t => ∃ xs : List Xp, xs.length = k ∧ (∀ x ∈ xs, Xok ws sh 3 x) ∧ t[(st ++ [O.lst (MP.map D.str)]).length]? = some (.lst (xs.map Xp.d)) ∧ Gx a st t ∧ Feed t a ∧ t[st.length]? = some (.lst (MP.map D.str))) ⟨[], rfl, (fun _ h => nomatch h), at_last, (Gr.app.trans Gr.app).gx, f.gr (Gr.app.trans Gr.app), Gr.app.keep at_last⟩ ?_ ?_
    · rintro k d t hd ⟨xs, lx, hx, em, g, f, ep⟩
      obtain ⟨hk, rfl⟩ := rangeD_get hd
      have lm := at_lt em
      rw [List.length_append, List.length_singleton] at em lm
      refine ⟨_, rfl, wp_compTurn (wp_yes ⟨fun _ => ?_, fun h => nomatch h⟩)⟩
      walk_at "zy"
      refine take_wp (f.gr Gr.app) (by omega) (by omega) ?_
      intro j t2 j0 j1 g2 f2 l2
      walk_at "zy"
      obtain ⟨j, rfl⟩ := Int.eq_ofNat_of_zero_le j0
      have gl := g2.len
      rw [List.length_append, List.length_singleton] at gl
      have e1 : (1 : Int) + (j : Int) = ((1 + j : Nat) : Int) := by omega
      rw [e1]
      have G : Gx a st t2 := (g.trans Gr.app.gx).trans g2
      have N : Nq a t.length wl sl st.length ws sh := ⟨by omega, by omega, by omega, by omega, by omega, by omega, by omega, h.w0, h.w1, h.s0, h.s1⟩
      have T : Tr a t.length wl sl st.length ws sh t2 := ⟨f2, ⟨5, g2.keep (by omega) at_last⟩, G.keep (by omega) h.w, G.keep (by omega) h.h, MP, g2.keep (by omega) (at_app ep), by decide, by decide⟩
      refine tree_wp N (by omega) (by omega) T ?_
      intro x t3 hx3 g3 T3
      have em3 := g3.keep (by omega) (by omega) (g2.keep (by omega) (at_app em))
      have ep3 := g3.keep (by omega) (by omega) (g2.keep (by omega) (at_app ep))
      refine wp_addIt (getW_of (by rw [List.length_append, List.length_singleton]; exact em3)) (by rw [List.length_map, lx]; omega) ?_
      have G3 : Gx a t t3 := ⟨by have := g3.len; omega, fun n l e => by
        rw [g3.at_ n (by omega) e (by omega), g2.at_ n (by rw [List.length_append]; omega) e, List.getElem?_append_left l]⟩
      rw [List.length_append, List.length_singleton]
      refine ⟨xs ++ [x], by rw [List.length_append, lx]; rfl, ?_, by rw [List.map_append, List.length_append, List.length_singleton]; exact at_set em3, ⟨by rw [List.length_set]; exact Nat.le_trans g.len G3.len, fun n l e => ?_⟩, T3.f.set (by omega), at_setne (by omega) ep3⟩
      · intro y hy
        rcases List.mem_append.mp hy with hy | hy
        · exact hx y hy
        · rw [List.mem_singleton.mp hy]
          exact ⟨hx3.1, Nat.le_trans hx3.2 (by omega)⟩
      · rw [List.getElem?_set_ne (by omega)]
        exact (g.trans G3).at_ n l e
    · rintro t ⟨xs, lx, hx, em, g, f, ep⟩
      rw [rangeD_len] at lx
      obtain ⟨x, y, w, rfl⟩ := len3 (ys := xs) (by omega)
      exact ⟨_, rfl, _, x, y, w, rfl, g, hx x (by simp), hx y (by simp), hx w (by simp), em⟩
  rintro e t ⟨l, x, y, w, rfl, g, hx, hy, hw, el⟩
  have o : ∀ {v : Xp}, Xok ws sh 3 v → v.wok ∧ v.dep ≤ 3 := fun k => ⟨ok_wok h.nw h.ns k.1, k.2⟩
  have ox := o hx
  have oy := o hy
  have ow := o hw
  refine wp_mid (fun e t2 => ∃ v6 v7 v8 v9, e = [some (.loc a), some (.str z), some (.loc wl), some (.loc sl), some (.loc st.length), some (.loc l), v6, v7, v8, v9, none] ∧ Gr t t2) ?_ ?_
  · refine wp_for_loc ?_
    walk_at "zy"
    refine ⟨_, rfl, ?_⟩
    refine wp_forL (xs := OPS.map D.str) (fun i e t2 => ∃ v6 v7 v8 v9, e = [some (.loc a), some (.str z), some (.loc wl), some (.loc sl), some (.loc st.length), some (.loc l), v6, v7, v8, v9, none] ∧ Gr (t ++ [O.lst (OPS.map D.str)]) t2) ⟨none, none, none, none, rfl, Gr.refl⟩ ?_ (by decide) ?_ ?_
    · rintro i e t2 - ⟨v6, v7, v8, v9, rfl, g2⟩
      exact getL_of (g2.keep at_last)
    · rintro i d e t2 hd ⟨v6, v7, v8, v9, rfl, g2⟩
      rw [List.getElem?_map] at hd
      cases ei : OPS[i]? with
      | none => rw [ei] at hd; cases hd
      | some c =>
        rw [ei] at hd
        cases hd
        have hc : c ∈ OPS := List.mem_of_getElem? ei
        have el2 := g2.keep (at_app el)
        refine ⟨_, rfl, ?_⟩
        walk_at "zn"
        walk_at "zn"
        refine wp_for_loc ?_
        walk_at "zy"
        refine ⟨_, rfl, ?_⟩
        refine wp_forL (xs := [Xp.op z (.op c x y) w, .op z x (.op c y w), .op z (.op c x y) (.op c y w)].map Xp.d) (fun i e t3 => ∃ v6 v7 v8 v9, e = [some (.loc a), some (.str z), some (.loc wl), some (.loc sl), some (.loc st.length), some (.loc l), v6, v7, v8, v9, none] ∧ Gr (t2 ++ [O.lst ([Xp.op z (.op c x y) w, .op z x (.op c y w), .op z (.op c x y) (.op c y w)].map Xp.d)]) t3) ⟨_, _, _, _, rfl, Gr.refl⟩ ?_ (by simp) ?_ ?_
        · rintro i e t3 - ⟨v6, v7, v8, v9, rfl, g3⟩
          exact getL_of (g3.keep at_last)
        · rintro i d e t3 hd ⟨v6, v7, v8, v9, rfl, g3⟩
          obtain ⟨v, hv, rfl⟩ := List.mem_map.mp (List.mem_of_getElem? hd)
          have ov : v.wok ∧ v.dep ≤ 12 := by
            simp only [List.mem_cons, List.not_mem_nil, or_false] at hv
            rcases hv with rfl | rfl | rfl
            · exact ⟨⟨hz, ⟨hc, ox.1, oy.1⟩, ow.1⟩, by show max (max x.dep y.dep + 1) w.dep + 1 ≤ 12; omega⟩
            · exact ⟨⟨hz, ox.1, ⟨hc, oy.1, ow.1⟩⟩, by show max x.dep (max y.dep w.dep + 1) + 1 ≤ 12; omega⟩
            · exact ⟨⟨hz, ⟨hc, ox.1, oy.1⟩, ⟨hc, oy.1, ow.1⟩⟩, by show max (max x.dep y.dep + 1) (max y.dep w.dep + 1) + 1 ≤ 12; omega⟩
          refine ⟨_, rfl, ?_⟩
          walk_at "zz"
          refine good_wp ov.1 ov.2 ?_
          intro t4 g4
          walk_at "zz"
          exact ⟨_, _, _, _, rfl, g3.trans g4⟩
        · rintro e t3 ⟨v6, v7, v8, v9, rfl, g3⟩
          exact ⟨_, _, _, _, rfl, g2.trans (Gr.app.trans g3)⟩
    · rintro e t2 ⟨v6, v7, v8, v9, rfl, g2⟩
      exact ⟨_, rfl, _, _, _, _, rfl, Gr.app.trans g2⟩
  rintro e t2 ⟨v6, v7, v8, v9, rfl, g2⟩
  walk_at "zz"
  exact q t2 (g.trans g2.gx)
end
end K02
end
section
set_option Elab.async false
set_option linter.all false
set_option maxRecDepth 100000
set_option maxHeartbeats 4000000
open PySem PySem.Spec PyProof.Rows L2 Z
local macro_rules | `(tactic| fail "zs") => `(tactic| first
  | assumption
  | with_reducible exact at_last
  | (with_reducible apply at_set; fail "zs")
  | (with_reducible apply at_app; fail "zs")
  | (with_reducible apply at_setne; (first | assumption | (apply Ne.symm; assumption) | omega); fail "zs")
  | (with_reducible refine Gr.keep (by assumption) ?_; fail "zs")
  | (with_reducible refine Gx.keep (by assumption) ?_ ?_; (first | assumption | (apply Ne.symm; assumption) | omega); fail "zs"))
local macro_rules | `(tactic| fail "zg") => `(tactic| first
  | assumption
  | (with_reducible apply getL_of; fail "zs")
  | (with_reducible apply getW_of; fail "zs")
  | (with_reducible apply getI_of; fail "zs"))
local macro_rules | `(tactic| fail "za") => `(tactic| first | (with_reducible apply atI_int; (first | assumption | omega); (first | assumption | omega | (simp only [List.length_set]; omega))) | with_unfolding_all exact rfl | assumption)
local macro_rules | `(tactic| fail "y0") => `(tactic| first
  | (with_reducible refine' wp_var ?z1 ?z2; (case z1 => with_unfolding_all exact rfl))
  | with_reducible refine wp_c2 ?_
  | with_reducible refine wp_cons ?_
  | with_reducible refine wp_c ?_
  | with_reducible refine wp_nil ?_
  | with_reducible refine wp_call ?_
  | with_reducible refine wp_c1 ?_)
local macro_rules | `(tactic| fail "y1") => `(tactic| first
  | with_reducible refine wp_set ?_
  | with_reducible refine wp_if ?_
  | with_reducible refine wp_next ?_
  | with_reducible refine wp_ret ?_
  | with_reducible refine af_nx ?_
  | with_reducible refine bk_rt ?_
  | (with_reducible refine' wp_ixL ?z1 ?z2 ?z3; (case z1 => fail "zg"); (case z2 => fail "za"))
  | (with_reducible refine' wp_ixT ?z1 ?z2; (case z1 => fail "za")))
local macro_rules | `(tactic| fail "y2") => `(tactic| first
  | with_reducible refine af_rt ?_
  | with_reducible refine af_bk ?_
  | with_reducible refine bk_nx ?_
  | with_reducible refine turned_nx ?_
  | with_reducible refine turned_bk ?_
  | with_reducible refine turned_rt ?_
  | with_reducible refine wp_and ?_
  | with_reducible refine wp_or ?_)
local macro_rules | `(tactic| fail "y3") => `(tactic| first
  | with_reducible refine wp_not ?_
  | with_reducible refine wp_sub ?_
  | with_reducible refine wp_subA ?_
  | with_reducible refine wp_chain ?_
  | with_reducible refine wp_neAI ?_
  | with_reducible refine wp_neAS ?_
  | with_reducible refine wp_dic0 ?_
  | with_reducible refine wp_drop ?_)
local macro_rules | `(tactic| fail "y4") => `(tactic| first
  | with_reducible refine wp_vK ?_
  | with_reducible refine wp_nox ?_
  | with_reducible refine wp_break ?_
  | with_reducible refine wp_retN ?_
  | with_reducible refine wp_sfld ?_
  | with_reducible refine wp_yes ?_
  | with_reducible refine wp_addI ?_
  | with_reducible refine wp_subI ?_)
local macro_rules | `(tactic| fail "y5") => `(tactic| first
  | with_reducible refine wp_neg ?_
  | with_reducible refine wp_eqI ?_
  | with_reducible refine wp_neI ?_
  | with_reducible refine wp_ltI ?_
  | with_reducible refine wp_leI ?_
  | with_reducible refine wp_gtI ?_
  | with_reducible refine wp_geI ?_
  | with_reducible refine wp_eqS ?_)
local macro_rules | `(tactic| fail "y6") => `(tactic| first
  | with_reducible refine wp_neS ?_
  | with_reducible refine wp_eqB ?_
  | with_reducible refine wp_isN ?_
  | with_reducible refine wp_isNotN ?_
  | with_reducible refine wp_int ?_
  | with_reducible refine wp_max2 ?_
  | with_reducible refine wp_min2 ?_
  | with_reducible refine wp_tr_bl ?_)
local macro_rules | `(tactic| fail "y7") => `(tactic| first
  | with_reducible refine wp_tr_int ?_
  | with_reducible refine wp_tupT ?_
  | with_reducible refine wp_slT ?_
  | with_reducible refine wp_nopart ?_
  | with_reducible refine wp_lst ?_
  | with_reducible refine wp_tup ?_
  | with_reducible refine wp_slice ?_
  | with_reducible refine wp_callK ?_)
local macro_rules | `(tactic| fail "y8") => `(tactic| first
  | with_reducible refine wp_make ?_
  | with_reducible refine wp_meth ?_
  | with_reducible refine wp_is ?_
  | with_reducible refine wp_vand ?_
  | with_reducible refine wp_vor ?_
  | with_reducible refine wp_vnot ?_
  | with_reducible refine wp_asg ?_
  | with_reducible refine wp_part ?_)
local macro_rules | `(tactic| fail "y9") => `(tactic| first
  | with_reducible refine wp_forR1 ?_
  | with_reducible refine wp_forR2 ?_
  | with_reducible refine wp_compR1 ?_
  | with_reducible refine wp_compR2 ?_
  | (with_reducible refine' wp_ixAL ?z1 ?z2 ?z3; (case z1 => fail "zg"); (case z2 => fail "za"))
  | (with_reducible refine' wp_ixAT ?z1 ?z2; (case z1 => fail "za"))
  | (with_reducible refine' and_isL ?z1 ?z2; (case z1 => fail "zg"))
  | (with_reducible refine' wp_append ?z1 ?z2 ?z3; (case z1 => fail "zg"); (case z2 => first | omega | (simp only [List.length_map, List.length_append, List.length_cons, List.length_nil]; omega))))
local macro_rules | `(tactic| fail "y10") => `(tactic| first
  | (with_reducible refine' wp_lenL ?z1 ?z2; (case z1 => fail "zg"))
  | with_reducible refine wp_lenT ?_
  | (with_reducible refine' wp_lenAL ?z1 ?z2; (case z1 => fail "zg"))
  | with_reducible refine wp_lenAT ?_
  | (with_reducible refine' wp_listL ?z1 ?z2; (case z1 => fail "zg"))
  | with_reducible refine wp_listT ?_
  | with_reducible refine ex_bl ?_
  | (with_reducible refine' ex_ty ?z1 ?z2 ?z3; (case z1 => with_unfolding_all exact rfl); (case z2 => with_unfolding_all exact rfl)))
local macro_rules | `(tactic| fail "y11") => `(tactic| first
  | (with_reducible refine' wp_mulT ?z1 ?z2 ?z3; (case z1 => omega); (case z2 => omega))
  | (with_reducible refine' wp_setF ?z1 ?z2 ?z3; (case z1 => fail "zg"); (case z2 => with_unfolding_all exact Nat.le_of_ble_eq_true rfl))
  | (with_reducible refine' wp_setInt ?z1 ?z2 ?z3 ?z4; (case z1 => fail "zg"); (case z2 => first | assumption | omega); (case z3 => first | assumption | omega | (simp only [List.length_set]; omega)))
  | (with_reducible refine' wp_setIx ?z1 ?z2 ?z3; (case z1 => fail "zg"); (case z2 => first | (with_reducible apply ixN_of; (first | assumption | omega); (first | assumption | omega | (rw [List.length_map]; omega))) | with_unfolding_all exact rfl | assumption))
  | (with_reducible refine' wp_setAI ?z1 ?z2 ?z3 ?z4; (case z1 => fail "zg"); (case z2 => first | assumption | omega); (case z3 => first | assumption | omega | (simp only [List.length_set]; omega)))
  | (with_reducible refine' wp_setAX ?z1 ?z2 ?z3; (case z1 => fail "zg"); (case z2 => first | (with_reducible apply ixN_of; (first | assumption | omega); (first | assumption | omega | (rw [List.length_map]; omega))) | with_unfolding_all exact rfl | assumption))
  | (with_reducible refine' wp_modI ?z1 ?z2; (case z1 => omega))
  | (with_reducible refine' wp_divA0 ?z1 ?z2 ?z3; (case z1 => omega); (case z2 => omega)))
local macro_rules | `(tactic| fail "y12") => `(tactic| first
  | (with_reducible refine' wp_mulA ?z1 ?z2; (case z1 => omega))
  | (with_reducible refine' wp_divI ?z1 ?z2 ?z3; (case z1 => omega); (case z2 => omega))
  | (with_reducible refine' wp_mulI ?z1 ?z2; (case z1 => omega))
  | (with_reducible refine' wp_powI ?z1 ?z2; (case z1 => with_unfolding_all decide))
  | (with_reducible refine' wp_fld ?z1 ?z2 ?z3; (case z1 => fail "zg"); (case z2 => first | with_unfolding_all exact rfl | assumption))
  | (with_reducible refine' wp_prop ?z1 ?z2; (case z1 => fail "zg"))
  | (with_reducible refine' wp_tupL ?z1 ?z2; (case z1 => fail "zg"))
  | (with_reducible refine' And.intro ?z1 ?z2; (case z1 => first | with_unfolding_all exact Nat.le_of_ble_eq_true rfl | with_unfolding_all decide)))
local macro_rules | `(tactic| fail "z0") => `(tactic| first | fail "y0" | fail "y1" | fail "y2" | fail "y3" | fail "y4" | fail "y5" | fail "y6" | fail "y7" | fail "y8" | fail "y9" | fail "y10" | fail "y11" | fail "y12")
local macro_rules | `(tactic| fail "z1") => `(tactic| first | with_reducible refine wp_seq ?_ | fail "z0")
local macro_rules | `(tactic| walk_at "z") => `(tactic| (repeat fail "z1"))
local macro_rules | `(tactic| fail "zb") => `(tactic| (with_reducible refine And.intro ?_ ?_; (all_goals (intro hb; first | (simp at hb; done) | (simp at hb; skip) | skip))))
local macro_rules | `(tactic| walk_at "zz") => `(tactic| (repeat' (first | fail "z1" | fail "zb")))
local macro_rules | `(tactic| walk_at "zy") => `(tactic| (repeat' (first | fail "z0" | fail "zb")))
local macro_rules | `(tactic| walk_at "zn") => `(tactic| (with_reducible refine wp_seq ?_; walk_at "zy"))
local macro_rules | `(tactic| walk_at "zs") => `(tactic| fail "zs")
local macro_rules | `(tactic| walk_at "zg") => `(tactic| fail "zg")
local macro_rules | `(tactic| walk_at "za") => `(tactic| fail "za")
local macro_rules | `(tactic| walk_at "z0") => `(tactic| fail "z0")
local macro_rules | `(tactic| walk_at "z1") => `(tactic| fail "z1")
local macro_rules | `(tactic| walk_at "zb") => `(tactic| fail "zb")
namespace K02
open PySem PySem.Spec PyProof.Rows L2 Z
local macro_rules | `(tactic| fail "zb") => `(tactic| (with_reducible refine And.intro ?_ ?_; (all_goals (intro hb; first | (exact absurd hb (by decide)) | (simp at hb; done) | (simp only [decide_eq_true_eq, decide_eq_false_iff_not, Bool.not_eq_true', Bool.not_eq_false'] at hb; skip) | skip))))
/-! the law -/
theorem subs_wp {ws sh : List Str} {x : Xp} {s : S} {Q : D → S → Prop} (h : Xok ws sh 12 x) (q : ∀ (l : Nat) (xs : List Xp) (t : S), Gr s t → t[l]? = some (.lst (xs.map Xp.d)) → (∀ y ∈ xs, Xok ws sh 12 y) → xs.length < 1000000 → Q (.loc l) t) : Wp (F_law_subs [x.d] s) Q := subs_ih 16 12 x h (by omega) (by omega) s Q fun l xs t g e _ hx lx => q l xs t g e hx (by
  rw [sz12] at lx
  omega)
theorem law_wp {ns : List Int} (hn : ns.length < 1000) : Wp (F_law [.loc 0] [.ro (ns.map D.int)]) (fun d _ => d = .bl true) := by
  have z0 : ([.ro (ns.map D.int)] : S)[0]? = some (.ro (ns.map D.int)) := rfl
  unfold F_law b_law
  refine wp_fn rfl ?_
  refine wp_mid (fun e s => e = [some (.loc 0), some (.loc 1), none, none, none, none, none, none] ∧ s[0]? = some (.ro (ns.map D.int)) ∧ Feed s 1) ?_ ?_
  · walk_at "zy"
    refine cell_wp z0 (by omega) (by omega) (by omega) ?_
    intro d
    walk_at "zy"
    refine feed_wp ?_
    intro s g f l
    exact ⟨_, rfl, rfl, g.keep z0, f⟩
  rintro e s1 ⟨rfl, z1, f1⟩
  refine wp_mid (fun e s => ∃ (wl : Nat) (ws : List Str), e = [some (.loc 0), some (.loc 1), some (.loc wl), none, none, none, none, none] ∧ s[0]? = some (.ro (ns.map D.int)) ∧ Feed s 1 ∧ 1 < wl ∧ s[wl]? = some (.lst (ws.map D.str)) ∧ (∀ w ∈ ws, Nm w) ∧ 1 ≤ ws.length ∧ ws.length ≤ 6) ?_ ?_
  · walk_at "zy"
    refine take_wp f1 (by omega) (by omega) ?_
    intro j s2 j0 j1 g2 f2 l2
    walk_at "zy"
    refine wrow_wp f2 (by omega) (by omega) ?_
    intro ws s3 hw lw e3 g3 f3
    have := f2.lt
    exact ⟨_, rfl, _, ws, rfl, g3.keep (by omega) (g2.keep (by omega) z1), f3, this, e3, hw, by omega, by omega⟩
  clear z1 f1 s1 z0
  rintro e s1 ⟨wl, ws, rfl, z1, f1, l1, e1, hw, w1, w6⟩
  refine wp_mid (fun e s => ∃ (sl : Nat) (sh : List Str), e = [some (.loc 0), some (.loc 1), some (.loc wl), some (.loc sl), none, none, none, none] ∧ s[0]? = some (.ro (ns.map D.int)) ∧ Feed s 1 ∧ wl < sl ∧ s[wl]? = some (.lst (ws.map D.str)) ∧ s[sl]? = some (.lst (sh.map D.str)) ∧ (∀ w ∈ sh, Nm w) ∧ 1 ≤ sh.length ∧ sh.length ≤ 4) ?_ ?_
  · have l2 := at_lt e1
    walk_at "zy"
    refine take_wp f1 (by omega) (by omega) ?_
    intro j s2 j0 j1 g2 f2 l2
    walk_at "zy"
    refine wrow_wp f2 (by omega) (by omega) ?_
    intro zs s3 hz lz e3 g3 f3
    have gl := g2.len
    exact ⟨_, rfl, _, zs, rfl, g3.keep (by omega) (g2.keep (by omega) z1), f3, by omega, g3.keep (by omega) (g2.keep (by omega) e1), e3, hz, by omega, by omega⟩
  clear z1 f1 e1 s1
  rintro e s1 ⟨sl, sh, rfl, z1, f1, l2, e1, e2, hs, s1', s4⟩
  refine wp_mid (fun e s => ∃ (sh : List Str), e = [some (.loc 0), some (.loc 1), some (.loc wl), some (.loc sl), none, none, none, none] ∧ s[0]? = some (.ro (ns.map D.int)) ∧ Ws s wl sl ws sh) ?_ ?_
  · walk_at "zy"
    refine take_wp f1 (by omega) (by omega) ?_
    intro j s2 j0 j1 g2 f2 l2
    have z2 := g2.keep (by omega) z1
    have e12 := g2.keep (by omega) e1
    have e22 := g2.keep (by omega) e2
    have w0 : ws ≠ [] := fun h => by
      rw [h] at w1
      cases w1
    walk_at "zy"
    · refine wp_strIx (getL_of e12) (by omega) (by omega) ?_
      intro z hz
      walk_at "zy"
      refine ⟨_, rfl, sh ++ [z], rfl, at_setne (by omega) z2, at_setne (by omega) e12, ?_, w0, w6, by simp, by rw [List.length_append, List.length_singleton]; omega, hw, ?_⟩
      · rw [List.map_append]
        exact at_set e22
      · intro y hy
        rcases List.mem_append.mp hy with hy | hy
        · exact hs y hy
        · rw [List.mem_singleton.mp hy]
          exact hw z hz
    · exact ⟨_, rfl, sh, rfl, z2, e12, e22, w0, w6, (fun h => by
        rw [h] at s1'
        cases s1'), by omega, hw, hs⟩
  clear z1 f1 e1 e2 hs s1' s4 s1 sh
  rintro e s1 ⟨sh, rfl, z1, h1⟩
  refine wp_mid (fun e s => ∃ x : Xp, e = [some (.loc 0), some (.loc 1), some (.loc wl), some (.loc sl), some x.d, none, none, none] ∧ Gr s1 s ∧ Xok ws sh 12 x) ?_ ?_
  · walk_at "zy"
    refine cell_wp z1 (by omega) (by omega) (by omega) ?_
    intro d
    walk_at "zy"
    refine drawn_wp h1 ?_
    intro x s hx g
    exact ⟨_, rfl, x, rfl, g, hx⟩
  rintro e s2 ⟨x, rfl, g2, hx⟩
  have xw : x.wok := ok_wok h1.nw h1.ns hx.1
  have xd := hx.2
  refine wp_mid (fun e s => ∃ v, e = [some (.loc 0), some (.loc 1), some (.loc wl), some (.loc sl), some x.d, v, none, none] ∧ Gr s2 s) ?_ ?_
  · refine wp_for_loc ?_
    walk_at "zy"
    refine subs_wp hx ?_
    intro l xs t g e hxs lx
    refine ⟨_, rfl, ?_⟩
    refine wp_forL (xs := xs.map Xp.d) (fun i e s => ∃ v, e = [some (.loc 0), some (.loc 1), some (.loc wl), some (.loc sl), some x.d, v, none, none] ∧ Gr t s) ⟨none, rfl, Gr.refl⟩ ?_ (by rw [List.length_map]; exact lx) ?_ ?_
    · rintro i e s - ⟨v, rfl, g3⟩
      exact getL_of (g3.keep ‹t[l]? = _›)
    · rintro i d e s hd ⟨v, rfl, g3⟩
      obtain ⟨y, hy, rfl⟩ := List.mem_map.mp (List.mem_of_getElem? hd)
      have oy := hxs y hy
      refine ⟨_, rfl, ?_⟩
      walk_at "zz"
      refine good_wp (ok_wok h1.nw h1.ns oy.1) oy.2 ?_
      intro t4 g4
      walk_at "zz"
      exact ⟨_, rfl, g3.trans g4⟩
    · rintro e s ⟨v, rfl, g3⟩
      exact ⟨_, rfl, v, rfl, g.trans g3⟩
  rintro e s3 ⟨v, rfl, g3⟩
  have z3 := g3.keep (g2.keep z1)
  have h3 := (h1.gr g2).gr g3
  refine wp_mid (fun e s => e = [some (.loc 0), some (.loc 1), some (.loc wl), some (.loc sl), some x.d, v, some (.loc s3.length), none] ∧ Gr s3 s ∧ Feed s s3.length) ?_ ?_
  · walk_at "zy"
    refine cell_wp z3 (by omega) (by omega) (by omega) ?_
    intro d
    walk_at "zy"
    refine feed_wp ?_
    intro s g f l
    exact ⟨_, rfl, rfl, g, f⟩
  rintro e s4 ⟨rfl, g4, f4⟩
  refine wp_mid (fun e s => ∃ z, z ∈ OPS ∧ e = [some (.loc 0), some (.loc 1), some (.loc wl), some (.loc sl), some x.d, v, some (.loc s3.length), some (.str z)] ∧ Gx s3.length s4 s ∧ Feed s s3.length) ?_ ?_
  · walk_at "zy"
    refine take_wp (f4.gr Gr.app) (by omega) (by omega) ?_
    intro j s5 j0 j1 g5 f5 l5
    have e5 := g5.keep (by have := f4.lt; omega) (at_last (s := s4) (o := O.lst (OPS.map D.str)))
    refine wp_strIx (getL_of e5) j0 (by exact j1) ?_
    intro z hz
    exact ⟨_, rfl, z, hz, rfl, Gr.app.gx.trans g5, f5⟩
  rintro e s5 ⟨z, hz, rfl, g5, f5⟩
  have a1 := at_lt h3.w
  have a2 := at_lt h3.h
  have G5 : Gx s3.length s3 s5 := g4.gx.trans g5
  have h5 : Ws s5 wl sl ws sh := ⟨G5.keep (by omega) h3.w, G5.keep (by omega) h3.h, h3.w0, h3.w1, h3.s0, h3.s1, h3.nw, h3.ns⟩
  refine wp_mid (fun e s => e = [some (.loc 0), some (.loc 1), some (.loc wl), some (.loc sl), some x.d, v, some (.loc s3.length), some (.str z)] ∧ Gr s5 s) ?_ ?_
  · walk_at "zy"
    refine write_wp xw xd ?_
    intro t g
    walk_at "zy"
    refine lwrite_wp xw xd ?_
    intro t2 g2
    walk_at "zy"
    refine same_wp (n := 0) .str (by omega) ?_
    walk_at "zy"
    exact ⟨_, rfl, rfl, g.trans g2⟩
  rintro e s6 ⟨rfl, g6⟩
  walk_at "zz"
  refine pairs_wp hz (h5.gr g6) (f5.gr g6) (by omega) (by omega) ?_
  intro s7 g7
  walk_at "zz"
  refine ⟨true, rfl, fun _ => ?_, fun h => nomatch h⟩
  walk_at "zz"
  refine good_wp xw xd ?_
  intro s8 g8
  walk_at "zz"
  rfl
end K02
end
section
set_option Elab.async false
set_option linter.all false
set_option maxRecDepth 100000
set_option maxHeartbeats 1000000
namespace K02
open PySem PySem.Spec PyProof.Rows L2 Z
section
variable {P : Program} {w : World} {K : PySem.W.Frag} {mg : Str → Option Value} {base : Heap} {cad : Nat → Addr}
theorem ok_binding_level (tp : Tp K w mg cad) (self : Def K mg "binding_level" s_binding_level ["expression"]) : Fn P w K mg base cad "binding_level" s_binding_level ["expression"] 1 F_binding_level := by
  obtain ⟨f, fd, F, g, b⟩ := self.ex
  exact ⟨f, fd, fn_ok F sc_binding_level (fun cdv A outer s H E hr =>
  (s_cons (s_if (t_cmp (kq_neA hr.units) (e_ixA hr.units (e_var 0) e_int) e_str) (s_one (s_ret e_int)) s_nil)
  (s_one (s_ret (e_getC tp.LEVELS_k (e_cst tp.LEVELS) (e_ixA hr.units (e_var 0) e_int) e_int))))), g, F.kp, b, F⟩
theorem step_write_expression (n : Nat) (tp : Tp K w mg cad) (self : Def K mg "write_expression" s_write_expression ["expression"]) (h_binding_level : Fn P w K mg base cad "binding_level" s_binding_level ["expression"] 1 F_binding_level) (h_write_expression : Fn P w K mg base cad "write_expression" s_write_expression ["expression"] (1 + n) (R_write_expression n)) (h_operand_text : Fn P w K mg base cad "operand_text" s_operand_text ["expression", "lowest"] (1 + n) (R_operand_text n)) : Fn P w K mg base cad "write_expression" s_write_expression ["expression"] (1 + n + 1) (R_write_expression (n + 1)) := by
  obtain ⟨f, fd, F, g, b⟩ := self.ex
  exact ⟨f, fd, fn_ok F sc_write_expression (fun cdv A outer s H E hr =>
  (s_cons (s_set (i := 1) sc_write_expression.nd (e_ixA hr.units (e_var 0) e_int))
  (s_cons (s_if (t_cmp (k_eq hr.units) (e_var 1) e_str) (s_one (s_ret (e_callTy q_str (by rfl) tp.str_ bt_str (a_cons (e_ixA hr.units (e_var 0) e_int) a_nil)))) s_nil)
  (s_cons (s_if (t_cmp (k_eq hr.units) (e_var 1) e_str) (s_one (s_ret (e_ixA hr.units (e_var 0) e_int))) s_nil)
  (s_cons (s_if (t_cmp (k_eq hr.units) (e_var 1) e_str) (s_one (s_ret (e_bin o_add (e_bin o_add (e_bin o_add (e_ixA hr.units (e_var 0) e_int) e_str) (e_callF h_write_expression (hr.mono (by omega)) hand_on (a_cons (e_ixA hr.units (e_var 0) e_int) a_nil))) e_str))) s_nil)
  (s_cons (s_if (t_cmp (k_eq hr.units) (e_var 1) e_str) (s_one (s_ret (e_bin o_add (e_bin o_add (e_bin o_add (e_ixA hr.units (e_var 0) e_int) e_str) (e_join e_str (e_comp rfl sc_write_expression.nd (blkOk_by (own := [("part", 5)]) (N := N_write_expression) (sc := (defScope s_write_expression)) (by decide +kernel)) (e_ixA hr.units (e_var 0) e_int) tgr_name (own_name (by decide)) (fun _ _ _ _ _ => (pg_name (i := 5) sc_write_expression.nd rfl (by first | exact Or.inl rfl | exact Or.inr rfl))) (fun _ _ _ _ _ => i_nil) (fun _ _ _ _ _ => (e_callF h_write_expression (hr.mono (by omega)) passL (a_cons (e_var 5) a_nil)))))) e_str))) s_nil)
  (s_cons (s_set (i := 2) sc_write_expression.nd (e_callF h_binding_level (hr.mono (by omega)) hand_on (a_cons (e_var 0) a_nil)))
  (s_cons (s_set (i := 3) sc_write_expression.nd (e_callF h_operand_text (hr.mono (by omega)) hand_on (a_cons (e_ixA hr.units (e_var 0) e_int) (a_cons (e_callB (q_max rfl) (by rfl) tp.max_ bt_max (a_cons (e_var 2) (a_cons e_int a_nil))) a_nil))))
  (s_cons (s_set (i := 4) sc_write_expression.nd (e_callF h_operand_text (hr.mono (by omega)) hand_on (a_cons (e_ixA hr.units (e_var 0) e_int) (a_cons (e_bin o_add (e_var 2) e_int) a_nil))))
  (s_one (s_ret (e_bin o_add (e_bin o_add (e_bin o_add (e_bin o_add (e_var 3) e_str) (e_ixA hr.units (e_var 0) e_int)) e_str) (e_var 4))))))))))))), g, F.kp, b, F⟩
theorem step_operand_text (n : Nat) (tp : Tp K w mg cad) (self : Def K mg "operand_text" s_operand_text ["expression", "lowest"]) (h_binding_level : Fn P w K mg base cad "binding_level" s_binding_level ["expression"] 1 F_binding_level) (h_write_expression : Fn P w K mg base cad "write_expression" s_write_expression ["expression"] (1 + n) (R_write_expression n)) (h_operand_text : Fn P w K mg base cad "operand_text" s_operand_text ["expression", "lowest"] (1 + n) (R_operand_text n)) : Fn P w K mg base cad "operand_text" s_operand_text ["expression", "lowest"] (1 + n + 1) (R_operand_text (n + 1)) := by
  obtain ⟨f, fd, F, g, b⟩ := self.ex
  exact ⟨f, fd, fn_ok F sc_operand_text (fun cdv A outer s H E hr =>
  (s_cons (s_set (i := 2) sc_operand_text.nd (e_callF h_write_expression (hr.mono (by omega)) hand_on (a_cons (e_var 0) a_nil)))
  (s_cons (s_if (t_cmp k_lt (e_callF h_binding_level (hr.mono (by omega)) hand_on (a_cons (e_var 0) a_nil)) (e_var 1)) (s_one (s_ret (e_bin o_add (e_bin o_add e_str (e_var 2)) e_str))) s_nil)
  (s_one (s_ret (e_var 2)))))), g, F.kp, b, F⟩
theorem all_write_expression (tp : Tp K w mg cad) (self_write_expression : Def K mg "write_expression" s_write_expression ["expression"]) (self_operand_text : Def K mg "operand_text" s_operand_text ["expression", "lowest"]) (h_binding_level : Fn P w K mg base cad "binding_level" s_binding_level ["expression"] 1 F_binding_level) : ∀ n : Nat, Fn P w K mg base cad "write_expression" s_write_expression ["expression"] (1 + n) (R_write_expression n) ∧ Fn P w K mg base cad "operand_text" s_operand_text ["expression", "lowest"] (1 + n) (R_operand_text n) := by
  intro n
  induction n with
  | zero => exact ⟨fn_zero_f self_write_expression, fn_zero_f self_operand_text⟩
  | succ n ih =>
    obtain ⟨hr0, hr1⟩ := ih
    exact ⟨step_write_expression n tp self_write_expression h_binding_level hr0 hr1, step_operand_text n tp self_operand_text h_binding_level hr0 hr1⟩
theorem ok_BadExpression_init (tp : Tp K w mg cad) (self : ExD K mg "BadExpression" (cad 1) "text" "BadExpression.__init__" s_BadExpression_init) : Xc P w K mg base "BadExpression" (cad 1) "text" := self.ok sc_BadExpression_init (fun fI cdv A outer s H E => pss_one (ps_ost (pv 0) (pv 1)))
theorem ok_run_end (tp : Tp K w mg cad) (self : Def K mg "run_end" s_run_end ["text", "at"]) : Fn P w K mg base cad "run_end" s_run_end ["text", "at"] 1 F_run_end := by
  obtain ⟨f, fd, F, g, b⟩ := self.ex
  exact ⟨f, fd, fn_ok F sc_run_end (fun cdv A outer s H E hr =>
  (s_cons (s_set (i := 2) sc_run_end.nd (e_var 1))
  (s_cons (s_while own_ok (t_w (w_and (t_cmp k_lt (e_var 2) (e_callB (q_lenA) (by rfl) tp.len_ bt_len (a_cons (e_var 0) a_nil))) (w_and1 (t_cmp (kq_inA hr.units) (e_ixA hr.units (e_var 0) (e_var 2)) (e_cst tp.WORD_CHARS))))) (s_one (s_set (i := 2) sc_run_end.nd (e_bin o_add (e_var 2) e_int))))
  (s_one (s_ret (e_var 2)))))), g, F.kp, b, F⟩
theorem ok_run_token (tp : Tp K w mg cad) (self : Def K mg "run_token" s_run_token ["run"]) : Fn P w K mg base cad "run_token" s_run_token ["run"] 1 F_run_token := by
  obtain ⟨f, fd, F, g, b⟩ := self.ex
  exact ⟨f, fd, fn_ok F sc_run_token (fun cdv A outer s H E hr =>
  (s_cons (s_if (t_cmp (kq_inA hr.units) (e_ixA hr.units (e_var 0) e_int) (e_cst tp.LETTERS)) (s_cons (s_if (t_cmp k_gt (e_callB (q_lenA) (by rfl) tp.len_ bt_len (a_cons (e_var 0) a_nil)) (e_cst tp.LONGEST_WORD)) (s_one (s_ret e_non)) s_nil)
  (s_one (s_ret (e_tup (a_cons e_str (a_cons (e_var 0) a_nil)))))) s_nil)
  (s_cons (s_if (t_w (w_or (t_cmp k_gt (e_callB (q_lenA) (by rfl) tp.len_ bt_len (a_cons (e_var 0) a_nil)) (e_cst tp.LONGEST_NUMBER)) (w_or1 (t_w (w_and (t_cmp (k_eq hr.units) (e_ixA hr.units (e_var 0) e_int) e_str) (w_and1 (t_cmp k_gt (e_callB (q_lenA) (by rfl) tp.len_ bt_len (a_cons (e_var 0) a_nil)) e_int))))))) (s_one (s_ret e_non)) s_nil)
  (s_cons (s_forS own_ok rfl (e_var 0) (g_name (i := 1) sc_run_token.nd) (s_one (s_if (t_cmp (kq_notInA hr.units) (e_var 1) (e_cst tp.DIGITS)) (s_one (s_ret e_non)) s_nil)))
  (s_cons (s_if (t_cmp k_gt (e_callTy q_intS (by rfl) tp.int_ bt_int (a_cons (e_var 0) a_nil)) (e_cst tp.LIMIT)) (s_one (s_ret e_non)) s_nil)
  (s_one (s_ret (e_tup (a_cons e_str (a_cons (e_callTy q_intS (by rfl) tp.int_ bt_int (a_cons (e_var 0) a_nil)) a_nil)))))))))), g, F.kp, b, F⟩
theorem ok_sign_at (tp : Tp K w mg cad) (self : Def K mg "sign_at" s_sign_at ["text", "at"]) : Fn P w K mg base cad "sign_at" s_sign_at ["text", "at"] 1 F_sign_at := by
  obtain ⟨f, fd, F, g, b⟩ := self.ex
  exact ⟨f, fd, fn_ok F sc_sign_at (fun cdv A outer s H E hr =>
  (s_cons (s_if (t_cmp (kq_inA hr.units) (e_slice (e_var 0) (o_some (e_var 1)) (o_some (e_bin o_add (e_var 1) e_int))) (e_cst tp.LONG_SIGNS)) (s_one (s_ret (e_slice (e_var 0) (o_some (e_var 1)) (o_some (e_bin o_add (e_var 1) e_int))))) s_nil)
  (s_cons (s_if (t_cmp (kq_inA hr.units) (e_ixA hr.units (e_var 0) (e_var 1)) (e_cst tp.SHORT_SIGNS)) (s_one (s_ret (e_ixA hr.units (e_var 0) (e_var 1)))) s_nil)
  (s_one (s_ret e_str))))), g, F.kp, b, F⟩
theorem ok_tokens_of (tp : Tp K w mg cad) (self : Def K mg "tokens_of" s_tokens_of ["text"]) (h_run_end : Fn P w K mg base cad "run_end" s_run_end ["text", "at"] 1 F_run_end) (h_run_token : Fn P w K mg base cad "run_token" s_run_token ["run"] 1 F_run_token) (h_sign_at : Fn P w K mg base cad "sign_at" s_sign_at ["text", "at"] 1 F_sign_at) : Fn P w K mg base cad "tokens_of" s_tokens_of ["text"] 2 F_tokens_of := by
  obtain ⟨f, fd, F, g, b⟩ := self.ex
  exact ⟨f, fd, fn_ok F sc_tokens_of (fun cdv A outer s H E hr =>
  (s_cons (s_set (i := 1) sc_tokens_of.nd (e_lst a_nil))
  (s_cons (s_set (i := 2) sc_tokens_of.nd e_int)
  (s_cons (s_while own_ok (t_cmp k_lt (e_var 2) (e_callB (q_lenA) (by rfl) tp.len_ bt_len (a_cons (e_var 0) a_nil))) (s_one (s_if (t_cmp (k_eq hr.units) (e_ixA hr.units (e_var 0) (e_var 2)) e_str) (s_one (s_set (i := 2) sc_tokens_of.nd (e_bin o_add (e_var 2) e_int))) (s_one (s_if (t_cmp (kq_inA hr.units) (e_ixA hr.units (e_var 0) (e_var 2)) (e_cst tp.WORD_CHARS)) (s_cons (s_set (i := 3) sc_tokens_of.nd (e_callF h_run_end (hr.mono (by omega)) hand_on (a_cons (e_var 0) (a_cons (e_var 2) a_nil))))
  (s_cons (s_set (i := 4) sc_tokens_of.nd (e_callF h_run_token (hr.mono (by omega)) hand_on (a_cons (e_slice (e_var 0) (o_some (e_var 2)) (o_some (e_var 3))) a_nil)))
  (s_cons (s_if (t_cmp kq_is (e_var 4) e_non) (s_one (s_ret e_non)) s_nil)
  (s_cons (s_expr (e_meth PySem.F.slot_list_append PySem.F.type_list_append d_append (e_var 1) (a_cons (e_var 4) a_nil)))
  (s_one (s_set (i := 2) sc_tokens_of.nd (e_var 3))))))) (s_cons (s_set (i := 5) sc_tokens_of.nd (e_callF h_sign_at (hr.mono (by omega)) hand_on (a_cons (e_var 0) (a_cons (e_var 2) a_nil))))
  (s_cons (s_if (t_cmp (k_eq hr.units) (e_var 5) e_str) (s_one (s_ret e_non)) s_nil)
  (s_cons (s_expr (e_meth PySem.F.slot_list_append PySem.F.type_list_append d_append (e_var 1) (a_cons (e_tup (a_cons e_str (a_cons (e_var 5) a_nil))) a_nil)))
  (s_one (s_set (i := 2) sc_tokens_of.nd (e_bin o_add (e_var 2) (e_callB (q_lenA) (by rfl) tp.len_ bt_len (a_cons (e_var 5) a_nil)))))))))))))
  (s_one (s_ret (e_callTy q_tuple (by rfl) tp.tuple_ bt_tuple (a_cons (e_var 1) a_nil)))))))), g, F.kp, b, F⟩
theorem ok_is_one_of (tp : Tp K w mg cad) (self : Def K mg "is_one_of" s_is_one_of ["tokens", "at", "signs"]) : Fn P w K mg base cad "is_one_of" s_is_one_of ["tokens", "at", "signs"] 1 F_is_one_of := by
  obtain ⟨f, fd, F, g, b⟩ := self.ex
  exact ⟨f, fd, fn_ok F sc_is_one_of (fun cdv A outer s H E hr =>
  (s_one (s_ret (e_and (e_cmp k_lt (e_var 1) (e_callB (q_lenA) (by rfl) tp.len_ bt_len (a_cons (e_var 0) a_nil))) (e_and (e_cmp (kq_neA hr.units) (e_ixA hr.units (e_ixA hr.units (e_var 0) (e_var 1)) e_int) e_str) (e_one (e_cmp (kq_inA hr.units) (e_ixA hr.units (e_ixA hr.units (e_var 0) (e_var 1)) e_int) (e_var 2)))))))), g, F.kp, b, F⟩
theorem ok_taken_join (tp : Tp K w mg cad) (self : Def K mg "taken_join" s_taken_join ["sign", "left", "right"]) : Fn P w K mg base cad "taken_join" s_taken_join ["sign", "left", "right"] 1 F_taken_join := by
  obtain ⟨f, fd, F, g, b⟩ := self.ex
  exact ⟨f, fd, fn_ok F sc_taken_join (fun cdv A outer s H E hr =>
  (s_cons (s_if (t_cmp kq_is (e_var 2) e_non) (s_one (s_ret e_non)) s_nil)
  (s_cons (s_set (i := 3) sc_taken_join.nd (e_bin o_add e_int (e_callB (q_max rfl) (by rfl) tp.max_ bt_max (a_cons (e_ixA hr.units (e_var 1) e_int) (a_cons (e_ixA hr.units (e_var 2) e_int) a_nil)))))
  (s_cons (s_if (t_cmp k_gt (e_var 3) (e_cst tp.DEEPEST)) (s_one (s_ret e_non)) s_nil)
  (s_one (s_ret (e_tup (a_cons (e_tup (a_cons e_str (a_cons (e_var 0) (a_cons (e_ixA hr.units (e_var 1) e_int) (a_cons (e_ixA hr.units (e_var 2) e_int) a_nil))))) (a_cons (e_ixA hr.units (e_var 2) e_int) (a_cons (e_var 3) a_nil)))))))))), g, F.kp, b, F⟩
theorem step_taken_read (n : Nat) (tp : Tp K w mg cad) (self : Def K mg "taken_read" s_taken_read ["tokens", "at", "opened"]) (h_is_one_of : Fn P w K mg base cad "is_one_of" s_is_one_of ["tokens", "at", "signs"] 1 F_is_one_of) (h_taken_join : Fn P w K mg base cad "taken_join" s_taken_join ["sign", "left", "right"] 1 F_taken_join) (h_taken_read : Fn P w K mg base cad "taken_read" s_taken_read ["tokens", "at", "opened"] (1 + n) (R_taken_read n)) (h_taken_call : Fn P w K mg base cad "taken_call" s_taken_call ["tokens", "at", "opened"] (1 + n) (R_taken_call n)) (h_taken_atom : Fn P w K mg base cad "taken_atom" s_taken_atom ["tokens", "at", "opened"] (1 + n) (R_taken_atom n)) (h_taken_product : Fn P w K mg base cad "taken_product" s_taken_product ["tokens", "at", "opened"] (1 + n) (R_taken_product n)) (h_taken_sum : Fn P w K mg base cad "taken_sum" s_taken_sum ["tokens", "at", "opened"] (1 + n) (R_taken_sum n)) (h_taken_whole : Fn P w K mg base cad "taken_whole" s_taken_whole ["tokens", "at", "opened"] (1 + n) (R_taken_whole n)) (h_taken_inside : Fn P w K mg base cad "taken_inside" s_taken_inside ["tokens", "at", "opened", "closing"] (1 + n) (R_taken_inside n)) : Fn P w K mg base cad "taken_read" s_taken_read ["tokens", "at", "opened"] (1 + n + 1) (R_taken_read (n + 1)) := by
  obtain ⟨f, fd, F, g, b⟩ := self.ex
  exact ⟨f, fd, fn_ok F sc_taken_read (fun cdv A outer s H E hr =>
  (s_cons (s_set (i := 3) sc_taken_read.nd (e_callF h_taken_inside (hr.mono (by omega)) hand_on (a_cons (e_var 0) (a_cons (e_bin o_add (e_var 1) e_int) (a_cons (e_bin o_add (e_var 2) e_int) (a_cons e_str a_nil))))))
  (s_cons (s_if (t_w (w_or (t_cmp kq_is (e_var 3) e_non) (w_or1 (t_cmp (k_eq hr.units) (e_ixA hr.units (e_var 3) e_int) (e_cst tp.DEEPEST))))) (s_one (s_ret e_non)) s_nil)
  (s_one (s_ret (e_tup (a_cons (e_tup (a_cons e_str (a_cons (e_ixA hr.units (e_ixA hr.units (e_var 0) (e_var 1)) e_int) (a_cons (e_ixA hr.units (e_var 3) e_int) a_nil)))) (a_cons (e_ixA hr.units (e_var 3) e_int) (a_cons (e_bin o_add e_int (e_ixA hr.units (e_var 3) e_int)) a_nil))))))))), g, F.kp, b, F⟩
theorem step_taken_call (n : Nat) (tp : Tp K w mg cad) (self : Def K mg "taken_call" s_taken_call ["tokens", "at", "opened"]) (h_is_one_of : Fn P w K mg base cad "is_one_of" s_is_one_of ["tokens", "at", "signs"] 1 F_is_one_of) (h_taken_join : Fn P w K mg base cad "taken_join" s_taken_join ["sign", "left", "right"] 1 F_taken_join) (h_taken_read : Fn P w K mg base cad "taken_read" s_taken_read ["tokens", "at", "opened"] (1 + n) (R_taken_read n)) (h_taken_call : Fn P w K mg base cad "taken_call" s_taken_call ["tokens", "at", "opened"] (1 + n) (R_taken_call n)) (h_taken_atom : Fn P w K mg base cad "taken_atom" s_taken_atom ["tokens", "at", "opened"] (1 + n) (R_taken_atom n)) (h_taken_product : Fn P w K mg base cad "taken_product" s_taken_product ["tokens", "at", "opened"] (1 + n) (R_taken_product n)) (h_taken_sum : Fn P w K mg base cad "taken_sum" s_taken_sum ["tokens", "at", "opened"] (1 + n) (R_taken_sum n)) (h_taken_whole : Fn P w K mg base cad "taken_whole" s_taken_whole ["tokens", "at", "opened"] (1 + n) (R_taken_whole n)) (h_taken_inside : Fn P w K mg base cad "taken_inside" s_taken_inside ["tokens", "at", "opened", "closing"] (1 + n) (R_taken_inside n)) : Fn P w K mg base cad "taken_call" s_taken_call ["tokens", "at", "opened"] (1 + n + 1) (R_taken_call (n + 1)) := by
  obtain ⟨f, fd, F, g, b⟩ := self.ex
  exact ⟨f, fd, fn_ok F sc_taken_call (fun cdv A outer s H E hr =>
  (s_cons (s_set (i := 3) sc_taken_call.nd (e_ixA hr.units (e_ixA hr.units (e_var 0) (e_var 1)) e_int))
  (s_cons (s_if (t_w (w_or (t_not (t_val (e_callF h_is_one_of (hr.mono (by omega)) hand_on (a_cons (e_var 0) (a_cons (e_bin o_add (e_var 1) e_int) (a_cons (e_tup (a_cons e_str a_nil)) a_nil)))))) (w_or1 (t_cmp (k_eq hr.units) (e_var 2) (e_cst tp.MOST_BRACKETS))))) (s_one (s_ret e_non)) s_nil)
  (s_cons (s_set (i := 4) sc_taken_call.nd (e_lst a_nil))
  (s_cons (s_set (i := 5) sc_taken_call.nd e_int)
  (s_cons (s_set (i := 6) sc_taken_call.nd (e_bin o_add (e_var 1) e_int))
  (s_cons (s_forR1 own_ok rfl (by rfl) tp.range_ (a_cons (e_ixC tp.ARGUMENT_COUNTS_k (e_cst tp.ARGUMENT_COUNTS) (e_var 3)) a_nil) (g_name (i := 7) sc_taken_call.nd) (s_cons (s_if (t_w (w_and (t_cmp k_gt (e_var 7) e_int) (w_and1 (t_not (t_val (e_callF h_is_one_of (hr.mono (by omega)) hand_on (a_cons (e_var 0) (a_cons (e_var 6) (a_cons (e_tup (a_cons e_str a_nil)) a_nil))))))))) (s_one (s_ret e_non)) s_nil)
  (s_cons (s_set (i := 8) sc_taken_call.nd (e_callF h_taken_whole (hr.mono (by omega)) hand_on (a_cons (e_var 0) (a_cons (e_bin o_add (e_var 6) e_int) (a_cons (e_bin o_add (e_var 2) e_int) a_nil)))))
  (s_cons (s_if (t_cmp kq_is (e_var 8) e_non) (s_one (s_ret e_non)) s_nil)
  (s_cons (s_expr (e_meth PySem.F.slot_list_append PySem.F.type_list_append d_append (e_var 4) (a_cons (e_ixA hr.units (e_var 8) e_int) a_nil)))
  (s_cons (s_set (i := 6) sc_taken_call.nd (e_ixA hr.units (e_var 8) e_int))
  (s_one (s_set (i := 5) sc_taken_call.nd (e_callB (q_max rfl) (by rfl) tp.max_ bt_max (a_cons (e_var 5) (a_cons (e_ixA hr.units (e_var 8) e_int) a_nil)))))))))))
  (s_cons (s_if (t_w (w_or (t_not (t_val (e_callF h_is_one_of (hr.mono (by omega)) hand_on (a_cons (e_var 0) (a_cons (e_var 6) (a_cons (e_tup (a_cons e_str a_nil)) a_nil)))))) (w_or1 (t_cmp (k_eq hr.units) (e_var 5) (e_cst tp.DEEPEST))))) (s_one (s_ret e_non)) s_nil)
  (s_one (s_ret (e_tup (a_cons (e_tup (a_cons e_str (a_cons (e_var 3) (a_cons (e_callTy q_tuple (by rfl) tp.tuple_ bt_tuple (a_cons (e_var 4) a_nil)) a_nil)))) (a_cons (e_bin o_add (e_var 6) e_int) (a_cons (e_bin o_add e_int (e_var 5)) a_nil)))))))))))))), g, F.kp, b, F⟩
theorem step_taken_atom (n : Nat) (tp : Tp K w mg cad) (self : Def K mg "taken_atom" s_taken_atom ["tokens", "at", "opened"]) (h_is_one_of : Fn P w K mg base cad "is_one_of" s_is_one_of ["tokens", "at", "signs"] 1 F_is_one_of) (h_taken_join : Fn P w K mg base cad "taken_join" s_taken_join ["sign", "left", "right"] 1 F_taken_join) (h_taken_read : Fn P w K mg base cad "taken_read" s_taken_read ["tokens", "at", "opened"] (1 + n) (R_taken_read n)) (h_taken_call : Fn P w K mg base cad "taken_call" s_taken_call ["tokens", "at", "opened"] (1 + n) (R_taken_call n)) (h_taken_atom : Fn P w K mg base cad "taken_atom" s_taken_atom ["tokens", "at", "opened"] (1 + n) (R_taken_atom n)) (h_taken_product : Fn P w K mg base cad "taken_product" s_taken_product ["tokens", "at", "opened"] (1 + n) (R_taken_product n)) (h_taken_sum : Fn P w K mg base cad "taken_sum" s_taken_sum ["tokens", "at", "opened"] (1 + n) (R_taken_sum n)) (h_taken_whole : Fn P w K mg base cad "taken_whole" s_taken_whole ["tokens", "at", "opened"] (1 + n) (R_taken_whole n)) (h_taken_inside : Fn P w K mg base cad "taken_inside" s_taken_inside ["tokens", "at", "opened", "closing"] (1 + n) (R_taken_inside n)) : Fn P w K mg base cad "taken_atom" s_taken_atom ["tokens", "at", "opened"] (1 + n + 1) (R_taken_atom (n + 1)) := by
  obtain ⟨f, fd, F, g, b⟩ := self.ex
  exact ⟨f, fd, fn_ok F sc_taken_atom (fun cdv A outer s H E hr =>
  (s_cons (s_if (t_cmp k_ge (e_var 1) (e_callB (q_lenA) (by rfl) tp.len_ bt_len (a_cons (e_var 0) a_nil))) (s_one (s_ret e_non)) s_nil)
  (s_cons (s_asg (e_ixA hr.units (e_var 0) (e_var 1)) (g_tup rfl (pgs_cons (pg_name (i := 3) sc_taken_atom.nd rfl (by first | exact Or.inl rfl | exact Or.inr rfl)) (pgs_cons (pg_name (i := 4) sc_taken_atom.nd rfl (by first | exact Or.inl rfl | exact Or.inr rfl)) pgs_nil))))
  (s_cons (s_if (t_cmp (k_eq hr.units) (e_var 3) e_str) (s_one (s_ret (e_tup (a_cons (e_tup (a_cons e_str (a_cons (e_var 4) a_nil))) (a_cons (e_bin o_add (e_var 1) e_int) (a_cons e_int a_nil)))))) s_nil)
  (s_cons (s_if (t_cmp (k_eq hr.units) (e_var 4) e_str) (s_one (s_ret (e_callF h_taken_inside (hr.mono (by omega)) hand_on (a_cons (e_var 0) (a_cons (e_bin o_add (e_var 1) e_int) (a_cons (e_bin o_add (e_var 2) e_int) (a_cons e_str a_nil))))))) s_nil)
  (s_cons (s_if (t_cmp (k_inC tp.ARGUMENT_COUNTS_k) (e_var 4) (e_cst tp.ARGUMENT_COUNTS)) (s_one (s_ret (e_callF h_taken_call (hr.mono (by omega)) hand_on (a_cons (e_var 0) (a_cons (e_var 1) (a_cons (e_var 2) a_nil)))))) s_nil)
  (s_cons (s_if (t_w (w_or (t_cmp (k_eq hr.units) (e_var 3) e_str) (w_or1 (t_cmp (kq_inA hr.units) (e_var 4) (e_cst tp.NOT_NAMES))))) (s_one (s_ret e_non)) s_nil)
  (s_cons (s_if (t_val (e_callF h_is_one_of (hr.mono (by omega)) hand_on (a_cons (e_var 0) (a_cons (e_bin o_add (e_var 1) e_int) (a_cons (e_tup (a_cons e_str a_nil)) a_nil))))) (s_one (s_ret (e_callF h_taken_read (hr.mono (by omega)) hand_on (a_cons (e_var 0) (a_cons (e_var 1) (a_cons (e_var 2) a_nil)))))) s_nil)
  (s_one (s_ret (e_tup (a_cons (e_tup (a_cons e_str (a_cons (e_var 4) a_nil))) (a_cons (e_bin o_add (e_var 1) e_int) (a_cons e_int a_nil)))))))))))))), g, F.kp, b, F⟩
theorem step_taken_product (n : Nat) (tp : Tp K w mg cad) (self : Def K mg "taken_product" s_taken_product ["tokens", "at", "opened"]) (h_is_one_of : Fn P w K mg base cad "is_one_of" s_is_one_of ["tokens", "at", "signs"] 1 F_is_one_of) (h_taken_join : Fn P w K mg base cad "taken_join" s_taken_join ["sign", "left", "right"] 1 F_taken_join) (h_taken_read : Fn P w K mg base cad "taken_read" s_taken_read ["tokens", "at", "opened"] (1 + n) (R_taken_read n)) (h_taken_call : Fn P w K mg base cad "taken_call" s_taken_call ["tokens", "at", "opened"] (1 + n) (R_taken_call n)) (h_taken_atom : Fn P w K mg base cad "taken_atom" s_taken_atom ["tokens", "at", "opened"] (1 + n) (R_taken_atom n)) (h_taken_product : Fn P w K mg base cad "taken_product" s_taken_product ["tokens", "at", "opened"] (1 + n) (R_taken_product n)) (h_taken_sum : Fn P w K mg base cad "taken_sum" s_taken_sum ["tokens", "at", "opened"] (1 + n) (R_taken_sum n)) (h_taken_whole : Fn P w K mg base cad "taken_whole" s_taken_whole ["tokens", "at", "opened"] (1 + n) (R_taken_whole n)) (h_taken_inside : Fn P w K mg base cad "taken_inside" s_taken_inside ["tokens", "at", "opened", "closing"] (1 + n) (R_taken_inside n)) : Fn P w K mg base cad "taken_product" s_taken_product ["tokens", "at", "opened"] (1 + n + 1) (R_taken_product (n + 1)) := by
  obtain ⟨f, fd, F, g, b⟩ := self.ex
  exact ⟨f, fd, fn_ok F sc_taken_product (fun cdv A outer s H E hr =>
  (s_cons (s_set (i := 3) sc_taken_product.nd (e_callF h_taken_atom (hr.mono (by omega)) hand_on (a_cons (e_var 0) (a_cons (e_var 1) (a_cons (e_var 2) a_nil)))))
  (s_cons (s_while own_ok (t_w (w_and (t_cmp kq_isNot (e_var 3) e_non) (w_and1 (t_val (e_callF h_is_one_of (hr.mono (by omega)) hand_on (a_cons (e_var 0) (a_cons (e_ixA hr.units (e_var 3) e_int) (a_cons (e_cst tp.PRODUCT_OPERATORS) a_nil)))))))) (s_cons (s_set (i := 4) sc_taken_product.nd (e_ixA hr.units (e_ixA hr.units (e_var 0) (e_ixA hr.units (e_var 3) e_int)) e_int))
  (s_one (s_set (i := 3) sc_taken_product.nd (e_callF h_taken_join (hr.mono (by omega)) hand_on (a_cons (e_var 4) (a_cons (e_var 3) (a_cons (e_callF h_taken_atom (hr.mono (by omega)) hand_on (a_cons (e_var 0) (a_cons (e_bin o_add (e_ixA hr.units (e_var 3) e_int) e_int) (a_cons (e_var 2) a_nil)))) a_nil))))))))
  (s_one (s_ret (e_var 3)))))), g, F.kp, b, F⟩
theorem step_taken_sum (n : Nat) (tp : Tp K w mg cad) (self : Def K mg "taken_sum" s_taken_sum ["tokens", "at", "opened"]) (h_is_one_of : Fn P w K mg base cad "is_one_of" s_is_one_of ["tokens", "at", "signs"] 1 F_is_one_of) (h_taken_join : Fn P w K mg base cad "taken_join" s_taken_join ["sign", "left", "right"] 1 F_taken_join) (h_taken_read : Fn P w K mg base cad "taken_read" s_taken_read ["tokens", "at", "opened"] (1 + n) (R_taken_read n)) (h_taken_call : Fn P w K mg base cad "taken_call" s_taken_call ["tokens", "at", "opened"] (1 + n) (R_taken_call n)) (h_taken_atom : Fn P w K mg base cad "taken_atom" s_taken_atom ["tokens", "at", "opened"] (1 + n) (R_taken_atom n)) (h_taken_product : Fn P w K mg base cad "taken_product" s_taken_product ["tokens", "at", "opened"] (1 + n) (R_taken_product n)) (h_taken_sum : Fn P w K mg base cad "taken_sum" s_taken_sum ["tokens", "at", "opened"] (1 + n) (R_taken_sum n)) (h_taken_whole : Fn P w K mg base cad "taken_whole" s_taken_whole ["tokens", "at", "opened"] (1 + n) (R_taken_whole n)) (h_taken_inside : Fn P w K mg base cad "taken_inside" s_taken_inside ["tokens", "at", "opened", "closing"] (1 + n) (R_taken_inside n)) : Fn P w K mg base cad "taken_sum" s_taken_sum ["tokens", "at", "opened"] (1 + n + 1) (R_taken_sum (n + 1)) := by
  obtain ⟨f, fd, F, g, b⟩ := self.ex
  exact ⟨f, fd, fn_ok F sc_taken_sum (fun cdv A outer s H E hr =>
  (s_cons (s_set (i := 3) sc_taken_sum.nd (e_callF h_taken_product (hr.mono (by omega)) hand_on (a_cons (e_var 0) (a_cons (e_var 1) (a_cons (e_var 2) a_nil)))))
  (s_cons (s_while own_ok (t_w (w_and (t_cmp kq_isNot (e_var 3) e_non) (w_and1 (t_val (e_callF h_is_one_of (hr.mono (by omega)) hand_on (a_cons (e_var 0) (a_cons (e_ixA hr.units (e_var 3) e_int) (a_cons (e_cst tp.SUM_OPERATORS) a_nil)))))))) (s_cons (s_set (i := 4) sc_taken_sum.nd (e_ixA hr.units (e_ixA hr.units (e_var 0) (e_ixA hr.units (e_var 3) e_int)) e_int))
  (s_one (s_set (i := 3) sc_taken_sum.nd (e_callF h_taken_join (hr.mono (by omega)) hand_on (a_cons (e_var 4) (a_cons (e_var 3) (a_cons (e_callF h_taken_product (hr.mono (by omega)) hand_on (a_cons (e_var 0) (a_cons (e_bin o_add (e_ixA hr.units (e_var 3) e_int) e_int) (a_cons (e_var 2) a_nil)))) a_nil))))))))
  (s_one (s_ret (e_var 3)))))), g, F.kp, b, F⟩
theorem step_taken_whole (n : Nat) (tp : Tp K w mg cad) (self : Def K mg "taken_whole" s_taken_whole ["tokens", "at", "opened"]) (h_is_one_of : Fn P w K mg base cad "is_one_of" s_is_one_of ["tokens", "at", "signs"] 1 F_is_one_of) (h_taken_join : Fn P w K mg base cad "taken_join" s_taken_join ["sign", "left", "right"] 1 F_taken_join) (h_taken_read : Fn P w K mg base cad "taken_read" s_taken_read ["tokens", "at", "opened"] (1 + n) (R_taken_read n)) (h_taken_call : Fn P w K mg base cad "taken_call" s_taken_call ["tokens", "at", "opened"] (1 + n) (R_taken_call n)) (h_taken_atom : Fn P w K mg base cad "taken_atom" s_taken_atom ["tokens", "at", "opened"] (1 + n) (R_taken_atom n)) (h_taken_product : Fn P w K mg base cad "taken_product" s_taken_product ["tokens", "at", "opened"] (1 + n) (R_taken_product n)) (h_taken_sum : Fn P w K mg base cad "taken_sum" s_taken_sum ["tokens", "at", "opened"] (1 + n) (R_taken_sum n)) (h_taken_whole : Fn P w K mg base cad "taken_whole" s_taken_whole ["tokens", "at", "opened"] (1 + n) (R_taken_whole n)) (h_taken_inside : Fn P w K mg base cad "taken_inside" s_taken_inside ["tokens", "at", "opened", "closing"] (1 + n) (R_taken_inside n)) : Fn P w K mg base cad "taken_whole" s_taken_whole ["tokens", "at", "opened"] (1 + n + 1) (R_taken_whole (n + 1)) := by
  obtain ⟨f, fd, F, g, b⟩ := self.ex
  exact ⟨f, fd, fn_ok F sc_taken_whole (fun cdv A outer s H E hr =>
  (s_cons (s_set (i := 3) sc_taken_whole.nd (e_callF h_taken_sum (hr.mono (by omega)) hand_on (a_cons (e_var 0) (a_cons (e_var 1) (a_cons (e_var 2) a_nil)))))
  (s_cons (s_if (t_w (w_and (t_cmp kq_isNot (e_var 3) e_non) (w_and1 (t_val (e_callF h_is_one_of (hr.mono (by omega)) hand_on (a_cons (e_var 0) (a_cons (e_ixA hr.units (e_var 3) e_int) (a_cons (e_cst tp.COMPARISONS) a_nil)))))))) (s_cons (s_set (i := 4) sc_taken_whole.nd (e_ixA hr.units (e_ixA hr.units (e_var 0) (e_ixA hr.units (e_var 3) e_int)) e_int))
  (s_one (s_set (i := 3) sc_taken_whole.nd (e_callF h_taken_join (hr.mono (by omega)) hand_on (a_cons (e_var 4) (a_cons (e_var 3) (a_cons (e_callF h_taken_sum (hr.mono (by omega)) hand_on (a_cons (e_var 0) (a_cons (e_bin o_add (e_ixA hr.units (e_var 3) e_int) e_int) (a_cons (e_var 2) a_nil)))) a_nil))))))) s_nil)
  (s_one (s_ret (e_var 3)))))), g, F.kp, b, F⟩
theorem step_taken_inside (n : Nat) (tp : Tp K w mg cad) (self : Def K mg "taken_inside" s_taken_inside ["tokens", "at", "opened", "closing"]) (h_is_one_of : Fn P w K mg base cad "is_one_of" s_is_one_of ["tokens", "at", "signs"] 1 F_is_one_of) (h_taken_join : Fn P w K mg base cad "taken_join" s_taken_join ["sign", "left", "right"] 1 F_taken_join) (h_taken_read : Fn P w K mg base cad "taken_read" s_taken_read ["tokens", "at", "opened"] (1 + n) (R_taken_read n)) (h_taken_call : Fn P w K mg base cad "taken_call" s_taken_call ["tokens", "at", "opened"] (1 + n) (R_taken_call n)) (h_taken_atom : Fn P w K mg base cad "taken_atom" s_taken_atom ["tokens", "at", "opened"] (1 + n) (R_taken_atom n)) (h_taken_product : Fn P w K mg base cad "taken_product" s_taken_product ["tokens", "at", "opened"] (1 + n) (R_taken_product n)) (h_taken_sum : Fn P w K mg base cad "taken_sum" s_taken_sum ["tokens", "at", "opened"] (1 + n) (R_taken_sum n)) (h_taken_whole : Fn P w K mg base cad "taken_whole" s_taken_whole ["tokens", "at", "opened"] (1 + n) (R_taken_whole n)) (h_taken_inside : Fn P w K mg base cad "taken_inside" s_taken_inside ["tokens", "at", "opened", "closing"] (1 + n) (R_taken_inside n)) : Fn P w K mg base cad "taken_inside" s_taken_inside ["tokens", "at", "opened", "closing"] (1 + n + 1) (R_taken_inside (n + 1)) := by
  obtain ⟨f, fd, F, g, b⟩ := self.ex
  exact ⟨f, fd, fn_ok F sc_taken_inside (fun cdv A outer s H E hr =>
  (s_cons (s_if (t_cmp k_gt (e_var 2) (e_cst tp.MOST_BRACKETS)) (s_one (s_ret e_non)) s_nil)
  (s_cons (s_set (i := 4) sc_taken_inside.nd (e_callF h_taken_whole (hr.mono (by omega)) hand_on (a_cons (e_var 0) (a_cons (e_var 1) (a_cons (e_var 2) a_nil)))))
  (s_cons (s_if (t_w (w_or (t_cmp kq_is (e_var 4) e_non) (w_or1 (t_not (t_val (e_callF h_is_one_of (hr.mono (by omega)) hand_on (a_cons (e_var 0) (a_cons (e_ixA hr.units (e_var 4) e_int) (a_cons (e_tup (a_cons (e_var 3) a_nil)) a_nil))))))))) (s_one (s_ret e_non)) s_nil)
  (s_one (s_ret (e_tup (a_cons (e_ixA hr.units (e_var 4) e_int) (a_cons (e_bin o_add (e_ixA hr.units (e_var 4) e_int) e_int) (a_cons (e_ixA hr.units (e_var 4) e_int) a_nil)))))))))), g, F.kp, b, F⟩
theorem all_taken_read (tp : Tp K w mg cad) (self_taken_read : Def K mg "taken_read" s_taken_read ["tokens", "at", "opened"]) (self_taken_call : Def K mg "taken_call" s_taken_call ["tokens", "at", "opened"]) (self_taken_atom : Def K mg "taken_atom" s_taken_atom ["tokens", "at", "opened"]) (self_taken_product : Def K mg "taken_product" s_taken_product ["tokens", "at", "opened"]) (self_taken_sum : Def K mg "taken_sum" s_taken_sum ["tokens", "at", "opened"]) (self_taken_whole : Def K mg "taken_whole" s_taken_whole ["tokens", "at", "opened"]) (self_taken_inside : Def K mg "taken_inside" s_taken_inside ["tokens", "at", "opened", "closing"]) (h_is_one_of : Fn P w K mg base cad "is_one_of" s_is_one_of ["tokens", "at", "signs"] 1 F_is_one_of) (h_taken_join : Fn P w K mg base cad "taken_join" s_taken_join ["sign", "left", "right"] 1 F_taken_join) : ∀ n : Nat, Fn P w K mg base cad "taken_read" s_taken_read ["tokens", "at", "opened"] (1 + n) (R_taken_read n) ∧ Fn P w K mg base cad "taken_call" s_taken_call ["tokens", "at", "opened"] (1 + n) (R_taken_call n) ∧ Fn P w K mg base cad "taken_atom" s_taken_atom ["tokens", "at", "opened"] (1 + n) (R_taken_atom n) ∧ Fn P w K mg base cad "taken_product" s_taken_product ["tokens", "at", "opened"] (1 + n) (R_taken_product n) ∧ Fn P w K mg base cad "taken_sum" s_taken_sum ["tokens", "at", "opened"] (1 + n) (R_taken_sum n) ∧ Fn P w K mg base cad "taken_whole" s_taken_whole ["tokens", "at", "opened"] (1 + n) (R_taken_whole n) ∧ Fn P w K mg base cad "taken_inside" s_taken_inside ["tokens", "at", "opened", "closing"] (1 + n) (R_taken_inside n) := by
  intro n
  induction n with
  | zero => exact ⟨fn_zero_f self_taken_read, fn_zero_f self_taken_call, fn_zero_f self_taken_atom, fn_zero_f self_taken_product, fn_zero_f self_taken_sum, fn_zero_f self_taken_whole, fn_zero_f self_taken_inside⟩
  | succ n ih =>
    obtain ⟨hr0, hr1, hr2, hr3, hr4, hr5, hr6⟩ := ih
    exact ⟨step_taken_read n tp self_taken_read h_is_one_of h_taken_join hr0 hr1 hr2 hr3 hr4 hr5 hr6, step_taken_call n tp self_taken_call h_is_one_of h_taken_join hr0 hr1 hr2 hr3 hr4 hr5 hr6, step_taken_atom n tp self_taken_atom h_is_one_of h_taken_join hr0 hr1 hr2 hr3 hr4 hr5 hr6, step_taken_product n tp self_taken_product h_is_one_of h_taken_join hr0 hr1 hr2 hr3 hr4 hr5 hr6, step_taken_sum n tp self_taken_sum h_is_one_of h_taken_join hr0 hr1 hr2 hr3 hr4 hr5 hr6, step_taken_whole n tp self_taken_whole h_is_one_of h_taken_join hr0 hr1 hr2 hr3 hr4 hr5 hr6, step_taken_inside n tp self_taken_inside h_is_one_of h_taken_join hr0 hr1 hr2 hr3 hr4 hr5 hr6⟩
theorem ok_take_expression (tp : Tp K w mg cad) (self : Def K mg "take_expression" s_take_expression ["tokens", "at"]) (h_taken_whole : Fn P w K mg base cad "taken_whole" s_taken_whole ["tokens", "at", "opened"] 91 F_taken_whole) : Fn P w K mg base cad "take_expression" s_take_expression ["tokens", "at"] 92 F_take_expression := by
  obtain ⟨f, fd, F, g, b⟩ := self.ex
  exact ⟨f, fd, fn_ok F sc_take_expression (fun cdv A outer s H E hr =>
  (s_cons (s_set (i := 2) sc_take_expression.nd (e_callF h_taken_whole (hr.mono (by omega)) hand_on (a_cons (e_var 0) (a_cons (e_var 1) (a_cons e_int a_nil)))))
  (s_cons (s_if (t_cmp kq_is (e_var 2) e_non) (s_one (s_ret e_non)) s_nil)
  (s_one (s_ret (e_tup (a_cons (e_ixA hr.units (e_var 2) e_int) (a_cons (e_ixA hr.units (e_var 2) e_int) a_nil)))))))), g, F.kp, b, F⟩
theorem ok_read_expression (tp : Tp K w mg cad) (self : Def K mg "read_expression" s_read_expression ["text"]) (h_tokens_of : Fn P w K mg base cad "tokens_of" s_tokens_of ["text"] 2 F_tokens_of) (h_BadExpression_init : Xc P w K mg base "BadExpression" (cad 1) "text") (h_take_expression : Fn P w K mg base cad "take_expression" s_take_expression ["tokens", "at"] 92 F_take_expression) : Fn P w K mg base cad "read_expression" s_read_expression ["text"] 93 F_read_expression := by
  obtain ⟨f, fd, F, g, b⟩ := self.ex
  exact ⟨f, fd, fn_ok F sc_read_expression (fun cdv A outer s H E hr =>
  (s_cons (s_set (i := 1) sc_read_expression.nd (e_callF h_tokens_of (hr.mono (by omega)) hand_on (a_cons (e_var 0) a_nil)))
  (s_cons (s_if (t_cmp kq_is (e_var 1) e_non) (s_one (s_raise h_BadExpression_init rfl (takes_of rfl rfl rfl rfl) (hr.mono (by decide)) passL rfl (a_cons (e_var 0) a_nil))) s_nil)
  (s_cons (s_set (i := 2) sc_read_expression.nd (e_callF h_take_expression (hr.mono (by omega)) hand_on (a_cons (e_var 1) (a_cons e_int a_nil))))
  (s_cons (s_if (t_w (w_or (t_cmp kq_is (e_var 2) e_non) (w_or1 (t_cmp k_lt (e_ixA hr.units (e_var 2) e_int) (e_callB (q_lenA) (by rfl) tp.len_ bt_len (a_cons (e_var 1) a_nil)))))) (s_one (s_raise h_BadExpression_init rfl (takes_of rfl rfl rfl rfl) (hr.mono (by decide)) passL rfl (a_cons (e_var 0) a_nil))) s_nil)
  (s_one (s_ret (e_ixA hr.units (e_var 2) e_int)))))))), g, F.kp, b, F⟩
theorem ok_law_whole (tp : Tp K w mg cad) (self : Def K mg "_law_whole" s_law_whole ["value"]) : Fn P w K mg base cad "_law_whole" s_law_whole ["value"] 1 F_law_whole := by
  obtain ⟨f, fd, F, g, b⟩ := self.ex
  exact ⟨f, fd, fn_ok F sc_law_whole (fun cdv A outer s H E hr =>
  (s_one (s_ret (e_and (e_isTy (n := .int) (by rfl) tp.isinstance_ (by rfl) tp.int_ bt_int (e_var 0)) (e_one (e_not (e_isTy (n := .bl) (by rfl) tp.isinstance_ (by rfl) tp.bool_ bt_bool (e_var 0)))))))), g, F.kp, b, F⟩
theorem ok_law_cell (tp : Tp K w mg cad) (self : Def K mg "_law_cell" s_law_cell ["script", "k"]) : Fn P w K mg base cad "_law_cell" s_law_cell ["script", "k"] 1 F_law_cell := by
  obtain ⟨f, fd, F, g, b⟩ := self.ex
  exact ⟨f, fd, fn_ok F sc_law_cell (fun cdv A outer s H E hr =>
  (s_cons (s_if (t_cmp k_lt (e_var 1) (e_callB (q_lenA) (by rfl) tp.len_ bt_len (a_cons (e_var 0) a_nil))) (s_one (s_ret (e_ixA hr.units (e_var 0) (e_var 1)))) s_nil)
  (s_cons (s_set (i := 2) sc_law_cell.nd e_int)
  (s_cons (s_forA own_ok rfl (e_var 0) (g_name (i := 3) sc_law_cell.nd) (s_one (s_set (i := 2) sc_law_cell.nd (e_bin o_mod (e_callTy q_int (by rfl) tp.int_ bt_int (a_cons (e_bin o_add (e_bin o_mulA (e_var 2) e_int) (e_bin o_mod (e_callTy q_int (by rfl) tp.int_ bt_int (a_cons (e_var 3) a_nil)) e_int)) a_nil)) e_int))))
  (s_one (s_ret (e_bin o_mod (e_callTy q_int (by rfl) tp.int_ bt_int (a_cons (e_bin o_mulA (e_bin o_mulA (e_bin o_add (e_var 2) e_int) (e_bin o_add (e_var 1) e_int)) e_int) a_nil)) e_int))))))), g, F.kp, b, F⟩
theorem ok_law_feed (tp : Tp K w mg cad) (self : Def K mg "_law_feed" s_law_feed ["cell"]) : Fn P w K mg base cad "_law_feed" s_law_feed ["cell"] 1 F_law_feed := by
  obtain ⟨f, fd, F, g, b⟩ := self.ex
  exact ⟨f, fd, fn_ok F sc_law_feed (fun cdv A outer s H E hr =>
  (s_cons (s_set (i := 1) sc_law_feed.nd (e_callTy q_int (by rfl) tp.int_ bt_int (a_cons (e_var 0) a_nil)))
  (s_cons (s_if (t_cmp k_ge (e_var 1) (e_bin o_pow e_int e_int)) (s_one (s_ret (e_lst (a_cons e_int (a_cons (e_bin o_sub (e_var 1) (e_bin o_pow e_int e_int)) (a_cons e_int a_nil)))))) s_nil)
  (s_one (s_ret (e_lst (a_cons e_int (a_cons (e_bin o_mod (e_callTy q_int (by rfl) tp.int_ bt_int (a_cons (e_var 1) a_nil)) e_int) (a_cons e_int a_nil))))))))), g, F.kp, b, F⟩
theorem ok_law_take (tp : Tp K w mg cad) (self : Def K mg "_law_take" s_law_take ["feed", "size"]) : Fn P w K mg base cad "_law_take" s_law_take ["feed", "size"] 1 F_law_take := by
  obtain ⟨f, fd, F, g, b⟩ := self.ex
  exact ⟨f, fd, fn_ok F sc_law_take (fun cdv A outer s H E hr =>
  (s_cons (s_subA hr.units (e_bin o_add (e_ixA hr.units (e_var 0) e_int) e_int) (e_var 0) e_int)
  (s_cons (s_if (t_w (w_and (t_cmp (k_eq hr.units) (e_ixA hr.units (e_var 0) e_int) e_int) (w_and1 (t_cmp (k_eq hr.units) (e_ixA hr.units (e_var 0) e_int) e_int)))) (s_cons (s_subA hr.units e_int (e_var 0) e_int)
  (s_one (s_subA hr.units (e_bin o_add e_int (e_ixA hr.units (e_var 0) e_int)) (e_var 0) e_int))) s_nil)
  (s_cons (s_if (t_cmp (k_eq hr.units) (e_ixA hr.units (e_var 0) e_int) e_int) (s_cons (s_set (i := 3) sc_law_take.nd (e_bin o_mod (e_callTy q_int (by rfl) tp.int_ bt_int (a_cons (e_ixA hr.units (e_var 0) e_int) a_nil)) (e_var 1)))
  (s_cons (s_subA hr.units (e_bin o_divA (e_callTy q_int (by rfl) tp.int_ bt_int (a_cons (e_ixA hr.units (e_var 0) e_int) a_nil)) (e_var 1)) (e_var 0) e_int)
  (s_one (s_ret (e_var 3))))) s_nil)
  (s_cons (s_subA hr.units (e_bin o_mod (e_callTy q_int (by rfl) tp.int_ bt_int (a_cons (e_bin o_add (e_bin o_add (e_bin o_mulA (e_ixA hr.units (e_var 0) e_int) e_int) (e_bin o_mulA e_int (e_ixA hr.units (e_var 0) e_int))) e_int) a_nil)) e_int) (e_var 0) e_int)
  (s_cons (s_set (i := 2) sc_law_take.nd (e_bin o_mod (e_callTy q_int (by rfl) tp.int_ bt_int (a_cons (e_bin o_mulA (e_ixA hr.units (e_var 0) e_int) (e_bin o_add (e_bin o_divA (e_ixA hr.units (e_var 0) e_int) e_int) e_int)) a_nil)) e_int))
  (s_one (s_ret (e_bin o_mod (e_bin o_divA (e_var 2) e_int) (e_var 1)))))))))), g, F.kp, b, F⟩
theorem ok_law_number (tp : Tp K w mg cad) (self : Def K mg "_law_number" s_law_number ["feed"]) (h_law_take : Fn P w K mg base cad "_law_take" s_law_take ["feed", "size"] 1 F_law_take) : Fn P w K mg base cad "_law_number" s_law_number ["feed"] 2 F_law_number := by
  obtain ⟨f, fd, F, g, b⟩ := self.ex
  exact ⟨f, fd, fn_ok F sc_law_number (fun cdv A outer s H E hr =>
  (s_cons (s_set (i := 1) sc_law_number.nd (e_callF h_law_take (hr.mono (by omega)) hand_on (a_cons (e_var 0) (a_cons e_int a_nil))))
  (s_cons (s_if (t_cmp k_lt (e_var 1) e_int) (s_one (s_ret (e_callF h_law_take (hr.mono (by omega)) hand_on (a_cons (e_var 0) (a_cons e_int a_nil))))) s_nil)
  (s_cons (s_if (t_cmp (k_eq hr.units) (e_var 1) e_int) (s_one (s_ret (e_callF h_law_take (hr.mono (by omega)) hand_on (a_cons (e_var 0) (a_cons e_int a_nil))))) s_nil)
  (s_cons (s_if (t_cmp (k_eq hr.units) (e_var 1) e_int) (s_one (s_ret (e_bin o_sub (e_bin o_pow e_int e_int) (e_callF h_law_take (hr.mono (by omega)) hand_on (a_cons (e_var 0) (a_cons e_int a_nil)))))) s_nil)
  (s_cons (s_if (t_cmp (k_eq hr.units) (e_var 1) e_int) (s_one (s_ret (e_bin o_sub (e_bin o_add (e_bin o_pow e_int e_int) (e_callF h_law_take (hr.mono (by omega)) hand_on (a_cons (e_var 0) (a_cons e_int a_nil)))) e_int))) s_nil)
  (s_cons (s_if (t_cmp (k_eq hr.units) (e_var 1) e_int) (s_one (s_ret (e_callF h_law_take (hr.mono (by omega)) hand_on (a_cons (e_var 0) (a_cons e_int a_nil))))) s_nil)
  (s_one (s_ret (e_callB (q_min rfl) (by rfl) tp.min_ bt_min (a_cons (e_bin o_pow e_int e_int) (a_cons (e_bin o_add (e_bin o_mulA (e_callF h_law_take (hr.mono (by omega)) hand_on (a_cons (e_var 0) (a_cons (e_bin o_add (e_bin o_pow e_int e_int) e_int) a_nil))) (e_bin o_pow e_int e_int)) (e_callF h_law_take (hr.mono (by omega)) hand_on (a_cons (e_var 0) (a_cons (e_bin o_pow e_int e_int) a_nil)))) a_nil)))))))))))), g, F.kp, b, F⟩
theorem ok_law_word (tp : Tp K w mg cad) (self : Def K mg "_law_word" s_law_word ["feed"]) (h_law_take : Fn P w K mg base cad "_law_take" s_law_take ["feed", "size"] 1 F_law_take) : Fn P w K mg base cad "_law_word" s_law_word ["feed"] 2 F_law_word := by
  obtain ⟨f, fd, F, g, b⟩ := self.ex
  exact ⟨f, fd, fn_ok F sc_law_word (fun cdv A outer s H E hr =>
  (s_cons (s_set (i := 1) sc_law_word.nd (e_lst (a_cons e_str (a_cons e_str (a_cons e_str (a_cons e_str (a_cons e_str (a_cons e_str (a_cons e_str (a_cons e_str (a_cons e_str (a_cons e_str (a_cons e_str (a_cons e_str (a_cons e_str (a_cons e_str (a_cons e_str a_nil)))))))))))))))))
  (s_cons (s_set (i := 1) sc_law_word.nd (e_bin o_add (e_var 1) (e_lst (a_cons e_str (a_cons e_str (a_cons e_str (a_cons e_str (a_cons e_str (a_cons e_str (a_cons e_str (a_cons e_str (a_cons e_str a_nil))))))))))))
  (s_cons (s_set (i := 2) sc_law_word.nd e_str)
  (s_cons (s_set (i := 3) sc_law_word.nd (e_callF h_law_take (hr.mono (by omega)) hand_on (a_cons (e_var 0) (a_cons e_int a_nil))))
  (s_cons (s_if (t_cmp (k_eq hr.units) (e_var 3) e_int) (s_one (s_ret (e_ixA hr.units (e_var 1) (e_callF h_law_take (hr.mono (by omega)) hand_on (a_cons (e_var 0) (a_cons e_int a_nil)))))) s_nil)
  (s_cons (s_set (i := 4) sc_law_word.nd (e_ixA hr.units (e_lst (a_cons e_int (a_cons e_int (a_cons e_int (a_cons (e_bin o_add e_int (e_callF h_law_take (hr.mono (by omega)) hand_on (a_cons (e_var 0) (a_cons e_int a_nil)))) a_nil))))) (e_bin o_sub (e_var 3) e_int)))
  (s_cons (s_set (i := 5) sc_law_word.nd (e_ixA hr.units (e_var 2) (e_callF h_law_take (hr.mono (by omega)) hand_on (a_cons (e_var 0) (a_cons e_int a_nil)))))
  (s_cons (s_forR1 own_ok rfl (by rfl) tp.range_ (a_cons (e_bin o_sub (e_var 4) e_int) a_nil) (g_name (i := 6) sc_law_word.nd) (s_one (s_set (i := 5) sc_law_word.nd (e_bin o_add (e_var 5) (e_ixA hr.units (e_var 2) (e_callF h_law_take (hr.mono (by omega)) hand_on (a_cons (e_var 0) (a_cons e_int a_nil))))))))
  (s_cons (s_if (t_cmp (kq_inA hr.units) (e_var 5) (e_lst (a_cons e_str (a_cons e_str (a_cons e_str (a_cons e_str (a_cons e_str (a_cons e_str (a_cons e_str a_nil))))))))) (s_one (s_set (i := 5) sc_law_word.nd (e_bin o_add (e_var 5) e_str))) s_nil)
  (s_one (s_ret (e_var 5))))))))))))), g, F.kp, b, F⟩
theorem ok_law_near (tp : Tp K w mg cad) (self : Def K mg "_law_near" s_law_near ["feed", "word"]) (h_law_take : Fn P w K mg base cad "_law_take" s_law_take ["feed", "size"] 1 F_law_take) : Fn P w K mg base cad "_law_near" s_law_near ["feed", "word"] 2 F_law_near := by
  obtain ⟨f, fd, F, g, b⟩ := self.ex
  exact ⟨f, fd, fn_ok F sc_law_near (fun cdv A outer s H E hr =>
  (s_cons (s_set (i := 2) sc_law_near.nd e_str)
  (s_cons (s_set (i := 3) sc_law_near.nd (e_callF h_law_take (hr.mono (by omega)) hand_on (a_cons (e_var 0) (a_cons e_int a_nil))))
  (s_cons (s_set (i := 4) sc_law_near.nd (e_bin o_add (e_slice (e_var 1) o_none (o_some e_int)) (e_ixA hr.units (e_var 2) (e_callF h_law_take (hr.mono (by omega)) hand_on (a_cons (e_var 0) (a_cons e_int a_nil))))))
  (s_cons (s_if (t_w (w_and (t_cmp (k_eq hr.units) (e_var 3) e_int) (w_and1 (t_cmp k_gt (e_callB (q_lenA) (by rfl) tp.len_ bt_len (a_cons (e_var 1) a_nil)) e_int)))) (s_one (s_set (i := 4) sc_law_near.nd (e_slice (e_var 1) o_none (o_some (e_bin o_sub (e_callB (q_lenA) (by rfl) tp.len_ bt_len (a_cons (e_var 1) a_nil)) e_int))))) s_nil)
  (s_cons (s_if (t_cmp (k_eq hr.units) (e_var 3) e_int) (s_cons (s_set (i := 5) sc_law_near.nd (e_callF h_law_take (hr.mono (by omega)) hand_on (a_cons (e_var 0) (a_cons (e_callB (q_lenA) (by rfl) tp.len_ bt_len (a_cons (e_var 1) a_nil)) a_nil))))
  (s_one (s_set (i := 4) sc_law_near.nd (e_bin o_add (e_bin o_add (e_slice (e_var 1) o_none (o_some (e_var 5))) (e_ixA hr.units (e_var 2) (e_callF h_law_take (hr.mono (by omega)) hand_on (a_cons (e_var 0) (a_cons e_int a_nil))))) (e_slice (e_var 1) (o_some (e_bin o_add (e_var 5) e_int)) o_none))))) s_nil)
  (s_cons (s_if (t_cmp (kq_inA hr.units) (e_var 4) (e_lst (a_cons e_str (a_cons e_str (a_cons e_str (a_cons e_str (a_cons e_str (a_cons e_str (a_cons e_str a_nil))))))))) (s_one (s_set (i := 4) sc_law_near.nd (e_bin o_add (e_var 4) e_str))) s_nil)
  (s_one (s_ret (e_var 4)))))))))), g, F.kp, b, F⟩
theorem ok_law_word_row (tp : Tp K w mg cad) (self : Def K mg "_law_word_row" s_law_word_row ["feed", "many"]) (h_law_word : Fn P w K mg base cad "_law_word" s_law_word ["feed"] 2 F_law_word) (h_law_take : Fn P w K mg base cad "_law_take" s_law_take ["feed", "size"] 1 F_law_take) (h_law_near : Fn P w K mg base cad "_law_near" s_law_near ["feed", "word"] 2 F_law_near) : Fn P w K mg base cad "_law_word_row" s_law_word_row ["feed", "many"] 3 F_law_word_row := by
  obtain ⟨f, fd, F, g, b⟩ := self.ex
  exact ⟨f, fd, fn_ok F sc_law_word_row (fun cdv A outer s H E hr =>
  (s_cons (s_set (i := 2) sc_law_word_row.nd (e_lst a_nil))
  (s_cons (s_forR1 own_ok rfl (by rfl) tp.range_ (a_cons (e_var 1) a_nil) (g_name (i := 3) sc_law_word_row.nd) (s_cons (s_set (i := 4) sc_law_word_row.nd (e_callF h_law_word (hr.mono (by omega)) hand_on (a_cons (e_var 0) a_nil)))
  (s_cons (s_if (t_w (w_and (t_cmp k_gt (e_var 3) e_int) (w_and1 (t_cmp (k_eq hr.units) (e_callF h_law_take (hr.mono (by omega)) hand_on (a_cons (e_var 0) (a_cons e_int a_nil))) e_int)))) (s_one (s_set (i := 4) sc_law_word_row.nd (e_callF h_law_near (hr.mono (by omega)) hand_on (a_cons (e_var 0) (a_cons (e_ixA hr.units (e_var 2) (e_callF h_law_take (hr.mono (by omega)) hand_on (a_cons (e_var 0) (a_cons (e_var 3) a_nil)))) a_nil))))) s_nil)
  (s_one (s_expr (e_meth PySem.F.slot_list_append PySem.F.type_list_append d_append (e_var 2) (a_cons (e_var 4) a_nil)))))))
  (s_one (s_ret (e_var 2)))))), g, F.kp, b, F⟩
theorem ok_law_leaf (tp : Tp K w mg cad) (self : Def K mg "_law_leaf" s_law_leaf ["feed", "names"]) (h_law_take : Fn P w K mg base cad "_law_take" s_law_take ["feed", "size"] 1 F_law_take) (h_law_number : Fn P w K mg base cad "_law_number" s_law_number ["feed"] 2 F_law_number) : Fn P w K mg base cad "_law_leaf" s_law_leaf ["feed", "names"] 3 F_law_leaf := by
  obtain ⟨f, fd, F, g, b⟩ := self.ex
  exact ⟨f, fd, fn_ok F sc_law_leaf (fun cdv A outer s H E hr =>
  (s_cons (s_if (t_cmp k_lt (e_callF h_law_take (hr.mono (by omega)) hand_on (a_cons (e_var 0) (a_cons e_int a_nil))) e_int) (s_one (s_ret (e_tup (a_cons e_str (a_cons (e_callF h_law_number (hr.mono (by omega)) hand_on (a_cons (e_var 0) a_nil)) a_nil))))) s_nil)
  (s_one (s_ret (e_tup (a_cons e_str (a_cons (e_ixA hr.units (e_var 1) (e_callF h_law_take (hr.mono (by omega)) hand_on (a_cons (e_var 0) (a_cons (e_callB (q_lenA) (by rfl) tp.len_ bt_len (a_cons (e_var 1) a_nil)) a_nil)))) a_nil))))))), g, F.kp, b, F⟩
theorem step_law_tree (n : Nat) (tp : Tp K w mg cad) (self : Def K mg "_law_tree" s_law_tree ["feed", "room", "deep", "tight", "names", "arrays", "menu"]) (h_law_take : Fn P w K mg base cad "_law_take" s_law_take ["feed", "size"] 1 F_law_take) (h_law_leaf : Fn P w K mg base cad "_law_leaf" s_law_leaf ["feed", "names"] 3 F_law_leaf) (h_law_tree : Fn P w K mg base cad "_law_tree" s_law_tree ["feed", "room", "deep", "tight", "names", "arrays", "menu"] (3 + n) (R_law_tree n)) : Fn P w K mg base cad "_law_tree" s_law_tree ["feed", "room", "deep", "tight", "names", "arrays", "menu"] (3 + n + 1) (R_law_tree (n + 1)) := by
  obtain ⟨f, fd, F, g, b⟩ := self.ex
  exact ⟨f, fd, fn_ok F sc_law_tree (fun cdv A outer s H E hr =>
  (s_cons (s_subA hr.units (e_bin o_sub (e_ixA hr.units (e_var 1) e_int) e_int) (e_var 1) e_int)
  (s_cons (s_set (i := 7) sc_law_tree.nd (e_ixA hr.units (e_var 6) (e_callF h_law_take (hr.mono (by omega)) hand_on (a_cons (e_var 0) (a_cons (e_callB (q_lenA) (by rfl) tp.len_ bt_len (a_cons (e_var 6) a_nil)) a_nil)))))
  (s_cons (s_if (t_w (w_or (t_cmp k_lt (e_var 2) e_int) (w_or1 (t_w (w_and (t_not (t_val (e_var 3))) (w_and1 (t_w (w_or (t_cmp (k_eq hr.units) (e_var 7) e_str) (w_or1 (t_cmp k_lt (e_ixA hr.units (e_var 1) e_int) e_int)))))))))) (s_one (s_ret (e_callF h_law_leaf (hr.mono (by omega)) hand_on (a_cons (e_var 0) (a_cons (e_var 4) a_nil))))) s_nil)
  (s_cons (s_set (i := 8) sc_law_tree.nd (e_lst (a_cons e_str (a_cons e_str (a_cons e_str (a_cons e_str (a_cons e_str (a_cons e_str (a_cons e_str (a_cons e_str (a_cons e_str (a_cons e_str (a_cons e_str (a_cons e_str (a_cons e_str (a_cons e_str (a_cons e_str (a_cons e_str a_nil))))))))))))))))))
  (s_cons (s_set (i := 9) sc_law_tree.nd (e_ixA hr.units (e_var 8) (e_callF h_law_take (hr.mono (by omega)) hand_on (a_cons (e_var 0) (a_cons e_int a_nil)))))
  (s_cons (s_set (i := 10) sc_law_tree.nd e_int)
  (s_cons (s_if (t_cmp (k_eq hr.units) (e_var 7) e_str) (s_cons (s_set (i := 9) sc_law_tree.nd (e_ixA hr.units (e_var 5) (e_callF h_law_take (hr.mono (by omega)) hand_on (a_cons (e_var 0) (a_cons (e_callB (q_lenA) (by rfl) tp.len_ bt_len (a_cons (e_var 5) a_nil)) a_nil)))))
  (s_one (s_set (i := 10) sc_law_tree.nd e_int))) s_nil)
  (s_cons (s_if (t_cmp (k_eq hr.units) (e_var 7) e_str) (s_cons (s_set (i := 9) sc_law_tree.nd (e_ixA hr.units (e_lst (a_cons e_str (a_cons e_str (a_cons e_str (a_cons e_str a_nil))))) (e_callF h_law_take (hr.mono (by omega)) hand_on (a_cons (e_var 0) (a_cons e_int a_nil)))))
  (s_one (s_set (i := 10) sc_law_tree.nd (e_bin o_sub (e_bin o_add e_int (e_callTy q_int (by rfl) tp.int_ bt_int (a_cons (e_cmp (k_eq hr.units) (e_var 9) e_str) a_nil))) (e_callTy q_int (by rfl) tp.int_ bt_int (a_cons (e_cmp (k_eq hr.units) (e_var 9) e_str) a_nil)))))) s_nil)
  (s_cons (s_set (i := 11) sc_law_tree.nd (e_callF h_law_take (hr.mono (by omega)) hand_on (a_cons (e_var 0) (a_cons (e_var 10) a_nil))))
  (s_cons (s_set (i := 12) sc_law_tree.nd (e_lst a_nil))
  (s_cons (s_forR1 own_ok rfl (by rfl) tp.range_ (a_cons (e_var 10) a_nil) (g_name (i := 13) sc_law_tree.nd) (s_one (s_if (t_w (w_and (t_val (e_var 3)) (w_and1 (t_cmp (k_eq hr.units) (e_var 13) (e_var 11))))) (s_one (s_expr (e_meth PySem.F.slot_list_append PySem.F.type_list_append d_append (e_var 12) (a_cons (e_callF h_law_tree (hr.mono (by omega)) hand_on (a_cons (e_var 0) (a_cons (e_var 1) (a_cons (e_bin o_sub (e_var 2) e_int) (a_cons e_bl (a_cons (e_var 4) (a_cons (e_var 5) (a_cons (e_var 6) a_nil)))))))) a_nil)))) (s_one (s_expr (e_meth PySem.F.slot_list_append PySem.F.type_list_append d_append (e_var 12) (a_cons (e_callF h_law_tree (hr.mono (by omega)) hand_on (a_cons (e_var 0) (a_cons (e_var 1) (a_cons (e_bin o_add e_int (e_callF h_law_take (hr.mono (by omega)) hand_on (a_cons (e_var 0) (a_cons (e_bin o_sub (e_var 2) e_int) a_nil)))) (a_cons e_bl (a_cons (e_var 4) (a_cons (e_var 5) (a_cons (e_var 6) a_nil)))))))) a_nil)))))))
  (s_cons (s_if (t_cmp (k_eq hr.units) (e_var 7) e_str) (s_one (s_ret (e_tup (a_cons e_str (a_cons (e_var 9) (a_cons (e_ixA hr.units (e_var 12) e_int) a_nil)))))) s_nil)
  (s_cons (s_if (t_cmp (k_eq hr.units) (e_var 7) e_str) (s_one (s_ret (e_tup (a_cons e_str (a_cons (e_var 9) (a_cons (e_callTy q_tuple (by rfl) tp.tuple_ bt_tuple (a_cons (e_var 12) a_nil)) a_nil)))))) s_nil)
  (s_one (s_ret (e_tup (a_cons e_str (a_cons (e_var 9) (a_cons (e_ixA hr.units (e_var 12) e_int) (a_cons (e_ixA hr.units (e_var 12) e_int) a_nil))))))))))))))))))))), g, F.kp, b, F⟩
theorem all_law_tree (tp : Tp K w mg cad) (self_law_tree : Def K mg "_law_tree" s_law_tree ["feed", "room", "deep", "tight", "names", "arrays", "menu"]) (h_law_take : Fn P w K mg base cad "_law_take" s_law_take ["feed", "size"] 1 F_law_take) (h_law_leaf : Fn P w K mg base cad "_law_leaf" s_law_leaf ["feed", "names"] 3 F_law_leaf) : ∀ n : Nat, Fn P w K mg base cad "_law_tree" s_law_tree ["feed", "room", "deep", "tight", "names", "arrays", "menu"] (3 + n) (R_law_tree n) := by
  intro n
  induction n with
  | zero => exact fn_zero_f self_law_tree
  | succ n ih => exact step_law_tree n tp self_law_tree h_law_take h_law_leaf ih
theorem ok_law_deep (tp : Tp K w mg cad) (self : Def K mg "_law_deep" s_law_deep ["feed"]) (h_law_take : Fn P w K mg base cad "_law_take" s_law_take ["feed", "size"] 1 F_law_take) : Fn P w K mg base cad "_law_deep" s_law_deep ["feed"] 2 F_law_deep := by
  obtain ⟨f, fd, F, g, b⟩ := self.ex
  exact ⟨f, fd, fn_ok F sc_law_deep (fun cdv A outer s H E hr =>
  (s_cons (s_set (i := 1) sc_law_deep.nd (e_callF h_law_take (hr.mono (by omega)) hand_on (a_cons (e_var 0) (a_cons e_int a_nil))))
  (s_cons (s_if (t_cmp k_lt (e_var 1) e_int) (s_one (s_ret e_int)) s_nil)
  (s_cons (s_if (t_cmp k_lt (e_var 1) e_int) (s_one (s_ret (e_bin o_add e_int (e_callF h_law_take (hr.mono (by omega)) hand_on (a_cons (e_var 0) (a_cons e_int a_nil)))))) s_nil)
  (s_one (s_ret (e_bin o_add e_int (e_callF h_law_take (hr.mono (by omega)) hand_on (a_cons (e_var 0) (a_cons e_int a_nil)))))))))), g, F.kp, b, F⟩
theorem ok_law_drawn (tp : Tp K w mg cad) (self : Def K mg "_law_drawn" s_law_drawn ["cell", "names", "arrays"]) (h_law_feed : Fn P w K mg base cad "_law_feed" s_law_feed ["cell"] 1 F_law_feed) (h_law_take : Fn P w K mg base cad "_law_take" s_law_take ["feed", "size"] 1 F_law_take) (h_law_tree : Fn P w K mg base cad "_law_tree" s_law_tree ["feed", "room", "deep", "tight", "names", "arrays", "menu"] 19 F_law_tree) (h_law_deep : Fn P w K mg base cad "_law_deep" s_law_deep ["feed"] 2 F_law_deep) : Fn P w K mg base cad "_law_drawn" s_law_drawn ["cell", "names", "arrays"] 20 F_law_drawn := by
  obtain ⟨f, fd, F, g, b⟩ := self.ex
  exact ⟨f, fd, fn_ok F sc_law_drawn (fun cdv A outer s H E hr =>
  (s_cons (s_set (i := 3) sc_law_drawn.nd (e_callF h_law_feed (hr.mono (by omega)) hand_on (a_cons (e_var 0) a_nil)))
  (s_cons (s_set (i := 4) sc_law_drawn.nd (e_lst (a_cons (e_ixA hr.units (e_lst (a_cons e_int (a_cons e_int (a_cons e_int (a_cons e_int a_nil))))) (e_callF h_law_take (hr.mono (by omega)) hand_on (a_cons (e_var 3) (a_cons e_int a_nil)))) a_nil)))
  (s_cons (s_set (i := 5) sc_law_drawn.nd (e_lst (a_cons e_str (a_cons e_str (a_cons e_str (a_cons e_str (a_cons e_str (a_cons e_str (a_cons e_str (a_cons e_str a_nil))))))))))
  (s_one (s_ret (e_callF h_law_tree (hr.mono (by omega)) hand_on (a_cons (e_var 3) (a_cons (e_var 4) (a_cons (e_callF h_law_deep (hr.mono (by omega)) hand_on (a_cons (e_var 3) a_nil)) (a_cons e_bl (a_cons (e_var 1) (a_cons (e_var 2) (a_cons (e_var 5) a_nil)))))))))))))), g, F.kp, b, F⟩
theorem ok_law_parts (tp : Tp K w mg cad) (self : Def K mg "_law_parts" s_law_parts ["expr"]) : Fn P w K mg base cad "_law_parts" s_law_parts ["expr"] 1 F_law_parts := by
  obtain ⟨f, fd, F, g, b⟩ := self.ex
  exact ⟨f, fd, fn_ok F sc_law_parts (fun cdv A outer s H E hr =>
  (s_cons (s_if (t_cmp (k_eq hr.units) (e_ixA hr.units (e_var 0) e_int) e_str) (s_one (s_ret (e_lst (a_cons (e_ixA hr.units (e_var 0) e_int) a_nil)))) s_nil)
  (s_cons (s_if (t_cmp (k_eq hr.units) (e_ixA hr.units (e_var 0) e_int) e_str) (s_one (s_ret (e_lst (a_cons (e_ixA hr.units (e_var 0) e_int) (a_cons (e_ixA hr.units (e_var 0) e_int) a_nil))))) s_nil)
  (s_cons (s_if (t_cmp (k_eq hr.units) (e_ixA hr.units (e_var 0) e_int) e_str) (s_one (s_ret (e_callTy q_list (by rfl) tp.list_ bt_list (a_cons (e_ixA hr.units (e_var 0) e_int) a_nil)))) s_nil)
  (s_one (s_ret (e_lst a_nil))))))), g, F.kp, b, F⟩
theorem step_law_subs (n : Nat) (tp : Tp K w mg cad) (self : Def K mg "_law_subs" s_law_subs ["expr"]) (h_law_parts : Fn P w K mg base cad "_law_parts" s_law_parts ["expr"] 1 F_law_parts) (h_law_subs : Fn P w K mg base cad "_law_subs" s_law_subs ["expr"] (1 + n) (R_law_subs n)) : Fn P w K mg base cad "_law_subs" s_law_subs ["expr"] (1 + n + 1) (R_law_subs (n + 1)) := by
  obtain ⟨f, fd, F, g, b⟩ := self.ex
  exact ⟨f, fd, fn_ok F sc_law_subs (fun cdv A outer s H E hr =>
  (s_cons (s_set (i := 1) sc_law_subs.nd (e_lst (a_cons (e_var 0) a_nil)))
  (s_cons (s_for own_ok rfl (e_callF h_law_parts (hr.mono (by omega)) hand_on (a_cons (e_var 0) a_nil)) (g_name (i := 2) sc_law_subs.nd) (s_one (s_set (i := 1) sc_law_subs.nd (e_bin o_add (e_var 1) (e_callF h_law_subs (hr.mono (by omega)) hand_on (a_cons (e_var 2) a_nil))))))
  (s_one (s_ret (e_var 1)))))), g, F.kp, b, F⟩
theorem all_law_subs (tp : Tp K w mg cad) (self_law_subs : Def K mg "_law_subs" s_law_subs ["expr"]) (h_law_parts : Fn P w K mg base cad "_law_parts" s_law_parts ["expr"] 1 F_law_parts) : ∀ n : Nat, Fn P w K mg base cad "_law_subs" s_law_subs ["expr"] (1 + n) (R_law_subs n) := by
  intro n
  induction n with
  | zero => exact fn_zero_f self_law_subs
  | succ n ih => exact step_law_subs n tp self_law_subs h_law_parts ih
theorem step_law_same (n : Nat) (tp : Tp K w mg cad) (self : Def K mg "_law_same" s_law_same ["given", "due"]) (h_law_whole : Fn P w K mg base cad "_law_whole" s_law_whole ["value"] 1 F_law_whole) (h_law_same : Fn P w K mg base cad "_law_same" s_law_same ["given", "due"] (1 + n) (R_law_same n)) : Fn P w K mg base cad "_law_same" s_law_same ["given", "due"] (1 + n + 1) (R_law_same (n + 1)) := by
  obtain ⟨f, fd, F, g, b⟩ := self.ex
  exact ⟨f, fd, fn_ok F sc_law_same (fun cdv A outer s H E hr =>
  (s_cons (s_if (t_val (e_isTy (n := .tup) (by rfl) tp.isinstance_ (by rfl) tp.tuple_ bt_tuple (e_var 1))) (s_cons (s_if (t_w (w_or (t_not (t_val (e_isTy (n := .tup) (by rfl) tp.isinstance_ (by rfl) tp.tuple_ bt_tuple (e_var 0)))) (w_or1 (t_cmp (kq_neA hr.units) (e_callB (q_lenA) (by rfl) tp.len_ bt_len (a_cons (e_var 0) a_nil)) (e_callB (q_lenA) (by rfl) tp.len_ bt_len (a_cons (e_var 1) a_nil)))))) (s_one (s_ret e_bl)) s_nil)
  (s_cons (s_forR1 own_ok rfl (by rfl) tp.range_ (a_cons (e_callB (q_lenA) (by rfl) tp.len_ bt_len (a_cons (e_var 1) a_nil)) a_nil) (g_name (i := 2) sc_law_same.nd) (s_one (s_if (t_not (t_val (e_callF h_law_same (hr.mono (by omega)) hand_on (a_cons (e_ixA hr.units (e_var 0) (e_var 2)) (a_cons (e_ixA hr.units (e_var 1) (e_var 2)) a_nil))))) (s_one (s_ret e_bl)) s_nil)))
  (s_one (s_ret e_bl)))) s_nil)
  (s_cons (s_if (t_val (e_isTy (n := .str) (by rfl) tp.isinstance_ (by rfl) tp.str_ bt_str (e_var 1))) (s_one (s_ret (e_and (e_isTy (n := .str) (by rfl) tp.isinstance_ (by rfl) tp.str_ bt_str (e_var 0)) (e_one (e_cmp (k_eq hr.units) (e_var 0) (e_var 1)))))) s_nil)
  (s_one (s_ret (e_and (e_callF h_law_whole (hr.mono (by omega)) hand_on (a_cons (e_var 0) a_nil)) (e_one (e_cmp (k_eq hr.units) (e_var 0) (e_var 1))))))))), g, F.kp, b, F⟩
theorem all_law_same (tp : Tp K w mg cad) (self_law_same : Def K mg "_law_same" s_law_same ["given", "due"]) (h_law_whole : Fn P w K mg base cad "_law_whole" s_law_whole ["value"] 1 F_law_whole) : ∀ n : Nat, Fn P w K mg base cad "_law_same" s_law_same ["given", "due"] (1 + n) (R_law_same n) := by
  intro n
  induction n with
  | zero => exact fn_zero_f self_law_same
  | succ n ih => exact step_law_same n tp self_law_same h_law_whole ih
theorem ok_law_level (tp : Tp K w mg cad) (self : Def K mg "_law_level" s_law_level ["expr"]) : Fn P w K mg base cad "_law_level" s_law_level ["expr"] 1 F_law_level := by
  obtain ⟨f, fd, F, g, b⟩ := self.ex
  exact ⟨f, fd, fn_ok F sc_law_level (fun cdv A outer s H E hr =>
  (s_cons (s_if (t_cmp (kq_neA hr.units) (e_ixA hr.units (e_var 0) e_int) e_str) (s_one (s_ret e_int)) s_nil)
  (s_cons (s_if (t_cmp (kq_inA hr.units) (e_ixA hr.units (e_var 0) e_int) (e_lst (a_cons e_str (a_cons e_str a_nil)))) (s_one (s_ret e_int)) s_nil)
  (s_cons (s_if (t_cmp (kq_inA hr.units) (e_ixA hr.units (e_var 0) e_int) (e_lst (a_cons e_str (a_cons e_str (a_cons e_str a_nil))))) (s_one (s_ret e_int)) s_nil)
  (s_one (s_ret e_int)))))), g, F.kp, b, F⟩
theorem ok_law_needs (tp : Tp K w mg cad) (self : Def K mg "_law_needs" s_law_needs ["expr", "side"]) (h_law_level : Fn P w K mg base cad "_law_level" s_law_level ["expr"] 1 F_law_level) : Fn P w K mg base cad "_law_needs" s_law_needs ["expr", "side"] 2 F_law_needs := by
  obtain ⟨f, fd, F, g, b⟩ := self.ex
  exact ⟨f, fd, fn_ok F sc_law_needs (fun cdv A outer s H E hr =>
  (s_cons (s_set (i := 2) sc_law_needs.nd (e_callF h_law_level (hr.mono (by omega)) hand_on (a_cons (e_var 0) a_nil)))
  (s_cons (s_set (i := 3) sc_law_needs.nd (e_callF h_law_level (hr.mono (by omega)) hand_on (a_cons (e_ixA hr.units (e_var 0) (e_var 1)) a_nil)))
  (s_cons (s_if (t_cmp (k_eq hr.units) (e_var 3) e_int) (s_one (s_ret e_bl)) s_nil)
  (s_cons (s_if (t_cmp (k_eq hr.units) (e_var 1) e_int) (s_one (s_ret (e_cmp k_lt (e_var 3) (e_var 2)))) s_nil)
  (s_one (s_ret (e_cmp k_le (e_var 3) (e_var 2))))))))), g, F.kp, b, F⟩
theorem step_law_written (n : Nat) (tp : Tp K w mg cad) (self : Def K mg "_law_written" s_law_written ["expr"]) (h_law_needs : Fn P w K mg base cad "_law_needs" s_law_needs ["expr", "side"] 2 F_law_needs) (h_law_written : Fn P w K mg base cad "_law_written" s_law_written ["expr"] (2 + n) (R_law_written n)) : Fn P w K mg base cad "_law_written" s_law_written ["expr"] (2 + n + 1) (R_law_written (n + 1)) := by
  obtain ⟨f, fd, F, g, b⟩ := self.ex
  exact ⟨f, fd, fn_ok F sc_law_written (fun cdv A outer s H E hr =>
  (s_cons (s_if (t_cmp (k_eq hr.units) (e_ixA hr.units (e_var 0) e_int) e_str) (s_one (s_ret (e_callTy q_str (by rfl) tp.str_ bt_str (a_cons (e_ixA hr.units (e_var 0) e_int) a_nil)))) s_nil)
  (s_cons (s_if (t_cmp (k_eq hr.units) (e_ixA hr.units (e_var 0) e_int) e_str) (s_one (s_ret (e_ixA hr.units (e_var 0) e_int))) s_nil)
  (s_cons (s_if (t_cmp (k_eq hr.units) (e_ixA hr.units (e_var 0) e_int) e_str) (s_one (s_ret (e_bin o_add (e_bin o_add (e_bin o_add (e_ixA hr.units (e_var 0) e_int) e_str) (e_callF h_law_written (hr.mono (by omega)) hand_on (a_cons (e_ixA hr.units (e_var 0) e_int) a_nil))) e_str))) s_nil)
  (s_cons (s_if (t_cmp (k_eq hr.units) (e_ixA hr.units (e_var 0) e_int) e_str) (s_one (s_ret (e_bin o_add (e_bin o_add (e_bin o_add (e_ixA hr.units (e_var 0) e_int) e_str) (e_join e_str (e_comp rfl sc_law_written.nd (blkOk_by (own := [("part", 4)]) (N := N_law_written) (sc := (defScope s_law_written)) (by decide +kernel)) (e_ixA hr.units (e_var 0) e_int) tgr_name (own_name (by decide)) (fun _ _ _ _ _ => (pg_name (i := 4) sc_law_written.nd rfl (by first | exact Or.inl rfl | exact Or.inr rfl))) (fun _ _ _ _ _ => i_nil) (fun _ _ _ _ _ => (e_callF h_law_written (hr.mono (by omega)) passL (a_cons (e_var 4) a_nil)))))) e_str))) s_nil)
  (s_cons (s_set (i := 1) sc_law_written.nd (e_lst a_nil))
  (s_cons (s_for own_ok rfl (e_lst (a_cons e_int (a_cons e_int a_nil))) (g_name (i := 2) sc_law_written.nd) (s_cons (s_set (i := 3) sc_law_written.nd (e_callF h_law_written (hr.mono (by omega)) hand_on (a_cons (e_ixA hr.units (e_var 0) (e_var 2)) a_nil)))
  (s_cons (s_if (t_val (e_callF h_law_needs (hr.mono (by omega)) hand_on (a_cons (e_var 0) (a_cons (e_var 2) a_nil)))) (s_one (s_set (i := 3) sc_law_written.nd (e_bin o_add (e_bin o_add e_str (e_var 3)) e_str))) s_nil)
  (s_one (s_expr (e_meth PySem.F.slot_list_append PySem.F.type_list_append d_append (e_var 1) (a_cons (e_var 3) a_nil)))))))
  (s_one (s_ret (e_bin o_add (e_bin o_add (e_bin o_add (e_bin o_add (e_ixA hr.units (e_var 1) e_int) e_str) (e_ixA hr.units (e_var 0) e_int)) e_str) (e_ixA hr.units (e_var 1) e_int))))))))))), g, F.kp, b, F⟩
theorem all_law_written (tp : Tp K w mg cad) (self_law_written : Def K mg "_law_written" s_law_written ["expr"]) (h_law_needs : Fn P w K mg base cad "_law_needs" s_law_needs ["expr", "side"] 2 F_law_needs) : ∀ n : Nat, Fn P w K mg base cad "_law_written" s_law_written ["expr"] (2 + n) (R_law_written n) := by
  intro n
  induction n with
  | zero => exact fn_zero_f self_law_written
  | succ n ih => exact step_law_written n tp self_law_written h_law_needs ih
theorem ok_law_read (tp : Tp K w mg cad) (self : Def K mg "_law_read" s_law_read ["text"]) (h_read_expression : Fn P w K mg base cad "read_expression" s_read_expression ["text"] 93 F_read_expression) : Fn P w K mg base cad "_law_read" s_law_read ["text"] 94 F_law_read := by
  obtain ⟨f, fd, F, g, b⟩ := self.ex
  exact ⟨f, fd, fn_ok F sc_law_read (fun cdv A outer s H E hr =>
  (s_one (s_try0 rfl rfl ⟨rfl, by decide, .inl tp.StillError_g⟩ (takes_of rfl rfl rfl rfl) (subC_ok tp.BadExpression_in) (fun W pn xe tk _ => b_ret (e_callSF h_read_expression (hr.mono (by omega)) (fun σ => passAt tk σ) (fun E => (a_cons (e_var 0) a_nil)))) (fun a oe pn => (s_one (s_ret e_non)))))), g, F.kp, b, F⟩
theorem ok_law_good (tp : Tp K w mg cad) (self : Def K mg "_law_good" s_law_good ["expr"]) (h_write_expression : Fn P w K mg base cad "write_expression" s_write_expression ["expression"] 33 F_write_expression) (h_law_written : Fn P w K mg base cad "_law_written" s_law_written ["expr"] 18 F_law_written) (h_law_same : Fn P w K mg base cad "_law_same" s_law_same ["given", "due"] 41 F_law_same) (h_law_read : Fn P w K mg base cad "_law_read" s_law_read ["text"] 94 F_law_read) : Fn P w K mg base cad "_law_good" s_law_good ["expr"] 95 F_law_good := by
  obtain ⟨f, fd, F, g, b⟩ := self.ex
  exact ⟨f, fd, fn_ok F sc_law_good (fun cdv A outer s H E hr =>
  (s_cons (s_set (i := 1) sc_law_good.nd (e_callF h_write_expression (hr.mono (by omega)) hand_on (a_cons (e_var 0) a_nil)))
  (s_cons (s_if (t_w (w_or (t_not (t_val (e_isTy (n := .str) (by rfl) tp.isinstance_ (by rfl) tp.str_ bt_str (e_var 1)))) (w_or1 (t_cmp (kq_neA hr.units) (e_var 1) (e_callF h_law_written (hr.mono (by omega)) hand_on (a_cons (e_var 0) a_nil)))))) (s_one (s_ret e_bl)) s_nil)
  (s_one (s_ret (e_callF h_law_same (hr.mono (by omega)) hand_on (a_cons (e_callF h_law_read (hr.mono (by omega)) hand_on (a_cons (e_var 1) a_nil)) (a_cons (e_var 0) a_nil)))))))), g, F.kp, b, F⟩
theorem ok_law_pairs (tp : Tp K w mg cad) (self : Def K mg "_law_pairs" s_law_pairs ["feed", "sign", "names", "arrays"]) (h_law_tree : Fn P w K mg base cad "_law_tree" s_law_tree ["feed", "room", "deep", "tight", "names", "arrays", "menu"] 19 F_law_tree) (h_law_take : Fn P w K mg base cad "_law_take" s_law_take ["feed", "size"] 1 F_law_take) (h_law_good : Fn P w K mg base cad "_law_good" s_law_good ["expr"] 95 F_law_good) : Fn P w K mg base cad "_law_pairs" s_law_pairs ["feed", "sign", "names", "arrays"] 96 F_law_pairs := by
  obtain ⟨f, fd, F, g, b⟩ := self.ex
  exact ⟨f, fd, fn_ok F sc_law_pairs (fun cdv A outer s H E hr =>
  (s_cons (s_set (i := 4) sc_law_pairs.nd (e_lst (a_cons e_str (a_cons e_str (a_cons e_str (a_cons e_str (a_cons e_str a_nil)))))))
  (s_cons (s_setCompR1 (i := 5) rfl sc_law_pairs.nd rfl rfl (sw_true rfl rfl rfl (by decide +kernel)) (blkOk_by (own := [("k", 10)]) (N := N_law_pairs) (sc := (defScope s_law_pairs)) (by decide +kernel)) (by rfl) tp.range_ (a_cons e_int a_nil) tgr_name (own_name (by decide)) (fun _ _ _ _ _ => (pg_name (i := 10) sc_law_pairs.nd rfl (by first | exact Or.inl rfl | exact Or.inr rfl))) (fun _ _ _ _ _ => i_nil) (fun _ _ _ _ _ => (e_callF h_law_tree (hr.mono (by omega)) passL (a_cons (e_var 0) (a_cons (e_lst (a_cons e_int a_nil)) (a_cons (e_bin o_add e_int (e_callF h_law_take (hr.mono (by omega)) passL (a_cons (e_var 0) (a_cons e_int a_nil)))) (a_cons e_bl (a_cons (e_var 2) (a_cons (e_var 3) (a_cons (e_var 4) a_nil))))))))))
  (s_cons (s_for own_ok rfl (e_lst (a_cons e_str (a_cons e_str (a_cons e_str (a_cons e_str (a_cons e_str (a_cons e_str (a_cons e_str (a_cons e_str (a_cons e_str (a_cons e_str (a_cons e_str a_nil)))))))))))) (g_name (i := 6) sc_law_pairs.nd) (s_cons (s_set (i := 7) sc_law_pairs.nd (e_tup (a_cons e_str (a_cons (e_var 6) (a_cons (e_ixA hr.units (e_var 5) e_int) (a_cons (e_ixA hr.units (e_var 5) e_int) a_nil))))))
  (s_cons (s_set (i := 8) sc_law_pairs.nd (e_tup (a_cons e_str (a_cons (e_var 6) (a_cons (e_ixA hr.units (e_var 5) e_int) (a_cons (e_ixA hr.units (e_var 5) e_int) a_nil))))))
  (s_one (s_for own_ok rfl (e_lst (a_cons (e_tup (a_cons e_str (a_cons (e_var 1) (a_cons (e_var 7) (a_cons (e_ixA hr.units (e_var 5) e_int) a_nil))))) (a_cons (e_tup (a_cons e_str (a_cons (e_var 1) (a_cons (e_ixA hr.units (e_var 5) e_int) (a_cons (e_var 8) a_nil))))) (a_cons (e_tup (a_cons e_str (a_cons (e_var 1) (a_cons (e_var 7) (a_cons (e_var 8) a_nil))))) a_nil)))) (g_name (i := 9) sc_law_pairs.nd) (s_one (s_if (t_not (t_val (e_callF h_law_good (hr.mono (by omega)) hand_on (a_cons (e_var 9) a_nil)))) (s_one (s_ret e_bl)) s_nil)))))))
  (s_one (s_ret e_bl)))))), g, F.kp, b, F⟩
theorem ok_law (tp : Tp K w mg cad) (self : Def K mg "law" s_law ["script"]) (h_law_feed : Fn P w K mg base cad "_law_feed" s_law_feed ["cell"] 1 F_law_feed) (h_law_cell : Fn P w K mg base cad "_law_cell" s_law_cell ["script", "k"] 1 F_law_cell) (h_law_word_row : Fn P w K mg base cad "_law_word_row" s_law_word_row ["feed", "many"] 3 F_law_word_row) (h_law_take : Fn P w K mg base cad "_law_take" s_law_take ["feed", "size"] 1 F_law_take) (h_law_drawn : Fn P w K mg base cad "_law_drawn" s_law_drawn ["cell", "names", "arrays"] 20 F_law_drawn) (h_law_subs : Fn P w K mg base cad "_law_subs" s_law_subs ["expr"] 17 F_law_subs) (h_law_good : Fn P w K mg base cad "_law_good" s_law_good ["expr"] 95 F_law_good) (h_law_same : Fn P w K mg base cad "_law_same" s_law_same ["given", "due"] 41 F_law_same) (h_write_expression : Fn P w K mg base cad "write_expression" s_write_expression ["expression"] 33 F_write_expression) (h_law_written : Fn P w K mg base cad "_law_written" s_law_written ["expr"] 18 F_law_written) (h_law_pairs : Fn P w K mg base cad "_law_pairs" s_law_pairs ["feed", "sign", "names", "arrays"] 96 F_law_pairs) : Fn P w K mg base cad "law" s_law ["script"] 97 F_law := by
  obtain ⟨f, fd, F, g, b⟩ := self.ex
  exact ⟨f, fd, fn_ok F sc_law (fun cdv A outer s H E hr =>
  (s_cons (s_set (i := 1) sc_law.nd (e_callF h_law_feed (hr.mono (by omega)) hand_on (a_cons (e_callF h_law_cell (hr.mono (by omega)) hand_on (a_cons (e_var 0) (a_cons e_int a_nil))) a_nil)))
  (s_cons (s_set (i := 2) sc_law.nd (e_callF h_law_word_row (hr.mono (by omega)) hand_on (a_cons (e_var 1) (a_cons (e_bin o_add e_int (e_callF h_law_take (hr.mono (by omega)) hand_on (a_cons (e_var 1) (a_cons e_int a_nil)))) a_nil))))
  (s_cons (s_set (i := 3) sc_law.nd (e_callF h_law_word_row (hr.mono (by omega)) hand_on (a_cons (e_var 1) (a_cons (e_bin o_add e_int (e_callF h_law_take (hr.mono (by omega)) hand_on (a_cons (e_var 1) (a_cons e_int a_nil)))) a_nil))))
  (s_cons (s_if (t_cmp (k_eq hr.units) (e_callF h_law_take (hr.mono (by omega)) hand_on (a_cons (e_var 1) (a_cons e_int a_nil))) e_int) (s_one (s_expr (e_meth PySem.F.slot_list_append PySem.F.type_list_append d_append (e_var 3) (a_cons (e_ixA hr.units (e_var 2) e_int) a_nil)))) s_nil)
  (s_cons (s_set (i := 4) sc_law.nd (e_callF h_law_drawn (hr.mono (by omega)) hand_on (a_cons (e_callF h_law_cell (hr.mono (by omega)) hand_on (a_cons (e_var 0) (a_cons e_int a_nil))) (a_cons (e_var 2) (a_cons (e_var 3) a_nil)))))
  (s_cons (s_for own_ok rfl (e_callF h_law_subs (hr.mono (by omega)) hand_on (a_cons (e_var 4) a_nil)) (g_name (i := 5) sc_law.nd) (s_one (s_if (t_not (t_val (e_callF h_law_good (hr.mono (by omega)) hand_on (a_cons (e_var 5) a_nil)))) (s_one (s_ret e_bl)) s_nil)))
  (s_cons (s_set (i := 6) sc_law.nd (e_callF h_law_feed (hr.mono (by omega)) hand_on (a_cons (e_callF h_law_cell (hr.mono (by omega)) hand_on (a_cons (e_var 0) (a_cons e_int a_nil))) a_nil)))
  (s_cons (s_set (i := 7) sc_law.nd (e_ixA hr.units (e_lst (a_cons e_str (a_cons e_str (a_cons e_str (a_cons e_str (a_cons e_str (a_cons e_str (a_cons e_str (a_cons e_str (a_cons e_str (a_cons e_str (a_cons e_str a_nil)))))))))))) (e_callF h_law_take (hr.mono (by omega)) hand_on (a_cons (e_var 6) (a_cons e_int a_nil)))))
  (s_cons (s_if (t_not (t_val (e_callF h_law_same (hr.mono (by omega)) hand_on (a_cons (e_callKF0 (b := 1) (sel := [.inr 0]) (ks := ["expression"]) h_write_expression (hr.mono (by omega)) hand_on (by decide) (fun _ _ _ _ _ _ us ws h1 h2 => match us, ws, h1, h2 with | [], [_], _, _ => rfl) (kw_cons (e_var 4) kw_nil)) (a_cons (e_callF h_law_written (hr.mono (by omega)) hand_on (a_cons (e_var 4) a_nil)) a_nil))))) (s_one (s_ret e_bl)) s_nil)
  (s_one (s_ret (e_and (e_callF h_law_pairs (hr.mono (by omega)) hand_on (a_cons (e_var 6) (a_cons (e_var 7) (a_cons (e_var 2) (a_cons (e_var 3) a_nil))))) (e_one (e_callF h_law_good (hr.mono (by omega)) hand_on (a_cons (e_var 4) a_nil)))))))))))))))), g, F.kp, b, F⟩
end
end K02
end
section
set_option Elab.async false
set_option linter.all false
set_option maxRecDepth 100000
set_option maxHeartbeats 4000000
/-! ZE: the end of a law whose script is a list of ints. -/
namespace Z
open PySem PySem.Spec PyProof.Rows L2
def spLaw (K : PySem.W.Frag) : Sp := fun vs H Q _ => ∃ (a : Addr) (ns : List Int), vs = [.ref a] ∧ SqL K H a (ns.map V.int) ∧ ns.length ≤ 63 ∧ ∀ v H', v = .bl true → Q v H'
theorem reps_ints {g : G} {ρ : List Addr} {H : Hp} : ∀ ns : List Int, Reps g ρ H (ns.map D.int) (ns.map V.int)
  | [] => reps_nil
  | n :: ns => reps_cons rep_int (reps_ints ns)
theorem law_end {K : PySem.W.Frag} {cad : Nat → Addr} {F : List D → S → R D} (h : ∀ ns : List Int, ns.length ≤ 63 → Wp (F [.loc 0] [.ro (ns.map D.int)]) fun d _ => d = .bl true) (vs : List V) (H : Hp) (Q : VK) (E : XK) (p : spLaw K vs H Q E) : spF ⟨K, cad⟩ F vs H Q E := by
  obtain ⟨a, ns, rfl, hS, hl, k⟩ := p
  refine ⟨[a], [.ro (ns.map D.int)], [.loc 0], ⟨rfl, ?_, ?_⟩, ?_, ?_⟩
  · intro i j b oi oj ne h1 h2 h3 h4
    have a1 := (List.getElem?_eq_some_iff.mp h1).1
    have a2 := (List.getElem?_eq_some_iff.mp h2).1
    simp only [List.length_singleton] at a1 a2
    omega
  · intro n o b h1 h2
    match n, h1, h2 with
    | 0, h1, h2 =>
      cases h1
      cases h2
      exact ⟨_, hS, reps_ints ns⟩
  · exact reps_cons (rep_loc rfl) reps_nil
  · obtain ⟨d, s, e, q⟩ := (h ns hl).ok
    rw [e]
    intro ρ' H' b _ _ _ r
    subst q
    exact k b H' r.bl
theorem law_fn {P : Program} {w : World} {K : PySem.W.Frag} {mg : Str → Option Value} {base : Heap} {cad : Nat → Addr} {x : Str} {st : Stmt} {ps : List Str} {k : Nat} {F : List D → S → R D} {fa : Addr} {fd0 : FuncData} {oc : Value} {od : Option Addr} {osl : Array (Option Value)} (H : Fn P w K mg base cad x st ps k F) (hfa : mg x = some (.ref fa)) (l : K.lookup fa = some ⟨oc, od, .func fd0, osl⟩) : FnOk P w K mg base (L2.CX P w) k fa fd0 ps (spF ⟨K, cad⟩ F) := by
  obtain ⟨f, fd, F', g, -, -, Fu⟩ := H.ex
  rw [hfa] at g
  cases g
  obtain ⟨oc', od', kV, doc, pm, an, cdv, ct, osl', e0, lk, -⟩ := Fu.ex
  have e1 := Option.some.inj (lk.symm.trans l)
  have e2 : Data.func fd = Data.func fd0 := congrArg Obj.data e1
  cases e2
  exact F'
theorem walk_end {l : PySem.W.OpenLaw} {k : Nat} {q : Program} {loose : List Str} {XP : (Str → Option Value) → Heap → Prop} {YP : World → Heap → Prop} {d : DefRec} {K : Params → PySem.W.Frag} (hn : l.most = some 63) (hdf : d.params.defaults = []) (hr : Room k callerA)
    (hY : ∀ (w : World) (h : Heap), YP w h → (K w.params).In h)
    (F : ∀ (w : World) (mg : Str → Option Value) (fa : Addr) (h : Heap), (K w.params).In h → h.Ns mainGlobals mg → mg d.name = some (.ref fa) →
      ∃ fd : FuncData, (∀ (s : Shared) (u : Value), BindsTo s fd ⟨[u], []⟩ [("script", u)]) ∧ ∀ base : Heap, (K w.params).In base → base.Ns mainGlobals mg → FnOk l.prog w (K w.params) mg base (L2.CX l.prog w) k fa fd ["script"] (spLaw (K w.params))) :
    PySem.W.WalkO q loose XP YP l.row.toRowW d [] (fun f vs => PySem.call f vs) :=
  L2.walk_of (n := 63) (k := k) (x := "script") (CX := fun w => L2.CX l.prog w) (sp := fun w => spLaw (K w.params)) hn (by decide) hdf hr hY F (fun _ _ a ns hl _ hS => ⟨a, ns, rfl, hS, hl, fun _ _ h => h⟩) (fun w H s e s' z => by
    obtain ⟨_, _, _, _, _, _, _, _, _, _, _, _, z⟩ := z
    exact z.elim)
end Z
end
section
set_option Elab.async false
set_option linter.all false
set_option maxRecDepth 100000
set_option maxHeartbeats 4000000
/-! the end of k02: printed by gen.py -/
namespace K02
open PySem PySem.Spec PyProof.Rows L2 Z
theorem all_mk {l : PySem.W.OpenLaw} {w : World} {K : PySem.W.Frag} {h : Heap} {mg : Str → Option Value} {fa : Addr} {C0 : Addr} {C1 : Addr} {A_ARGUMENT_COUNTS : Addr} {a_COMPARISONS : Addr} {d_COMPARISONS : Option Addr} {s_COMPARISONS : Array (Option Value)} {i_COMPARISONS : List Value} {n_COMPARISONS : Nat} {t_DEEPEST : PySem.Tok} {t_DIGITS : PySem.Tok} {t_LETTERS : PySem.Tok} {A_LEVELS : Addr} {t_LIMIT : PySem.Tok} {t_LONGEST_NUMBER : PySem.Tok} {t_LONGEST_WORD : PySem.Tok} {a_LONG_SIGNS : Addr} {d_LONG_SIGNS : Option Addr} {s_LONG_SIGNS : Array (Option Value)} {i_LONG_SIGNS : List Value} {n_LONG_SIGNS : Nat} {t_MOST_BRACKETS : PySem.Tok} {a_NOT_NAMES : Addr} {d_NOT_NAMES : Option Addr} {s_NOT_NAMES : Array (Option Value)} {i_NOT_NAMES : List Value} {n_NOT_NAMES : Nat} {a_PRODUCT_OPERATORS : Addr} {d_PRODUCT_OPERATORS : Option Addr} {s_PRODUCT_OPERATORS : Array (Option Value)} {i_PRODUCT_OPERATORS : List Value} {n_PRODUCT_OPERATORS : Nat} {a_SHORT_SIGNS : Addr} {d_SHORT_SIGNS : Option Addr} {s_SHORT_SIGNS : Array (Option Value)} {i_SHORT_SIGNS : List Value} {n_SHORT_SIGNS : Nat} {a_SUM_OPERATORS : Addr} {d_SUM_OPERATORS : Option Addr} {s_SUM_OPERATORS : Array (Option Value)} {i_SUM_OPERATORS : List Value} {n_SUM_OPERATORS : Nat} {t_WORD_CHARS : PySem.Tok} {f_binding_level : Addr} {oc_binding_level kV_binding_level dc_binding_level pm_binding_level cd_binding_level ct_binding_level : Value} {od_binding_level an_binding_level : Option Addr} {sl_binding_level : Array (Option Value)} {f_write_expression : Addr} {oc_write_expression kV_write_expression dc_write_expression pm_write_expression cd_write_expression ct_write_expression : Value} {od_write_expression an_write_expression : Option Addr} {sl_write_expression : Array (Option Value)} {f_operand_text : Addr} {oc_operand_text kV_operand_text dc_operand_text pm_operand_text cd_operand_text ct_operand_text : Value} {od_operand_text an_operand_text : Option Addr} {sl_operand_text : Array (Option Value)} {f_BadExpression_init : Addr} {oc_BadExpression_init kV_BadExpression_init dc_BadExpression_init pm_BadExpression_init cd_BadExpression_init ct_BadExpression_init : Value} {od_BadExpression_init an_BadExpression_init : Option Addr} {sl_BadExpression_init : Array (Option Value)} {S_BadExpression_init : Addr} {nm_BadExpression_init q_BadExpression_init : Str} {N_BadExpression_init : Addr} {bs_BadExpression_init : List Value} {sn_BadExpression_init : List Str} {sub_BadExpression_init : List Value} {ab_BadExpression_init : Bool} {col_BadExpression_init : Option Bool} {dd_BadExpression_init : Option Addr} {m0_BadExpression_init m1_BadExpression_init m2_BadExpression_init m3_BadExpression_init m5_BadExpression_init : Option Value} {f_run_end : Addr} {oc_run_end kV_run_end dc_run_end pm_run_end cd_run_end ct_run_end : Value} {od_run_end an_run_end : Option Addr} {sl_run_end : Array (Option Value)} {f_run_token : Addr} {oc_run_token kV_run_token dc_run_token pm_run_token cd_run_token ct_run_token : Value} {od_run_token an_run_token : Option Addr} {sl_run_token : Array (Option Value)} {f_sign_at : Addr} {oc_sign_at kV_sign_at dc_sign_at pm_sign_at cd_sign_at ct_sign_at : Value} {od_sign_at an_sign_at : Option Addr} {sl_sign_at : Array (Option Value)} {f_tokens_of : Addr} {oc_tokens_of kV_tokens_of dc_tokens_of pm_tokens_of cd_tokens_of ct_tokens_of : Value} {od_tokens_of an_tokens_of : Option Addr} {sl_tokens_of : Array (Option Value)} {f_is_one_of : Addr} {oc_is_one_of kV_is_one_of dc_is_one_of pm_is_one_of cd_is_one_of ct_is_one_of : Value} {od_is_one_of an_is_one_of : Option Addr} {sl_is_one_of : Array (Option Value)} {f_taken_join : Addr} {oc_taken_join kV_taken_join dc_taken_join pm_taken_join cd_taken_join ct_taken_join : Value} {od_taken_join an_taken_join : Option Addr} {sl_taken_join : Array (Option Value)} {f_taken_read : Addr} {oc_taken_read kV_taken_read dc_taken_read pm_taken_read cd_taken_read ct_taken_read : Value} {od_taken_read an_taken_read : Option Addr} {sl_taken_read : Array (Option Value)} {f_taken_call : Addr} {oc_taken_call kV_taken_call dc_taken_call pm_taken_call cd_taken_call ct_taken_call : Value} {od_taken_call an_taken_call : Option Addr} {sl_taken_call : Array (Option Value)} {f_taken_atom : Addr} {oc_taken_atom kV_taken_atom dc_taken_atom pm_taken_atom cd_taken_atom ct_taken_atom : Value} {od_taken_atom an_taken_atom : Option Addr} {sl_taken_atom : Array (Option Value)} {f_taken_product : Addr} {oc_taken_product kV_taken_product dc_taken_product pm_taken_product cd_taken_product ct_taken_product : Value} {od_taken_product an_taken_product : Option Addr} {sl_taken_product : Array (Option Value)} {f_taken_sum : Addr} {oc_taken_sum kV_taken_sum dc_taken_sum pm_taken_sum cd_taken_sum ct_taken_sum : Value} {od_taken_sum an_taken_sum : Option Addr} {sl_taken_sum : Array (Option Value)} {f_taken_whole : Addr} {oc_taken_whole kV_taken_whole dc_taken_whole pm_taken_whole cd_taken_whole ct_taken_whole : Value} {od_taken_whole an_taken_whole : Option Addr} {sl_taken_whole : Array (Option Value)} {f_taken_inside : Addr} {oc_taken_inside kV_taken_inside dc_taken_inside pm_taken_inside cd_taken_inside ct_taken_inside : Value} {od_taken_inside an_taken_inside : Option Addr} {sl_taken_inside : Array (Option Value)} {f_take_expression : Addr} {oc_take_expression kV_take_expression dc_take_expression pm_take_expression cd_take_expression ct_take_expression : Value} {od_take_expression an_take_expression : Option Addr} {sl_take_expression : Array (Option Value)} {f_read_expression : Addr} {oc_read_expression kV_read_expression dc_read_expression pm_read_expression cd_read_expression ct_read_expression : Value} {od_read_expression an_read_expression : Option Addr} {sl_read_expression : Array (Option Value)} {f_law_whole : Addr} {oc_law_whole kV_law_whole dc_law_whole pm_law_whole cd_law_whole ct_law_whole : Value} {od_law_whole an_law_whole : Option Addr} {sl_law_whole : Array (Option Value)} {f_law_cell : Addr} {oc_law_cell kV_law_cell dc_law_cell pm_law_cell cd_law_cell ct_law_cell : Value} {od_law_cell an_law_cell : Option Addr} {sl_law_cell : Array (Option Value)} {f_law_feed : Addr} {oc_law_feed kV_law_feed dc_law_feed pm_law_feed cd_law_feed ct_law_feed : Value} {od_law_feed an_law_feed : Option Addr} {sl_law_feed : Array (Option Value)} {f_law_take : Addr} {oc_law_take kV_law_take dc_law_take pm_law_take cd_law_take ct_law_take : Value} {od_law_take an_law_take : Option Addr} {sl_law_take : Array (Option Value)} {f_law_number : Addr} {oc_law_number kV_law_number dc_law_number pm_law_number cd_law_number ct_law_number : Value} {od_law_number an_law_number : Option Addr} {sl_law_number : Array (Option Value)} {f_law_word : Addr} {oc_law_word kV_law_word dc_law_word pm_law_word cd_law_word ct_law_word : Value} {od_law_word an_law_word : Option Addr} {sl_law_word : Array (Option Value)} {f_law_near : Addr} {oc_law_near kV_law_near dc_law_near pm_law_near cd_law_near ct_law_near : Value} {od_law_near an_law_near : Option Addr} {sl_law_near : Array (Option Value)} {f_law_word_row : Addr} {oc_law_word_row kV_law_word_row dc_law_word_row pm_law_word_row cd_law_word_row ct_law_word_row : Value} {od_law_word_row an_law_word_row : Option Addr} {sl_law_word_row : Array (Option Value)} {f_law_leaf : Addr} {oc_law_leaf kV_law_leaf dc_law_leaf pm_law_leaf cd_law_leaf ct_law_leaf : Value} {od_law_leaf an_law_leaf : Option Addr} {sl_law_leaf : Array (Option Value)} {f_law_tree : Addr} {oc_law_tree kV_law_tree dc_law_tree pm_law_tree cd_law_tree ct_law_tree : Value} {od_law_tree an_law_tree : Option Addr} {sl_law_tree : Array (Option Value)} {f_law_deep : Addr} {oc_law_deep kV_law_deep dc_law_deep pm_law_deep cd_law_deep ct_law_deep : Value} {od_law_deep an_law_deep : Option Addr} {sl_law_deep : Array (Option Value)} {f_law_drawn : Addr} {oc_law_drawn kV_law_drawn dc_law_drawn pm_law_drawn cd_law_drawn ct_law_drawn : Value} {od_law_drawn an_law_drawn : Option Addr} {sl_law_drawn : Array (Option Value)} {f_law_parts : Addr} {oc_law_parts kV_law_parts dc_law_parts pm_law_parts cd_law_parts ct_law_parts : Value} {od_law_parts an_law_parts : Option Addr} {sl_law_parts : Array (Option Value)} {f_law_subs : Addr} {oc_law_subs kV_law_subs dc_law_subs pm_law_subs cd_law_subs ct_law_subs : Value} {od_law_subs an_law_subs : Option Addr} {sl_law_subs : Array (Option Value)} {f_law_same : Addr} {oc_law_same kV_law_same dc_law_same pm_law_same cd_law_same ct_law_same : Value} {od_law_same an_law_same : Option Addr} {sl_law_same : Array (Option Value)} {f_law_level : Addr} {oc_law_level kV_law_level dc_law_level pm_law_level cd_law_level ct_law_level : Value} {od_law_level an_law_level : Option Addr} {sl_law_level : Array (Option Value)} {f_law_needs : Addr} {oc_law_needs kV_law_needs dc_law_needs pm_law_needs cd_law_needs ct_law_needs : Value} {od_law_needs an_law_needs : Option Addr} {sl_law_needs : Array (Option Value)} {f_law_written : Addr} {oc_law_written kV_law_written dc_law_written pm_law_written cd_law_written ct_law_written : Value} {od_law_written an_law_written : Option Addr} {sl_law_written : Array (Option Value)} {f_law_read : Addr} {oc_law_read kV_law_read dc_law_read pm_law_read cd_law_read ct_law_read : Value} {od_law_read an_law_read : Option Addr} {sl_law_read : Array (Option Value)} {f_law_good : Addr} {oc_law_good kV_law_good dc_law_good pm_law_good cd_law_good ct_law_good : Value} {od_law_good an_law_good : Option Addr} {sl_law_good : Array (Option Value)} {f_law_pairs : Addr} {oc_law_pairs kV_law_pairs dc_law_pairs pm_law_pairs cd_law_pairs ct_law_pairs : Value} {od_law_pairs an_law_pairs : Option Addr} {sl_law_pairs : Array (Option Value)} {f_law : Addr} {oc_law kV_law dc_law pm_law cd_law ct_law : Value} {od_law an_law : Option Addr} {sl_law : Array (Option Value)} (X : K.In h) (G : h.Ns mainGlobals mg) (hfa : mg "law" = some (.ref fa))
    (aC0 : PySem.W.nsIn K mainGlobals "StillError" = some (some (.ref C0)))
    (aC1 : PySem.W.nsIn K mainGlobals "BadExpression" = some (some (.ref C1)))
    (e_ARGUMENT_COUNTS : PySem.W.nsIn K mainGlobals "ARGUMENT_COUNTS" = some (some (.ref A_ARGUMENT_COUNTS)))
    (e_COMPARISONS : PySem.W.nsIn K mainGlobals "COMPARISONS" = some (some (.ref a_COMPARISONS)))
    (l_COMPARISONS : K.lookup a_COMPARISONS = some ⟨.type "tuple", d_COMPARISONS, .seq i_COMPARISONS.toArray n_COMPARISONS, s_COMPARISONS⟩)
    (v_COMPARISONS : ∃ vs, mapO flV ([(.str "<"), (.str "<="), (.str ">"), (.str ">="), (.str "="), (.str "!=")] : List D) = some vs ∧ Vals vs i_COMPARISONS ∧ i_COMPARISONS.length ≤ 1000)
    (e_DEEPEST : PySem.W.nsIn K mainGlobals "DEEPEST" = some (some (.int 12 t_DEEPEST)))
    (e_DIGITS : PySem.W.nsIn K mainGlobals "DIGITS" = some (some (.str "0123456789" t_DIGITS)))
    (e_LETTERS : PySem.W.nsIn K mainGlobals "LETTERS" = some (some (.str "abcdefghijklmnopqrstuvwxyz" t_LETTERS)))
    (e_LEVELS : PySem.W.nsIn K mainGlobals "LEVELS" = some (some (.ref A_LEVELS)))
    (e_LIMIT : PySem.W.nsIn K mainGlobals "LIMIT" = some (some (.int 1000000000000 t_LIMIT)))
    (e_LONGEST_NUMBER : PySem.W.nsIn K mainGlobals "LONGEST_NUMBER" = some (some (.int 13 t_LONGEST_NUMBER)))
    (e_LONGEST_WORD : PySem.W.nsIn K mainGlobals "LONGEST_WORD" = some (some (.int 12 t_LONGEST_WORD)))
    (e_LONG_SIGNS : PySem.W.nsIn K mainGlobals "LONG_SIGNS" = some (some (.ref a_LONG_SIGNS)))
    (l_LONG_SIGNS : K.lookup a_LONG_SIGNS = some ⟨.type "tuple", d_LONG_SIGNS, .seq i_LONG_SIGNS.toArray n_LONG_SIGNS, s_LONG_SIGNS⟩)
    (v_LONG_SIGNS : ∃ vs, mapO flV ([(.str "<="), (.str ">="), (.str "!="), (.str ":=")] : List D) = some vs ∧ Vals vs i_LONG_SIGNS ∧ i_LONG_SIGNS.length ≤ 1000)
    (e_MOST_BRACKETS : PySem.W.nsIn K mainGlobals "MOST_BRACKETS" = some (some (.int 12 t_MOST_BRACKETS)))
    (e_NOT_NAMES : PySem.W.nsIn K mainGlobals "NOT_NAMES" = some (some (.ref a_NOT_NAMES)))
    (l_NOT_NAMES : K.lookup a_NOT_NAMES = some ⟨.type "tuple", d_NOT_NAMES, .seq i_NOT_NAMES.toArray n_NOT_NAMES, s_NOT_NAMES⟩)
    (v_NOT_NAMES : ∃ vs, mapO flV ([(.str "div"), (.str "mod"), (.str "min"), (.str "max"), (.str "pick"), (.str "nth"), (.str "when")] : List D) = some vs ∧ Vals vs i_NOT_NAMES ∧ i_NOT_NAMES.length ≤ 1000)
    (e_PRODUCT_OPERATORS : PySem.W.nsIn K mainGlobals "PRODUCT_OPERATORS" = some (some (.ref a_PRODUCT_OPERATORS)))
    (l_PRODUCT_OPERATORS : K.lookup a_PRODUCT_OPERATORS = some ⟨.type "tuple", d_PRODUCT_OPERATORS, .seq i_PRODUCT_OPERATORS.toArray n_PRODUCT_OPERATORS, s_PRODUCT_OPERATORS⟩)
    (v_PRODUCT_OPERATORS : ∃ vs, mapO flV ([(.str "*"), (.str "div"), (.str "mod")] : List D) = some vs ∧ Vals vs i_PRODUCT_OPERATORS ∧ i_PRODUCT_OPERATORS.length ≤ 1000)
    (e_SHORT_SIGNS : PySem.W.nsIn K mainGlobals "SHORT_SIGNS" = some (some (.ref a_SHORT_SIGNS)))
    (l_SHORT_SIGNS : K.lookup a_SHORT_SIGNS = some ⟨.type "tuple", d_SHORT_SIGNS, .seq i_SHORT_SIGNS.toArray n_SHORT_SIGNS, s_SHORT_SIGNS⟩)
    (v_SHORT_SIGNS : ∃ vs, mapO flV ([(.str "+"), (.str "-"), (.str "*"), (.str "("), (.str ")"), (.str "["), (.str "]"), (.str ","), (.str "<"), (.str ">"), (.str "="), (.str ";")] : List D) = some vs ∧ Vals vs i_SHORT_SIGNS ∧ i_SHORT_SIGNS.length ≤ 1000)
    (e_SUM_OPERATORS : PySem.W.nsIn K mainGlobals "SUM_OPERATORS" = some (some (.ref a_SUM_OPERATORS)))
    (l_SUM_OPERATORS : K.lookup a_SUM_OPERATORS = some ⟨.type "tuple", d_SUM_OPERATORS, .seq i_SUM_OPERATORS.toArray n_SUM_OPERATORS, s_SUM_OPERATORS⟩)
    (v_SUM_OPERATORS : ∃ vs, mapO flV ([(.str "+"), (.str "-")] : List D) = some vs ∧ Vals vs i_SUM_OPERATORS ∧ i_SUM_OPERATORS.length ≤ 1000)
    (e_WORD_CHARS : PySem.W.nsIn K mainGlobals "WORD_CHARS" = some (some (.str "abcdefghijklmnopqrstuvwxyz0123456789_" t_WORD_CHARS)))
    (t1_ARGUMENT_COUNTS : He.dicW K A_ARGUMENT_COUNTS = some (He.keysIn w.params ["min", "max", "pick", "nth"]))
    (t2_ARGUMENT_COUNTS : tabI K A_ARGUMENT_COUNTS = some T_ARGUMENT_COUNTS)
    (t1_LEVELS : He.dicW K A_LEVELS = some (He.keysIn w.params ["+", "-", "*", "div", "mod"]))
    (t2_LEVELS : tabI K A_LEVELS = some T_LEVELS)
    (xg_BadExpression_x : PySem.W.findIn K (.ref C1) "__getattribute__" = some (some (.builtin "BaseException.__getattribute__")))
    (xk_BadExpression_x : PySem.W.findIn K (.ref C1) "__getattr__" = some none)
    (xs_BadExpression_x : PySem.W.subIn K (.ref C1) (.type "BaseException") = some true)
    (xd_BadExpression_x : PySem.W.hasDictIn K C1 = true)
    (xa_BadExpression_x : PySem.W.findIn K (.ref C1) "__class__" = some (some (.builtin "object.__class__")))
    (xn_BadExpression_x : PySem.W.specialIn K (.builtin "object.__class__") "__get__" = some (some (.builtin "getset_descriptor.__get__")))
    (xt_BadExpression_x : PySem.W.takesIn K (.builtin "object.__class__") = some true)
    (xm_BadExpression_x : PySem.W.mroIn K C1 (.type "object") = some true)
    (ea_BadExpression_in : PySem.W.subIn K (.ref C0) (.type "BaseException") = some true)
    (eb_BadExpression_in : PySem.W.hasDictIn K C0 = true)
    (ec_BadExpression_in : PySem.W.typeIn K (.ref C0) = some (.type "type"))
    (ed_BadExpression_in : PySem.W.subIn K (.ref C1) (.ref C0) = some true)
    (z_bool_ : PySem.W.nsIn K mainGlobals "bool" = some none)
    (z_int_ : PySem.W.nsIn K mainGlobals "int" = some none)
    (z_isinstance_ : PySem.W.nsIn K mainGlobals "isinstance" = some none)
    (z_len_ : PySem.W.nsIn K mainGlobals "len" = some none)
    (z_list_ : PySem.W.nsIn K mainGlobals "list" = some none)
    (z_max_ : PySem.W.nsIn K mainGlobals "max" = some none)
    (z_min_ : PySem.W.nsIn K mainGlobals "min" = some none)
    (z_range_ : PySem.W.nsIn K mainGlobals "range" = some none)
    (z_str_ : PySem.W.nsIn K mainGlobals "str" = some none)
    (z_tuple_ : PySem.W.nsIn K mainGlobals "tuple" = some none)
    (a_binding_level : PySem.W.nsIn K mainGlobals "binding_level" = some (some (.ref f_binding_level)))
    (l_binding_level : K.lookup f_binding_level = some ⟨oc_binding_level, od_binding_level, .func (PySem.W.fnOf "binding_level" "binding_level" (defArgs s_binding_level) (defBody s_binding_level) (defScope s_binding_level) .none kV_binding_level dc_binding_level pm_binding_level an_binding_level cd_binding_level ct_binding_level), sl_binding_level⟩)
    (c_binding_level : PySem.W.codeIn K cd_binding_level "binding_level" = true)
    (k_binding_level : PySem.W.keepIn K (.ref f_binding_level) = true)
    (a_write_expression : PySem.W.nsIn K mainGlobals "write_expression" = some (some (.ref f_write_expression)))
    (l_write_expression : K.lookup f_write_expression = some ⟨oc_write_expression, od_write_expression, .func (PySem.W.fnOf "write_expression" "write_expression" (defArgs s_write_expression) (defBody s_write_expression) (defScope s_write_expression) .none kV_write_expression dc_write_expression pm_write_expression an_write_expression cd_write_expression ct_write_expression), sl_write_expression⟩)
    (c_write_expression : PySem.W.codeIn K cd_write_expression "write_expression" = true)
    (k_write_expression : PySem.W.keepIn K (.ref f_write_expression) = true)
    (a_operand_text : PySem.W.nsIn K mainGlobals "operand_text" = some (some (.ref f_operand_text)))
    (l_operand_text : K.lookup f_operand_text = some ⟨oc_operand_text, od_operand_text, .func (PySem.W.fnOf "operand_text" "operand_text" (defArgs s_operand_text) (defBody s_operand_text) (defScope s_operand_text) .none kV_operand_text dc_operand_text pm_operand_text an_operand_text cd_operand_text ct_operand_text), sl_operand_text⟩)
    (c_operand_text : PySem.W.codeIn K cd_operand_text "operand_text" = true)
    (k_operand_text : PySem.W.keepIn K (.ref f_operand_text) = true)
    (x_BadExpression_init : K.lookup C1 = some (excClassObj nm_BadExpression_init q_BadExpression_init C1 N_BadExpression_init bs_BadExpression_init [.ref S_BadExpression_init, .type "ValueError", .type "Exception", .type "BaseException", .type "object"] true sn_BadExpression_init sub_BadExpression_init ab_BadExpression_init col_BadExpression_init dd_BadExpression_init m0_BadExpression_init m1_BadExpression_init m2_BadExpression_init m3_BadExpression_init m5_BadExpression_init "ValueError.__new__"))
    (s_BadExpression_init_ : PySem.W.findIn K (.ref C1) "__setattr__" = some (some (.builtin "object.__setattr__")))
    (e_BadExpression_init : PySem.W.subIn K (.ref C1) (.type "BaseException") = some true)
    (t_BadExpression_init : PySem.W.typeIn K (.ref C1) = some (.type "type"))
    (o_BadExpression_init : PySem.W.keepIn K (.ref C1) = true)
    (n_BadExpression_init : PySem.W.findIn K (.ref C1) "text" = some none)
    (a_BadExpression_init : PySem.W.findIn K (.ref C1) "__init__" = some (some (.ref f_BadExpression_init)))
    (u_BadExpression_init : PySem.W.typeIn K (.ref f_BadExpression_init) = some (.type "function"))
    (l_BadExpression_init : K.lookup f_BadExpression_init = some ⟨oc_BadExpression_init, od_BadExpression_init, .func (PySem.W.fnOf "__init__" "BadExpression.__init__" (defArgs s_BadExpression_init) (defBody s_BadExpression_init) (defScope s_BadExpression_init) .none kV_BadExpression_init dc_BadExpression_init pm_BadExpression_init an_BadExpression_init cd_BadExpression_init ct_BadExpression_init), sl_BadExpression_init⟩)
    (c_BadExpression_init : PySem.W.codeIn K cd_BadExpression_init "BadExpression.__init__" = true)
    (k_BadExpression_init : PySem.W.keepIn K (.ref f_BadExpression_init) = true)
    (a_run_end : PySem.W.nsIn K mainGlobals "run_end" = some (some (.ref f_run_end)))
    (l_run_end : K.lookup f_run_end = some ⟨oc_run_end, od_run_end, .func (PySem.W.fnOf "run_end" "run_end" (defArgs s_run_end) (defBody s_run_end) (defScope s_run_end) .none kV_run_end dc_run_end pm_run_end an_run_end cd_run_end ct_run_end), sl_run_end⟩)
    (c_run_end : PySem.W.codeIn K cd_run_end "run_end" = true)
    (k_run_end : PySem.W.keepIn K (.ref f_run_end) = true)
    (a_run_token : PySem.W.nsIn K mainGlobals "run_token" = some (some (.ref f_run_token)))
    (l_run_token : K.lookup f_run_token = some ⟨oc_run_token, od_run_token, .func (PySem.W.fnOf "run_token" "run_token" (defArgs s_run_token) (defBody s_run_token) (defScope s_run_token) .none kV_run_token dc_run_token pm_run_token an_run_token cd_run_token ct_run_token), sl_run_token⟩)
    (c_run_token : PySem.W.codeIn K cd_run_token "run_token" = true)
    (k_run_token : PySem.W.keepIn K (.ref f_run_token) = true)
    (a_sign_at : PySem.W.nsIn K mainGlobals "sign_at" = some (some (.ref f_sign_at)))
    (l_sign_at : K.lookup f_sign_at = some ⟨oc_sign_at, od_sign_at, .func (PySem.W.fnOf "sign_at" "sign_at" (defArgs s_sign_at) (defBody s_sign_at) (defScope s_sign_at) .none kV_sign_at dc_sign_at pm_sign_at an_sign_at cd_sign_at ct_sign_at), sl_sign_at⟩)
    (c_sign_at : PySem.W.codeIn K cd_sign_at "sign_at" = true)
    (k_sign_at : PySem.W.keepIn K (.ref f_sign_at) = true)
    (a_tokens_of : PySem.W.nsIn K mainGlobals "tokens_of" = some (some (.ref f_tokens_of)))
    (l_tokens_of : K.lookup f_tokens_of = some ⟨oc_tokens_of, od_tokens_of, .func (PySem.W.fnOf "tokens_of" "tokens_of" (defArgs s_tokens_of) (defBody s_tokens_of) (defScope s_tokens_of) .none kV_tokens_of dc_tokens_of pm_tokens_of an_tokens_of cd_tokens_of ct_tokens_of), sl_tokens_of⟩)
    (c_tokens_of : PySem.W.codeIn K cd_tokens_of "tokens_of" = true)
    (k_tokens_of : PySem.W.keepIn K (.ref f_tokens_of) = true)
    (a_is_one_of : PySem.W.nsIn K mainGlobals "is_one_of" = some (some (.ref f_is_one_of)))
    (l_is_one_of : K.lookup f_is_one_of = some ⟨oc_is_one_of, od_is_one_of, .func (PySem.W.fnOf "is_one_of" "is_one_of" (defArgs s_is_one_of) (defBody s_is_one_of) (defScope s_is_one_of) .none kV_is_one_of dc_is_one_of pm_is_one_of an_is_one_of cd_is_one_of ct_is_one_of), sl_is_one_of⟩)
    (c_is_one_of : PySem.W.codeIn K cd_is_one_of "is_one_of" = true)
    (k_is_one_of : PySem.W.keepIn K (.ref f_is_one_of) = true)
    (a_taken_join : PySem.W.nsIn K mainGlobals "taken_join" = some (some (.ref f_taken_join)))
    (l_taken_join : K.lookup f_taken_join = some ⟨oc_taken_join, od_taken_join, .func (PySem.W.fnOf "taken_join" "taken_join" (defArgs s_taken_join) (defBody s_taken_join) (defScope s_taken_join) .none kV_taken_join dc_taken_join pm_taken_join an_taken_join cd_taken_join ct_taken_join), sl_taken_join⟩)
    (c_taken_join : PySem.W.codeIn K cd_taken_join "taken_join" = true)
    (k_taken_join : PySem.W.keepIn K (.ref f_taken_join) = true)
    (a_taken_read : PySem.W.nsIn K mainGlobals "taken_read" = some (some (.ref f_taken_read)))
    (l_taken_read : K.lookup f_taken_read = some ⟨oc_taken_read, od_taken_read, .func (PySem.W.fnOf "taken_read" "taken_read" (defArgs s_taken_read) (defBody s_taken_read) (defScope s_taken_read) .none kV_taken_read dc_taken_read pm_taken_read an_taken_read cd_taken_read ct_taken_read), sl_taken_read⟩)
    (c_taken_read : PySem.W.codeIn K cd_taken_read "taken_read" = true)
    (k_taken_read : PySem.W.keepIn K (.ref f_taken_read) = true)
    (a_taken_call : PySem.W.nsIn K mainGlobals "taken_call" = some (some (.ref f_taken_call)))
    (l_taken_call : K.lookup f_taken_call = some ⟨oc_taken_call, od_taken_call, .func (PySem.W.fnOf "taken_call" "taken_call" (defArgs s_taken_call) (defBody s_taken_call) (defScope s_taken_call) .none kV_taken_call dc_taken_call pm_taken_call an_taken_call cd_taken_call ct_taken_call), sl_taken_call⟩)
    (c_taken_call : PySem.W.codeIn K cd_taken_call "taken_call" = true)
    (k_taken_call : PySem.W.keepIn K (.ref f_taken_call) = true)
    (a_taken_atom : PySem.W.nsIn K mainGlobals "taken_atom" = some (some (.ref f_taken_atom)))
    (l_taken_atom : K.lookup f_taken_atom = some ⟨oc_taken_atom, od_taken_atom, .func (PySem.W.fnOf "taken_atom" "taken_atom" (defArgs s_taken_atom) (defBody s_taken_atom) (defScope s_taken_atom) .none kV_taken_atom dc_taken_atom pm_taken_atom an_taken_atom cd_taken_atom ct_taken_atom), sl_taken_atom⟩)
    (c_taken_atom : PySem.W.codeIn K cd_taken_atom "taken_atom" = true)
    (k_taken_atom : PySem.W.keepIn K (.ref f_taken_atom) = true)
    (a_taken_product : PySem.W.nsIn K mainGlobals "taken_product" = some (some (.ref f_taken_product)))
    (l_taken_product : K.lookup f_taken_product = some ⟨oc_taken_product, od_taken_product, .func (PySem.W.fnOf "taken_product" "taken_product" (defArgs s_taken_product) (defBody s_taken_product) (defScope s_taken_product) .none kV_taken_product dc_taken_product pm_taken_product an_taken_product cd_taken_product ct_taken_product), sl_taken_product⟩)
    (c_taken_product : PySem.W.codeIn K cd_taken_product "taken_product" = true)
    (k_taken_product : PySem.W.keepIn K (.ref f_taken_product) = true)
    (a_taken_sum : PySem.W.nsIn K mainGlobals "taken_sum" = some (some (.ref f_taken_sum)))
    (l_taken_sum : K.lookup f_taken_sum = some ⟨oc_taken_sum, od_taken_sum, .func (PySem.W.fnOf "taken_sum" "taken_sum" (defArgs s_taken_sum) (defBody s_taken_sum) (defScope s_taken_sum) .none kV_taken_sum dc_taken_sum pm_taken_sum an_taken_sum cd_taken_sum ct_taken_sum), sl_taken_sum⟩)
    (c_taken_sum : PySem.W.codeIn K cd_taken_sum "taken_sum" = true)
    (k_taken_sum : PySem.W.keepIn K (.ref f_taken_sum) = true)
    (a_taken_whole : PySem.W.nsIn K mainGlobals "taken_whole" = some (some (.ref f_taken_whole)))
    (l_taken_whole : K.lookup f_taken_whole = some ⟨oc_taken_whole, od_taken_whole, .func (PySem.W.fnOf "taken_whole" "taken_whole" (defArgs s_taken_whole) (defBody s_taken_whole) (defScope s_taken_whole) .none kV_taken_whole dc_taken_whole pm_taken_whole an_taken_whole cd_taken_whole ct_taken_whole), sl_taken_whole⟩)
    (c_taken_whole : PySem.W.codeIn K cd_taken_whole "taken_whole" = true)
    (k_taken_whole : PySem.W.keepIn K (.ref f_taken_whole) = true)
    (a_taken_inside : PySem.W.nsIn K mainGlobals "taken_inside" = some (some (.ref f_taken_inside)))
    (l_taken_inside : K.lookup f_taken_inside = some ⟨oc_taken_inside, od_taken_inside, .func (PySem.W.fnOf "taken_inside" "taken_inside" (defArgs s_taken_inside) (defBody s_taken_inside) (defScope s_taken_inside) .none kV_taken_inside dc_taken_inside pm_taken_inside an_taken_inside cd_taken_inside ct_taken_inside), sl_taken_inside⟩)
    (c_taken_inside : PySem.W.codeIn K cd_taken_inside "taken_inside" = true)
    (k_taken_inside : PySem.W.keepIn K (.ref f_taken_inside) = true)
    (a_take_expression : PySem.W.nsIn K mainGlobals "take_expression" = some (some (.ref f_take_expression)))
    (l_take_expression : K.lookup f_take_expression = some ⟨oc_take_expression, od_take_expression, .func (PySem.W.fnOf "take_expression" "take_expression" (defArgs s_take_expression) (defBody s_take_expression) (defScope s_take_expression) .none kV_take_expression dc_take_expression pm_take_expression an_take_expression cd_take_expression ct_take_expression), sl_take_expression⟩)
    (c_take_expression : PySem.W.codeIn K cd_take_expression "take_expression" = true)
    (k_take_expression : PySem.W.keepIn K (.ref f_take_expression) = true)
    (a_read_expression : PySem.W.nsIn K mainGlobals "read_expression" = some (some (.ref f_read_expression)))
    (l_read_expression : K.lookup f_read_expression = some ⟨oc_read_expression, od_read_expression, .func (PySem.W.fnOf "read_expression" "read_expression" (defArgs s_read_expression) (defBody s_read_expression) (defScope s_read_expression) .none kV_read_expression dc_read_expression pm_read_expression an_read_expression cd_read_expression ct_read_expression), sl_read_expression⟩)
    (c_read_expression : PySem.W.codeIn K cd_read_expression "read_expression" = true)
    (k_read_expression : PySem.W.keepIn K (.ref f_read_expression) = true)
    (a_law_whole : PySem.W.nsIn K mainGlobals "_law_whole" = some (some (.ref f_law_whole)))
    (l_law_whole : K.lookup f_law_whole = some ⟨oc_law_whole, od_law_whole, .func (PySem.W.fnOf "_law_whole" "_law_whole" (defArgs s_law_whole) (defBody s_law_whole) (defScope s_law_whole) .none kV_law_whole dc_law_whole pm_law_whole an_law_whole cd_law_whole ct_law_whole), sl_law_whole⟩)
    (c_law_whole : PySem.W.codeIn K cd_law_whole "_law_whole" = true)
    (k_law_whole : PySem.W.keepIn K (.ref f_law_whole) = true)
    (a_law_cell : PySem.W.nsIn K mainGlobals "_law_cell" = some (some (.ref f_law_cell)))
    (l_law_cell : K.lookup f_law_cell = some ⟨oc_law_cell, od_law_cell, .func (PySem.W.fnOf "_law_cell" "_law_cell" (defArgs s_law_cell) (defBody s_law_cell) (defScope s_law_cell) .none kV_law_cell dc_law_cell pm_law_cell an_law_cell cd_law_cell ct_law_cell), sl_law_cell⟩)
    (c_law_cell : PySem.W.codeIn K cd_law_cell "_law_cell" = true)
    (k_law_cell : PySem.W.keepIn K (.ref f_law_cell) = true)
    (a_law_feed : PySem.W.nsIn K mainGlobals "_law_feed" = some (some (.ref f_law_feed)))
    (l_law_feed : K.lookup f_law_feed = some ⟨oc_law_feed, od_law_feed, .func (PySem.W.fnOf "_law_feed" "_law_feed" (defArgs s_law_feed) (defBody s_law_feed) (defScope s_law_feed) .none kV_law_feed dc_law_feed pm_law_feed an_law_feed cd_law_feed ct_law_feed), sl_law_feed⟩)
    (c_law_feed : PySem.W.codeIn K cd_law_feed "_law_feed" = true)
    (k_law_feed : PySem.W.keepIn K (.ref f_law_feed) = true)
    (a_law_take : PySem.W.nsIn K mainGlobals "_law_take" = some (some (.ref f_law_take)))
    (l_law_take : K.lookup f_law_take = some ⟨oc_law_take, od_law_take, .func (PySem.W.fnOf "_law_take" "_law_take" (defArgs s_law_take) (defBody s_law_take) (defScope s_law_take) .none kV_law_take dc_law_take pm_law_take an_law_take cd_law_take ct_law_take), sl_law_take⟩)
    (c_law_take : PySem.W.codeIn K cd_law_take "_law_take" = true)
    (k_law_take : PySem.W.keepIn K (.ref f_law_take) = true)
    (a_law_number : PySem.W.nsIn K mainGlobals "_law_number" = some (some (.ref f_law_number)))
    (l_law_number : K.lookup f_law_number = some ⟨oc_law_number, od_law_number, .func (PySem.W.fnOf "_law_number" "_law_number" (defArgs s_law_number) (defBody s_law_number) (defScope s_law_number) .none kV_law_number dc_law_number pm_law_number an_law_number cd_law_number ct_law_number), sl_law_number⟩)
    (c_law_number : PySem.W.codeIn K cd_law_number "_law_number" = true)
    (k_law_number : PySem.W.keepIn K (.ref f_law_number) = true)
    (a_law_word : PySem.W.nsIn K mainGlobals "_law_word" = some (some (.ref f_law_word)))
    (l_law_word : K.lookup f_law_word = some ⟨oc_law_word, od_law_word, .func (PySem.W.fnOf "_law_word" "_law_word" (defArgs s_law_word) (defBody s_law_word) (defScope s_law_word) .none kV_law_word dc_law_word pm_law_word an_law_word cd_law_word ct_law_word), sl_law_word⟩)
    (c_law_word : PySem.W.codeIn K cd_law_word "_law_word" = true)
    (k_law_word : PySem.W.keepIn K (.ref f_law_word) = true)
    (a_law_near : PySem.W.nsIn K mainGlobals "_law_near" = some (some (.ref f_law_near)))
    (l_law_near : K.lookup f_law_near = some ⟨oc_law_near, od_law_near, .func (PySem.W.fnOf "_law_near" "_law_near" (defArgs s_law_near) (defBody s_law_near) (defScope s_law_near) .none kV_law_near dc_law_near pm_law_near an_law_near cd_law_near ct_law_near), sl_law_near⟩)
    (c_law_near : PySem.W.codeIn K cd_law_near "_law_near" = true)
    (k_law_near : PySem.W.keepIn K (.ref f_law_near) = true)
    (a_law_word_row : PySem.W.nsIn K mainGlobals "_law_word_row" = some (some (.ref f_law_word_row)))
    (l_law_word_row : K.lookup f_law_word_row = some ⟨oc_law_word_row, od_law_word_row, .func (PySem.W.fnOf "_law_word_row" "_law_word_row" (defArgs s_law_word_row) (defBody s_law_word_row) (defScope s_law_word_row) .none kV_law_word_row dc_law_word_row pm_law_word_row an_law_word_row cd_law_word_row ct_law_word_row), sl_law_word_row⟩)
    (c_law_word_row : PySem.W.codeIn K cd_law_word_row "_law_word_row" = true)
    (k_law_word_row : PySem.W.keepIn K (.ref f_law_word_row) = true)
    (a_law_leaf : PySem.W.nsIn K mainGlobals "_law_leaf" = some (some (.ref f_law_leaf)))
    (l_law_leaf : K.lookup f_law_leaf = some ⟨oc_law_leaf, od_law_leaf, .func (PySem.W.fnOf "_law_leaf" "_law_leaf" (defArgs s_law_leaf) (defBody s_law_leaf) (defScope s_law_leaf) .none kV_law_leaf dc_law_leaf pm_law_leaf an_law_leaf cd_law_leaf ct_law_leaf), sl_law_leaf⟩)
    (c_law_leaf : PySem.W.codeIn K cd_law_leaf "_law_leaf" = true)
    (k_law_leaf : PySem.W.keepIn K (.ref f_law_leaf) = true)
    (a_law_tree : PySem.W.nsIn K mainGlobals "_law_tree" = some (some (.ref f_law_tree)))
    (l_law_tree : K.lookup f_law_tree = some ⟨oc_law_tree, od_law_tree, .func (PySem.W.fnOf "_law_tree" "_law_tree" (defArgs s_law_tree) (defBody s_law_tree) (defScope s_law_tree) .none kV_law_tree dc_law_tree pm_law_tree an_law_tree cd_law_tree ct_law_tree), sl_law_tree⟩)
    (c_law_tree : PySem.W.codeIn K cd_law_tree "_law_tree" = true)
    (k_law_tree : PySem.W.keepIn K (.ref f_law_tree) = true)
    (a_law_deep : PySem.W.nsIn K mainGlobals "_law_deep" = some (some (.ref f_law_deep)))
    (l_law_deep : K.lookup f_law_deep = some ⟨oc_law_deep, od_law_deep, .func (PySem.W.fnOf "_law_deep" "_law_deep" (defArgs s_law_deep) (defBody s_law_deep) (defScope s_law_deep) .none kV_law_deep dc_law_deep pm_law_deep an_law_deep cd_law_deep ct_law_deep), sl_law_deep⟩)
    (c_law_deep : PySem.W.codeIn K cd_law_deep "_law_deep" = true)
    (k_law_deep : PySem.W.keepIn K (.ref f_law_deep) = true)
    (a_law_drawn : PySem.W.nsIn K mainGlobals "_law_drawn" = some (some (.ref f_law_drawn)))
    (l_law_drawn : K.lookup f_law_drawn = some ⟨oc_law_drawn, od_law_drawn, .func (PySem.W.fnOf "_law_drawn" "_law_drawn" (defArgs s_law_drawn) (defBody s_law_drawn) (defScope s_law_drawn) .none kV_law_drawn dc_law_drawn pm_law_drawn an_law_drawn cd_law_drawn ct_law_drawn), sl_law_drawn⟩)
    (c_law_drawn : PySem.W.codeIn K cd_law_drawn "_law_drawn" = true)
    (k_law_drawn : PySem.W.keepIn K (.ref f_law_drawn) = true)
    (a_law_parts : PySem.W.nsIn K mainGlobals "_law_parts" = some (some (.ref f_law_parts)))
    (l_law_parts : K.lookup f_law_parts = some ⟨oc_law_parts, od_law_parts, .func (PySem.W.fnOf "_law_parts" "_law_parts" (defArgs s_law_parts) (defBody s_law_parts) (defScope s_law_parts) .none kV_law_parts dc_law_parts pm_law_parts an_law_parts cd_law_parts ct_law_parts), sl_law_parts⟩)
    (c_law_parts : PySem.W.codeIn K cd_law_parts "_law_parts" = true)
    (k_law_parts : PySem.W.keepIn K (.ref f_law_parts) = true)
    (a_law_subs : PySem.W.nsIn K mainGlobals "_law_subs" = some (some (.ref f_law_subs)))
    (l_law_subs : K.lookup f_law_subs = some ⟨oc_law_subs, od_law_subs, .func (PySem.W.fnOf "_law_subs" "_law_subs" (defArgs s_law_subs) (defBody s_law_subs) (defScope s_law_subs) .none kV_law_subs dc_law_subs pm_law_subs an_law_subs cd_law_subs ct_law_subs), sl_law_subs⟩)
    (c_law_subs : PySem.W.codeIn K cd_law_subs "_law_subs" = true)
    (k_law_subs : PySem.W.keepIn K (.ref f_law_subs) = true)
    (a_law_same : PySem.W.nsIn K mainGlobals "_law_same" = some (some (.ref f_law_same)))
    (l_law_same : K.lookup f_law_same = some ⟨oc_law_same, od_law_same, .func (PySem.W.fnOf "_law_same" "_law_same" (defArgs s_law_same) (defBody s_law_same) (defScope s_law_same) .none kV_law_same dc_law_same pm_law_same an_law_same cd_law_same ct_law_same), sl_law_same⟩)
    (c_law_same : PySem.W.codeIn K cd_law_same "_law_same" = true)
    (k_law_same : PySem.W.keepIn K (.ref f_law_same) = true)
    (a_law_level : PySem.W.nsIn K mainGlobals "_law_level" = some (some (.ref f_law_level)))
    (l_law_level : K.lookup f_law_level = some ⟨oc_law_level, od_law_level, .func (PySem.W.fnOf "_law_level" "_law_level" (defArgs s_law_level) (defBody s_law_level) (defScope s_law_level) .none kV_law_level dc_law_level pm_law_level an_law_level cd_law_level ct_law_level), sl_law_level⟩)
    (c_law_level : PySem.W.codeIn K cd_law_level "_law_level" = true)
    (k_law_level : PySem.W.keepIn K (.ref f_law_level) = true)
    (a_law_needs : PySem.W.nsIn K mainGlobals "_law_needs" = some (some (.ref f_law_needs)))
    (l_law_needs : K.lookup f_law_needs = some ⟨oc_law_needs, od_law_needs, .func (PySem.W.fnOf "_law_needs" "_law_needs" (defArgs s_law_needs) (defBody s_law_needs) (defScope s_law_needs) .none kV_law_needs dc_law_needs pm_law_needs an_law_needs cd_law_needs ct_law_needs), sl_law_needs⟩)
    (c_law_needs : PySem.W.codeIn K cd_law_needs "_law_needs" = true)
    (k_law_needs : PySem.W.keepIn K (.ref f_law_needs) = true)
    (a_law_written : PySem.W.nsIn K mainGlobals "_law_written" = some (some (.ref f_law_written)))
    (l_law_written : K.lookup f_law_written = some ⟨oc_law_written, od_law_written, .func (PySem.W.fnOf "_law_written" "_law_written" (defArgs s_law_written) (defBody s_law_written) (defScope s_law_written) .none kV_law_written dc_law_written pm_law_written an_law_written cd_law_written ct_law_written), sl_law_written⟩)
    (c_law_written : PySem.W.codeIn K cd_law_written "_law_written" = true)
    (k_law_written : PySem.W.keepIn K (.ref f_law_written) = true)
    (a_law_read : PySem.W.nsIn K mainGlobals "_law_read" = some (some (.ref f_law_read)))
    (l_law_read : K.lookup f_law_read = some ⟨oc_law_read, od_law_read, .func (PySem.W.fnOf "_law_read" "_law_read" (defArgs s_law_read) (defBody s_law_read) (defScope s_law_read) .none kV_law_read dc_law_read pm_law_read an_law_read cd_law_read ct_law_read), sl_law_read⟩)
    (c_law_read : PySem.W.codeIn K cd_law_read "_law_read" = true)
    (k_law_read : PySem.W.keepIn K (.ref f_law_read) = true)
    (a_law_good : PySem.W.nsIn K mainGlobals "_law_good" = some (some (.ref f_law_good)))
    (l_law_good : K.lookup f_law_good = some ⟨oc_law_good, od_law_good, .func (PySem.W.fnOf "_law_good" "_law_good" (defArgs s_law_good) (defBody s_law_good) (defScope s_law_good) .none kV_law_good dc_law_good pm_law_good an_law_good cd_law_good ct_law_good), sl_law_good⟩)
    (c_law_good : PySem.W.codeIn K cd_law_good "_law_good" = true)
    (k_law_good : PySem.W.keepIn K (.ref f_law_good) = true)
    (a_law_pairs : PySem.W.nsIn K mainGlobals "_law_pairs" = some (some (.ref f_law_pairs)))
    (l_law_pairs : K.lookup f_law_pairs = some ⟨oc_law_pairs, od_law_pairs, .func (PySem.W.fnOf "_law_pairs" "_law_pairs" (defArgs s_law_pairs) (defBody s_law_pairs) (defScope s_law_pairs) .none kV_law_pairs dc_law_pairs pm_law_pairs an_law_pairs cd_law_pairs ct_law_pairs), sl_law_pairs⟩)
    (c_law_pairs : PySem.W.codeIn K cd_law_pairs "_law_pairs" = true)
    (k_law_pairs : PySem.W.keepIn K (.ref f_law_pairs) = true)
    (a_law : PySem.W.nsIn K mainGlobals "law" = some (some (.ref f_law)))
    (l_law : K.lookup f_law = some ⟨oc_law, od_law, .func (PySem.W.fnOf "law" "law" (defArgs s_law) (defBody s_law) (defScope s_law) .none kV_law dc_law pm_law an_law cd_law ct_law), sl_law⟩)
    (c_law : PySem.W.codeIn K cd_law "law" = true)
    (k_law : PySem.W.keepIn K (.ref f_law) = true) :
    ∃ fd : FuncData, (∀ (s : Shared) (v : Value), BindsTo s fd ⟨[v], []⟩ [("script", v)]) ∧ ∀ base : Heap, K.In base → base.Ns mainGlobals mg → FnOk l.prog w K mg base (L2.CX l.prog w) 97 fa fd ["script"] (spLaw K) := by
  have e0 := hfa.symm.trans (PySem.W.mg_of X G a_law)
  cases e0
  have tp : Tp K w mg (fun n : Nat => (if n = 100 then A_LEVELS else if n = 101 then A_ARGUMENT_COUNTS else if n = 0 then C0 else C1 : Addr)) := ⟨(cst_cls X G e_ARGUMENT_COUNTS rfl), (by obtain ⟨vs, h1, h2, h3⟩ := v_COMPARISONS; exact cst_tup X G e_COMPARISONS l_COMPARISONS h1 h2 h3), (cst_int X G e_DEEPEST), (cst_str X G e_DIGITS), (cst_str X G e_LETTERS), (cst_cls X G e_LEVELS rfl), (cst_int X G e_LIMIT), (cst_int X G e_LONGEST_NUMBER), (cst_int X G e_LONGEST_WORD), (by obtain ⟨vs, h1, h2, h3⟩ := v_LONG_SIGNS; exact cst_tup X G e_LONG_SIGNS l_LONG_SIGNS h1 h2 h3), (cst_int X G e_MOST_BRACKETS), (by obtain ⟨vs, h1, h2, h3⟩ := v_NOT_NAMES; exact cst_tup X G e_NOT_NAMES l_NOT_NAMES h1 h2 h3), (by obtain ⟨vs, h1, h2, h3⟩ := v_PRODUCT_OPERATORS; exact cst_tup X G e_PRODUCT_OPERATORS l_PRODUCT_OPERATORS h1 h2 h3), (by obtain ⟨vs, h1, h2, h3⟩ := v_SHORT_SIGNS; exact cst_tup X G e_SHORT_SIGNS l_SHORT_SIGNS h1 h2 h3), (by obtain ⟨vs, h1, h2, h3⟩ := v_SUM_OPERATORS; exact cst_tup X G e_SUM_OPERATORS l_SUM_OPERATORS h1 h2 h3), (cst_str X G e_WORD_CHARS), (kdc_mk t1_ARGUMENT_COUNTS t2_ARGUMENT_COUNTS), (kdc_mk t1_LEVELS t2_LEVELS), ⟨xg_BadExpression_x, xk_BadExpression_x, xs_BadExpression_x, xd_BadExpression_x, xa_BadExpression_x, xn_BadExpression_x, xt_BadExpression_x, xm_BadExpression_x⟩, ⟨xg_BadExpression_x, xk_BadExpression_x, xs_BadExpression_x, xd_BadExpression_x⟩, (PySem.W.exm_ref ea_BadExpression_in eb_BadExpression_in ec_BadExpression_in ed_BadExpression_in), (PySem.W.mg_of X G aC0), (PySem.W.mg_none_of X G z_bool_), (PySem.W.mg_none_of X G z_int_), (PySem.W.mg_none_of X G z_isinstance_), (PySem.W.mg_none_of X G z_len_), (PySem.W.mg_none_of X G z_list_), (PySem.W.mg_none_of X G z_max_), (PySem.W.mg_none_of X G z_min_), (PySem.W.mg_none_of X G z_range_), (PySem.W.mg_none_of X G z_str_), (PySem.W.mg_none_of X G z_tuple_)⟩
  have D_binding_level : Def K mg "binding_level" s_binding_level ["expression"] := def_mk X G a_binding_level l_binding_level c_binding_level k_binding_level (fun _ _ _ _ _ _ us hl => match us, hl with | [_], _ => rfl)
  have D_write_expression : Def K mg "write_expression" s_write_expression ["expression"] := def_mk X G a_write_expression l_write_expression c_write_expression k_write_expression (fun _ _ _ _ _ _ us hl => match us, hl with | [_], _ => rfl)
  have D_operand_text : Def K mg "operand_text" s_operand_text ["expression", "lowest"] := def_mk X G a_operand_text l_operand_text c_operand_text k_operand_text (fun _ _ _ _ _ _ us hl => match us, hl with | [_, _], _ => rfl)
  have D_BadExpression_init : ExD K mg "BadExpression" ((fun n : Nat => (if n = 100 then A_LEVELS else if n = 101 then A_ARGUMENT_COUNTS else if n = 0 then C0 else C1 : Addr)) 1) "text" "BadExpression.__init__" s_BadExpression_init := exd_mk X G aC1 x_BadExpression_init s_BadExpression_init_ e_BadExpression_init t_BadExpression_init o_BadExpression_init n_BadExpression_init a_BadExpression_init u_BadExpression_init l_BadExpression_init c_BadExpression_init k_BadExpression_init (fun _ _ _ _ _ _ us hl => match us, hl with | [_, _], _ => rfl)
  have D_run_end : Def K mg "run_end" s_run_end ["text", "at"] := def_mk X G a_run_end l_run_end c_run_end k_run_end (fun _ _ _ _ _ _ us hl => match us, hl with | [_, _], _ => rfl)
  have D_run_token : Def K mg "run_token" s_run_token ["run"] := def_mk X G a_run_token l_run_token c_run_token k_run_token (fun _ _ _ _ _ _ us hl => match us, hl with | [_], _ => rfl)
  have D_sign_at : Def K mg "sign_at" s_sign_at ["text", "at"] := def_mk X G a_sign_at l_sign_at c_sign_at k_sign_at (fun _ _ _ _ _ _ us hl => match us, hl with | [_, _], _ => rfl)
  have D_tokens_of : Def K mg "tokens_of" s_tokens_of ["text"] := def_mk X G a_tokens_of l_tokens_of c_tokens_of k_tokens_of (fun _ _ _ _ _ _ us hl => match us, hl with | [_], _ => rfl)
  have D_is_one_of : Def K mg "is_one_of" s_is_one_of ["tokens", "at", "signs"] := def_mk X G a_is_one_of l_is_one_of c_is_one_of k_is_one_of (fun _ _ _ _ _ _ us hl => match us, hl with | [_, _, _], _ => rfl)
  have D_taken_join : Def K mg "taken_join" s_taken_join ["sign", "left", "right"] := def_mk X G a_taken_join l_taken_join c_taken_join k_taken_join (fun _ _ _ _ _ _ us hl => match us, hl with | [_, _, _], _ => rfl)
  have D_taken_read : Def K mg "taken_read" s_taken_read ["tokens", "at", "opened"] := def_mk X G a_taken_read l_taken_read c_taken_read k_taken_read (fun _ _ _ _ _ _ us hl => match us, hl with | [_, _, _], _ => rfl)
  have D_taken_call : Def K mg "taken_call" s_taken_call ["tokens", "at", "opened"] := def_mk X G a_taken_call l_taken_call c_taken_call k_taken_call (fun _ _ _ _ _ _ us hl => match us, hl with | [_, _, _], _ => rfl)
  have D_taken_atom : Def K mg "taken_atom" s_taken_atom ["tokens", "at", "opened"] := def_mk X G a_taken_atom l_taken_atom c_taken_atom k_taken_atom (fun _ _ _ _ _ _ us hl => match us, hl with | [_, _, _], _ => rfl)
  have D_taken_product : Def K mg "taken_product" s_taken_product ["tokens", "at", "opened"] := def_mk X G a_taken_product l_taken_product c_taken_product k_taken_product (fun _ _ _ _ _ _ us hl => match us, hl with | [_, _, _], _ => rfl)
  have D_taken_sum : Def K mg "taken_sum" s_taken_sum ["tokens", "at", "opened"] := def_mk X G a_taken_sum l_taken_sum c_taken_sum k_taken_sum (fun _ _ _ _ _ _ us hl => match us, hl with | [_, _, _], _ => rfl)
  have D_taken_whole : Def K mg "taken_whole" s_taken_whole ["tokens", "at", "opened"] := def_mk X G a_taken_whole l_taken_whole c_taken_whole k_taken_whole (fun _ _ _ _ _ _ us hl => match us, hl with | [_, _, _], _ => rfl)
  have D_taken_inside : Def K mg "taken_inside" s_taken_inside ["tokens", "at", "opened", "closing"] := def_mk X G a_taken_inside l_taken_inside c_taken_inside k_taken_inside (fun _ _ _ _ _ _ us hl => match us, hl with | [_, _, _, _], _ => rfl)
  have D_take_expression : Def K mg "take_expression" s_take_expression ["tokens", "at"] := def_mk X G a_take_expression l_take_expression c_take_expression k_take_expression (fun _ _ _ _ _ _ us hl => match us, hl with | [_, _], _ => rfl)
  have D_read_expression : Def K mg "read_expression" s_read_expression ["text"] := def_mk X G a_read_expression l_read_expression c_read_expression k_read_expression (fun _ _ _ _ _ _ us hl => match us, hl with | [_], _ => rfl)
  have D_law_whole : Def K mg "_law_whole" s_law_whole ["value"] := def_mk X G a_law_whole l_law_whole c_law_whole k_law_whole (fun _ _ _ _ _ _ us hl => match us, hl with | [_], _ => rfl)
  have D_law_cell : Def K mg "_law_cell" s_law_cell ["script", "k"] := def_mk X G a_law_cell l_law_cell c_law_cell k_law_cell (fun _ _ _ _ _ _ us hl => match us, hl with | [_, _], _ => rfl)
  have D_law_feed : Def K mg "_law_feed" s_law_feed ["cell"] := def_mk X G a_law_feed l_law_feed c_law_feed k_law_feed (fun _ _ _ _ _ _ us hl => match us, hl with | [_], _ => rfl)
  have D_law_take : Def K mg "_law_take" s_law_take ["feed", "size"] := def_mk X G a_law_take l_law_take c_law_take k_law_take (fun _ _ _ _ _ _ us hl => match us, hl with | [_, _], _ => rfl)
  have D_law_number : Def K mg "_law_number" s_law_number ["feed"] := def_mk X G a_law_number l_law_number c_law_number k_law_number (fun _ _ _ _ _ _ us hl => match us, hl with | [_], _ => rfl)
  have D_law_word : Def K mg "_law_word" s_law_word ["feed"] := def_mk X G a_law_word l_law_word c_law_word k_law_word (fun _ _ _ _ _ _ us hl => match us, hl with | [_], _ => rfl)
  have D_law_near : Def K mg "_law_near" s_law_near ["feed", "word"] := def_mk X G a_law_near l_law_near c_law_near k_law_near (fun _ _ _ _ _ _ us hl => match us, hl with | [_, _], _ => rfl)
  have D_law_word_row : Def K mg "_law_word_row" s_law_word_row ["feed", "many"] := def_mk X G a_law_word_row l_law_word_row c_law_word_row k_law_word_row (fun _ _ _ _ _ _ us hl => match us, hl with | [_, _], _ => rfl)
  have D_law_leaf : Def K mg "_law_leaf" s_law_leaf ["feed", "names"] := def_mk X G a_law_leaf l_law_leaf c_law_leaf k_law_leaf (fun _ _ _ _ _ _ us hl => match us, hl with | [_, _], _ => rfl)
  have D_law_tree : Def K mg "_law_tree" s_law_tree ["feed", "room", "deep", "tight", "names", "arrays", "menu"] := def_mk X G a_law_tree l_law_tree c_law_tree k_law_tree (fun _ _ _ _ _ _ us hl => match us, hl with | [_, _, _, _, _, _, _], _ => rfl)
  have D_law_deep : Def K mg "_law_deep" s_law_deep ["feed"] := def_mk X G a_law_deep l_law_deep c_law_deep k_law_deep (fun _ _ _ _ _ _ us hl => match us, hl with | [_], _ => rfl)
  have D_law_drawn : Def K mg "_law_drawn" s_law_drawn ["cell", "names", "arrays"] := def_mk X G a_law_drawn l_law_drawn c_law_drawn k_law_drawn (fun _ _ _ _ _ _ us hl => match us, hl with | [_, _, _], _ => rfl)
  have D_law_parts : Def K mg "_law_parts" s_law_parts ["expr"] := def_mk X G a_law_parts l_law_parts c_law_parts k_law_parts (fun _ _ _ _ _ _ us hl => match us, hl with | [_], _ => rfl)
  have D_law_subs : Def K mg "_law_subs" s_law_subs ["expr"] := def_mk X G a_law_subs l_law_subs c_law_subs k_law_subs (fun _ _ _ _ _ _ us hl => match us, hl with | [_], _ => rfl)
  have D_law_same : Def K mg "_law_same" s_law_same ["given", "due"] := def_mk X G a_law_same l_law_same c_law_same k_law_same (fun _ _ _ _ _ _ us hl => match us, hl with | [_, _], _ => rfl)
  have D_law_level : Def K mg "_law_level" s_law_level ["expr"] := def_mk X G a_law_level l_law_level c_law_level k_law_level (fun _ _ _ _ _ _ us hl => match us, hl with | [_], _ => rfl)
  have D_law_needs : Def K mg "_law_needs" s_law_needs ["expr", "side"] := def_mk X G a_law_needs l_law_needs c_law_needs k_law_needs (fun _ _ _ _ _ _ us hl => match us, hl with | [_, _], _ => rfl)
  have D_law_written : Def K mg "_law_written" s_law_written ["expr"] := def_mk X G a_law_written l_law_written c_law_written k_law_written (fun _ _ _ _ _ _ us hl => match us, hl with | [_], _ => rfl)
  have D_law_read : Def K mg "_law_read" s_law_read ["text"] := def_mk X G a_law_read l_law_read c_law_read k_law_read (fun _ _ _ _ _ _ us hl => match us, hl with | [_], _ => rfl)
  have D_law_good : Def K mg "_law_good" s_law_good ["expr"] := def_mk X G a_law_good l_law_good c_law_good k_law_good (fun _ _ _ _ _ _ us hl => match us, hl with | [_], _ => rfl)
  have D_law_pairs : Def K mg "_law_pairs" s_law_pairs ["feed", "sign", "names", "arrays"] := def_mk X G a_law_pairs l_law_pairs c_law_pairs k_law_pairs (fun _ _ _ _ _ _ us hl => match us, hl with | [_, _, _, _], _ => rfl)
  have D_law : Def K mg "law" s_law ["script"] := def_mk X G a_law l_law c_law k_law (fun _ _ _ _ _ _ us hl => match us, hl with | [_], _ => rfl)
  refine ⟨PySem.W.fnOf "law" "law" (defArgs s_law) (defBody s_law) (defScope s_law) .none kV_law dc_law pm_law an_law cd_law ct_law, fun s v => .of_eq rfl, fun base _ _ => ?_⟩
  have h_binding_level := ok_binding_level (P := l.prog) (w := w) (base := base) tp D_binding_level 
  have h_write_expression := (all_write_expression (P := l.prog) (w := w) (base := base) tp D_write_expression D_operand_text h_binding_level 32).1
  have h_operand_text := (all_write_expression (P := l.prog) (w := w) (base := base) tp D_write_expression D_operand_text h_binding_level 32).2
  have h_BadExpression_init := ok_BadExpression_init (P := l.prog) (w := w) (base := base) tp D_BadExpression_init 
  have h_run_end := ok_run_end (P := l.prog) (w := w) (base := base) tp D_run_end 
  have h_run_token := ok_run_token (P := l.prog) (w := w) (base := base) tp D_run_token 
  have h_sign_at := ok_sign_at (P := l.prog) (w := w) (base := base) tp D_sign_at 
  have h_tokens_of := ok_tokens_of (P := l.prog) (w := w) (base := base) tp D_tokens_of h_run_end h_run_token h_sign_at
  have h_is_one_of := ok_is_one_of (P := l.prog) (w := w) (base := base) tp D_is_one_of 
  have h_taken_join := ok_taken_join (P := l.prog) (w := w) (base := base) tp D_taken_join 
  have h_taken_read := (all_taken_read (P := l.prog) (w := w) (base := base) tp D_taken_read D_taken_call D_taken_atom D_taken_product D_taken_sum D_taken_whole D_taken_inside h_is_one_of h_taken_join 90).1
  have h_taken_call := (all_taken_read (P := l.prog) (w := w) (base := base) tp D_taken_read D_taken_call D_taken_atom D_taken_product D_taken_sum D_taken_whole D_taken_inside h_is_one_of h_taken_join 90).2.1
  have h_taken_atom := (all_taken_read (P := l.prog) (w := w) (base := base) tp D_taken_read D_taken_call D_taken_atom D_taken_product D_taken_sum D_taken_whole D_taken_inside h_is_one_of h_taken_join 90).2.2.1
  have h_taken_product := (all_taken_read (P := l.prog) (w := w) (base := base) tp D_taken_read D_taken_call D_taken_atom D_taken_product D_taken_sum D_taken_whole D_taken_inside h_is_one_of h_taken_join 90).2.2.2.1
  have h_taken_sum := (all_taken_read (P := l.prog) (w := w) (base := base) tp D_taken_read D_taken_call D_taken_atom D_taken_product D_taken_sum D_taken_whole D_taken_inside h_is_one_of h_taken_join 90).2.2.2.2.1
  have h_taken_whole := (all_taken_read (P := l.prog) (w := w) (base := base) tp D_taken_read D_taken_call D_taken_atom D_taken_product D_taken_sum D_taken_whole D_taken_inside h_is_one_of h_taken_join 90).2.2.2.2.2.1
  have h_taken_inside := (all_taken_read (P := l.prog) (w := w) (base := base) tp D_taken_read D_taken_call D_taken_atom D_taken_product D_taken_sum D_taken_whole D_taken_inside h_is_one_of h_taken_join 90).2.2.2.2.2.2
  have h_take_expression := ok_take_expression (P := l.prog) (w := w) (base := base) tp D_take_expression h_taken_whole
  have h_read_expression := ok_read_expression (P := l.prog) (w := w) (base := base) tp D_read_expression h_tokens_of h_BadExpression_init h_take_expression
  have h_law_whole := ok_law_whole (P := l.prog) (w := w) (base := base) tp D_law_whole 
  have h_law_cell := ok_law_cell (P := l.prog) (w := w) (base := base) tp D_law_cell 
  have h_law_feed := ok_law_feed (P := l.prog) (w := w) (base := base) tp D_law_feed 
  have h_law_take := ok_law_take (P := l.prog) (w := w) (base := base) tp D_law_take 
  have h_law_number := ok_law_number (P := l.prog) (w := w) (base := base) tp D_law_number h_law_take
  have h_law_word := ok_law_word (P := l.prog) (w := w) (base := base) tp D_law_word h_law_take
  have h_law_near := ok_law_near (P := l.prog) (w := w) (base := base) tp D_law_near h_law_take
  have h_law_word_row := ok_law_word_row (P := l.prog) (w := w) (base := base) tp D_law_word_row h_law_word h_law_take h_law_near
  have h_law_leaf := ok_law_leaf (P := l.prog) (w := w) (base := base) tp D_law_leaf h_law_take h_law_number
  have h_law_tree := (all_law_tree (P := l.prog) (w := w) (base := base) tp D_law_tree h_law_take h_law_leaf 16)
  have h_law_deep := ok_law_deep (P := l.prog) (w := w) (base := base) tp D_law_deep h_law_take
  have h_law_drawn := ok_law_drawn (P := l.prog) (w := w) (base := base) tp D_law_drawn h_law_feed h_law_take h_law_tree h_law_deep
  have h_law_parts := ok_law_parts (P := l.prog) (w := w) (base := base) tp D_law_parts 
  have h_law_subs := (all_law_subs (P := l.prog) (w := w) (base := base) tp D_law_subs h_law_parts 16)
  have h_law_same := (all_law_same (P := l.prog) (w := w) (base := base) tp D_law_same h_law_whole 40)
  have h_law_level := ok_law_level (P := l.prog) (w := w) (base := base) tp D_law_level 
  have h_law_needs := ok_law_needs (P := l.prog) (w := w) (base := base) tp D_law_needs h_law_level
  have h_law_written := (all_law_written (P := l.prog) (w := w) (base := base) tp D_law_written h_law_needs 16)
  have h_law_read := ok_law_read (P := l.prog) (w := w) (base := base) tp D_law_read h_read_expression
  have h_law_good := ok_law_good (P := l.prog) (w := w) (base := base) tp D_law_good h_write_expression h_law_written h_law_same h_law_read
  have h_law_pairs := ok_law_pairs (P := l.prog) (w := w) (base := base) tp D_law_pairs h_law_tree h_law_take h_law_good
  have h_law := ok_law (P := l.prog) (w := w) (base := base) tp D_law h_law_feed h_law_cell h_law_word_row h_law_take h_law_drawn h_law_subs h_law_good h_law_same h_write_expression h_law_written h_law_pairs
  exact (law_fn h_law hfa l_law).imp (law_end fun ns hn => law_wp (by omega))
end K02
end
open PySem PySem.W PyProof.Rows in
set_option maxRecDepth 100000 in
set_option maxHeartbeats 0 in
theorem PySem.Challenge.cw_wholerows_k02_expressions_written_holds : PySem.Challenge.rw_wholerows_k02_expressions_written.Holds := by
  w_on; o_law; k_head; (case hw => w_witness2)
  k_fill
  refine Z.walk_end (l := PySem.Challenge.rw_wholerows_k02_expressions_written) (k := 97) rfl rfl ⟨rfl, by decide, by decide⟩ (fun w h Y => PySem.W.kIn_of Y) ?F
  case F =>
    intro w mg fa h KX G hmg
    refine' K02.all_mk KX G hmg ?aC0 ?aC1 ?e_ARGUMENT_COUNTS ?e_COMPARISONS ?l_COMPARISONS ?v_COMPARISONS ?e_DEEPEST ?e_DIGITS ?e_LETTERS ?e_LEVELS ?e_LIMIT ?e_LONGEST_NUMBER ?e_LONGEST_WORD ?e_LONG_SIGNS ?l_LONG_SIGNS ?v_LONG_SIGNS ?e_MOST_BRACKETS ?e_NOT_NAMES ?l_NOT_NAMES ?v_NOT_NAMES ?e_PRODUCT_OPERATORS ?l_PRODUCT_OPERATORS ?v_PRODUCT_OPERATORS ?e_SHORT_SIGNS ?l_SHORT_SIGNS ?v_SHORT_SIGNS ?e_SUM_OPERATORS ?l_SUM_OPERATORS ?v_SUM_OPERATORS ?e_WORD_CHARS ?t1_ARGUMENT_COUNTS ?t2_ARGUMENT_COUNTS ?t1_LEVELS ?t2_LEVELS ?xg_BadExpression_x ?xk_BadExpression_x ?xs_BadExpression_x ?xd_BadExpression_x ?xa_BadExpression_x ?xn_BadExpression_x ?xt_BadExpression_x ?xm_BadExpression_x ?ea_BadExpression_in ?eb_BadExpression_in ?ec_BadExpression_in ?ed_BadExpression_in ?z_bool_ ?z_int_ ?z_isinstance_ ?z_len_ ?z_list_ ?z_max_ ?z_min_ ?z_range_ ?z_str_ ?z_tuple_ ?a_binding_level ?l_binding_level ?c_binding_level ?k_binding_level ?a_write_expression ?l_write_expression ?c_write_expression ?k_write_expression ?a_operand_text ?l_operand_text ?c_operand_text ?k_operand_text ?x_BadExpression_init ?s_BadExpression_init_ ?e_BadExpression_init ?t_BadExpression_init ?o_BadExpression_init ?n_BadExpression_init ?a_BadExpression_init ?u_BadExpression_init ?l_BadExpression_init ?c_BadExpression_init ?k_BadExpression_init ?a_run_end ?l_run_end ?c_run_end ?k_run_end ?a_run_token ?l_run_token ?c_run_token ?k_run_token ?a_sign_at ?l_sign_at ?c_sign_at ?k_sign_at ?a_tokens_of ?l_tokens_of ?c_tokens_of ?k_tokens_of ?a_is_one_of ?l_is_one_of ?c_is_one_of ?k_is_one_of ?a_taken_join ?l_taken_join ?c_taken_join ?k_taken_join ?a_taken_read ?l_taken_read ?c_taken_read ?k_taken_read ?a_taken_call ?l_taken_call ?c_taken_call ?k_taken_call ?a_taken_atom ?l_taken_atom ?c_taken_atom ?k_taken_atom ?a_taken_product ?l_taken_product ?c_taken_product ?k_taken_product ?a_taken_sum ?l_taken_sum ?c_taken_sum ?k_taken_sum ?a_taken_whole ?l_taken_whole ?c_taken_whole ?k_taken_whole ?a_taken_inside ?l_taken_inside ?c_taken_inside ?k_taken_inside ?a_take_expression ?l_take_expression ?c_take_expression ?k_take_expression ?a_read_expression ?l_read_expression ?c_read_expression ?k_read_expression ?a_law_whole ?l_law_whole ?c_law_whole ?k_law_whole ?a_law_cell ?l_law_cell ?c_law_cell ?k_law_cell ?a_law_feed ?l_law_feed ?c_law_feed ?k_law_feed ?a_law_take ?l_law_take ?c_law_take ?k_law_take ?a_law_number ?l_law_number ?c_law_number ?k_law_number ?a_law_word ?l_law_word ?c_law_word ?k_law_word ?a_law_near ?l_law_near ?c_law_near ?k_law_near ?a_law_word_row ?l_law_word_row ?c_law_word_row ?k_law_word_row ?a_law_leaf ?l_law_leaf ?c_law_leaf ?k_law_leaf ?a_law_tree ?l_law_tree ?c_law_tree ?k_law_tree ?a_law_deep ?l_law_deep ?c_law_deep ?k_law_deep ?a_law_drawn ?l_law_drawn ?c_law_drawn ?k_law_drawn ?a_law_parts ?l_law_parts ?c_law_parts ?k_law_parts ?a_law_subs ?l_law_subs ?c_law_subs ?k_law_subs ?a_law_same ?l_law_same ?c_law_same ?k_law_same ?a_law_level ?l_law_level ?c_law_level ?k_law_level ?a_law_needs ?l_law_needs ?c_law_needs ?k_law_needs ?a_law_written ?l_law_written ?c_law_written ?k_law_written ?a_law_read ?l_law_read ?c_law_read ?k_law_read ?a_law_good ?l_law_good ?c_law_good ?k_law_good ?a_law_pairs ?l_law_pairs ?c_law_pairs ?k_law_pairs ?a_law ?l_law ?c_law ?k_law
    (case aC0 => k_is)
    (case aC1 => k_is)
    (case e_ARGUMENT_COUNTS => k_is)
    (case e_COMPARISONS => k_is)
    (case l_COMPARISONS => k_is)
    (case v_COMPARISONS => exact ⟨_, rfl, (by repeat first | exact .nil | refine .cons ⟨_, rfl⟩ ?_), by decide⟩)
    (case e_DEEPEST => k_is)
    (case e_DIGITS => k_is)
    (case e_LETTERS => k_is)
    (case e_LEVELS => k_is)
    (case e_LIMIT => k_is)
    (case e_LONGEST_NUMBER => k_is)
    (case e_LONGEST_WORD => k_is)
    (case e_LONG_SIGNS => k_is)
    (case l_LONG_SIGNS => k_is)
    (case v_LONG_SIGNS => exact ⟨_, rfl, (by repeat first | exact .nil | refine .cons ⟨_, rfl⟩ ?_), by decide⟩)
    (case e_MOST_BRACKETS => k_is)
    (case e_NOT_NAMES => k_is)
    (case l_NOT_NAMES => k_is)
    (case v_NOT_NAMES => exact ⟨_, rfl, (by repeat first | exact .nil | refine .cons ⟨_, rfl⟩ ?_), by decide⟩)
    (case e_PRODUCT_OPERATORS => k_is)
    (case l_PRODUCT_OPERATORS => k_is)
    (case v_PRODUCT_OPERATORS => exact ⟨_, rfl, (by repeat first | exact .nil | refine .cons ⟨_, rfl⟩ ?_), by decide⟩)
    (case e_SHORT_SIGNS => k_is)
    (case l_SHORT_SIGNS => k_is)
    (case v_SHORT_SIGNS => exact ⟨_, rfl, (by repeat first | exact .nil | refine .cons ⟨_, rfl⟩ ?_), by decide⟩)
    (case e_SUM_OPERATORS => k_is)
    (case l_SUM_OPERATORS => k_is)
    (case v_SUM_OPERATORS => exact ⟨_, rfl, (by repeat first | exact .nil | refine .cons ⟨_, rfl⟩ ?_), by decide⟩)
    (case e_WORD_CHARS => k_is)
    (case t1_ARGUMENT_COUNTS => first | k_is | exact rfl | with_unfolding_all exact rfl)
    (case t2_ARGUMENT_COUNTS => first | k_is | exact rfl | with_unfolding_all exact rfl)
    (case t1_LEVELS => first | k_is | exact rfl | with_unfolding_all exact rfl)
    (case t2_LEVELS => first | k_is | exact rfl | with_unfolding_all exact rfl)
    (case xg_BadExpression_x => k_is)
    (case xk_BadExpression_x => k_is)
    (case xs_BadExpression_x => k_is)
    (case xd_BadExpression_x => k_is)
    (case xa_BadExpression_x => k_is)
    (case xn_BadExpression_x => k_is)
    (case xt_BadExpression_x => k_is)
    (case xm_BadExpression_x => k_is)
    (case ea_BadExpression_in => k_is)
    (case eb_BadExpression_in => k_is)
    (case ec_BadExpression_in => k_is)
    (case ed_BadExpression_in => k_is)
    (case z_bool_ => k_is)
    (case z_int_ => k_is)
    (case z_isinstance_ => k_is)
    (case z_len_ => k_is)
    (case z_list_ => k_is)
    (case z_max_ => k_is)
    (case z_min_ => k_is)
    (case z_range_ => k_is)
    (case z_str_ => k_is)
    (case z_tuple_ => k_is)
    (case a_binding_level => k_is)
    (case l_binding_level => k_is)
    (case c_binding_level => k_is)
    (case k_binding_level => k_is)
    (case a_write_expression => k_is)
    (case l_write_expression => k_is)
    (case c_write_expression => k_is)
    (case k_write_expression => k_is)
    (case a_operand_text => k_is)
    (case l_operand_text => k_is)
    (case c_operand_text => k_is)
    (case k_operand_text => k_is)
    (case x_BadExpression_init => k_is)
    (case s_BadExpression_init_ => k_is)
    (case e_BadExpression_init => k_is)
    (case t_BadExpression_init => k_is)
    (case o_BadExpression_init => k_is)
    (case n_BadExpression_init => k_is)
    (case a_BadExpression_init => k_is)
    (case u_BadExpression_init => k_is)
    (case l_BadExpression_init => k_is)
    (case c_BadExpression_init => k_is)
    (case k_BadExpression_init => k_is)
    (case a_run_end => k_is)
    (case l_run_end => k_is)
    (case c_run_end => k_is)
    (case k_run_end => k_is)
    (case a_run_token => k_is)
    (case l_run_token => k_is)
    (case c_run_token => k_is)
    (case k_run_token => k_is)
    (case a_sign_at => k_is)
    (case l_sign_at => k_is)
    (case c_sign_at => k_is)
    (case k_sign_at => k_is)
    (case a_tokens_of => k_is)
    (case l_tokens_of => k_is)
    (case c_tokens_of => k_is)
    (case k_tokens_of => k_is)
    (case a_is_one_of => k_is)
    (case l_is_one_of => k_is)
    (case c_is_one_of => k_is)
    (case k_is_one_of => k_is)
    (case a_taken_join => k_is)
    (case l_taken_join => k_is)
    (case c_taken_join => k_is)
    (case k_taken_join => k_is)
    (case a_taken_read => k_is)
    (case l_taken_read => k_is)
    (case c_taken_read => k_is)
    (case k_taken_read => k_is)
    (case a_taken_call => k_is)
    (case l_taken_call => k_is)
    (case c_taken_call => k_is)
    (case k_taken_call => k_is)
    (case a_taken_atom => k_is)
    (case l_taken_atom => k_is)
    (case c_taken_atom => k_is)
    (case k_taken_atom => k_is)
    (case a_taken_product => k_is)
    (case l_taken_product => k_is)
    (case c_taken_product => k_is)
    (case k_taken_product => k_is)
    (case a_taken_sum => k_is)
    (case l_taken_sum => k_is)
    (case c_taken_sum => k_is)
    (case k_taken_sum => k_is)
    (case a_taken_whole => k_is)
    (case l_taken_whole => k_is)
    (case c_taken_whole => k_is)
    (case k_taken_whole => k_is)
    (case a_taken_inside => k_is)
    (case l_taken_inside => k_is)
    (case c_taken_inside => k_is)
    (case k_taken_inside => k_is)
    (case a_take_expression => k_is)
    (case l_take_expression => k_is)
    (case c_take_expression => k_is)
    (case k_take_expression => k_is)
    (case a_read_expression => k_is)
    (case l_read_expression => k_is)
    (case c_read_expression => k_is)
    (case k_read_expression => k_is)
    (case a_law_whole => k_is)
    (case l_law_whole => k_is)
    (case c_law_whole => k_is)
    (case k_law_whole => k_is)
    (case a_law_cell => k_is)
    (case l_law_cell => k_is)
    (case c_law_cell => k_is)
    (case k_law_cell => k_is)
    (case a_law_feed => k_is)
    (case l_law_feed => k_is)
    (case c_law_feed => k_is)
    (case k_law_feed => k_is)
    (case a_law_take => k_is)
    (case l_law_take => k_is)
    (case c_law_take => k_is)
    (case k_law_take => k_is)
    (case a_law_number => k_is)
    (case l_law_number => k_is)
    (case c_law_number => k_is)
    (case k_law_number => k_is)
    (case a_law_word => k_is)
    (case l_law_word => k_is)
    (case c_law_word => k_is)
    (case k_law_word => k_is)
    (case a_law_near => k_is)
    (case l_law_near => k_is)
    (case c_law_near => k_is)
    (case k_law_near => k_is)
    (case a_law_word_row => k_is)
    (case l_law_word_row => k_is)
    (case c_law_word_row => k_is)
    (case k_law_word_row => k_is)
    (case a_law_leaf => k_is)
    (case l_law_leaf => k_is)
    (case c_law_leaf => k_is)
    (case k_law_leaf => k_is)
    (case a_law_tree => k_is)
    (case l_law_tree => k_is)
    (case c_law_tree => k_is)
    (case k_law_tree => k_is)
    (case a_law_deep => k_is)
    (case l_law_deep => k_is)
    (case c_law_deep => k_is)
    (case k_law_deep => k_is)
    (case a_law_drawn => k_is)
    (case l_law_drawn => k_is)
    (case c_law_drawn => k_is)
    (case k_law_drawn => k_is)
    (case a_law_parts => k_is)
    (case l_law_parts => k_is)
    (case c_law_parts => k_is)
    (case k_law_parts => k_is)
    (case a_law_subs => k_is)
    (case l_law_subs => k_is)
    (case c_law_subs => k_is)
    (case k_law_subs => k_is)
    (case a_law_same => k_is)
    (case l_law_same => k_is)
    (case c_law_same => k_is)
    (case k_law_same => k_is)
    (case a_law_level => k_is)
    (case l_law_level => k_is)
    (case c_law_level => k_is)
    (case k_law_level => k_is)
    (case a_law_needs => k_is)
    (case l_law_needs => k_is)
    (case c_law_needs => k_is)
    (case k_law_needs => k_is)
    (case a_law_written => k_is)
    (case l_law_written => k_is)
    (case c_law_written => k_is)
    (case k_law_written => k_is)
    (case a_law_read => k_is)
    (case l_law_read => k_is)
    (case c_law_read => k_is)
    (case k_law_read => k_is)
    (case a_law_good => k_is)
    (case l_law_good => k_is)
    (case c_law_good => k_is)
    (case k_law_good => k_is)
    (case a_law_pairs => k_is)
    (case l_law_pairs => k_is)
    (case c_law_pairs => k_is)
    (case k_law_pairs => k_is)
    (case a_law => k_is)
    (case l_law => k_is)
    (case c_law => k_is)
    (case k_law => k_is)
