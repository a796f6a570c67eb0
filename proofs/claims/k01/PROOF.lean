import PyProof.Rows.All
import Wide.All
import OpenK.AllK
import Wide.FinOn
import HandS.TupMul
import HandS.ForExc
import HandS.Comp
import HandS.Wide
import HandS.TupAny
import HandS.Text
import HandS.Iter
import HandS.More
import HandS.IsInst
import HandS.Property
import HandS.SortKw
import HandS.Zip
import HandS.Deep
import HandS.Dict
import KE.KDictKeyed
import KE.KTupSum
import HandS.Style
import KE.KIndexOf
import KE.DatumOrd
import HandS.DictComp
import HandS.WordsDict
import HandS.WideBits
import HandS.SetBool
import PySem.Challenge.RW_wholerows_k01_reads_picks_nth_and_words
import HandS.Ends
section
set_option Elab.async false
set_option linter.all false
set_option maxRecDepth 100000
set_option maxHeartbeats 4000000
/-! Z0: a tuple times one is that tuple. -/
namespace L2
open PySem PySem.Spec PyProof.Rows
theorem tuple_mul1 (l : Addr) (items : Array Value) (n : Nat) (dd : Option Addr) (sl : Array (Option Value)) (x : Int) (u : Tok) (c0 : (decide (x < -(2 ^ 63)) || decide (x ≥ 2 ^ 63)) = false) (c1 : (items.isEmpty || x == 1) = true) :
    Meets (Builtin.«tuple.__mul__» ⟨[.ref l, .int x u], []⟩) (fun _ R s => s.heap.get? l = some { cls := .type "tuple", dict := dd, data := .seq items n, slots := sl } ∧
      R (.ok (.ret (Value.ref l))) s) :=
  .of_wp fun prog w A R s h => by
    obtain ⟨hp, g, d, tk, os⟩ := s
    obtain ⟨hl, h⟩ := h
    have f1 := AutoSeq1.idx_int
    wp_walk using wpAny_loadPart' hl
    repeat (first
      | (refine wpAny_ite_false (decide_eq_false (by rw [c0]; exact Bool.false_ne_true)) ?_; wp_walk using wpAny_loadPart' hl)
      | (refine wpAny_ite_true (decide_eq_true c1) ?_; wp_walk using wpAny_loadPart' hl))
    exact ⟨_, rfl, h⟩
def rRepT1 (K : PySem.W.Frag) : R2 := fun x y H Q => ∃ l xs, x = .ref l ∧ y = .int 1 ∧ SqT K H l xs ∧ Q (.ref l) H
section
variable {X : Cx}
theorem op_repT1 : OpR X (binaryOp .Mult) (rRepT1 X.K) := by
  intro pins s σ H x y v u Q I rx ry h
  obtain ⟨l, xs, rfl, rfl, hT, q⟩ := h
  cases rx
  obtain ⟨t, rfl⟩ := ry
  obtain ⟨its, r, ⟨⟨cls, dd, data, sl⟩, ho, hc, n, hd⟩, hs⟩ := I.tuple hT
  simp only at hc hd
  subst hc hd
  have c0 : (decide ((1 : Int) < -(2 ^ 63)) || decide ((1 : Int) ≥ 2 ^ 63)) = false := by decide
  have c1 : (its.toArray.isEmpty || (1 : Int) == 1) = true := by simp
  refine wpAny_binaryOp_repeat_ref (T := "tuple") (U := "int") (by decide) ⟨_, ho, rfl⟩ (fun s' => typeIs_int s' 1 t) noFill_tuple_mul F.fills_int_mul F.slot_int_rmul repeat_tuple F.slot_int_index.lookup
    (call_meets F.slot_int_rmul (typeIs_int s 1 t) F.entry_int_rmul (F.args_int_rmul_2 _ _) (int_rmul_tuple 1 t l its.toArray n dd sl)
      ⟨ho, rfl, ⟨_, ho, rfl⟩, call_meets F.slot_tuple_mul ⟨_, ho, rfl⟩ F.entry_tuple_mul (F.args_tuple_mul_2 _ _) (tuple_mul1 l its.toArray n dd sl 1 t c0 c1) ⟨ho, ?_⟩⟩)
  exact ⟨.ref l, _, I, rfl, q⟩
end
end L2
end
section
set_option Elab.async false
set_option linter.all false
set_option maxRecDepth 100000
set_option maxHeartbeats 4000000
/-! Z1: values by content, a store of what may change, and what relates them to the abstract heap. -/
namespace Z
open PySem PySem.Spec PyProof.Rows L2

/-- a value: tuples by content, what may change by its place in the store -/
inductive D where
  | non | bl (b : Bool) | int (i : Int) | str (s : Str) | tup (xs : List D) | loc (n : Nat) | ty (n : String) | cls (c : Nat) | adr (a dx : Nat) (ns : List Str) (xs : List D)
/-- what stands in the store: a list, a list that is only read, a place kept free, an instance -/
inductive O where
  | lst (xs : List D) | ro (xs : List D) | hole | ins (c : Nat) (fs : List (Str × D)) | dic (kvs : List (Key × D)) | dro (kvs : List (Key × D)) | dkn (kvs : List (NestedKey × D))
abbrev S := List O
inductive R (α : Type) where
  | ok (a : α) (s : S) | exc (c : Nat) (fs : List (Str × D)) (s : S) | bad
def R.bind {α β : Type} (r : R α) (f : α → S → R β) : R β := match r with
  | .ok a s => f a s
  | .exc c fs s => .exc c fs s
  | .bad => .bad
abbrev Ev := List (Option D)
abbrev M (α : Type) := Ev → S → R α

/-- the written part, the classes by number -/
structure G where
  K : PySem.W.Frag
  cad : Nat → Addr

/-- tuples stay -/
structure TLe (g : G) (H H' : Hp) : Prop where
  tup : ∀ a vs, SqT g.K H a vs → SqT g.K H' a vs
  frz : ∀ b o u, H b = some (.frz o u) → H' b = some (.frz o u)
  xd : ∀ b fs, H b = some (.xd fs) → H' b = some (.xd fs)
theorem TLe.refl {g : G} {H : Hp} : TLe g H H := ⟨fun _ _ h => h, fun _ _ _ h => h, fun _ _ h => h⟩
theorem TLe.trans {g : G} {H H1 H2 : Hp} (a : TLe g H H1) (b : TLe g H1 H2) : TLe g H H2 := ⟨fun x vs h => b.tup x vs (a.tup x vs h), fun x o u h => b.frz x o u (a.frz x o u h), fun x u h => b.xd x u (a.xd x u h)⟩

mutual
def Rep (g : G) (ρ : List Addr) (H : Hp) : D → V → Prop
  | .non, v => v = .non
  | .bl b, v => v = .bl b
  | .int i, v => v = .int i
  | .str s, v => v = .str s
  | .tup xs, v => ∃ a vs, v = .ref a ∧ SqT g.K H a vs ∧ Reps g ρ H xs vs
  | .loc n, v => ∃ a, ρ[n]? = some a ∧ v = .ref a
  | .ty n, v => v = .ty n
  | .cls c, v => v = .ref (g.cad c)
  | .adr a dx ns xs, v => v = .ref a ∧ ∃ vs, H dx = some (.xd (ns.zip vs)) ∧ vs.length = ns.length ∧ Reps g ρ H xs vs
def Reps (g : G) (ρ : List Addr) (H : Hp) : List D → List V → Prop
  | [], vs => vs = []
  | d :: ds, vs => ∃ v r, vs = v :: r ∧ Rep g ρ H d v ∧ Reps g ρ H ds r
end

theorem pre_get {α : Type} {l l' : List α} {n : Nat} {a : α} (e : l <+: l') (h : l[n]? = some a) : l'[n]? = some a := by
  obtain ⟨t, rfl⟩ := e
  have hn : n < l.length := (List.getElem?_eq_some_iff.mp h).1
  rw [List.getElem?_append_left hn]
  exact h

section
variable {g : G} {ρ ρ' : List Addr} {H H' : Hp}
mutual
theorem Rep.mono (e : ρ <+: ρ') (t : TLe g H H') : ∀ {d : D} {v : V}, Rep g ρ H d v → Rep g ρ' H' d v
  | .non, _, h => by unfold Rep at h ⊢; exact h
  | .bl _, _, h => by unfold Rep at h ⊢; exact h
  | .int _, _, h => by unfold Rep at h ⊢; exact h
  | .str _, _, h => by unfold Rep at h ⊢; exact h
  | .ty _, _, h => by unfold Rep at h ⊢; exact h
  | .cls _, _, h => by unfold Rep at h ⊢; exact h
  | .adr _ _ _ xs, _, h => by
    unfold Rep at h ⊢
    obtain ⟨h0, vs, h1, h2, h3⟩ := h
    exact ⟨h0, vs, t.xd _ _ h1, h2, Reps.mono e t h3⟩
  | .loc _, _, h => by
    unfold Rep at h ⊢
    obtain ⟨a, h1, h2⟩ := h
    exact ⟨a, pre_get e h1, h2⟩
  | .tup xs, _, h => by
    unfold Rep at h ⊢
    obtain ⟨a, vs, h1, h2, h3⟩ := h
    exact ⟨a, vs, h1, t.tup _ _ h2, Reps.mono e t h3⟩
theorem Reps.mono (e : ρ <+: ρ') (t : TLe g H H') : ∀ {ds : List D} {vs : List V}, Reps g ρ H ds vs → Reps g ρ' H' ds vs
  | [], _, h => by unfold Reps at h ⊢; exact h
  | _ :: _, _, h => by
    unfold Reps at h ⊢
    obtain ⟨v, r, h1, h2, h3⟩ := h
    exact ⟨v, r, h1, Rep.mono e t h2, Reps.mono e t h3⟩
end
theorem rep_non : Rep g ρ H .non .non := by unfold Rep; rfl
theorem rep_bl {b : Bool} : Rep g ρ H (.bl b) (.bl b) := by unfold Rep; rfl
theorem rep_int {i : Int} : Rep g ρ H (.int i) (.int i) := by unfold Rep; rfl
theorem rep_str {s : Str} : Rep g ρ H (.str s) (.str s) := by unfold Rep; rfl
theorem Rep.adr {a dx : Nat} {ns : List Str} {xs : List D} {v : V} (h : Rep g ρ H (.adr a dx ns xs) v) : v = .ref a ∧ ∃ vs, H dx = some (.xd (ns.zip vs)) ∧ vs.length = ns.length ∧ Reps g ρ H xs vs := by unfold Rep at h; exact h
theorem Rep.cls {c : Nat} {v : V} (h : Rep g ρ H (.cls c) v) : v = .ref (g.cad c) := by unfold Rep at h; exact h
theorem rep_tup {xs : List D} {a : Addr} {vs : List V} (h : SqT g.K H a vs) (r : Reps g ρ H xs vs) : Rep g ρ H (.tup xs) (.ref a) := by unfold Rep; exact ⟨a, vs, rfl, h, r⟩
theorem rep_loc {n : Nat} {a : Addr} (h : ρ[n]? = some a) : Rep g ρ H (.loc n) (.ref a) := by unfold Rep; exact ⟨a, h, rfl⟩
theorem reps_nil : Reps g ρ H [] [] := by unfold Reps; rfl
theorem reps_cons {d : D} {ds : List D} {v : V} {vs : List V} (h : Rep g ρ H d v) (r : Reps g ρ H ds vs) : Reps g ρ H (d :: ds) (v :: vs) := by unfold Reps; exact ⟨v, vs, rfl, h, r⟩
theorem Rep.non {v : V} (h : Rep g ρ H .non v) : v = .non := by unfold Rep at h; exact h
theorem Rep.bl {b : Bool} {v : V} (h : Rep g ρ H (.bl b) v) : v = .bl b := by unfold Rep at h; exact h
theorem Rep.int {i : Int} {v : V} (h : Rep g ρ H (.int i) v) : v = .int i := by unfold Rep at h; exact h
theorem Rep.str {s : Str} {v : V} (h : Rep g ρ H (.str s) v) : v = .str s := by unfold Rep at h; exact h
theorem Rep.ty {n : String} {v : V} (h : Rep g ρ H (.ty n) v) : v = .ty n := by unfold Rep at h; exact h
theorem Rep.tup {xs : List D} {v : V} (h : Rep g ρ H (.tup xs) v) : ∃ a vs, v = .ref a ∧ SqT g.K H a vs ∧ Reps g ρ H xs vs := by unfold Rep at h; exact h
theorem Rep.loc {n : Nat} {v : V} (h : Rep g ρ H (.loc n) v) : ∃ a, ρ[n]? = some a ∧ v = .ref a := by unfold Rep at h; exact h
theorem Reps.nil {vs : List V} (h : Reps g ρ H [] vs) : vs = [] := by unfold Reps at h; exact h
theorem Reps.cons {d : D} {ds : List D} {vs : List V} (h : Reps g ρ H (d :: ds) vs) : ∃ v r, vs = v :: r ∧ Rep g ρ H d v ∧ Reps g ρ H ds r := by unfold Reps at h; exact h
theorem Reps.length : ∀ {ds : List D} {vs : List V}, Reps g ρ H ds vs → vs.length = ds.length
  | [], _, h => by rw [h.nil]; rfl
  | _ :: _, _, h => by
    obtain ⟨v, r, rfl, _, h3⟩ := h.cons
    rw [List.length_cons, List.length_cons, h3.length]
theorem Reps.get : ∀ {ds : List D} {vs : List V} {n : Nat} {d : D}, Reps g ρ H ds vs → ds[n]? = some d → ∃ v, vs[n]? = some v ∧ Rep g ρ H d v
  | [], _, _, _, _, e => by simp at e
  | _ :: _, _, 0, _, h, e => by
    obtain ⟨v, r, rfl, h2, _⟩ := h.cons
    simp at e
    subst e
    exact ⟨v, rfl, h2⟩
  | _ :: ds, _, n + 1, d, h, e => by
    obtain ⟨v, r, rfl, _, h3⟩ := h.cons
    obtain ⟨u, q1, q2⟩ := h3.get (n := n) (d := d) (by simpa using e)
    exact ⟨u, by simpa using q1, q2⟩
theorem Reps.append : ∀ {ds es : List D} {vs ws : List V}, Reps g ρ H ds vs → Reps g ρ H es ws → Reps g ρ H (ds ++ es) (vs ++ ws)
  | [], _, _, _, h, k => by rw [h.nil]; exact k
  | _ :: _, _, _, _, h, k => by
    obtain ⟨v, r, rfl, h2, h3⟩ := h.cons
    exact reps_cons h2 (h3.append k)
theorem Reps.one {d : D} {v : V} (h : Rep g ρ H d v) : Reps g ρ H [d] [v] := reps_cons h reps_nil
theorem Reps.take : ∀ {ds : List D} {vs : List V} (n : Nat), Reps g ρ H ds vs → Reps g ρ H (ds.take n) (vs.take n)
  | _, _, 0, _ => by simp; exact reps_nil
  | [], _, n + 1, h => by rw [h.nil]; exact reps_nil
  | _ :: _, _, n + 1, h => by
    obtain ⟨v, r, rfl, h2, h3⟩ := h.cons
    exact reps_cons h2 (h3.take n)
theorem Reps.drop : ∀ {ds : List D} {vs : List V} (n : Nat), Reps g ρ H ds vs → Reps g ρ H (ds.drop n) (vs.drop n)
  | _, _, 0, h => h
  | [], _, n + 1, h => by rw [h.nil]; exact reps_nil
  | _ :: _, _, n + 1, h => by
    obtain ⟨v, r, rfl, h2, h3⟩ := h.cons
    exact h3.drop n
theorem Reps.set {d : D} {v : V} (k : Rep g ρ H d v) : ∀ {ds : List D} {vs : List V} (n : Nat), Reps g ρ H ds vs → Reps g ρ H (ds.set n d) (vs.set n v)
  | [], _, _, h => by rw [h.nil]; exact reps_nil
  | _ :: _, _, 0, h => by
    obtain ⟨u, r, rfl, h2, h3⟩ := h.cons
    exact reps_cons k h3
  | _ :: _, _, n + 1, h => by
    obtain ⟨u, r, rfl, h2, h3⟩ := h.cons
    exact reps_cons h2 (Reps.set k n h3)
/-- fields -/
def RepF (g : G) (ρ : List Addr) (H : Hp) : List (Str × D) → List (Str × V) → Prop
  | [], vs => vs = []
  | d :: ds, vs => ∃ v r, vs = (d.1, v) :: r ∧ Rep g ρ H d.2 v ∧ RepF g ρ H ds r
theorem RepF.mono (e : ρ <+: ρ') (t : TLe g H H') : ∀ {ds : List (Str × D)} {vs : List (Str × V)}, RepF g ρ H ds vs → RepF g ρ' H' ds vs
  | [], _, h => h
  | _ :: _, _, h => by
    obtain ⟨v, r, h1, h2, h3⟩ := h
    exact ⟨v, r, h1, h2.mono e t, h3.mono e t⟩
def RepK (g : G) (ρ : List Addr) (H : Hp) : List (Key × D) → List (Key × V) → Prop
  | [], vs => vs = []
  | d :: ds, vs => ∃ v r, vs = (d.1, v) :: r ∧ Rep g ρ H d.2 v ∧ RepK g ρ H ds r
theorem RepK.mono (e : ρ <+: ρ') (t : TLe g H H') : ∀ {ds : List (Key × D)} {vs : List (Key × V)}, RepK g ρ H ds vs → RepK g ρ' H' ds vs
  | [], _, h => h
  | _ :: _, _, h => by
    obtain ⟨v, r, h1, h2, h3⟩ := h
    exact ⟨v, r, h1, h2.mono e t, h3.mono e t⟩
theorem RepF.lookup {f : Str} : ∀ {ds : List (Str × D)} {vs : List (Str × V)}, RepF g ρ H ds vs → (∀ d, ds.lookup f = some d → ∃ v, vs.lookup f = some v ∧ Rep g ρ H d v) ∧ (ds.lookup f = none → vs.lookup f = none)
  | [], _, h => by
    have h' : _ = [] := h
    subst h'
    exact ⟨fun d e => by simp at e, fun _ => rfl⟩
  | (x, d) :: ds, _, h => by
    obtain ⟨v, r, rfl, h2, h3⟩ := h
    obtain ⟨a, b⟩ := RepF.lookup (f := f) h3
    show (∀ d', List.lookup f ((x, d) :: ds) = some d' → ∃ v', List.lookup f ((x, v) :: r) = some v' ∧ Rep g ρ H d' v') ∧ (List.lookup f ((x, d) :: ds) = none → List.lookup f ((x, v) :: r) = none)
    rw [List.lookup_cons, List.lookup_cons]
    cases hx : (f == x) with
    | true =>
      simp only []
      exact ⟨fun d' e => ⟨v, rfl, by cases e; exact h2⟩, fun e => nomatch e⟩
    | false => exact ⟨a, b⟩
theorem RepF.length : ∀ {ds : List (Str × D)} {vs : List (Str × V)}, RepF g ρ H ds vs → vs.length = ds.length
  | [], _, h => by
    have h' : _ = [] := h
    rw [h']; rfl
  | _ :: _, _, h => by
    obtain ⟨v, r, rfl, _, h3⟩ := h
    rw [List.length_cons, List.length_cons, h3.length]
/-- a key of nested tuples of ints, as a value -/
def deN : NestedKey → D
  | .none => .non
  | .num i => .int i
  | .text x => .str x
  | .tup ks => .tup (deNs ks)
where deNs : List NestedKey → List D
  | [] => []
  | k :: ks => deN k :: deNs ks
/-- the entries of a dict whose keys are nested tuples -/
def RepN (g : G) (ρ : List Addr) (H : Hp) : List (NestedKey × D) → List (NestedKey × Addr × Value) → Prop
  | [], xs => xs = []
  | p :: ds, xs => ∃ a u v r, xs = (p.1, a, u) :: r ∧ Rep g ρ H (deN p.1) (.ref a) ∧ Rep g ρ H p.2 v ∧ RelV v u ∧ RepN g ρ H ds r
theorem RepN.mono (e : ρ <+: ρ') (t : TLe g H H') : ∀ {ds : List (NestedKey × D)} {xs : List (NestedKey × Addr × Value)}, RepN g ρ H ds xs → RepN g ρ' H' ds xs
  | [], _, h => h
  | _ :: _, _, h => by
    obtain ⟨a, u, v, r, h1, h2, h3, h4, h5⟩ := h
    exact ⟨a, u, v, r, h1, h2.mono e t, h3.mono e t, h4, h5.mono e t⟩
/-- what is stored at a field -/
def putD (f : Str) (v : D) : List (Str × D) → List (Str × D)
  | [] => [(f, v)]
  | (x, u) :: r => if x = f then (x, v) :: r else (x, u) :: putD f v r
theorem RepF.put {f : Str} {d : D} {v : V} (k : Rep g ρ H d v) : ∀ {ds : List (Str × D)} {vs : List (Str × V)}, RepF g ρ H ds vs → RepF g ρ H (putD f d ds) (putF f v vs)
  | [], _, h => by
    have h' : _ = [] := h
    subst h'
    exact ⟨v, [], rfl, k, rfl⟩
  | (x, u) :: ds, _, h => by
    obtain ⟨w, r, rfl, h2, h3⟩ := h
    show RepF g ρ H (if x = f then (x, d) :: ds else (x, u) :: putD f d ds) (if x = f then (x, v) :: r else (x, w) :: putF f v r)
    by_cases hx : x = f
    · rw [if_pos hx, if_pos hx]
      exact ⟨v, r, rfl, k, h3⟩
    · rw [if_neg hx, if_neg hx]
      exact ⟨w, _, rfl, h2, RepF.put k h3⟩

/-! ### the store -/
def ObjR (g : G) (ρ : List Addr) (H : Hp) (a : Addr) : O → Prop
  | .lst xs => ∃ vs, H a = some (.lst vs) ∧ Reps g ρ H xs vs
  | .ro xs => ∃ vs, SqL g.K H a vs ∧ Reps g ρ H xs vs
  | .hole => ∃ vs, H a = some (.lst vs)
  | .ins c fs => ∃ dx vs, H a = some (.ins (g.cad c) dx vs) ∧ RepF g ρ H fs vs
  | .dic kvs => ∃ vs, H a = some (.dK vs) ∧ RepK g ρ H kvs vs
  | .dro kvs => ∃ vs, Rd H a (.dK vs) ∧ RepK g ρ H kvs vs
  | .dkn kvs => ∃ (o : Obj) (es : Array DictEntry) (ep : Nat) (xs : List (NestedKey × Addr × Value)), H a = some (.ext fun h => h.get? a = some o) ∧ (a == sysModules) = false ∧ o.ExactDict ∧ o.data = .dict es ep ∧ (∀ (P : Program) (w : World), es.toList = xs.map (entryOfKey (nestedKind P w))) ∧ (xs.map (·.1)).Nodup ∧ RepN g ρ H kvs xs
/-- a list of the written part -/
def KL (K : PySem.W.Frag) (a : Addr) (vs : List V) : Prop := ∃ (o : Obj) (its : Array Value) (n : Nat), K.lookup a = some o ∧ o.cls = .type "list" ∧ o.dict = none ∧ o.data = .seq its n ∧ its.size ≤ sizeLine ∧ Vals vs its.toList
def KP (g : G) (ρ : List Addr) (H : Hp) (a : Addr) : O → Prop
  | .ro xs => ∃ vs, KL g.K a vs ∧ Reps g ρ H xs vs
  | _ => False
theorem KP.mono {a : Addr} {o : O} (h : KP g ρ H a o) (e : ρ <+: ρ') (t : TLe g H H') : KP g ρ' H' a o := by
  cases o with
  | ro xs => obtain ⟨vs, k, r⟩ := h; exact ⟨vs, k, r.mono e t⟩
  | _ => exact h
theorem KP.ob {a : Addr} {o : O} (h : KP g ρ H a o) : ObjR g ρ H a o := by
  cases o with
  | ro xs => obtain ⟨vs, k, r⟩ := h; exact ⟨vs, .inr k, r⟩
  | _ => exact h.elim
theorem ObjR.trk {a : Addr} {o : O} (h : ObjR g ρ H a o) : (∃ u, H a = some u) ∨ KP g ρ H a o := by
  cases o with
  | lst xs => obtain ⟨vs, e, _⟩ := h; exact .inl ⟨_, e⟩
  | ro xs =>
    obtain ⟨vs, (e | ⟨o, e⟩) | e, r⟩ := h
    · exact .inl ⟨_, e⟩
    · exact .inl ⟨_, e⟩
    · exact .inr ⟨vs, e, r⟩
  | hole => obtain ⟨vs, e⟩ := h; exact .inl ⟨_, e⟩
  | ins c fs => obtain ⟨dx, vs, e, _⟩ := h; exact .inl ⟨_, e⟩
  | dic kvs => obtain ⟨vs, e, _⟩ := h; exact .inl ⟨_, e⟩
  | dro kvs =>
    obtain ⟨vs, e | ⟨o, e⟩, _⟩ := h
    · exact .inl ⟨_, e⟩
    · exact .inl ⟨_, e⟩
  | dkn kvs => obtain ⟨o, es, ep, xs, e, _⟩ := h; exact .inl ⟨_, e⟩
theorem ObjR.mono {a : Addr} {o : O} (h : ObjR g ρ H a o) (e : ρ <+: ρ') (t : TLe g H H') (k : H' a = H a) : ObjR g ρ' H' a o := by
  cases o with
  | lst xs => obtain ⟨vs, q, r⟩ := h; exact ⟨vs, k.trans q, r.mono e t⟩
  | ro xs =>
    obtain ⟨vs, q, r⟩ := h
    refine ⟨vs, ?_, r.mono e t⟩
    unfold SqL Rd at q ⊢
    rw [k]
    exact q
  | hole => obtain ⟨vs, q⟩ := h; exact ⟨vs, k.trans q⟩
  | ins c fs => obtain ⟨dx, vs, q, r⟩ := h; exact ⟨dx, vs, k.trans q, r.mono e t⟩
  | dic kvs => obtain ⟨vs, q, r⟩ := h; exact ⟨vs, k.trans q, r.mono e t⟩
  | dro kvs =>
    obtain ⟨vs, q, r⟩ := h
    refine ⟨vs, ?_, r.mono e t⟩
    unfold Rd at q ⊢
    rw [k]
    exact q
  | dkn kvs => obtain ⟨o, es, ep, xs, q, h1, h2, h3, h4, h5, r⟩ := h; exact ⟨o, es, ep, xs, k.trans q, h1, h2, h3, h4, h5, r.mono e t⟩
/-- the store is that of the heap -/
structure SR (g : G) (ρ : List Addr) (st : S) (H : Hp) : Prop where
  len : ρ.length = st.length
  nd : ∀ (i j : Nat) (a : Addr) (oi oj : O), i ≠ j → ρ[i]? = some a → ρ[j]? = some a → st[i]? = some oi → st[j]? = some oj → KP g ρ H a oi ∨ KP g ρ H a oj
  ob : ∀ (n : Nat) (o : O) (a : Addr), st[n]? = some o → ρ[n]? = some a → ObjR g ρ H a o
theorem SR.at_ {st : S} (h : SR g ρ st H) {n : Nat} {o : O} (e : st[n]? = some o) : ∃ a, ρ[n]? = some a ∧ ObjR g ρ H a o := by
  have hn : n < st.length := (List.getElem?_eq_some_iff.mp e).1
  have hn' : n < ρ.length := by rw [h.len]; exact hn
  exact ⟨ρ[n], List.getElem?_eq_getElem hn', h.ob n o _ e (List.getElem?_eq_getElem hn')⟩
theorem TLe.of_same (h : ∀ b o, H b = some o → H' b = some o) : TLe g H H' := by
  refine ⟨?_, fun b o u q => h _ _ q, fun b u q => h _ _ q⟩
  intro a vs q
  rcases q with (q | ⟨o, q⟩) | q
  · exact .inl (.inl (h _ _ q))
  · exact .inl (.inr ⟨o, h _ _ q⟩)
  · exact .inr q
theorem TLe.new {p : Addr} {u : HO} (hp : H p = none) : TLe g H (upd H p u) := TLe.of_same fun b o e => by rw [upd_ne (ne_of_none e hp)]; exact e
theorem TLe.put {p : Addr} {u0 u : HO} (hp : H p = some u0) (h1 : ∀ vs, u0 ≠ .tup vs) (h2 : ∀ o vs, u0 ≠ .frz o vs) (h3 : ∀ fs, u0 ≠ .xd fs := by intro _ z; cases z) : TLe g H (upd H p u) := by
  refine ⟨?_, fun b o u q => ?_, fun b u q => ?_⟩
  rotate_left
  · by_cases e : b = p
    · subst e
      rw [hp] at q
      exact (h2 o u (Option.some.inj q)).elim
    · rw [upd_ne e]
      exact q
  · by_cases e : b = p
    · subst e
      rw [hp] at q
      exact (h3 u (Option.some.inj q)).elim
    · rw [upd_ne e]
      exact q
  intro a vs q
  have ne : ∀ w, H a = some w → w ≠ u0 → a ≠ p := fun w e d z => by
    subst z
    rw [hp] at e
    exact d (Option.some.inj e).symm
  rcases q with (q | ⟨o, q⟩) | q
  · exact .inl (.inl (by rw [upd_ne (ne _ q (h1 vs).symm)]; exact q))
  · exact .inl (.inr ⟨o, by rw [upd_ne (ne _ q (h2 o _).symm)]; exact q⟩)
  · exact .inr q
theorem SR.same {st : S} (h : SR g ρ st H) (k : ∀ b o, H b = some o → H' b = some o) : SR g ρ st H' := by
  have tl : TLe g H H' := TLe.of_same k
  refine ⟨h.len, fun i j a oi oj ne r1 r2 s1 s2 => (h.nd i j a oi oj ne r1 r2 s1 s2).imp (fun z => z.mono (List.prefix_refl _) tl) (fun z => z.mono (List.prefix_refl _) tl), fun n o a e q => ?_⟩
  have ob := h.ob n o a e q
  rcases ob.trk with ⟨u, hu⟩ | kp
  · exact ob.mono (List.prefix_refl _) tl ((k _ _ hu).trans hu.symm)
  · exact (kp.mono (List.prefix_refl _) tl).ob
theorem get_snoc {α : Type} {l : List α} {x y : α} {n : Nat} (h : (l ++ [x])[n]? = some y) : (n < l.length ∧ l[n]? = some y) ∨ (n = l.length ∧ y = x) := by
  by_cases hn : n < l.length
  · rw [List.getElem?_append_left hn] at h
    exact .inl ⟨hn, h⟩
  · have hl : n < l.length + 1 := by
      have := (List.getElem?_eq_some_iff.mp h).1
      rw [List.length_append] at this
      exact this
    have en : n = l.length := by omega
    subst en
    rw [List.getElem?_append_right (Nat.le_refl _), Nat.sub_self] at h
    cases h
    exact .inr ⟨rfl, rfl⟩
theorem SR.new {st : S} (h : SR g ρ st H) {p : Addr} {u : HO} {o : O} (hp : H p = none) (ho : ObjR g (ρ ++ [p]) (upd H p u) p o) : SR g (ρ ++ [p]) (st ++ [o]) (upd H p u) := by
  have tl : TLe g H (upd H p u) := TLe.new hp
  have pre : ρ <+: ρ ++ [p] := List.prefix_append _ _
  have kp : ∀ (n : Nat) (o' : O), st[n]? = some o' → ρ[n]? = some p → KP g ρ H p o' := fun n o' e q => by
    rcases (h.ob n o' p e q).trk with ⟨u, hu⟩ | z
    · rw [hp] at hu
      cases hu
    · exact z
  refine ⟨by rw [List.length_append, List.length_append, h.len]; rfl, fun i j a oi oj ne r1 r2 s1 s2 => ?_, fun n o' a e q => ?_⟩
  · have hl := h.len
    rcases get_snoc r1 with ⟨l1, q1⟩ | ⟨l1, q1⟩ <;> rcases get_snoc r2 with ⟨l2, q2⟩ | ⟨l2, q2⟩ <;> rcases get_snoc s1 with ⟨m1, t1⟩ | ⟨m1, t1⟩ <;> rcases get_snoc s2 with ⟨m2, t2⟩ | ⟨m2, t2⟩ <;> clear r1 r2 s1 s2 <;> first
      | (exact (h.nd i j a oi oj ne q1 q2 t1 t2).imp (fun z => z.mono pre tl) (fun z => z.mono pre tl))
      | omega
      | (subst q2; exact .inl ((kp i oi t1 q1).mono pre tl))
      | (subst q1; exact .inr ((kp j oj t2 q2).mono pre tl))
  · have hl := h.len
    rcases get_snoc e with ⟨l1, x1⟩ | ⟨l1, x1⟩ <;> rcases get_snoc q with ⟨l2, x2⟩ | ⟨l2, x2⟩ <;> clear e q
    · by_cases ne : a = p
      · subst ne
        exact ((kp n o' x1 x2).mono pre tl).ob
      · exact (h.ob n o' a x1 x2).mono pre tl (upd_ne ne)
    · omega
    · omega
    · subst x1 x2
      exact ho
theorem SR.put {st : S} (h : SR g ρ st H) {n : Nat} {a : Addr} {u0 u : HO} {o o0 : O} (hn : ρ[n]? = some a) (h0 : st[n]? = some o0) (hro : ∀ xs, o0 ≠ .ro xs) (hp : H a = some u0) (h1 : ∀ vs, u0 ≠ .tup vs) (h2 : ∀ o vs, u0 ≠ .frz o vs) (ho : ObjR g ρ (upd H a u) a o) (h3 : ∀ fs, u0 ≠ .xd fs := by intro _ z; cases z) : SR g ρ (st.set n o) (upd H a u) := by
  have tl : TLe g H (upd H a u) := TLe.put hp h1 h2 h3
  have nk : ¬ KP g ρ H a o0 := fun z => by
    cases o0 with
    | ro xs => exact hro xs rfl
    | _ => exact z
  have hl : n < st.length := (List.getElem?_eq_some_iff.mp h0).1
  have kp : ∀ (m : Nat) (o' : O), n ≠ m → st[m]? = some o' → ρ[m]? = some a → KP g ρ H a o' := fun m o' ne e q => (h.nd n m a o0 o' ne hn q h0 e).resolve_left nk
  refine ⟨by rw [List.length_set]; exact h.len, fun i j b oi oj ne r1 r2 s1 s2 => ?_, fun m o' b e q => ?_⟩
  · by_cases hi : n = i
    · subst hi
      rw [hn] at r1
      cases r1
      rw [List.getElem?_set_ne ne] at s2
      exact .inr ((kp j oj ne s2 r2).mono (List.prefix_refl _) tl)
    · rw [List.getElem?_set_ne hi] at s1
      by_cases hj : n = j
      · subst hj
        rw [hn] at r2
        cases r2
        exact .inl ((kp i oi hi s1 r1).mono (List.prefix_refl _) tl)
      · rw [List.getElem?_set_ne hj] at s2
        exact (h.nd i j b oi oj ne r1 r2 s1 s2).imp (fun z => z.mono (List.prefix_refl _) tl) (fun z => z.mono (List.prefix_refl _) tl)
  · by_cases hm : n = m
    · subst hm
      rw [List.getElem?_set_self hl] at e
      rw [hn] at q
      cases e
      cases q
      exact ho
    · rw [List.getElem?_set_ne hm] at e
      by_cases ne : b = a
      · subst ne
        exact ((kp m o' hm e q).mono (List.prefix_refl _) tl).ob
      · exact (h.ob m o' b e q).mono (List.prefix_refl _) tl (upd_ne ne)

def getL (s : S) (n : Nat) : Option (List D) := match s[n]? with
  | some (.lst xs) => some xs
  | some (.ro xs) => some xs
  | _ => none
def getW (s : S) (n : Nat) : Option (List D) := match s[n]? with
  | some (.lst xs) => some xs
  | _ => none
def seqOf (d : D) (s : S) : Option (List D) := match d with
  | .tup xs => some xs
  | .loc n => getL s n
  | _ => none
theorem SR.getL {st : S} (h : SR g ρ st H) {n : Nat} {xs : List D} (e : getL st n = some xs) : ∃ a vs, ρ[n]? = some a ∧ SqL g.K H a vs ∧ Reps g ρ H xs vs := by
  unfold Z.getL at e
  split at e
  · rename_i ys q
    cases e
    obtain ⟨a, r, vs, hv, rs⟩ := h.at_ q
    exact ⟨a, vs, r, .inl (.inl hv), rs⟩
  · rename_i ys q
    cases e
    obtain ⟨a, r, vs, hv, rs⟩ := h.at_ q
    exact ⟨a, vs, r, hv, rs⟩
  · cases e
theorem getW_eq {s : S} {n : Nat} {xs : List D} (e : getW s n = some xs) : s[n]? = some (.lst xs) := by
  unfold getW at e
  split at e
  · cases e
    assumption
  · cases e
theorem SR.getW {st : S} (h : SR g ρ st H) {n : Nat} {xs : List D} (e : getW st n = some xs) : ∃ a vs, ρ[n]? = some a ∧ H a = some (.lst vs) ∧ Reps g ρ H xs vs := by
  unfold Z.getW at e
  split at e
  · rename_i ys q
    cases e
    obtain ⟨a, r, vs, hv, rs⟩ := h.at_ q
    exact ⟨a, vs, r, hv, rs⟩
  · cases e
theorem SR.seq {st : S} (h : SR g ρ st H) {d : D} {v : V} {xs : List D} (e : seqOf d st = some xs) (r : Rep g ρ H d v) : ∃ a vs, v = .ref a ∧ (SqL g.K H a vs ∨ SqT g.K H a vs) ∧ Reps g ρ H xs vs := by
  unfold seqOf at e
  split at e
  · cases e
    obtain ⟨a, vs, e1, e2, e3⟩ := r.tup
    exact ⟨a, vs, e1, .inr e2, e3⟩
  · obtain ⟨a, vs, e1, e2, e3⟩ := h.getL e
    obtain ⟨b, q1, q2⟩ := r.loc
    rw [e1] at q1
    cases q1
    exact ⟨a, vs, q2, .inl e2, e3⟩
  · cases e

/-! ### what is wanted of an outcome -/
variable {α β α' β' : Type}
/-- what an exception's own fields are: none where its class has no __init__ -/
def RepX (g : G) (ρ : List Addr) (H : Hp) (fs : List (Str × D)) : Option Addr → Prop
  | none => fs = []
  | some dx => fs ≠ [] ∧ ∃ vs, H dx = some (.xd vs) ∧ RepF g ρ H fs vs
def PoE (g : G) (ρ : List Addr) (H : Hp) (E : XK) (rel : List Addr → Hp → α → β → Prop) (Q : β → Hp → Prop) : R α → Prop
  | .ok a st => ∀ ρ' H' b, ρ <+: ρ' → TLe g H H' → SR g ρ' st H' → rel ρ' H' a b → Q b H'
  | .exc c fs st => ∀ ρ' H' d, ρ <+: ρ' → TLe g H H' → SR g ρ' st H' → RepX g ρ' H' fs d → E (.ref (g.cad c)) d H'
  | .bad => False
section
variable {E : XK} {rel : List Addr → Hp → α → β → Prop} {rel' : List Addr → Hp → α' → β' → Prop} {Q : β → Hp → Prop} {Q' : β' → Hp → Prop}
theorem PoE.mono {r : R α} (p : PoE g ρ H E rel Q r) (e : ρ <+: ρ') (t : TLe g H H') : PoE g ρ' H' E rel Q r := by
  cases r with
  | ok a st => exact fun ρ2 H2 b e2 t2 s r => p ρ2 H2 b (e.trans e2) (t.trans t2) s r
  | exc c fs st => exact fun ρ2 H2 d e2 t2 s r => p ρ2 H2 d (e.trans e2) (t.trans t2) s r
  | bad => exact p
theorem PoE.bind {r : R α'} {f : α' → S → R α} (p : PoE g ρ H E rel Q (r.bind f))
    (k : ∀ ρ' H' a b st, ρ <+: ρ' → TLe g H H' → SR g ρ' st H' → rel' ρ' H' a b → PoE g ρ' H' E rel Q (f a st) → Q' b H') : PoE g ρ H E rel' Q' r := by
  cases r with
  | ok a st => exact fun ρ' H' b e t s r => k ρ' H' a b st e t s r (PoE.mono p e t)
  | exc c fs st => exact p
  | bad => exact p
theorem PoE.imp {r : R α} {Q1 : β → Hp → Prop} (p : PoE g ρ H E rel Q r) (k : ∀ b H', TLe g H H' → Q b H' → Q1 b H') : PoE g ρ H E rel Q1 r := by
  cases r with
  | ok a st => exact fun ρ' H' b e t s r => k _ _ t (p ρ' H' b e t s r)
  | exc c fs st => exact p
  | bad => exact p
theorem PoE.here {a : α} {st : S} {b : β} (p : PoE g ρ H E rel Q (.ok a st)) (s : SR g ρ st H) (r : rel ρ H a b) : Q b H := p ρ H b (List.prefix_refl _) TLe.refl s r
/-- a new object -/
theorem PoE.new {a : α} {st : S} {b : β} {p : Addr} {u : HO} (q : PoE g ρ H E rel Q (.ok a st)) (hp : H p = none) (s : SR g (ρ ++ [p]) st (upd H p u)) (r : rel (ρ ++ [p]) (upd H p u) a b) : Q b (upd H p u) :=
  q _ _ b (List.prefix_append _ _) (TLe.new hp) s r
end
end
/-- the slots -/
def Slo (g : G) (ρ : List Addr) (H : Hp) (es : Ev) (σ : L2.St) : Prop := es.length = σ.length ∧ ∀ (i : Nat) (d : D), es[i]? = some (some d) → ∃ v, σ[i]? = some (some v) ∧ Rep g ρ H d v
section
variable {g : G} {ρ ρ' : List Addr} {H H' : Hp} {es : Ev} {σ : L2.St}
theorem Slo.mono (h : Slo g ρ H es σ) (e : ρ <+: ρ') (t : TLe g H H') : Slo g ρ' H' es σ := ⟨h.1, fun i d q => by
  obtain ⟨v, q1, q2⟩ := h.2 i d q
  exact ⟨v, q1, q2.mono e t⟩⟩
theorem Slo.set (h : Slo g ρ H es σ) {d : D} {v : V} (i : Nat) (r : Rep g ρ H d v) : Slo g ρ H (es.set i (some d)) (σ.set i (some v)) := by
  refine ⟨by rw [List.length_set, List.length_set]; exact h.1, fun j d' q => ?_⟩
  by_cases hj : i = j
  · subst hj
    have l : i < es.length := by
      have := (List.getElem?_eq_some_iff.mp q).1
      rw [List.length_set] at this
      exact this
    rw [List.getElem?_set_self l] at q
    cases q
    exact ⟨v, List.getElem?_set_self (h.1 ▸ l), r⟩
  · rw [List.getElem?_set_ne hj] at q
    rw [List.getElem?_set_ne hj]
    exact h.2 j d' q
end
/-- readings by an outcome -/
def tG {α β : Type} (g : G) (E : XK) (rel : List Addr → Hp → α → β → Prop) (m : M α) : L2.St → Hp → (β → Hp → Prop) → Prop := fun σ H Q =>
  ∃ ρ es st, SR g ρ st H ∧ Slo g ρ H es σ ∧ PoE g ρ H E rel Q (m es st)
def tM (g : G) (E : XK) (m : M D) : TE := tG g E (Rep g) m
def tT (g : G) (E : XK) (m : M Bool) : TT := tG g E (fun _ _ a b => a = b) m
def tA (g : G) (E : XK) (m : M (List D)) : TA := tG g E (Reps g) m
theorem PE.imp {X : Cx} {e : Expr} {t t' : TE} (h : PE X e t) (k : ∀ σ H Q, t' σ H Q → t σ H Q) : PE X e t' := ⟨fun pins s σ H Q I q => h.run pins s σ H Q I (k σ H Q q)⟩
theorem PT.imp {X : Cx} {e : Expr} {t t' : TT} (h : PT X e t) (k : ∀ σ H Q, t' σ H Q → t σ H Q) : PT X e t' := ⟨fun pins s σ H Q I q => h.run pins s σ H Q I (k σ H Q q)⟩
theorem PA.imp {X : Cx} {e : List Expr} {t t' : TA} (h : PA X e t) (k : ∀ σ H Q, t' σ H Q → t σ H Q) : PA X e t' := ⟨fun pos pins s σ H Q I q => h.run pos pins s σ H Q I (k σ H Q q)⟩
theorem PW.imp {X : Cx} {e : Expr} {t t' : TT} (h : PW X e t) (k : ∀ σ H Q, t' σ H Q → t σ H Q) : PW X e t' := ⟨fun w pins s σ H Q I q => h.run w pins s σ H Q I (k σ H Q q)⟩
theorem PS.imp {X : Cx} {e : Stmt} {t t' : TS} (h : PS X e t) (k : ∀ D σ H, t' D σ H → t D σ H) : PS X e t' := ⟨fun pins s σ H D I q => h.run pins s σ H D I (k D σ H q)⟩
theorem PSs.imp {X : Cx} {e : List Stmt} {t t' : TS} (h : PSs X e t) (k : ∀ D σ H, t' D σ H → t D σ H) : PSs X e t' := ⟨fun pins s σ H D I q => h.run pins s σ H D I (k D σ H q)⟩
end Z
end
section
set_option Elab.async false
set_option linter.all false
set_option maxRecDepth 100000
set_option maxHeartbeats 4000000
/-! Z2: expressions. -/
namespace Z
open PySem PySem.Spec PyProof.Rows L2
theorem sz {n : Nat} (h : n ≤ 1000000) : n ≤ sizeLine := by rw [sizeLine_eq]; omega
theorem szS {n : Nat} (h : n ≤ 16000000) : n ≤ sizeLine := by rw [sizeLine_eq]; omega
theorem sz1 {n : Nat} (h : n < 1000000) : n < sizeLine := by rw [sizeLine_eq]; omega
abbrev gX (X : Cx) (cad : Nat → Addr) : G := ⟨X.K, cad⟩

/-! ### names, constants -/
def cVar (i : Nat) : M D := fun es st => match es[i]? with
  | some (some d) => .ok d st
  | _ => .bad
def cC (d : D) : M D := fun _ st => .ok d st
section
variable {X : Cx} {cad : Nat → Addr} {E : XK} {x : Str} {pos p : Pos}
theorem e_var (i : Nat) (hN : X.N[i]? = some x := by rfl) (hv : Vis X.env.scope x := by first | exact Or.inl rfl | exact Or.inr (Or.inl rfl) | exact Or.inr (Or.inr rfl)) (hd : (x == ("__debug__" : Str)) = false := by decide)
    (hcd : (x == ("__classdict__" : Str)) = false := by decide) : PE X (.Name x pos) (tM (gX X cad) E (cVar i)) := by
  refine PE.imp (pe_var hN hv hd hcd) fun σ H Q h => ?_
  obtain ⟨ρ, es, st, sr, sl, p⟩ := h
  unfold cVar at p
  split at p
  · rename_i d e
    obtain ⟨v, q1, q2⟩ := sl.2 i d e
    exact ⟨v, q1, p.here sr q2⟩
  · exact p.elim
theorem tC_imp {d : D} {v : V} (hd : ∀ ρ H, Rep (gX X cad) ρ H d v) : ∀ σ H Q, tM (gX X cad) E (cC d) σ H Q → tC v σ H Q := by
  intro σ H Q h
  obtain ⟨ρ, es, st, sr, sl, p⟩ := h
  exact PoE.here p sr (hd ρ H)
theorem e_int {i j} : PE X (.Constant (.int i) j pos) (tM (gX X cad) E (cC (.int i))) := PE.imp pe_int (tC_imp fun _ _ => rep_int)
theorem e_bl {b j} : PE X (.Constant (.bool b) j pos) (tM (gX X cad) E (cC (.bl b))) := PE.imp pe_bl (tC_imp fun _ _ => rep_bl)
theorem e_str {s j} : PE X (.Constant (.str s) j pos) (tM (gX X cad) E (cC (.str s))) := PE.imp pe_str (tC_imp fun _ _ => rep_str)
/-- a constant of a module -/
theorem e_glob {d : D} {v : V} {u : Value} (hg : Gl X x) (hm : X.mg x = some u) (r : RelV v u) (hd : ∀ ρ H, Rep (gX X cad) ρ H d v) (hdb : (x == ("__debug__" : Str)) = false := by decide) : PE X (.Name x pos) (tM (gX X cad) E (cC d)) :=
  PE.imp (pe_glob hg hm r hdb) (tC_imp hd)
end

/-! ### operators by values -/
def c2 {α : Type} (ma mb : M D) (f : D → D → S → R α) : M α := fun es st => (ma es st).bind fun x s => (mb es s).bind fun y s => f x y s
def c1 {α : Type} (ma : M D) (f : D → S → R α) : M α := fun es st => (ma es st).bind fun x s => f x s
def OpM (X : Cx) (cad : Nat → Addr) (E : XK) (f : Value → Value → Sem Value) (b : D → D → S → R D) : Prop :=
  OpR X f (fun x y H Q => ∃ ρ st dx dy, SR (gX X cad) ρ st H ∧ Rep (gX X cad) ρ H dx x ∧ Rep (gX X cad) ρ H dy y ∧ PoE (gX X cad) ρ H E (Rep (gX X cad)) Q (b dx dy st))
def OpK (X : Cx) (cad : Nat → Addr) (E : XK) (f : Value → Value → Sem Value) (b : D → D → S → R Bool) : Prop :=
  OpR X f (fun x y H Q => ∃ ρ st dx dy, SR (gX X cad) ρ st H ∧ Rep (gX X cad) ρ H dx x ∧ Rep (gX X cad) ρ H dy y ∧ PoE (gX X cad) ρ H E (fun _ _ (a : Bool) (z : V) => z = .bl a) Q (b dx dy st))
section
variable {X : Cx} {cad : Nat → Addr} {E : XK} {a b c : Expr} {ma mb mc : M D} {pos : Pos}
theorem e_bin {op : Operator} {f : D → D → S → R D} (ho : OpM X cad E (binaryOp op) f) (ha : PE X a (tM (gX X cad) E ma)) (hb : PE X b (tM (gX X cad) E mb)) : PE X (.BinOp a op b pos) (tM (gX X cad) E (c2 ma mb f)) := by
  refine PE.imp (pe_op ho ha hb) fun σ H Q h => ?_
  obtain ⟨ρ, es, st, sr, sl, p⟩ := h
  refine ⟨ρ, es, st, sr, sl, p.bind fun ρ1 H1 x v1 st1 e1 t1 sr1 rx p1 => ⟨ρ1, es, st1, sr1, sl.mono e1 t1, p1.bind fun ρ2 H2 y v2 st2 e2 t2 sr2 ry p2 => ?_⟩⟩
  exact ⟨ρ2, st2, x, y, sr2, rx.mono e2 t2, ry, p2⟩
theorem e_cmp {op : CmpOp} {f : D → D → S → R Bool} (ho : OpK X cad E (compareOp op) f) (ha : PE X a (tM (gX X cad) E ma)) (hb : PE X b (tM (gX X cad) E mb)) (hm : behindInMarks op b = false := by first | exact nomark _ | rfl) :
    PE X (.Compare a [op] [b] pos) (tM (gX X cad) E (c2 ma mb fun x y s => (f x y s).bind fun k s => .ok (.bl k) s)) := by
  refine PE.imp (pe_cmpR ho ha hb hm) fun σ H Q h => ?_
  obtain ⟨ρ, es, st, sr, sl, p⟩ := h
  refine ⟨ρ, es, st, sr, sl, p.bind fun ρ1 H1 x v1 st1 e1 t1 sr1 rx p1 => ⟨ρ1, es, st1, sr1, sl.mono e1 t1, p1.bind fun ρ2 H2 y v2 st2 e2 t2 sr2 ry p2 => ?_⟩⟩
  refine ⟨ρ2, st2, x, y, sr2, rx.mono e2 t2, ry, p2.bind fun ρ3 H3 k z st3 e3 t3 sr3 rz p3 => ?_⟩
  subst rz
  exact p3.here sr3 rep_bl
theorem t_cmp {op : CmpOp} {f : D → D → S → R Bool} (ho : OpK X cad E (compareOp op) f) (ha : PE X a (tM (gX X cad) E ma)) (hb : PE X b (tM (gX X cad) E mb)) (hm : behindInMarks op b = false := by first | exact nomark _ | rfl) :
    PT X (.Compare a [op] [b] pos) (tT (gX X cad) E (c2 ma mb f)) := by
  refine PT.imp (pt_cmpR ho ha hb hm) fun σ H Q h => ?_
  obtain ⟨ρ, es, st, sr, sl, p⟩ := h
  refine ⟨ρ, es, st, sr, sl, p.bind fun ρ1 H1 x v1 st1 e1 t1 sr1 rx p1 => ⟨ρ1, es, st1, sr1, sl.mono e1 t1, p1.bind fun ρ2 H2 y v2 st2 e2 t2 sr2 ry p2 => ?_⟩⟩
  refine ⟨ρ2, st2, x, y, sr2, rx.mono e2 t2, ry, ?_⟩
  cases hf : f x y st2 with
  | ok k s3 =>
    rw [hf] at p2
    intro ρ' H' z e t s r
    exact ⟨k, r, p2 ρ' H' k e t s rfl⟩
  | exc c fs s3 => rw [hf] at p2; exact p2
  | bad => rw [hf] at p2; exact p2
theorem e_un {op : UnaryOp} {f : D → S → R D} (ho : UnR X (unaryOp op) (fun x H Q => ∃ ρ st dx, SR (gX X cad) ρ st H ∧ Rep (gX X cad) ρ H dx x ∧ PoE (gX X cad) ρ H E (Rep (gX X cad)) Q (f dx st))) (ha : PE X a (tM (gX X cad) E ma)) :
    PE X (.UnaryOp op a pos) (tM (gX X cad) E (c1 ma f)) := by
  refine PE.imp (pe_un ho ha) fun σ H Q h => ?_
  obtain ⟨ρ, es, st, sr, sl, p⟩ := h
  exact ⟨ρ, es, st, sr, sl, p.bind fun ρ1 H1 x v1 st1 e1 t1 sr1 rx p1 => ⟨ρ1, st1, x, sr1, rx, p1⟩⟩
end

/-! ### the arithmetic -/
/-- a new object -/
def nw (o : O) (s : S) : R D := .ok (.loc s.length) (s ++ [o])
def bAdd : D → D → S → R D
  | .int i, .int j, s => .ok (.int (i + j)) s
  | .str i, .str j, s => if i.length + j.length ≤ 16000000 then .ok (.str (i ++ j)) s else .bad
  | .tup xs, .tup ys, s => if xs.length + ys.length ≤ 1000000 then .ok (.tup (xs ++ ys)) s else .bad
  | .loc n, .loc m, s => match getW s n, getW s m with
    | some xs, some ys => if xs.length + ys.length ≤ 1000000 then nw (.lst (xs ++ ys)) s else .bad
    | _, _ => .bad
  | _, _, _ => .bad
def bSub : D → D → S → R D
  | .int i, .int j, s => .ok (.int (i - j)) s
  | _, _, _ => .bad
def bMul : D → D → S → R D
  | .int i, .int j, s => if ((-(2 ^ 64) < i ∧ i < 2 ^ 64) ∨ (-(2 ^ 64) < j ∧ j < 2 ^ 64)) ∨ i.natAbs.log2 + j.natAbs.log2 < 1000000 then .ok (.int (i * j)) s else .bad
  | .tup xs, .int k, s => if k = 1 then .ok (.tup xs) s else if xs ≠ [] ∧ 2 ≤ k ∧ k ≤ 1000 ∧ xs.length ≤ 1000 then .ok (.tup (List.replicate k.toNat xs).flatten) s else .bad
  | .loc n, .int k, s => match getW s n with
    | some xs => if -(2 ^ 63) ≤ k ∧ k < 2 ^ 63 ∧ xs.length * k.toNat ≤ 1000000 then nw (.lst (List.replicate k.toNat xs).flatten) s else .bad
    | none => .bad
  | _, _, _ => .bad
def bDiv : D → D → S → R D
  | .int i, .int j, s => if (j ≠ 0 ∧ j.natAbs < 1073741824) ∨ (0 < j ∧ j.natAbs.log2 < 9000) then .ok (.int (i.fdiv j)) s else .bad
  | _, _, _ => .bad
def bMod : D → D → S → R D
  | .int i, .int j, s => if j ≠ 0 then .ok (.int (i.fmod j)) s else .bad
  | _, _, _ => .bad
def bPow : D → D → S → R D
  | .int i, .int j, s => if 0 ≤ j ∧ j ≤ 1000000 ∧ i.natAbs < 2 ^ 64 then .ok (.int (i ^ j.toNat)) s else .bad
  | _, _, _ => .bad
section
variable {X : Cx} {cad : Nat → Addr} {E : XK}
theorem o_sub : OpM X cad E (binaryOp .Sub) bSub := by
  intro pins s σ H x y v u Q I rx ry h
  obtain ⟨ρ, st, dx, dy, sr, r1, r2, p⟩ := h
  unfold bSub at p
  split at p
  · cases r1.int
    cases r2.int
    exact op_sub pins s σ H _ _ v u Q I rx ry ⟨_, _, rfl, rfl, p.here sr rep_int⟩
  · exact p.elim
theorem o_mod : OpM X cad E (binaryOp .Mod) bMod := by
  intro pins s σ H x y v u Q I rx ry h
  obtain ⟨ρ, st, dx, dy, sr, r1, r2, p⟩ := h
  unfold bMod at p
  split at p
  · split at p
    · rename_i hj
      cases r1.int
      cases r2.int
      exact op_modN pins s σ H _ _ v u Q I rx ry ⟨_, _, rfl, rfl, hj, p.here sr rep_int⟩
    · exact p.elim
  · exact p.elim
theorem o_pow : OpM X cad E (binaryOp .Pow) bPow := by
  intro pins s σ H x y v u Q I rx ry h
  obtain ⟨ρ, st, dx, dy, sr, r1, r2, p⟩ := h
  unfold bPow at p
  split at p
  · split at p
    · rename_i hj
      cases r1.int
      cases r2.int
      exact op_pow pins s σ H _ _ v u Q I rx ry ⟨_, _, rfl, rfl, hj, p.here sr rep_int⟩
    · exact p.elim
  · exact p.elim
theorem lst_new {ρ : List Addr} {st : S} {H : Hp} {Q : VK} {zs : List D} {ws : List V} (sr : SR (gX X cad) ρ st H) (rz : Reps (gX X cad) ρ H zs ws) (p : PoE (gX X cad) ρ H E (Rep (gX X cad)) Q (nw (.lst zs) st)) :
    ∀ q, H q = none → Q (.ref q) (upd H q (.lst ws)) := fun q hq => by
  have t := TLe.new (g := gX X cad) (u := HO.lst ws) hq
  refine PoE.new p hq (sr.new hq ⟨ws, upd_same, rz.mono (List.prefix_append _ _) t⟩) (rep_loc ?_)
  rw [← sr.len, List.getElem?_append_right (Nat.le_refl _), Nat.sub_self]
  rfl
theorem tup_new {ρ : List Addr} {st : S} {H : Hp} {Q : VK} {zs : List D} {ws : List V} (sr : SR (gX X cad) ρ st H) (rz : Reps (gX X cad) ρ H zs ws) (p : PoE (gX X cad) ρ H E (Rep (gX X cad)) Q (.ok (.tup zs) st)) :
    ∀ q, H q = none → Q (.ref q) (upd H q (.tup ws)) := fun q hq => by
  have t := TLe.new (g := gX X cad) (u := HO.tup ws) hq
  exact p ρ _ _ (List.prefix_refl _) t (sr.same fun b o e => by rw [upd_ne (ne_of_none e hq)]; exact e) (rep_tup (.inl (.inl upd_same)) (rz.mono (List.prefix_refl _) t))
theorem o_add : OpM X cad E (binaryOp .Add) bAdd := by
  intro pins s σ H x y v u Q I rx ry h
  obtain ⟨ρ, st, dx, dy, sr, r1, r2, p⟩ := h
  unfold bAdd at p
  split at p
  · cases r1.int
    cases r2.int
    exact op_add pins s σ H _ _ v u Q I rx ry ⟨_, _, rfl, rfl, p.here sr rep_int⟩
  · split at p
    · rename_i hz
      cases r1.str
      cases r2.str
      exact op_add_str pins s σ H _ _ v u Q I rx ry ⟨_, _, rfl, rfl, szS hz, p.here sr rep_str⟩
    · exact p.elim
  · split at p
    · rename_i hz
      obtain ⟨a, vs, rfl, h1, k1⟩ := r1.tup
      obtain ⟨b, ws, rfl, h2, k2⟩ := r2.tup
      have ap := k1.append k2
      refine op_catA pins s σ H _ _ v u Q I rx ry ⟨a, b, vs, ws, rfl, rfl, h1, h2, by rw [k1.length, k2.length]; exact sz hz, fun e => ?_, fun _ e => ?_, fun _ _ => tup_new sr ap p⟩
      · subst e
        exact p.here sr (rep_tup h2 ap)
      · subst e
        rw [List.append_nil] at ap
        exact p.here sr (rep_tup h1 ap)
    · exact p.elim
  · split at p
    · rename_i xs ys e1 e2
      split at p
      · rename_i hz
        obtain ⟨a, q1, rfl⟩ := r1.loc
        obtain ⟨b, q2, rfl⟩ := r2.loc
        obtain ⟨a', vs, w1, h1, k1⟩ := sr.getW e1
        obtain ⟨b', ws, w2, h2, k2⟩ := sr.getW e2
        rw [q1] at w1
        rw [q2] at w2
        cases w1
        cases w2
        exact op_cat pins s σ H _ _ v u Q I rx ry ⟨a, b, vs, ws, rfl, rfl, h1, h2, by rw [k1.length, k2.length]; exact sz hz, lst_new sr (k1.append k2) p⟩
      · exact p.elim
    · exact p.elim
  · exact p.elim
theorem Reps.flat {g : G} {ρ : List Addr} {H : Hp} {xs : List D} {vs : List V} (h : Reps g ρ H xs vs) : ∀ k : Nat, Reps g ρ H (List.replicate k xs).flatten (List.replicate k vs).flatten
  | 0 => reps_nil
  | k + 1 => by
    rw [List.replicate_succ, List.replicate_succ, List.flatten_cons, List.flatten_cons]
    exact h.append (h.flat k)
theorem o_mul : OpM X cad E (binaryOp .Mult) bMul := by
  intro pins s σ H x y v u Q I rx ry h
  obtain ⟨ρ, st, dx, dy, sr, r1, r2, p⟩ := h
  unfold bMul at p
  split at p
  · split at p
    · rename_i hz
      cases r1.int
      cases r2.int
      rcases hz with hz | hz
      · exact op_mul pins s σ H _ _ v u Q I rx ry ⟨_, _, rfl, rfl, hz, p.here sr rep_int⟩
      · exact op_mulW pins s σ H _ _ v u Q I rx ry ⟨_, _, rfl, rfl, hz, p.here sr rep_int⟩
    · exact p.elim
  · split at p
    · rename_i hz
      subst hz
      obtain ⟨a, vs, rfl, h1, k1⟩ := r1.tup
      cases r2.int
      exact op_repT1 pins s σ H _ _ v u Q I rx ry ⟨a, vs, rfl, rfl, h1, p.here sr (rep_tup h1 k1)⟩
    split at p
    · rename_i hz
      obtain ⟨a, vs, rfl, h1, k1⟩ := r1.tup
      cases r2.int
      refine op_repT pins s σ H _ _ v u Q I rx ry ⟨a, _, vs, rfl, rfl, h1, fun e => hz.1 (List.eq_nil_of_length_eq_zero (by rw [← k1.length, e]; rfl)), hz.2.1, hz.2.2.1, by rw [k1.length]; exact hz.2.2.2, tup_new sr (k1.flat _) p⟩
    · exact p.elim
  · split at p
    · rename_i xs e1
      split at p
      · rename_i hz
        obtain ⟨a, q1, rfl⟩ := r1.loc
        cases r2.int
        obtain ⟨a', vs, w1, h1, k1⟩ := sr.getW e1
        rw [q1] at w1
        cases w1
        exact op_rep pins s σ H _ _ v u Q I rx ry ⟨a, _, vs, rfl, rfl, h1, hz.1, hz.2.1, by rw [k1.length]; exact sz hz.2.2, lst_new sr (k1.flat _) p⟩
      · exact p.elim
    · exact p.elim
  · exact p.elim
def uNeg : D → S → R D
  | .int i, s => .ok (.int (-i)) s
  | _, _ => .bad
theorem o_neg : UnR X (unaryOp .USub) (fun x H Q => ∃ ρ st dx, SR (gX X cad) ρ st H ∧ Rep (gX X cad) ρ H dx x ∧ PoE (gX X cad) ρ H E (Rep (gX X cad)) Q (uNeg dx st)) := by
  intro pins s σ H x v Q I rx h
  obtain ⟨ρ, st, dx, sr, r1, p⟩ := h
  unfold uNeg at p
  split at p
  · cases r1.int
    exact un_neg pins s σ H _ v Q I rx ⟨_, rfl, p.here sr rep_int⟩
  · exact p.elim
end
end Z
end
section
set_option Elab.async false
set_option linter.all false
set_option maxRecDepth 100000
set_option maxHeartbeats 4000000
/-! Z3: comparisons, tests, displays, subscripts. -/
namespace Z
open PySem PySem.Spec PyProof.Rows L2

/-! ### data for == -/
def mapO {α β : Type} (f : α → Option β) : List α → Option (List β)
  | [] => some []
  | x :: xs => match f x, mapO f xs with
    | some y, some ys => some (y :: ys)
    | _, _ => none
def toP : Nat → S → D → Option PyData
  | 0, _, _ => none
  | _ + 1, _, .non => some .none
  | _ + 1, _, .bl b => some (.bool b)
  | _ + 1, _, .int i => some (.int i)
  | _ + 1, _, .str x => some (.str x)
  | k + 1, s, .tup xs => (mapO (toP k s) xs).map .tuple
  | k + 1, s, .loc n => (getL s n).bind fun xs => (mapO (toP k s) xs).map .list
  | _ + 1, _, .ty _ => none
  | _ + 1, _, .cls _ => none
  | _ + 1, _, .adr _ _ _ _ => none
section
variable {X : Cx} {cad : Nat → Addr} {E : XK} {g : G} {ρ : List Addr} {st : S} {H : Hp}
theorem toP_all (sr : SR g ρ st H) (k : Nat) (ih : ∀ (d : D) (v : V) (q : PyData), toP k st d = some q → Rep g ρ H d v → Dp g.K H v q) : ∀ (xs : List D) (vs : List V) (qs : List PyData), mapO (toP k st) xs = some qs → Reps g ρ H xs vs → DpAll g.K H vs qs
  | [], vs, qs, e, r => by
    unfold mapO at e
    cases e
    rw [r.nil]
    exact .nil
  | x :: xs, vs, qs, e, r => by
    unfold mapO at e
    split at e
    · rename_i y ys e1 e2
      cases e
      obtain ⟨v, ws, rfl, r1, r2⟩ := r.cons
      exact .cons (ih _ _ _ e1 r1) (toP_all sr k ih xs ws _ e2 r2)
    · cases e
theorem toP_ok (sr : SR g ρ st H) : ∀ (k : Nat) (d : D) (v : V) (q : PyData), toP k st d = some q → Rep g ρ H d v → Dp g.K H v q
  | 0, d, v, q, e, r => by simp [toP] at e
  | k + 1, .non, v, q, e, r => by simp [toP] at e; subst e; rw [r.non]; exact .non
  | k + 1, .bl b, v, q, e, r => by simp [toP] at e; subst e; rw [r.bl]; exact .bl _
  | k + 1, .int i, v, q, e, r => by simp [toP] at e; subst e; rw [r.int]; exact .int _
  | k + 1, .str i, v, q, e, r => by simp [toP] at e; subst e; rw [r.str]; exact .str _
  | k + 1, .ty i, v, q, e, r => by simp [toP] at e
  | k + 1, .cls i, v, q, e, r => by simp [toP] at e
  | k + 1, .adr i _ _ _, v, q, e, r => by simp [toP] at e
  | k + 1, .tup xs, v, q, e, r => by
    simp only [toP, Option.map_eq_some_iff] at e
    obtain ⟨qs, e1, rfl⟩ := e
    obtain ⟨a, vs, rfl, h1, h2⟩ := r.tup
    exact .tup h1 (toP_all sr k (toP_ok sr k) xs vs qs e1 h2)
  | k + 1, .loc n, v, q, e, r => by
    simp only [toP, Option.bind_eq_some_iff, Option.map_eq_some_iff] at e
    obtain ⟨xs, e0, qs, e1, rfl⟩ := e
    obtain ⟨a, q1, rfl⟩ := r.loc
    obtain ⟨a', vs, w1, h1, h2⟩ := sr.getL e0
    rw [q1] at w1
    cases w1
    exact .lst h1 (toP_all sr k (toP_ok sr k) xs vs qs e1 h2)
def kEqD (x y : D) (s : S) : R Bool := match toP 40 s x, toP 40 s y with
  | some d, some e => if SeqAt.shaped d = true ∧ SeqAt.shaped e = true then .ok (PyData.eqv d e) s else .bad
  | _, _ => .bad
def kEq : D → D → S → R Bool
  | .int i, .int j, s => .ok (decide (i = j)) s
  | .str i, .str j, s => .ok (decide (i = j)) s
  | .bl i, .bl j, s => .ok (decide (i = j)) s
  | x, y, s => kEqD x y s
def rNot (r : R Bool) : R Bool := r.bind fun b s => .ok (!b) s
def kNe (x y : D) (s : S) : R Bool := rNot (kEq x y s)
def kLt : D → D → S → R Bool
  | .int i, .int j, s => .ok (decide (i < j)) s
  | .str i, .str j, s => .ok (decide (i.cps.toList < j.cps.toList)) s
  | _, _, _ => .bad
def kLe : D → D → S → R Bool
  | .int i, .int j, s => .ok (decide (i ≤ j)) s
  | _, _, _ => .bad
def kGt : D → D → S → R Bool
  | .int i, .int j, s => .ok (decide (j < i)) s
  | _, _, _ => .bad
def kGe : D → D → S → R Bool
  | .int i, .int j, s => .ok (decide (j ≤ i)) s
  | _, _, _ => .bad
def isNonD : D → Bool
  | .non => true
  | _ => false
def kIs : D → D → S → R Bool
  | x, .non, s => .ok (isNonD x) s
  | _, _, _ => .bad
def kIsNot (x y : D) (s : S) : R Bool := rNot (kIs x y s)
def flatD : D → Bool
  | .non => true
  | .bl _ => true
  | .int _ => true
  | .str _ => true
  | _ => false
def eqF : D → D → Bool
  | .non, .non => true
  | .bl a, .bl b => a == b
  | .bl a, .int b => (if a then 1 else 0) == b
  | .int a, .bl b => a == (if b then 1 else 0)
  | .int a, .int b => a == b
  | .str a, .str b => a == b
  | _, _ => false
def kIn (x y : D) (s : S) : R Bool := match seqOf y s with
  | some xs => if flatD x = true ∧ xs.all flatD = true then .ok (xs.any fun z => eqF z x) s else .bad
  | none => match x, y with
    | .str a, .str b => match a.cps.toList with
      | [c] => .ok (decide (c ∈ b.cps.toList)) s
      | _ => .bad
    | _, _ => .bad
def kNotIn (x y : D) (s : S) : R Bool := rNot (kIn x y s)
theorem flat_V {d : D} {v : V} (f : flatD d = true) (r : Rep g ρ H d v) : flatV v = true := by
  cases d with
  | non => rw [r.non]; rfl
  | bl b => rw [r.bl]; rfl
  | int b => rw [r.int]; rfl
  | str b => rw [r.str]; rfl
  | _ => exact absurd (show false = true from f) Bool.false_ne_true
theorem flats_V : ∀ {ds : List D} {vs : List V}, ds.all flatD = true → Reps g ρ H ds vs → vs.all flatV = true
  | [], _, _, r => by rw [r.nil]; rfl
  | d :: ds, _, f, r => by
    obtain ⟨v, ws, rfl, r1, r2⟩ := r.cons
    rw [List.all_cons, Bool.and_eq_true] at f
    rw [List.all_cons, flat_V f.1 r1, flats_V f.2 r2]
    rfl
theorem eqF_V {d e : D} {v w : V} (fd : flatD d = true) (fe : flatD e = true) (r : Rep g ρ H d v) (q : Rep g ρ H e w) : eqV v w = eqF d e := by
  cases d with
  | non => rw [r.non]; cases e with
    | non => rw [q.non]; rfl
    | bl b => rw [q.bl]; rfl
    | int b => rw [q.int]; rfl
    | str b => rw [q.str]; rfl
    | _ => exact absurd (show false = true from fe) Bool.false_ne_true
  | bl a => rw [r.bl]; cases e with
    | non => rw [q.non]; rfl
    | bl b => rw [q.bl]; rfl
    | int b => rw [q.int]; rfl
    | str b => rw [q.str]; rfl
    | _ => exact absurd (show false = true from fe) Bool.false_ne_true
  | int a => rw [r.int]; cases e with
    | non => rw [q.non]; rfl
    | bl b => rw [q.bl]; rfl
    | int b => rw [q.int]; rfl
    | str b => rw [q.str]; rfl
    | _ => exact absurd (show false = true from fe) Bool.false_ne_true
  | str a => rw [r.str]; cases e with
    | non => rw [q.non]; rfl
    | bl b => rw [q.bl]; rfl
    | int b => rw [q.int]; rfl
    | str b => rw [q.str]; rfl
    | _ => exact absurd (show false = true from fe) Bool.false_ne_true
  | _ => exact absurd (show false = true from fd) Bool.false_ne_true
theorem inF_V {d : D} {v : V} (fd : flatD d = true) (r : Rep g ρ H d v) : ∀ {ds : List D} {vs : List V}, ds.all flatD = true → Reps g ρ H ds vs → (vs.any fun z => eqV z v) = ds.any fun z => eqF z d
  | [], _, _, q => by rw [q.nil]; rfl
  | e :: ds, _, f, q => by
    obtain ⟨w, ws, rfl, r1, r2⟩ := q.cons
    rw [List.all_cons, Bool.and_eq_true] at f
    rw [List.any_cons, List.any_cons, eqF_V f.1 fd r1 r, inF_V fd r f.2 r2]
end
section
variable {X : Cx} {cad : Nat → Addr} {E : XK}
theorem k_eqD {pins : List (Addr × Obj)} {s : Shared} {σ : L2.St} {H : Hp} {x y : V} {v u : Value} {Q : VK} {ρ : List Addr} {st : S} {dx dy : D} (hu : X.A.units + 64 < cLine) (I : Inv X pins σ H s) (rx : RelV x v) (ry : RelV y u)
    (sr : SR (gX X cad) ρ st H) (r1 : Rep (gX X cad) ρ H dx x) (r2 : Rep (gX X cad) ρ H dy y) (p : PoE (gX X cad) ρ H E (fun _ _ (a : Bool) (z : V) => z = .bl a) Q (kEqD dx dy st)) : wpAny (model X.prog X.w) X.A (compareOp .Eq v u) (EP X pins σ Q) X.xe s := by
  unfold kEqD at p
  split at p
  · rename_i d e e1 e2
    split at p
    · rename_i hz
      exact op_eqD hu pins s σ H _ _ v u Q I rx ry ⟨d, e, toP_ok sr _ _ _ _ e1 r1, toP_ok sr _ _ _ _ e2 r2, hz.1, hz.2, p.here sr rfl⟩
    · exact p.elim
  · exact p.elim
theorem k_eq (hu : X.A.units + 64 < cLine) : OpK X cad E (compareOp .Eq) kEq := by
  intro pins s σ H x y v u Q I rx ry h
  obtain ⟨ρ, st, dx, dy, sr, r1, r2, p⟩ := h
  unfold kEq at p
  split at p
  · cases r1.int
    cases r2.int
    exact op_eq pins s σ H _ _ v u Q I rx ry ⟨rfl, p.here sr (by simp)⟩
  · cases r1.str
    cases r2.str
    exact op_eq pins s σ H _ _ v u Q I rx ry ⟨rfl, p.here sr (by simp)⟩
  · cases r1.bl
    cases r2.bl
    exact op_eq pins s σ H _ _ v u Q I rx ry ⟨rfl, p.here sr (by simp)⟩
  · exact k_eqD hu I rx ry sr r1 r2 p
theorem PoE.not {ρ : List Addr} {H : Hp} {Q : VK} {g : G} {r : R Bool} (p : PoE g ρ H E (fun _ _ (a : Bool) (z : V) => z = .bl a) Q (rNot r)) : PoE g ρ H E (fun _ _ (a : Bool) (z : V) => z = .bl a) (fun z H' => ∃ k, z = .bl k ∧ Q (.bl (!k)) H') r :=
  PoE.bind p fun ρ1 H1 a b s1 e1 t1 sr1 rb p1 => ⟨a, rb, p1.here sr1 rfl⟩
theorem k_neD {pins : List (Addr × Obj)} {s : Shared} {σ : L2.St} {H : Hp} {x y : V} {v u : Value} {Q : VK} {ρ : List Addr} {st : S} {dx dy : D} (hu : X.A.units + 64 < cLine) (I : Inv X pins σ H s) (rx : RelV x v) (ry : RelV y u)
    (sr : SR (gX X cad) ρ st H) (r1 : Rep (gX X cad) ρ H dx x) (r2 : Rep (gX X cad) ρ H dy y) (p : PoE (gX X cad) ρ H E (fun _ _ (a : Bool) (z : V) => z = .bl a) Q (rNot (kEqD dx dy st))) : wpAny (model X.prog X.w) X.A (compareOp .NotEq v u) (EP X pins σ Q) X.xe s := by
  unfold kEqD at p
  split at p
  · rename_i d e e1 e2
    split at p
    · rename_i hz
      exact op_neD hu pins s σ H _ _ v u Q I rx ry ⟨d, e, toP_ok sr _ _ _ _ e1 r1, toP_ok sr _ _ _ _ e2 r2, hz.1, hz.2, p.here sr rfl⟩
    · exact p.elim
  · exact p.elim
theorem k_ne (hu : X.A.units + 64 < cLine) : OpK X cad E (compareOp .NotEq) kNe := by
  intro pins s σ H x y v u Q I rx ry h
  obtain ⟨ρ, st, dx, dy, sr, r1, r2, p⟩ := h
  unfold kNe kEq at p
  split at p
  · cases r1.int
    cases r2.int
    exact op_ne pins s σ H _ _ v u Q I rx ry ⟨rfl, p.here sr (by simp)⟩
  · cases r1.str
    cases r2.str
    exact op_ne pins s σ H _ _ v u Q I rx ry ⟨rfl, p.here sr (by simp)⟩
  · cases r1.bl
    cases r2.bl
    exact op_ne pins s σ H _ _ v u Q I rx ry ⟨rfl, p.here sr (by simp)⟩
  · exact k_neD hu I rx ry sr r1 r2 p
theorem k_lt : OpK X cad E (compareOp .Lt) kLt := by
  intro pins s σ H x y v u Q I rx ry h
  obtain ⟨ρ, st, dx, dy, sr, r1, r2, p⟩ := h
  unfold kLt at p
  split at p
  · cases r1.int
    cases r2.int
    exact op_lt pins s σ H _ _ v u Q I rx ry ⟨_, _, rfl, rfl, p.here sr rfl⟩
  · cases r1.str
    cases r2.str
    exact op_lt_str pins s σ H _ _ v u Q I rx ry ⟨_, _, rfl, rfl, p.here sr rfl⟩
  · exact p.elim
theorem k_le : OpK X cad E (compareOp .LtE) kLe := by
  intro pins s σ H x y v u Q I rx ry h
  obtain ⟨ρ, st, dx, dy, sr, r1, r2, p⟩ := h
  unfold kLe at p
  split at p
  · cases r1.int
    cases r2.int
    exact op_le pins s σ H _ _ v u Q I rx ry ⟨_, _, rfl, rfl, p.here sr rfl⟩
  · exact p.elim
theorem k_gt : OpK X cad E (compareOp .Gt) kGt := by
  intro pins s σ H x y v u Q I rx ry h
  obtain ⟨ρ, st, dx, dy, sr, r1, r2, p⟩ := h
  unfold kGt at p
  split at p
  · cases r1.int
    cases r2.int
    exact op_gt pins s σ H _ _ v u Q I rx ry ⟨_, _, rfl, rfl, p.here sr rfl⟩
  · exact p.elim
theorem k_ge : OpK X cad E (compareOp .GtE) kGe := by
  intro pins s σ H x y v u Q I rx ry h
  obtain ⟨ρ, st, dx, dy, sr, r1, r2, p⟩ := h
  unfold kGe at p
  split at p
  · cases r1.int
    cases r2.int
    exact op_ge pins s σ H _ _ v u Q I rx ry ⟨_, _, rfl, rfl, p.here sr rfl⟩
  · exact p.elim
theorem kq_in : OpK X cad E (compareOp .In) kIn := by
  intro pins s σ H x y v u Q I rx ry h
  obtain ⟨ρ, st, dx, dy, sr, r1, r2, p⟩ := h
  unfold kIn at p
  split at p
  · rename_i xs e1
    split at p
    · rename_i hz
      obtain ⟨a, vs, rfl, h1, k1⟩ := sr.seq e1 r2
      refine op_in_seq pins s σ H _ _ v u Q I rx ry ⟨a, vs, rfl, h1, flat_V hz.1 r1, flats_V hz.2 k1, ?_⟩
      have e := inF_V hz.1 r1 hz.2 k1
      show Q (.bl (vs.any fun z => eqV z x)) H
      rw [e]
      exact p.here sr rfl
    · exact p.elim
  · split at p
    · rename_i a b _
      split at p
      · rename_i c e2
        cases r1.str
        cases r2.str
        have ea : a = ⟨#[c]⟩ := by
          obtain ⟨l⟩ := a
          have e3 : l.toList = [c] := e2
          congr 1
          exact Array.ext' (by simpa using e3)
        subst ea
        exact op_in_sign pins s σ H _ _ v u Q I rx ry ⟨c, b, rfl, rfl, p.here sr rfl⟩
      · exact p.elim
    · exact p.elim
theorem kq_notIn : OpK X cad E (compareOp .NotIn) kNotIn := by
  intro pins s σ H x y v u Q I rx ry h
  obtain ⟨ρ, st, dx, dy, sr, r1, r2, p⟩ := h
  unfold kNotIn kIn at p
  split at p
  · rename_i xs e1
    split at p
    · rename_i hz
      obtain ⟨a, vs, rfl, h1, k1⟩ := sr.seq e1 r2
      refine op_notIn_seq pins s σ H _ _ v u Q I rx ry ⟨a, vs, rfl, h1, flat_V hz.1 r1, flats_V hz.2 k1, ?_⟩
      have e := inF_V hz.1 r1 hz.2 k1
      show Q (.bl (!(vs.any fun z => eqV z x))) H
      rw [e]
      exact p.here sr rfl
    · exact p.elim
  · split at p
    · rename_i a b _
      split at p
      · rename_i c e2
        cases r1.str
        cases r2.str
        have ea : a = ⟨#[c]⟩ := by
          obtain ⟨l⟩ := a
          have e3 : l.toList = [c] := e2
          congr 1
          exact Array.ext' (by simpa using e3)
        subst ea
        exact op_notIn_sign pins s σ H _ _ v u Q I rx ry ⟨c, b, rfl, rfl, p.here sr rfl⟩
      · exact p.elim
    · exact p.elim
end
end Z
end
section
set_option Elab.async false
set_option linter.all false
set_option maxRecDepth 100000
set_option maxHeartbeats 4000000
/-! Z4: and, or, not, tests, displays, subscripts, slices, builtins, methods of lists, fields. -/
namespace Z
open PySem PySem.Spec PyProof.Rows L2

/-! ### and, or, not; tests -/
def vAnd (ma mb : M D) : M D := fun es st => (ma es st).bind fun x s => match x with
  | .bl true => mb es s
  | .bl false => .ok (.bl false) s
  | _ => .bad
def vOr (ma mb : M D) : M D := fun es st => (ma es st).bind fun x s => match x with
  | .bl true => .ok (.bl true) s
  | .bl false => mb es s
  | _ => .bad
def vNot (ma : M D) : M D := fun es st => (ma es st).bind fun x s => match x with
  | .bl k => .ok (.bl (!k)) s
  | _ => .bad
def cAnd (ma mb : M Bool) : M Bool := fun es st => (ma es st).bind fun k s => match k with
  | true => mb es s
  | false => .ok false s
def cOr (ma mb : M Bool) : M Bool := fun es st => (ma es st).bind fun k s => match k with
  | true => .ok true s
  | false => mb es s
def cNot (ma : M Bool) : M Bool := fun es st => (ma es st).bind fun k s => .ok (!k) s
def cIf {α : Type} (mc : M Bool) (ma mb : M α) : M α := fun es st => (mc es st).bind fun k s => match k with
  | true => ma es s
  | false => mb es s
def truD : D → S → R Bool
  | .non, s => .ok false s
  | .bl b, s => .ok b s
  | .int i, s => .ok (i != 0) s
  | .tup xs, s => .ok (!xs.isEmpty) s
  | .loc n, s => match getL s n with
    | some xs => .ok (!xs.isEmpty) s
    | none => .bad
  | _, _ => .bad
theorem Reps.empty {g : G} {ρ : List Addr} {H : Hp} {ds : List D} {vs : List V} (h : Reps g ρ H ds vs) : vs.isEmpty = ds.isEmpty := by
  cases ds with
  | nil => rw [h.nil]; rfl
  | cons d ds => obtain ⟨v, r, rfl, _, _⟩ := h.cons; rfl
section
variable {X : Cx} {cad : Nat → Addr} {E : XK} {a b c : Expr} {rest : List Expr} {ma mb mc : M D} {ta tb : M Bool} {pos : Pos}
theorem e_one {op} (h : PE X a (tM (gX X cad) E ma)) : PE X (.BoolOp op [a] pos) (tM (gX X cad) E ma) := pe_one h
theorem e_and (ha : PE X a (tM (gX X cad) E ma)) (hb : PE X (.BoolOp .And (b :: rest) pos) (tM (gX X cad) E mb)) : PE X (.BoolOp .And (a :: b :: rest) pos) (tM (gX X cad) E (vAnd ma mb)) := by
  refine PE.imp (pe_and ha hb) fun σ H Q h => ?_
  obtain ⟨ρ, es, st, sr, sl, p⟩ := h
  refine ⟨ρ, es, st, sr, sl, p.bind fun ρ1 H1 x v1 st1 e1 t1 sr1 rx p1 => ?_⟩
  split at p1
  · exact ⟨true, rx.bl, iteT ⟨ρ1, es, st1, sr1, sl.mono e1 t1, p1⟩⟩
  · exact ⟨false, rx.bl, iteF (p1.here sr1 rep_bl)⟩
  · exact p1.elim
theorem e_not (ha : PE X a (tM (gX X cad) E ma)) : PE X (.UnaryOp .Not a pos) (tM (gX X cad) E (vNot ma)) := by
  refine PE.imp (pe_not ha) fun σ H Q h => ?_
  obtain ⟨ρ, es, st, sr, sl, p⟩ := h
  refine ⟨ρ, es, st, sr, sl, p.bind fun ρ1 H1 x v1 st1 e1 t1 sr1 rx p1 => ?_⟩
  split at p1
  · exact ⟨_, rx.bl, p1.here sr1 rep_bl⟩
  · exact p1.elim
theorem w_and1 (ha : PT X a (tT (gX X cad) E ta)) : PW X (.BoolOp .And [a] pos) (tT (gX X cad) E ta) := pw_and1 ha
theorem w_or1 (ha : PT X a (tT (gX X cad) E ta)) : PW X (.BoolOp .Or [a] pos) (tT (gX X cad) E ta) := pw_or1 ha
theorem w_and (ha : PT X a (tT (gX X cad) E ta)) (hb : PW X (.BoolOp .And (b :: rest) pos) (tT (gX X cad) E tb)) : PW X (.BoolOp .And (a :: b :: rest) pos) (tT (gX X cad) E (cAnd ta tb)) := by
  refine PW.imp (pw_and ha hb) fun σ H Q h => ?_
  obtain ⟨ρ, es, st, sr, sl, p⟩ := h
  refine ⟨ρ, es, st, sr, sl, p.bind fun ρ1 H1 k v1 st1 e1 t1 sr1 rx p1 => ?_⟩
  subst rx
  cases k with
  | true => exact iteT ⟨ρ1, es, st1, sr1, sl.mono e1 t1, p1⟩
  | false => exact iteF (p1.here sr1 rfl)
theorem w_or (ha : PT X a (tT (gX X cad) E ta)) (hb : PW X (.BoolOp .Or (b :: rest) pos) (tT (gX X cad) E tb)) : PW X (.BoolOp .Or (a :: b :: rest) pos) (tT (gX X cad) E (cOr ta tb)) := by
  refine PW.imp (pw_or ha hb) fun σ H Q h => ?_
  obtain ⟨ρ, es, st, sr, sl, p⟩ := h
  refine ⟨ρ, es, st, sr, sl, p.bind fun ρ1 H1 k v1 st1 e1 t1 sr1 rx p1 => ?_⟩
  subst rx
  cases k with
  | true => exact iteT (p1.here sr1 rfl)
  | false => exact iteF ⟨ρ1, es, st1, sr1, sl.mono e1 t1, p1⟩
theorem t_w {e : Expr} (h : PW X e (tT (gX X cad) E ta)) : PT X e (tT (gX X cad) E ta) := h.pt
theorem t_not (ha : PT X a (tT (gX X cad) E ta)) : PT X (.UnaryOp .Not a pos) (tT (gX X cad) E (cNot ta)) := by
  refine PT.imp (pt_not ha) fun σ H Q h => ?_
  obtain ⟨ρ, es, st, sr, sl, p⟩ := h
  refine ⟨ρ, es, st, sr, sl, p.bind fun ρ1 H1 k v1 st1 e1 t1 sr1 rx p1 => ?_⟩
  subst rx
  exact p1.here sr1 rfl
theorem t_val (ha : PE X a (tM (gX X cad) E ma)) (he : ∀ whole, isTrue a X.env whole = (do let v ← whole; standAt a.pos; holding [v] (truthy v)) := by intro _; rfl) : PT X a (tT (gX X cad) E (c1 ma truD)) := by
  refine PT.imp (pt_truth ha he) fun σ H Q h => ?_
  obtain ⟨ρ, es, st, sr, sl, p⟩ := h
  refine ⟨ρ, es, st, sr, sl, p.bind fun ρ1 H1 x v1 st1 e1 t1 sr1 rx p1 => ?_⟩
  unfold truD at p1
  split at p1
  · exact ⟨false, by rw [rx.non]; rfl, p1.here sr1 rfl⟩
  · exact ⟨_, by rw [rx.bl]; rfl, p1.here sr1 rfl⟩
  · exact ⟨_, by rw [rx.int]; rfl, p1.here sr1 rfl⟩
  · obtain ⟨a, vs, rfl, h1, h2⟩ := rx.tup
    refine ⟨!vs.isEmpty, .inr (.inl ⟨vs, h1, rfl⟩), p1.here sr1 ?_⟩
    rw [h2.empty]
  · split at p1
    · rename_i xs e2
      obtain ⟨a, q1, rfl⟩ := rx.loc
      obtain ⟨a', vs, w1, h1, h2⟩ := sr1.getL e2
      rw [q1] at w1
      cases w1
      refine ⟨!vs.isEmpty, .inl ⟨vs, h1, rfl⟩, p1.here sr1 ?_⟩
      rw [h2.empty]
    · exact p1.elim
  · exact p1.elim
end

/-! ### displays -/
def cNil : M (List D) := fun _ st => .ok [] st
def cCons (ma : M D) (mr : M (List D)) : M (List D) := fun es st => (ma es st).bind fun x s => (mr es s).bind fun xs s => .ok (x :: xs) s
def cTup (mA : M (List D)) : M D := fun es st => (mA es st).bind fun xs s => if xs.length ≤ 1000000 then .ok (.tup xs) s else .bad
def cLst (mA : M (List D)) : M D := fun es st => (mA es st).bind fun xs s => if xs.length ≤ 1000000 then nw (.lst xs) s else .bad
section
variable {X : Cx} {cad : Nat → Addr} {E : XK} {e : Expr} {es : List Expr} {ma : M D} {mA : M (List D)} {pos : Pos}
theorem a_nil : PA X [] (tA (gX X cad) E cNil) := PA.imp pa_nil fun σ H Q h => by
  obtain ⟨ρ, es, st, sr, sl, p⟩ := h
  exact PoE.here p sr reps_nil
theorem a_cons (ha : PE X e (tM (gX X cad) E ma)) (hr : PA X es (tA (gX X cad) E mA)) (hs : starEach (e :: es) X.env = (false, eval e X.env) :: starEach es X.env := by rfl) : PA X (e :: es) (tA (gX X cad) E (cCons ma mA)) := by
  refine PA.imp (pa_cons ha hr hs) fun σ H Q h => ?_
  obtain ⟨ρ, es, st, sr, sl, p⟩ := h
  refine ⟨ρ, es, st, sr, sl, p.bind fun ρ1 H1 x v1 st1 e1 t1 sr1 rx p1 => ⟨ρ1, es, st1, sr1, sl.mono e1 t1, p1.bind fun ρ2 H2 xs vs st2 e2 t2 sr2 rxs p2 => ?_⟩⟩
  exact p2.here sr2 (reps_cons (rx.mono e2 t2) rxs)
theorem e_tup {x1} (h : PA X es (tA (gX X cad) E mA)) : PE X (.Tuple es x1 pos) (tM (gX X cad) E (cTup mA)) := by
  refine PE.imp (pe_tup h) fun σ H Q h => ?_
  obtain ⟨ρ, es, st, sr, sl, p⟩ := h
  refine ⟨ρ, es, st, sr, sl, p.bind fun ρ1 H1 xs vs st1 e1 t1 sr1 rx p1 => ?_⟩
  split at p1
  · rename_i hz
    exact ⟨by rw [rx.length]; exact sz hz, tup_new sr1 rx p1⟩
  · exact p1.elim
theorem e_lst (h : PA X es (tA (gX X cad) E mA)) : PE X (.List es pos) (tM (gX X cad) E (cLst mA)) := by
  refine PE.imp (pe_lst h) fun σ H Q h => ?_
  obtain ⟨ρ, es, st, sr, sl, p⟩ := h
  refine ⟨ρ, es, st, sr, sl, p.bind fun ρ1 H1 xs vs st1 e1 t1 sr1 rx p1 => ?_⟩
  split at p1
  · rename_i hz
    exact ⟨by rw [rx.length]; exact sz hz, lst_new sr1 rx p1⟩
  · exact p1.elim
end

/-! ### subscripts, slices -/
def ixD : D → D → S → R D
  | .tup xs, .int i, s => match atI xs i with
    | some d => .ok d s
    | none => .bad
  | .loc n, .int i, s => match getL s n with
    | some xs => match atI xs i with
      | some d => .ok d s
      | none => .bad
    | none => .bad
  | .str z, .int i, s => if z.length ≤ 16000000 then match atI z.cps.toList i with
      | some c => .ok (.str ⟨#[c]⟩) s
      | none => .bad
    else .bad
  | _, _, _ => .bad
theorem Reps.atI {g : G} {ρ : List Addr} {H : Hp} {ds : List D} {vs : List V} {i : Int} {d : D} (h : Reps g ρ H ds vs) (e : atI ds i = some d) : ∃ v, L2.atI vs i = some v ∧ Rep g ρ H d v := by
  unfold L2.atI at e ⊢
  rw [h.length]
  cases q : ixN ds.length i with
  | none => rw [q] at e; cases e
  | some j =>
    rw [q] at e
    exact h.get e
def cutD (xs : List D) (lo hi : Option Int) : List D := (xs.drop (HT.sIx xs.length 0 lo)).take (HT.sIx xs.length xs.length hi - HT.sIx xs.length 0 lo)
theorem Reps.cut {g : G} {ρ : List Addr} {H : Hp} {ds : List D} {vs : List V} (h : Reps g ρ H ds vs) (lo hi : Option Int) : Reps g ρ H (cutD ds lo hi) (cutV vs lo hi) := by
  unfold cutD cutV
  rw [h.length]
  exact (h.drop _).take _
def tO (g : G) (E : XK) (m : M (Option Int)) : TO := tG g E (fun _ _ a b => a = b) m
def cNoPart : M (Option Int) := fun _ st => .ok none st
def cPart (ma : M D) : M (Option Int) := fun es st => (ma es st).bind fun d s => match d with
  | .int i => .ok (some i) s
  | _ => .bad
def slD (d : D) (lo hi : Option Int) (s : S) : R D := match d with
  | .tup xs => .ok (.tup (cutD xs lo hi)) s
  | .loc n => match getL s n with
    | some xs => nw (.lst (cutD xs lo hi)) s
    | none => .bad
  | .str z => if z.length ≤ 16000000 then .ok (.str (cutS z lo hi)) s else .bad
  | _ => .bad
def cSlice (ma : M D) (ml mh : M (Option Int)) : M D := fun es st => (ma es st).bind fun d s => (ml es s).bind fun lo s => (mh es s).bind fun hi s => slD d lo hi s
section
variable {X : Cx} {cad : Nat → Addr} {E : XK} {a b e : Expr} {ma mb : M D} {ml mh : M (Option Int)} {lo hi : Option Expr} {pos p2 : Pos}
theorem o_ix : IxR X (fun x y H Q => ∃ ρ st dx dy, SR (gX X cad) ρ st H ∧ Rep (gX X cad) ρ H dx x ∧ Rep (gX X cad) ρ H dy y ∧ PoE (gX X cad) ρ H E (Rep (gX X cad)) Q (ixD dx dy st)) := by
  intro value slice pins s σ H x y v u Q I rx ry h hs
  obtain ⟨ρ, st, dx, dy, sr, r1, r2, p⟩ := h
  unfold ixD at p
  split at p
  · split at p
    · rename_i d e1
      obtain ⟨a, vs, rfl, h1, h2⟩ := r1.tup
      cases r2.int
      obtain ⟨w, q1, q2⟩ := h2.atI e1
      exact ix_tup value slice pins s σ H _ _ v u Q I rx ry ⟨a, vs, _, w, rfl, rfl, h1, q1, p.here sr q2⟩ hs
    · exact p.elim
  · split at p
    · rename_i xs e0
      split at p
      · rename_i d e1
        obtain ⟨a, q0, rfl⟩ := r1.loc
        cases r2.int
        obtain ⟨a', vs, w1, h1, h2⟩ := sr.getL e0
        rw [q0] at w1
        cases w1
        obtain ⟨w, q1, q2⟩ := h2.atI e1
        exact ix_list value slice pins s σ H _ _ v u Q I rx ry ⟨a, vs, _, w, rfl, rfl, h1, q1, p.here sr q2⟩ hs
      · exact p.elim
    · exact p.elim
  · split at p
    · rename_i hz
      split at p
      · rename_i c e1
        cases r1.str
        cases r2.int
        exact ix_str value slice pins s σ H _ _ v u Q I rx ry ⟨_, _, c, rfl, rfl, szS hz, e1, p.here sr rep_str⟩ hs
      · exact p.elim
    · exact p.elim
  · exact p.elim
theorem e_ix (ha : PE X a (tM (gX X cad) E ma)) (hb : PE X b (tM (gX X cad) E mb)) (hs : PlainIx b := by exact fun _ _ => rfl) : PE X (.Subscript a b pos) (tM (gX X cad) E (c2 ma mb ixD)) := by
  refine PE.imp (pe_ix (o_ix (cad := cad) (E := E)) ha hb hs) fun σ H Q h => ?_
  obtain ⟨ρ, es, st, sr, sl, p⟩ := h
  refine ⟨ρ, es, st, sr, sl, p.bind fun ρ1 H1 x v1 st1 e1 t1 sr1 rx p1 => ⟨ρ1, es, st1, sr1, sl.mono e1 t1, p1.bind fun ρ2 H2 y v2 st2 e2 t2 sr2 ry p2 => ?_⟩⟩
  exact ⟨ρ2, st2, x, y, sr2, rx.mono e2 t2, ry, p2⟩
theorem PO.imp {e : Option Expr} {t t' : TO} (h : PO X e t) (k : ∀ σ H Q, t' σ H Q → t σ H Q) : PO X e t' := ⟨fun pins s σ H Q I q => h.run pins s σ H Q I (k σ H Q q)⟩
theorem o_none : PO X none (tO (gX X cad) E cNoPart) := PO.imp po_none fun σ H Q h => by
  obtain ⟨ρ, es, st, sr, sl, p⟩ := h
  exact PoE.here p sr rfl
theorem o_some (ha : PE X a (tM (gX X cad) E ma)) : PO X (some a) (tO (gX X cad) E (cPart ma)) := by
  refine PO.imp (po_some ha) fun σ H Q h => ?_
  obtain ⟨ρ, es, st, sr, sl, p⟩ := h
  refine ⟨ρ, es, st, sr, sl, p.bind fun ρ1 H1 x v1 st1 e1 t1 sr1 rx p1 => ?_⟩
  split at p1
  · exact ⟨_, rx.int, p1.here sr1 rfl⟩
  · exact p1.elim
theorem o_sl : L2.SlR X (fun x lo hi H Q => ∃ ρ st dx, SR (gX X cad) ρ st H ∧ Rep (gX X cad) ρ H dx x ∧ PoE (gX X cad) ρ H E (Rep (gX X cad)) Q (slD dx lo hi st)) := by
  intro pins s σ H x v vl vu lo hi sl Q I rx hs pl pu h
  obtain ⟨ρ, st, dx, sr, r1, p⟩ := h
  unfold slD at p
  split at p
  · obtain ⟨a, vs, rfl, h1, h2⟩ := r1.tup
    have ap := h2.cut lo hi
    refine sl_tupA pins s σ H _ v vl vu lo hi sl Q I rx hs pl pu ⟨a, vs, rfl, h1, fun e => ?_, fun _ => tup_new sr ap p⟩
    refine p.here sr (rep_tup h1 ?_)
    have e2 : cutV vs lo hi = vs := by
      unfold cutV
      rw [e.1, e.2, List.drop_zero, Nat.sub_zero, List.take_length]
    rw [e2] at ap
    exact ap
  · split at p
    · rename_i xs e0
      obtain ⟨a, q0, rfl⟩ := r1.loc
      obtain ⟨a', vs, w1, h1, h2⟩ := sr.getL e0
      rw [q0] at w1
      cases w1
      exact sl_list pins s σ H _ v vl vu lo hi sl Q I rx hs pl pu ⟨a, vs, rfl, h1, lst_new sr (h2.cut lo hi) p⟩
    · exact p.elim
  · split at p
    · rename_i hz
      cases r1.str
      exact sl_str pins s σ H _ v vl vu lo hi sl Q I rx hs pl pu ⟨_, rfl, szS hz, p.here sr rep_str⟩
    · exact p.elim
  · exact p.elim
theorem e_slice (ha : PE X e (tM (gX X cad) E ma)) (hl : PO X lo (tO (gX X cad) E ml)) (hh : PO X hi (tO (gX X cad) E mh)) : PE X (.Subscript e (.Slice lo hi none p2) pos) (tM (gX X cad) E (cSlice ma ml mh)) := by
  refine PE.imp (pe_slice (o_sl (cad := cad) (E := E)) ha hl hh) fun σ H Q h => ?_
  obtain ⟨ρ, es, st, sr, sl, p⟩ := h
  refine ⟨ρ, es, st, sr, sl, p.bind fun ρ1 H1 x v1 st1 e1 t1 sr1 rx p1 => ⟨ρ1, es, st1, sr1, sl.mono e1 t1, p1.bind fun ρ2 H2 y v2 st2 e2 t2 sr2 ry p2 => ⟨ρ2, es, st2, sr2, (sl.mono e1 t1).mono e2 t2, p2.bind fun ρ3 H3 z v3 st3 e3 t3 sr3 rz p3 => ?_⟩⟩⟩
  subst ry rz
  exact ⟨ρ3, st3, x, sr3, (rx.mono e2 t2).mono e3 t3, p3⟩
end
end Z
end
section
set_option Elab.async false
set_option linter.all false
set_option maxRecDepth 100000
set_option maxHeartbeats 4000000
/-! Z5: builtins, methods of lists, fields, calls. -/
namespace Z
open PySem PySem.Spec PyProof.Rows L2

def CallM (X : Cx) (cad : Nat → Addr) (E : XK) (f : Value) (fD : List D → S → R D) : Prop :=
  CallR X f (fun vs H Q => ∃ ρ st ds, SR (gX X cad) ρ st H ∧ Reps (gX X cad) ρ H ds vs ∧ PoE (gX X cad) ρ H E (Rep (gX X cad)) Q (fD ds st))
def cCall (mA : M (List D)) (f : List D → S → R D) : M D := fun es st => (mA es st).bind fun ds s => f ds s
section
variable {X : Cx} {cad : Nat → Addr} {E : XK} {x : Str} {e : Expr} {es : List Expr} {mA : M (List D)} {pos p : Pos} {f : List D → S → R D}
theorem cCall_imp {r : List V → Hp → VK → Prop} (hr : ∀ vs H Q, (∃ ρ st ds, SR (gX X cad) ρ st H ∧ Reps (gX X cad) ρ H ds vs ∧ PoE (gX X cad) ρ H E (Rep (gX X cad)) Q (f ds st)) → r vs H Q) :
    ∀ σ H Q, tM (gX X cad) E (cCall mA f) σ H Q → tCB r (tA (gX X cad) E mA) σ H Q := by
  intro σ H Q h
  obtain ⟨ρ, es, st, sr, sl, p⟩ := h
  exact ⟨ρ, es, st, sr, sl, p.bind fun ρ1 H1 xs vs st1 e1 t1 sr1 rx p1 => hr _ _ _ ⟨ρ1, st1, xs, sr1, rx, p1⟩⟩
theorem e_callB {id : String} (hc : CallM X cad E (.builtin id) f) (hg : Gl X x) (hm : X.mg x = none) (hv : bootBuiltins x = some (.builtin id)) (ha : PA X (e :: es) (tA (gX X cad) E mA)) (hn : x ≠ "__name__" := by decide) (hdb : (x == ("__debug__" : Str)) = false := by decide)
    (he : starEach (e :: es) X.env = (false, eval e X.env) :: starEach es X.env := by rfl) (hpl : (backTo pos (starEach es X.env)).any (·.1) = false := by rfl) : PE X (.Call (.Name x p) (e :: es) [] pos) (tM (gX X cad) E (cCall mA f)) :=
  PE.imp (pe_callB hc hg hm hv ha hn hdb he hpl) (cCall_imp fun _ _ _ h => h)
theorem e_callTy {T : String} (hc : CallM X cad E (.type T) f) (hg : Gl X x) (hm : X.mg x = none) (hv : bootBuiltins x = some (.type T)) (ha : PA X (e :: es) (tA (gX X cad) E mA)) (hn : x ≠ "__name__" := by decide) (hdb : (x == ("__debug__" : Str)) = false := by decide)
    (he : starEach (e :: es) X.env = (false, eval e X.env) :: starEach es X.env := by rfl) (hpl : (backTo pos (starEach es X.env)).any (·.1) = false := by rfl) : PE X (.Call (.Name x p) (e :: es) [] pos) (tM (gX X cad) E (cCall mA f)) :=
  PE.imp (pe_callTy hc hg hm hv ha hn hdb he hpl) (cCall_imp fun _ _ _ h => h)
end

/-! ### builtins -/
def fLen : List D → S → R D
  | [.str z], s => if z.length ≤ 16000000 then .ok (.int z.length) s else .bad
  | [d], s => match seqOf d s with
    | some xs => .ok (.int xs.length) s
    | none => .bad
  | _, _ => .bad
def fList : List D → S → R D
  | [d], s => match seqOf d s with
    | some xs => nw (.lst xs) s
    | none => .bad
  | _, _ => .bad
def fTuple : List D → S → R D
  | [.tup xs], s => .ok (.tup xs) s
  | [.loc n], s => match getL s n with
    | some xs => .ok (.tup xs) s
    | none => .bad
  | _, _ => .bad
def fInt : List D → S → R D
  | [.int i], s => .ok (.int i) s
  | [.bl b], s => .ok (.int (if b then 1 else 0)) s
  | _, _ => .bad
def intsD : List D → Option (List Int)
  | [] => some []
  | .int i :: r => (intsD r).map (i :: ·)
  | _ :: _ => none
def maxI : List Int → Int
  | [] => 0
  | i :: r => r.foldl (fun a b => if b > a then b else a) i
def minI : List Int → Int
  | [] => 0
  | i :: r => r.foldl (fun a b => if b < a then b else a) i
def listI (d : D) (s : S) : Option (List Int) := match d with
  | .loc n => (getL s n).bind intsD
  | _ => none
def fMax : List D → S → R D
  | [.int i, .int j], s => .ok (.int (if j > i then j else i)) s
  | [d], s => match listI d s with
    | some (i :: r) => .ok (.int (maxI (i :: r))) s
    | _ => .bad
  | _, _ => .bad
def fMin : List D → S → R D
  | [.int i, .int j], s => .ok (.int (if j < i then j else i)) s
  | [d], s => match listI d s with
    | some (i :: r) => .ok (.int (minI (i :: r))) s
    | _ => .bad
  | _, _ => .bad
theorem maxF_ok : ∀ (r : List Int) (i : Int), (r.foldl (fun a b => if b > a then b else a) i = i ∨ r.foldl (fun a b => if b > a then b else a) i ∈ r) ∧ i ≤ r.foldl (fun a b => if b > a then b else a) i ∧ ∀ y ∈ r, y ≤ r.foldl (fun a b => if b > a then b else a) i
  | [], i => ⟨.inl rfl, Int.le_refl _, fun y hy => nomatch hy⟩
  | j :: r, i => by
    rw [List.foldl_cons]
    obtain ⟨a, b, c⟩ := maxF_ok r (if j > i then j else i)
    generalize List.foldl (fun a b => if b > a then b else a) (if j > i then j else i) r = m at a b c
    refine ⟨?_, by split at b <;> omega, fun y hy => ?_⟩
    · rcases a with a | a
      · split at a
        · exact .inr (by rw [a]; simp)
        · exact .inl a
      · exact .inr (List.mem_cons_of_mem _ a)
    · rcases List.mem_cons.mp hy with hy | hy
      · subst hy
        split at b <;> omega
      · exact c y hy
theorem minF_ok : ∀ (r : List Int) (i : Int), (r.foldl (fun a b => if b < a then b else a) i = i ∨ r.foldl (fun a b => if b < a then b else a) i ∈ r) ∧ r.foldl (fun a b => if b < a then b else a) i ≤ i ∧ ∀ y ∈ r, r.foldl (fun a b => if b < a then b else a) i ≤ y
  | [], i => ⟨.inl rfl, Int.le_refl _, fun y hy => nomatch hy⟩
  | j :: r, i => by
    rw [List.foldl_cons]
    obtain ⟨a, b, c⟩ := minF_ok r (if j < i then j else i)
    generalize List.foldl (fun a b => if b < a then b else a) (if j < i then j else i) r = m at a b c
    refine ⟨?_, by split at b <;> omega, fun y hy => ?_⟩
    · rcases a with a | a
      · split at a
        · exact .inr (by rw [a]; simp)
        · exact .inl a
      · exact .inr (List.mem_cons_of_mem _ a)
    · rcases List.mem_cons.mp hy with hy | hy
      · subst hy
        split at b <;> omega
      · exact c y hy
theorem maxI_ok (i : Int) (r : List Int) : maxI (i :: r) ∈ i :: r ∧ ∀ y ∈ i :: r, y ≤ maxI (i :: r) := by
  obtain ⟨a, b, c⟩ := maxF_ok r i
  refine ⟨?_, fun y hy => ?_⟩
  · rcases a with a | a
    · exact List.mem_cons.mpr (.inl a)
    · exact List.mem_cons.mpr (.inr a)
  · rcases List.mem_cons.mp hy with hy | hy
    · subst hy
      exact b
    · exact c y hy
theorem minI_ok (i : Int) (r : List Int) : minI (i :: r) ∈ i :: r ∧ ∀ y ∈ i :: r, minI (i :: r) ≤ y := by
  obtain ⟨a, b, c⟩ := minF_ok r i
  refine ⟨?_, fun y hy => ?_⟩
  · rcases a with a | a
    · exact List.mem_cons.mpr (.inl a)
    · exact List.mem_cons.mpr (.inr a)
  · rcases List.mem_cons.mp hy with hy | hy
    · subst hy
      exact b
    · exact c y hy
section
variable {g : G} {ρ : List Addr} {st : S} {H : Hp}
theorem ints_V : ∀ {ds : List D} {ns : List Int} {vs : List V}, intsD ds = some ns → Reps g ρ H ds vs → vs = ns.map V.int
  | [], ns, vs, e, r => by
    cases e
    rw [r.nil]
    rfl
  | .int i :: ds, ns, vs, e, r => by
    simp only [intsD, Option.map_eq_some_iff] at e
    obtain ⟨ms, e1, rfl⟩ := e
    obtain ⟨v, ws, rfl, r1, r2⟩ := r.cons
    rw [r1.int, ints_V e1 r2]
    rfl
  | .non :: _, _, _, e, _ => by cases e
  | .bl _ :: _, _, _, e, _ => by cases e
  | .str _ :: _, _, _, e, _ => by cases e
  | .tup _ :: _, _, _, e, _ => by cases e
  | .loc _ :: _, _, _, e, _ => by cases e
  | .ty _ :: _, _, _, e, _ => by cases e
  | .cls _ :: _, _, _, e, _ => by cases e
  | .adr _ _ _ _ :: _, _, _, e, _ => by cases e
theorem SR.locL (sr : SR g ρ st H) {n : Nat} {v : V} {xs : List D} (r : Rep g ρ H (.loc n) v) (e : Z.getL st n = some xs) : ∃ a vs, v = .ref a ∧ SqL g.K H a vs ∧ Reps g ρ H xs vs := by
  obtain ⟨a, q0, rfl⟩ := r.loc
  obtain ⟨a', vs, w1, h1, h2⟩ := sr.getL e
  rw [q0] at w1
  cases w1
  exact ⟨a, vs, rfl, h1, h2⟩
theorem SR.locW (sr : SR g ρ st H) {n : Nat} {v : V} {xs : List D} (r : Rep g ρ H (.loc n) v) (e : Z.getW st n = some xs) : ∃ a vs, v = .ref a ∧ ρ[n]? = some a ∧ H a = some (.lst vs) ∧ Reps g ρ H xs vs := by
  obtain ⟨a, q0, rfl⟩ := r.loc
  obtain ⟨a', vs, w1, h1, h2⟩ := sr.getW e
  rw [q0] at w1
  cases w1
  exact ⟨a, vs, rfl, q0, h1, h2⟩
theorem SR.listI (sr : SR g ρ st H) {d : D} {v : V} {ns : List Int} (r : Rep g ρ H d v) (e : Z.listI d st = some ns) : ∃ a, v = .ref a ∧ SqL g.K H a (ns.map V.int) := by
  unfold Z.listI at e
  split at e
  · simp only [Option.bind_eq_some_iff] at e
    obtain ⟨xs, e1, e2⟩ := e
    obtain ⟨a, vs, rfl, h1, h2⟩ := sr.locL r e1
    rw [ints_V e2 h2] at h1
    exact ⟨a, rfl, h1⟩
  · cases e
theorem Reps.uno {d : D} {vs : List V} (r : Reps g ρ H [d] vs) : ∃ v, vs = [v] ∧ Rep g ρ H d v := by
  obtain ⟨v, ws, rfl, r1, r2⟩ := r.cons
  rw [r2.nil]
  exact ⟨v, rfl, r1⟩
theorem Reps.duo {d e : D} {vs : List V} (r : Reps g ρ H [d, e] vs) : ∃ v w, vs = [v, w] ∧ Rep g ρ H d v ∧ Rep g ρ H e w := by
  obtain ⟨v, ws, rfl, r1, r2⟩ := r.cons
  obtain ⟨w, rfl, r3⟩ := r2.uno
  exact ⟨v, w, rfl, r1, r3⟩
end
section
variable {X : Cx} {cad : Nat → Addr} {E : XK}
theorem q_len : CallM X cad E (.builtin "len") fLen := by
  intro pins s σ H vs us Q I r h
  obtain ⟨ρ, st, ds, sr, rs, p⟩ := h
  unfold fLen at p
  split at p
  · split at p
    · rename_i hz
      obtain ⟨v, rfl, r1⟩ := rs.uno
      cases r1.str
      exact call_len_str pins s σ H _ us Q I r ⟨_, rfl, szS hz, p.here sr rep_int⟩
    · exact p.elim
  · split at p
    · rename_i xs e1
      obtain ⟨v, rfl, r1⟩ := rs.uno
      obtain ⟨a, ws, rfl, h1, h2⟩ := sr.seq e1 r1
      refine call_len_seq pins s σ H _ us Q I r ⟨a, ws, rfl, h1, ?_⟩
      rw [h2.length]
      exact p.here sr rep_int
    · exact p.elim
  · exact p.elim
theorem q_list : CallM X cad E (.type "list") fList := by
  intro pins s σ H vs us Q I r h
  obtain ⟨ρ, st, ds, sr, rs, p⟩ := h
  unfold fList at p
  split at p
  · split at p
    · rename_i xs e1
      obtain ⟨v, rfl, r1⟩ := rs.uno
      obtain ⟨a, ws, rfl, h1, h2⟩ := sr.seq e1 r1
      exact call_list_of pins s σ H _ us Q I r ⟨a, ws, rfl, h1, lst_new sr h2 p⟩
    · exact p.elim
  · exact p.elim
theorem q_tuple : CallM X cad E (.type "tuple") fTuple := by
  intro pins s σ H vs us Q I r h
  obtain ⟨ρ, st, ds, sr, rs, p⟩ := h
  unfold fTuple at p
  split at p
  · obtain ⟨v, rfl, r1⟩ := rs.uno
    obtain ⟨a, ws, rfl, h1, h2⟩ := r1.tup
    exact call_tuple_of pins s σ H _ us Q I r ⟨a, ws, rfl, .inr ⟨h1, p.here sr (rep_tup h1 h2)⟩⟩
  · split at p
    · rename_i xs e1
      obtain ⟨v, rfl, r1⟩ := rs.uno
      obtain ⟨a, ws, rfl, h1, h2⟩ := sr.locL r1 e1
      exact call_tuple_of pins s σ H _ us Q I r ⟨a, ws, rfl, .inl ⟨h1, tup_new sr h2 p⟩⟩
    · exact p.elim
  · exact p.elim
theorem q_int : CallM X cad E (.type "int") fInt := by
  intro pins s σ H vs us Q I r h
  obtain ⟨ρ, st, ds, sr, rs, p⟩ := h
  unfold fInt at p
  split at p
  · obtain ⟨v, rfl, r1⟩ := rs.uno
    cases r1.int
    exact call_int1 pins s σ H _ us Q I r (.inl ⟨_, rfl, p.here sr rep_int⟩)
  · obtain ⟨v, rfl, r1⟩ := rs.uno
    cases r1.bl
    exact call_int1 pins s σ H _ us Q I r (.inr ⟨_, rfl, p.here sr rep_int⟩)
  · exact p.elim
theorem q_max (hc : X.calm = true) : CallM X cad E (.builtin "max") fMax := by
  intro pins s σ H vs us Q I r h
  obtain ⟨ρ, st, ds, sr, rs, p⟩ := h
  unfold fMax at p
  split at p
  · obtain ⟨v, w, rfl, r1, r2⟩ := rs.duo
    cases r1.int
    cases r2.int
    exact call_max2 hc pins s σ H _ us Q I r ⟨_, _, rfl, p.here sr rep_int⟩
  · split at p
    · rename_i i rr e1
      obtain ⟨v, rfl, r1⟩ := rs.uno
      obtain ⟨a, rfl, h1⟩ := sr.listI r1 e1
      refine cr_max hc pins s σ H _ us Q I r ⟨a, _, rfl, h1, by simp, fun m hm hl => ?_⟩
      obtain ⟨m1, m2⟩ := maxI_ok i rr
      have e : m = maxI (i :: rr) := Int.le_antisymm (m2 m hm) (hl _ m1)
      rw [e]
      exact p.here sr rep_int
    · exact p.elim
  · exact p.elim
theorem q_min (hc : X.calm = true) : CallM X cad E (.builtin "min") fMin := by
  intro pins s σ H vs us Q I r h
  obtain ⟨ρ, st, ds, sr, rs, p⟩ := h
  unfold fMin at p
  split at p
  · obtain ⟨v, w, rfl, r1, r2⟩ := rs.duo
    cases r1.int
    cases r2.int
    exact call_min2 hc pins s σ H _ us Q I r ⟨_, _, rfl, p.here sr rep_int⟩
  · split at p
    · rename_i i rr e1
      obtain ⟨v, rfl, r1⟩ := rs.uno
      obtain ⟨a, rfl, h1⟩ := sr.listI r1 e1
      refine cr_min hc pins s σ H _ us Q I r ⟨a, _, rfl, h1, by simp, fun m hm hl => ?_⟩
      obtain ⟨m1, m2⟩ := minI_ok i rr
      have e : m = minI (i :: rr) := Int.le_antisymm (hl _ m1) (m2 m hm)
      rw [e]
      exact p.here sr rep_int
    · exact p.elim
  · exact p.elim
end

/-! ### isinstance -/
inductive Ty where
  | non | bl | int | str | lst | tup | dic | own (c : Nat)
  deriving DecidableEq
def Ty.nm : Ty → String
  | .non => "NoneType"
  | .bl => "bool"
  | .int => "int"
  | .str => "str"
  | .lst => "list"
  | .tup => "tuple"
  | .dic => "dict"
  | .own _ => ""
def tyD : D → S → Option Ty
  | .non, _ => some .non
  | .bl _, _ => some .bl
  | .int _, _ => some .int
  | .str _, _ => some .str
  | .tup _, _ => some .tup
  | .loc n, s => match s[n]? with
    | some (.lst _) => some .lst
    | some (.ro _) => some .lst
    | some (.dic _) => some .dic
    | some (.ins c _) => some (.own c)
    | _ => none
  | _, _ => none
/-- what is asked: an int and no other, .. -/
def isTy (m n : Ty) : Option Bool := match m, n with
  | .own _, _ => none
  | _, .own _ => none
  | .bl, .int => some true
  | a, b => some (decide (a = b))
theorem isTy_ok {m n : Ty} {b : Bool} (h : isTy m n = some b) : kitB m.nm n.nm = some b := by
  cases m <;> cases n <;> first
    | (cases h; done)
    | (have e : b = _ := (Option.some.inj h).symm; subst e; decide +kernel)
section
variable {g : G} {ρ : List Addr} {st : S} {H : Hp}
theorem tyD_ok (sr : SR g ρ st H) {d : D} {v : V} {m : Ty} (r : Rep g ρ H d v) (e : tyD d st = some m) (ho : ∀ c, m ≠ .own c) : TyX g.K H v (.type m.nm) := by
  unfold tyD at e
  split at e
  · cases e; rw [r.non]; exact .base .non
  · cases e; rw [r.bl]; exact .base (.bl _)
  · cases e; rw [r.int]; exact .base (.int _)
  · cases e; rw [r.str]; exact .base (.str _)
  · cases e
    obtain ⟨a, vs, rfl, h1, h2⟩ := r.tup
    rcases h1 with (h1 | ⟨o, h1⟩) | ⟨o, its, n, h1, h2, _⟩
    · exact .base (.tup h1)
    · exact .fTuple h1
    · exact .kTuple h1 h2
  · obtain ⟨a, q0, rfl⟩ := r.loc
    split at e
    · rename_i xs e1
      cases e
      obtain ⟨vs, h1, _⟩ := sr.ob _ _ a e1 q0
      exact .base (.lst h1)
    · rename_i xs e1
      cases e
      obtain ⟨vs, (h1 | ⟨o, h1⟩) | ⟨o, its, n, h1, h2, _⟩, _⟩ := sr.ob _ _ a e1 q0
      · exact .base (.lst h1)
      · exact .base (.frz h1)
      · exact .kList h1 h2
    · rename_i xs e1
      cases e
      obtain ⟨vs, h1, _⟩ := sr.ob _ _ a e1 q0
      exact .base (.dK h1)
    · cases e
      exact absurd rfl (ho _)
    · cases e
  · cases e
end
section
variable {X : Cx} {cad : Nat → Addr} {E : XK} {e : Expr} {ma : M D} {p1 p2 pos : Pos} {T : Str}
def cIs (n : Ty) (ma : M D) : M D := fun es st => (ma es st).bind fun d s => match tyD d s with
  | some m => match isTy m n with
    | some b => .ok (.bl b) s
    | none => .bad
  | none => .bad
theorem e_isTy {n : Ty} (hg : Gl X "isinstance") (hm : X.mg "isinstance" = none) (hgT : Gl X T) (hmT : X.mg T = none) (hvT : bootBuiltins T = some (.type n.nm)) (ha : PE X e (tM (gX X cad) E ma)) (hn : T ≠ "__name__" := by decide) (hd : (T == ("__debug__" : Str)) = false := by decide)
    (he : starEach (e :: [.Name T p2]) X.env = (false, eval e X.env) :: starEach [.Name T p2] X.env := by rfl) (hpl : (backTo pos (starEach [.Name T p2] X.env)).any (·.1) = false := by rfl) :
    PE X (.Call (.Name "isinstance" p1) [e, .Name T p2] [] pos) (tM (gX X cad) E (cIs n ma)) := by
  refine PE.imp (pe_callB call_isi hg hm (by decide +kernel) (pa_cons ha (pa_cons (pe_bltn (v := .ty n.nm) hgT hmT hvT rfl hn hd) pa_nil) he) (by decide) (by decide) he hpl) fun σ H Q h => ?_
  obtain ⟨ρ, es, st, sr, sl, p⟩ := h
  refine ⟨ρ, es, st, sr, sl, p.bind fun ρ1 H1 x v1 st1 e1 t1 sr1 rx p1 => ?_⟩
  split at p1
  · rename_i m em
    split at p1
    · rename_i b eb
      have ho : ∀ c, m ≠ .own c := fun c z => by subst z; cases n <;> cases eb
      exact ⟨v1, .ty n.nm, .type m.nm, .type n.nm, b, rfl, .ty _, tyD_ok sr1 rx em ho, kit_ty (isTy_ok eb), p1.here sr1 rep_bl⟩
    · exact p1.elim
  · exact p1.elim
/-- what isinstance asks of an own class -/
structure IsCls (K : PySem.W.Frag) (C : Addr) : Prop where
  cl : Cls K C
  ha : PySem.W.findIn K (.ref C) "__class__" = some (some (.builtin "object.__class__"))
  hm : PySem.W.mroIn K C (.type "object") = some true
  hn : PySem.W.specialIn K (.builtin "object.__class__") "__get__" = some (some (.builtin "getset_descriptor.__get__"))
  htk : PySem.W.takesIn K (.builtin "object.__class__") = some true
  k1 : PySem.W.kitOne K (.ref C) (.ref C) = some true
end
end Z
end
section
set_option Elab.async false
set_option linter.all false
set_option maxRecDepth 100000
set_option maxHeartbeats 4000000
/-! Z6: methods of lists, fields, calls of own defs. -/
namespace Z
open PySem PySem.Spec PyProof.Rows L2

def isL (d : D) (s : S) : Bool := match d with
  | .loc n => (getL s n).isSome
  | _ => false
def cMeth (mo : M D) (mA : M (List D)) (f : D → List D → S → R D) : M D := fun es st => (mo es st).bind fun o s => if isL o s = true then (mA es s).bind fun ds s => f o ds s else .bad
def MtD (X : Cx) (cad : Nat → Addr) (E : XK) (id : String) (f : D → List D → S → R D) : Prop :=
  MtR X id (fun x vs H Q => ∃ ρ st d ds, SR (gX X cad) ρ st H ∧ Rep (gX X cad) ρ H d x ∧ Reps (gX X cad) ρ H ds vs ∧ PoE (gX X cad) ρ H E (Rep (gX X cad)) Q (f d ds st))
section
variable {X : Cx} {cad : Nat → Addr} {E : XK} {o e : Expr} {es : List Expr} {mo : M D} {mA : M (List D)} {name : Str} {apos cpos : Pos} {id : String} {f : D → List D → S → R D}
theorem isL_ty {ρ : List Addr} {st : S} {H : Hp} {d : D} {v : V} (sr : SR (gX X cad) ρ st H) (r : Rep (gX X cad) ρ H d v) (h : isL d st = true) : tyV X.K "list" v H := by
  unfold isL at h
  split at h
  · obtain ⟨xs, hx⟩ := Option.isSome_iff_exists.mp h
    obtain ⟨a, vs, rfl, h1, _⟩ := sr.locL r hx
    exact .inl ⟨rfl, vs, h1⟩
  · cases h
theorem e_meth (slot : Slot "list" name id) (hty : typeOf (.builtin id) = pure (.type "method_descriptor")) (hm : MtD X cad E id f) (ho : PE X o (tM (gX X cad) E mo)) (ha : PA X (e :: es) (tA (gX X cad) E mA))
    (hbase : attributeBase o name X.env (eval o X.env) = eval o X.env := by rfl)
    (hfew : ((backTo cpos (starEach (e :: es) X.env)).all (fun x => !x.1) && (backToKw cpos (keywordEach [] X.env)).all (fun x => x.1.isSome)
      && decide ((e :: es).length + ([] : List Keyword).length + (if ([] : List Keyword).isEmpty then 0 else 1) < 30)) = true := by rfl)
    (hline : (apos.endLine == cpos.line) = true := by rfl) (he : starEach (e :: es) X.env = (false, eval e X.env) :: starEach es X.env := by rfl) (hpl : (backTo cpos (starEach es X.env)).any (·.1) = false := by rfl) :
    PE X (.Call (.Attribute o name apos) (e :: es) [] cpos) (tM (gX X cad) E (cMeth mo mA f)) := by
  refine PE.imp (pe_bm PySem.F.plainAttrs_list slot hty hm ho ha hbase hfew hline he hpl) fun σ H Q h => ?_
  obtain ⟨ρ, es, st, sr, sl, p⟩ := h
  refine ⟨ρ, es, st, sr, sl, p.bind fun ρ1 H1 x v1 st1 e1 t1 sr1 rx p1 => ?_⟩
  split at p1
  · rename_i hl
    refine ⟨isL_ty sr1 rx hl, ρ1, es, st1, sr1, sl.mono e1 t1, p1.bind fun ρ2 H2 y v2 st2 e2 t2 sr2 ry p2 => ?_⟩
    exact ⟨ρ2, st2, x, y, sr2, rx.mono e2 t2, ry, p2⟩
  · exact p1.elim
end
/-- a list is changed -/
def setL (n : Nat) (xs : List D) (r : D) (s : S) : R D := .ok r (s.set n (.lst xs))
def mAppend : D → List D → S → R D
  | .loc n, [y], s => match getW s n with
    | some xs => if xs.length < 1000000 then setL n (xs ++ [y]) .non s else .bad
    | none => .bad
  | _, _, _ => .bad
def mExtend : D → List D → S → R D
  | .loc n, [.loc m], s => match getW s n, getW s m with
    | some xs, some ys => if xs.length + ys.length ≤ 1000000 then setL n (xs ++ ys) .non s else .bad
    | _, _ => .bad
  | _, _, _ => .bad
section
variable {X : Cx} {cad : Nat → Addr} {E : XK}
theorem lst_put {ρ : List Addr} {st : S} {H : Hp} {Q : VK} {n : Nat} {a : Addr} {us : List V} {zs : List D} {ws : List V} {r : D} {rv : V} {xs0 : List D} (sr : SR (gX X cad) ρ st H) (e0 : Z.getW st n = some xs0) (hn : ρ[n]? = some a) (ha : H a = some (.lst us)) (rz : Reps (gX X cad) ρ H zs ws) (rr : Rep (gX X cad) ρ H r rv)
    (p : PoE (gX X cad) ρ H E (Rep (gX X cad)) Q (setL n zs r st)) : Q rv (upd H a (.lst ws)) := by
  have t : TLe (gX X cad) H (upd H a (.lst ws)) := TLe.put ha (fun _ z => nomatch z) (fun _ _ z => nomatch z)
  exact p ρ _ _ (List.prefix_refl _) t (sr.put hn (getW_eq e0) (fun _ z => nomatch z) ha (fun _ z => nomatch z) (fun _ _ z => nomatch z) ⟨ws, upd_same, rz.mono (List.prefix_refl _) t⟩) (rr.mono (List.prefix_refl _) t)
theorem d_append : MtD X cad E "list.append" mAppend := by
  intro pins s σ H x vs v us Q I rx rv h
  obtain ⟨ρ, st, d, ds, sr, r1, rs, p⟩ := h
  unfold mAppend at p
  split at p
  · split at p
    · rename_i xs e1
      split at p
      · rename_i hz
        obtain ⟨w, rfl, r2⟩ := rs.uno
        obtain ⟨a, ws, rfl, q0, h1, h2⟩ := sr.locW r1 e1
        exact mt_append pins s σ H _ _ v us Q I rx rv ⟨a, ws, w, rfl, rfl, h1, by rw [h2.length]; exact sz1 hz, lst_put sr e1 q0 h1 (h2.append (Reps.one r2)) rep_non p⟩
      · exact p.elim
    · exact p.elim
  · exact p.elim
theorem d_extend : MtD X cad E "list.extend" mExtend := by
  intro pins s σ H x vs v us Q I rx rv h
  obtain ⟨ρ, st, d, ds, sr, r1, rs, p⟩ := h
  unfold mExtend at p
  split at p
  · split at p
    · rename_i xs ys e1 e2
      split at p
      · rename_i hz
        obtain ⟨w, rfl, r2⟩ := rs.uno
        obtain ⟨a, ws, rfl, q0, h1, h2⟩ := sr.locW r1 e1
        obtain ⟨b, zs, rfl, q3, h3, h4⟩ := sr.locW r2 e2
        exact mt_extend pins s σ H _ _ v us Q I rx rv ⟨a, b, ws, zs, rfl, rfl, h1, h3, by rw [h2.length, h4.length]; exact sz hz, lst_put sr e1 q0 h1 (h2.append h4) rep_non p⟩
      · exact p.elim
    · exact p.elim
  · exact p.elim
end

/-! ### fields of instances -/
def getI (s : S) (n : Nat) : Option (Nat × List (Str × D)) := match s[n]? with
  | some (.ins c fs) => some (c, fs)
  | _ => none
def fldD (c : Nat) (f : Str) (d : D) (s : S) : R D := match d with
  | .loc n => match getI s n with
    | some (c', fs) => if c' = c then match fs.lookup f with
        | some v => .ok v s
        | none => .bad
      else .bad
    | none => .bad
  | _ => .bad
/-- the attributes that are no class's -/
structure Fl (K : PySem.W.Frag) (C : Addr) (f : Str) : Prop where
  cl : Cls K C
  no : NoAttr K C f
section
variable {X : Cx} {cad : Nat → Addr} {E : XK} {o value : Expr} {mo mv : M D} {f : Str} {pos pos' : Pos}
end

/-! ### defs -/
def spF (g : G) (F : List D → S → R D) : Sp := fun vs H Q E => ∃ ρ st ds, SR g ρ st H ∧ Reps g ρ H ds vs ∧ PoE g ρ H E (Rep g) Q (F ds st)
section
variable {X : Cx} {CX : CXT} {cad : Nat → Addr} {k : Nat} {f C : Addr} {fd : FuncData} {ps ks : List Str} {E : XK} {x m : Str} {p pos apos : Pos} {e o : Expr} {es : List Expr} {mA mK : M (List D)} {mo : M D} {F : List D → S → R D}
theorem e_call (Fo : FnOk X.prog X.w X.K X.mg X.base CX k f fd ps (spF (gX X cad) F)) (hr : Room k X.A) (hg : Gl X x) (hm : X.mg x = some (.ref f)) (hk : PySem.W.keepIn X.K (.ref f) = true) (hb : Binds X.K fd ps []) (hx : Passes CX X E) (ha : PA X (e :: es) (tA (gX X cad) E mA))
    (hdb : (x == ("__debug__" : Str)) = false := by decide) (he : starEach (e :: es) X.env = (false, eval e X.env) :: starEach es X.env := by rfl) (hpl : (backTo pos (starEach es X.env)).any (·.1) = false := by rfl) :
    PE X (.Call (.Name x p) (e :: es) [] pos) (tM (gX X cad) E (cCall mA F)) := by
  refine PE.imp (pe_call Fo hr hg hm hk hb .nil hx ha hdb he hpl) fun σ H Q h => ?_
  obtain ⟨ρ, es, st, sr, sl, p⟩ := h
  refine ⟨ρ, es, st, sr, sl, p.bind fun ρ1 H1 xs vs st1 e1 t1 sr1 rx p1 => ?_⟩
  rw [List.append_nil]
  exact ⟨ρ1, st1, xs, sr1, rx, p1⟩
theorem kw_nil : PK X [] (tA (gX X cad) E cNil) := ⟨fun pos pins s σ H Q I h => pk_nil.run pos pins s σ H Q I (by
  obtain ⟨ρ, es, st, sr, sl, p⟩ := h
  exact PoE.here p sr reps_nil)⟩
theorem kw_cons {kws : List Keyword} {nm : Option Str} {kpos : Pos} {ma : M D} (ha : PE X e (tM (gX X cad) E ma)) (hr : PK X kws (tA (gX X cad) E mK)) : PK X (⟨nm, e, kpos⟩ :: kws) (tA (gX X cad) E (cCons ma mK)) := ⟨fun pos pins s σ H Q I h => (pk_cons ha hr).run pos pins s σ H Q I (by
  obtain ⟨ρ, es, st, sr, sl, p⟩ := h
  refine ⟨ρ, es, st, sr, sl, p.bind fun ρ1 H1 x v1 st1 e1 t1 sr1 rx p1 => ⟨ρ1, es, st1, sr1, sl.mono e1 t1, p1.bind fun ρ2 H2 xs vs st2 e2 t2 sr2 rxs p2 => ?_⟩⟩
  exact p2.here sr2 (reps_cons (rx.mono e2 t2) rxs))⟩
def cCallK (mA mK : M (List D)) (gD : List D → List D → List D) (f : List D → S → R D) : M D := fun es st => (mA es st).bind fun ds s => (mK es s).bind fun zs s => f (gD ds zs) s
theorem e_callK0 {kws : List Keyword} {gU : List Value → List Value → List Value} {gV : List V → List V → List V} {gD : List D → List D → List D} (hgd : ∀ ρ H ds zs vs ws, Reps (gX X cad) ρ H ds vs → Reps (gX X cad) ρ H zs ws → Reps (gX X cad) ρ H (gD ds zs) (gV vs ws))
    (Fo : FnOk X.prog X.w X.K X.mg X.base CX k f fd ps (spF (gX X cad) F)) (hr : Room k X.A) (hg : Gl X x) (hm : X.mg x = some (.ref f)) (hk : PySem.W.keepIn X.K (.ref f) = true) (hb : KBinds X.K fd ps ks gU gV) (hx : Passes CX X E) (hkw : PK X kws (tA (gX X cad) E mK))
    (hall : (backToKw pos (keywordEach kws X.env)).all (·.1.isSome) = true := by rfl) (hks : (backToKw pos (keywordEach kws X.env)).filterMap (·.1) = ks := by rfl)
    (hdb : (x == ("__debug__" : Str)) = false := by decide)
    (hpl : ((backTo pos (starEach [] X.env)).any (·.1) || (backToKw pos (keywordEach kws X.env)).any (·.1.isNone)) = false := by rfl) :
    PE X (.Call (.Name x p) [] kws pos) (tM (gX X cad) E (cCallK cNil mK gD F)) := by
  refine ⟨fun pins s σ H Q I h => ?_⟩
  obtain ⟨ρ, es, st, sr, sl, p⟩ := h
  refine wpAny_Call_Name_kw (ld_glob I hg hm ?_ hdb)
  refine PySem.W.callWith_KW0 (h₀ := X.base) I.ok.mod.kin hk hall ?_ hpl
  have q : tA (gX X cad) E mK σ H (fun zs H2 => spF (gX X cad) F (gV [] zs) H2 Q E) := ⟨ρ, es, st, sr, sl, PoE.bind (rel' := Reps (gX X cad)) (show PoE (gX X cad) ρ H E (Rep (gX X cad)) Q ((mK es st).bind fun zs s => F (gD [] zs) s) from p) fun ρ2 H2 ys ws st2 e2 t2 sr2 ry p2 =>
    ⟨ρ2, st2, _, sr2, hgd _ _ _ _ _ _ reps_nil ry, p2⟩⟩
  refine thn (hkw.run pos pins s σ H _ I q) fun ws s2 ⟨zs, H2, I2, rz, q2⟩ => ⟨I2.kIn, ?_⟩
  rw [hks]
  exact run_fnk (vs := []) Fo hr hb hx I2 .nil rz q2
/-- C(..) -/
def cMake (c : Nat) (mA : M (List D)) (F : List D → S → R D) : M D := fun es st => (mA es st).bind fun ds s => (F (.loc s.length :: ds) (s ++ [.ins c []])).bind fun d s2 => match d with
  | .non => .ok (.loc s.length) s2
  | _ => .bad
/-- o.f, a property -/
def propD (c : Nat) (F : List D → S → R D) (d : D) (s : S) : R D := match d with
  | .loc n => match getI s n with
    | some (c', _) => if c' = c then F [.loc n] s else .bad
    | none => .bad
  | _ => .bad
end
end Z
end
section
set_option Elab.async false
set_option linter.all false
set_option maxRecDepth 100000
set_option maxHeartbeats 4000000
/-! Z7: statements, loops, defs. -/
namespace Z
open PySem PySem.Spec PyProof.Rows L2

inductive Out where
  | nx (e : Ev) | rt (d : D) | bk (e : Ev) | ct (e : Ev)
def PoS (g : G) (ρ : List Addr) (H : Hp) (E : XK) (Dn : Ends) : R Out → Prop
  | .ok (.nx e) st => ∀ ρ' H' σ', ρ <+: ρ' → TLe g H H' → SR g ρ' st H' → Slo g ρ' H' e σ' → Dn.nx σ' H'
  | .ok (.rt d) st => ∀ ρ' H' v, ρ <+: ρ' → TLe g H H' → SR g ρ' st H' → Rep g ρ' H' d v → Dn.rt v H'
  | .ok (.bk e) st => ∀ ρ' H' σ', ρ <+: ρ' → TLe g H H' → SR g ρ' st H' → Slo g ρ' H' e σ' → Dn.bk σ' H'
  | .ok (.ct e) st => ∀ ρ' H' σ', ρ <+: ρ' → TLe g H H' → SR g ρ' st H' → Slo g ρ' H' e σ' → Dn.ct σ' H'
  | .exc c fs st => ∀ ρ' H' d, ρ <+: ρ' → TLe g H H' → SR g ρ' st H' → RepX g ρ' H' fs d → E (.ref (g.cad c)) d H'
  | .bad => False
def tS (g : G) (E : XK) (m : M Out) : TS := fun Dn σ H => ∃ ρ es st, SR g ρ st H ∧ Slo g ρ H es σ ∧ PoS g ρ H E Dn (m es st)
section
variable {g : G} {ρ ρ' : List Addr} {H H' : Hp} {E : XK} {Dn Dn' : Ends} {α β : Type} {rel : List Addr → Hp → α → β → Prop} {Q : β → Hp → Prop}
theorem PoS.mono {r : R Out} (p : PoS g ρ H E Dn r) (e : ρ <+: ρ') (t : TLe g H H') : PoS g ρ' H' E Dn r := by
  cases r with
  | ok o st => cases o with
    | rt d => exact fun ρ2 H2 b e2 t2 s r => p ρ2 H2 b (e.trans e2) (t.trans t2) s r
    | _ => exact fun ρ2 H2 b e2 t2 s r => p ρ2 H2 b (e.trans e2) (t.trans t2) s r
  | exc c fs st => exact fun ρ2 H2 d e2 t2 s r => p ρ2 H2 d (e.trans e2) (t.trans t2) s r
  | bad => exact p
/-- an expression, then a statement -/
theorem PoS.bind {r : R α} {f : α → S → R Out} (p : PoS g ρ H E Dn (r.bind f))
    (k : ∀ ρ' H' a b st, ρ <+: ρ' → TLe g H H' → SR g ρ' st H' → rel ρ' H' a b → PoS g ρ' H' E Dn (f a st) → Q b H') : PoE g ρ H E rel Q r := by
  cases r with
  | ok a st => exact fun ρ' H' b e t s r => k ρ' H' a b st e t s r (PoS.mono p e t)
  | exc c fs st => exact p
  | bad => exact p
/-- a statement, then what its outcome asks -/
theorem PoS.then {r : R Out} {f : Out → S → R Out} (p : PoS g ρ H E Dn (r.bind f))
    (kn : ∀ e ρ' H' σ' st, ρ <+: ρ' → TLe g H H' → SR g ρ' st H' → Slo g ρ' H' e σ' → PoS g ρ' H' E Dn (f (.nx e) st) → Dn'.nx σ' H')
    (kr : ∀ d ρ' H' v st, ρ <+: ρ' → TLe g H H' → SR g ρ' st H' → Rep g ρ' H' d v → PoS g ρ' H' E Dn (f (.rt d) st) → Dn'.rt v H')
    (kb : ∀ e ρ' H' σ' st, ρ <+: ρ' → TLe g H H' → SR g ρ' st H' → Slo g ρ' H' e σ' → PoS g ρ' H' E Dn (f (.bk e) st) → Dn'.bk σ' H')
    (kc : ∀ e ρ' H' σ' st, ρ <+: ρ' → TLe g H H' → SR g ρ' st H' → Slo g ρ' H' e σ' → PoS g ρ' H' E Dn (f (.ct e) st) → Dn'.ct σ' H') : PoS g ρ H E Dn' r := by
  cases r with
  | ok o st => cases o with
    | nx e => exact fun ρ' H' b e1 t s r => kn e ρ' H' b st e1 t s r (PoS.mono p e1 t)
    | rt d => exact fun ρ' H' b e1 t s r => kr d ρ' H' b st e1 t s r (PoS.mono p e1 t)
    | bk e => exact fun ρ' H' b e1 t s r => kb e ρ' H' b st e1 t s r (PoS.mono p e1 t)
    | ct e => exact fun ρ' H' b e1 t s r => kc e ρ' H' b st e1 t s r (PoS.mono p e1 t)
  | exc c fs st => exact p
  | bad => exact p
theorem PoS.nx {e : Ev} {st : S} {σ : L2.St} (p : PoS g ρ H E Dn (.ok (.nx e) st)) (s : SR g ρ st H) (sl : Slo g ρ H e σ) : Dn.nx σ H := p ρ H σ (List.prefix_refl _) TLe.refl s sl
theorem PoS.rt {d : D} {st : S} {v : V} (p : PoS g ρ H E Dn (.ok (.rt d) st)) (s : SR g ρ st H) (sl : Rep g ρ H d v) : Dn.rt v H := p ρ H v (List.prefix_refl _) TLe.refl s sl
end

/-! ### small statements -/
def sNext : M Out := fun es st => .ok (.nx es) st
def sBreak : M Out := fun es st => .ok (.bk es) st
def sSeq (a b : M Out) : M Out := fun es st => (a es st).bind fun o s => match o with
  | .nx e => b e s
  | o => .ok o s
def sDrop (m : M D) : M Out := fun es st => (m es st).bind fun _ s => .ok (.nx es) s
def sRet (m : M D) : M Out := fun es st => (m es st).bind fun d s => .ok (.rt d) s
def sRetN : M Out := fun _ st => .ok (.rt .non) st
section
variable {X : Cx} {cad : Nat → Addr} {E : XK} {st : Stmt} {rest a b : List Stmt} {e c : Expr} {m : M D} {ma mb : M Out} {mt : M Bool} {pos : Pos}
theorem s_nil : PSs X [] (tS (gX X cad) E sNext) := PSs.imp pss_nil fun Dn σ H h => by
  obtain ⟨ρ, es, st, sr, sl, p⟩ := h
  exact PoS.nx p sr sl
theorem s_cons (h1 : PS X st (tS (gX X cad) E ma)) (h2 : PSs X rest (tS (gX X cad) E mb)) : PSs X (st :: rest) (tS (gX X cad) E (sSeq ma mb)) := PSs.imp (pss_cons h1 h2) fun Dn σ H h => by
  obtain ⟨ρ, es, s0, sr, sl, p⟩ := h
  refine ⟨ρ, es, s0, sr, sl, PoS.then (Dn' := { Dn with nx := tS (gX X cad) E mb Dn }) p (fun e1 ρ1 H1 σ1 s1 x1 t1 sr1 sl1 p1 => ⟨ρ1, e1, s1, sr1, sl1, p1⟩) (fun d ρ1 H1 v s1 x1 t1 sr1 r1 p1 => p1.rt sr1 r1)
    (fun e1 ρ1 H1 σ1 s1 x1 t1 sr1 sl1 p1 => p1 ρ1 H1 σ1 (List.prefix_refl _) TLe.refl sr1 sl1) (fun e1 ρ1 H1 σ1 s1 x1 t1 sr1 sl1 p1 => p1 ρ1 H1 σ1 (List.prefix_refl _) TLe.refl sr1 sl1)⟩
theorem s_one (h1 : PS X st (tS (gX X cad) E ma)) : PSs X [st] (tS (gX X cad) E ma) := pss_one h1
theorem s_expr (he : PE X e (tM (gX X cad) E m)) (hs : swapsWith e none pos.line X.env = pure false := by rfl) : PS X (.Expr e pos) (tS (gX X cad) E (sDrop m)) := PS.imp (ps_expr he hs) fun Dn σ H h => by
  obtain ⟨ρ, es, st, sr, sl, p⟩ := h
  exact ⟨ρ, es, st, sr, sl, p.bind fun ρ1 H1 x v1 st1 e1 t1 sr1 rx p1 => p1.nx sr1 (sl.mono e1 t1)⟩
theorem s_ret (he : PE X e (tM (gX X cad) E m)) : PS X (.Return (some e) pos) (tS (gX X cad) E (sRet m)) := PS.imp (ps_ret he) fun Dn σ H h => by
  obtain ⟨ρ, es, st, sr, sl, p⟩ := h
  exact ⟨ρ, es, st, sr, sl, p.bind fun ρ1 H1 x v1 st1 e1 t1 sr1 rx p1 => p1.rt sr1 rx⟩
theorem s_if (hc : PT X c (tT (gX X cad) E mt)) (ha : PSs X a (tS (gX X cad) E ma)) (hb : PSs X b (tS (gX X cad) E mb)) : PS X (.If c a b pos) (tS (gX X cad) E (cIf mt ma mb)) := PS.imp (ps_if hc ha hb) fun Dn σ H h => by
  obtain ⟨ρ, es, st, sr, sl, p⟩ := h
  refine ⟨ρ, es, st, sr, sl, p.bind fun ρ1 H1 k v1 st1 e1 t1 sr1 rx p1 => ?_⟩
  subst rx
  cases k with
  | true => exact iteT ⟨ρ1, es, st1, sr1, sl.mono e1 t1, p1⟩
  | false => exact iteF ⟨ρ1, es, st1, sr1, sl.mono e1 t1, p1⟩
end

/-! ### targets -/
def setN (i : Nat) : Ev → D → Option Ev := fun es d => some (es.set i (some d))
def gOf : List Nat → TGs
  | [] => gNil
  | i :: is => gCons (gName i) (gOf is)
def TgR (g : G) (tg : TG) (set : Ev → D → Option Ev) : Prop := ∀ ρ st H es es1 d v σ (Q : L2.St → Hp → Prop), SR g ρ st H → Slo g ρ H es σ → Rep g ρ H d v → set es d = some es1 → (∀ σ1, Slo g ρ H es1 σ1 → Q σ1 H) → tg v σ H Q
structure PGd (X : Cx) (cad : Nat → Addr) (target : Expr) (set : Ev → D → Option Ev) : Prop where
  ex : ∃ tg, PG X target tg ∧ TgR (gX X cad) tg set
section
variable {X : Cx} {cad : Nat → Addr} {E : XK} {x : Str} {pos : Pos}
theorem g_name {i : Nat} (hN : X.N.Nodup) (hi : X.N[i]? = some x := by rfl) (hx : Loc X.env.scope x := by first | exact Or.inl rfl | exact Or.inr rfl) (hf : X.fn x = true ∨ X.env.scope.names.lookup x = some .local := by first | exact .inl rfl | exact .inr rfl | assumption) : PGd X cad (.Name x pos) (setN i) :=
  ⟨_, pg_name hN hi hx hf, fun ρ st H es es1 d v σ Q sr sl r e q => by
    cases e
    exact q _ (sl.set i r)⟩
def sAsg (set : Ev → D → Option Ev) (m : M D) : M Out := fun es st => (m es st).bind fun d s => match set es d with
  | some e => .ok (.nx e) s
  | none => .bad
def sSet (i : Nat) (m : M D) : M Out := fun es st => (m es st).bind fun d s => .ok (.nx (es.set i (some d))) s
variable {e o ie : Expr} {m mo mi : M D} {tg : Expr}
theorem s_set {i : Nat} {pos' : Pos} (hN : X.N.Nodup) (he : PE X e (tM (gX X cad) E m)) (hi : X.N[i]? = some x := by rfl) (hx : Loc X.env.scope x := by first | exact Or.inl rfl | exact Or.inr rfl) (hs : swapsWith e (some (.Name x pos')) pos.line X.env = pure false := by rfl)
    (hf : X.fn x = true ∨ X.env.scope.names.lookup x = some .local := by first | exact .inl rfl | exact .inr rfl | assumption) : PS X (.Assign [.Name x pos'] e pos) (tS (gX X cad) E (sSet i m)) := PS.imp (ps_set hN hi hx he hs hf) fun Dn σ H h => by
  obtain ⟨ρ, es, st, sr, sl, p⟩ := h
  exact ⟨ρ, es, st, sr, sl, p.bind fun ρ1 H1 d v1 st1 e1 t1 sr1 rx p1 => p1.nx sr1 ((sl.mono e1 t1).set i rx)⟩
/-- o[i] = e, a list -/
def setIx (o i v : D) (s : S) : R Unit := match o, i with
  | .loc n, .int k => match getW s n with
    | some xs => match ixN xs.length k with
      | some j => .ok () (s.set n (.lst (xs.set j v)))
      | none => .bad
    | none => .bad
  | _, _ => .bad
def sSub (mo mi m : M D) : M Out := fun es st => (m es st).bind fun v s => (mo es s).bind fun o s => (mi es s).bind fun i s => (setIx o i v s).bind fun _ s => .ok (.nx es) s
theorem s_sub {p2 : Pos} (he : PE X e (tM (gX X cad) E m)) (ho : PE X o (tM (gX X cad) E mo)) (hi : PE X ie (tM (gX X cad) E mi))
    (ha : ∀ v, assign (.Subscript o ie p2) X.env v = (do
      let ov ← holding [v] (eval o X.env)
      let iv ← holding [v, ov] (eval ie X.env)
      standAt p2
      holding [v, ov, iv] (setItem ov iv v)
      release [v, ov, iv] []) := by intro _; rfl)
    (hs : swapsWithSole [.Subscript o ie p2] e pos.line X.env = pure false := by rfl) (hw : swappedStores [.Subscript o ie p2] e X.env = pure none := by rfl)
    (h1 : (assignEach [.Subscript o ie p2] X.env).map (·.2) = [assign (.Subscript o ie p2) X.env] := by rfl) : PS X (.Assign [.Subscript o ie p2] e pos) (tS (gX X cad) E (sSub mo mi m)) := by
  refine PS.imp (ps_asg he (pg_sub ho hi set_list ha) hs hw h1) fun Dn σ H h => ?_
  obtain ⟨ρ, es, st, sr, sl, p⟩ := h
  refine ⟨ρ, es, st, sr, sl, p.bind fun ρ1 H1 d v1 st1 e1 t1 sr1 rx p1 => ⟨ρ1, es, st1, sr1, sl.mono e1 t1, p1.bind fun ρ2 H2 od v2 st2 e2 t2 sr2 ro p2 => ⟨ρ2, es, st2, sr2, (sl.mono e1 t1).mono e2 t2, p2.bind fun ρ3 H3 id v3 st3 e3 t3 sr3 ri p3 => ?_⟩⟩⟩
  have rx3 := (rx.mono e2 t2).mono e3 t3
  have ro3 := ro.mono e3 t3
  have sl3 := ((sl.mono e1 t1).mono e2 t2).mono e3 t3
  unfold setIx at p3
  split at p3
  · split at p3
    · rename_i xs ex
      split at p3
      · rename_i j ej
        obtain ⟨a, ws, rfl, q0, h1, h2⟩ := sr3.locW ro3 ex
        cases ri.int
        have t4 : TLe (gX X cad) H3 (upd H3 a (.lst (ws.set j v1))) := TLe.put h1 (fun _ z => nomatch z) (fun _ _ z => nomatch z)
        refine ⟨a, ws, _, j, rfl, rfl, h1, by rw [h2.length]; exact ej, ?_⟩
        exact PoS.nx (PoS.mono p3 (List.prefix_refl _) t4) (sr3.put q0 (getW_eq ex) (fun _ z => nomatch z) h1 (fun _ z => nomatch z) (fun _ _ z => nomatch z) ⟨_, upd_same, (Reps.set rx3 j h2).mono (List.prefix_refl _) t4⟩) (sl3.mono (List.prefix_refl _) t4)
      · exact p3.elim
    · exact p3.elim
  · exact p3.elim
/-- o.f = e -/
def setF (c : Nat) (f : Str) (o v : D) (s : S) : R Unit := match o with
  | .loc n => match getI s n with
    | some (c', fs) => if c' = c ∧ fs.length < 1000 then .ok () (s.set n (.ins c (putD f v fs))) else .bad
    | none => .bad
  | _ => .bad
def sFldD (c : Nat) (f : Str) (mo m : M D) : M Out := fun es st => (m es st).bind fun v s => (mo es s).bind fun o s => (setF c f o v s).bind fun _ s => .ok (.nx es) s
end
end Z
end
section
set_option Elab.async false
set_option linter.all false
set_option maxRecDepth 100000
set_option maxHeartbeats 4000000
/-! Z8: loops, defs. -/
namespace Z
open PySem PySem.Spec PyProof.Rows L2

/-- what follows a turn's outcome -/
def afterTurn (k : Ev → S → R Out) : Out → S → R Out
  | .nx e, s => k e s
  | .ct e, s => k e s
  | .bk e, s => .ok (.nx e) s
  | .rt d, s => .ok (.rt d) s
/-- over items that stand -/
def forT (set : Ev → D → Option Ev) (b : M Out) : List D → M Out
  | [], es, st => .ok (.nx es) st
  | d :: ds, es, st => match set es d with
    | some es1 => (b es1 st).bind (afterTurn (forT set b ds))
    | none => .bad
/-- over a list as it stands at each turn -/
def forL (set : Ev → D → Option Ev) (b : M Out) (n : Nat) : Nat → Nat → M Out
  | 0, _, _, _ => .bad
  | k + 1, i, es, st => match getL st n with
    | none => .bad
    | some xs => match xs[i]? with
      | none => .ok (.nx es) st
      | some d => match set es d with
        | some es1 => (b es1 st).bind (afterTurn (forL set b n k (i + 1)))
        | none => .bad
def sFor (m : M D) (set : Ev → D → Option Ev) (b : M Out) : M Out := fun es st => (m es st).bind fun d s => match d with
  | .tup xs => forT set b xs es s
  | .loc n => forL set b n 1000000 0 es s
  | _ => .bad
def rangeD (lo : Int) (n : Nat) : List D := (List.range n).map fun k => D.int (lo + (k : Nat))
def sForR1 (mA : M (List D)) (set : Ev → D → Option Ev) (b : M Out) : M Out := fun es st => (mA es st).bind fun ds s => match ds with
  | [.int j] => if -(2 ^ 62) ≤ j ∧ j < 2 ^ 62 then forT set b (rangeD 0 j.toNat) es s else .bad
  | _ => .bad
def sForR2 (mA : M (List D)) (set : Ev → D → Option Ev) (b : M Out) : M Out := fun es st => (mA es st).bind fun ds s => match ds with
  | [.int i, .int j] => if (-(2 ^ 62) ≤ i ∧ i < 2 ^ 62) ∧ -(2 ^ 62) ≤ j ∧ j < 2 ^ 62 then forT set b (rangeD i (j - i).toNat) es s else .bad
  | _ => .bad
section
variable {X : Cx} {cad : Nat → Addr} {E : XK} {tg iter c : Expr} {body : List Stmt} {set : Ev → D → Option Ev} {m : M D} {mA : M (List D)} {b : M Out} {mc : M Bool} {pos : Pos}
/-- a turn's outcome -/
theorem turn_ok {g : G} {ρ : List Addr} {H : Hp} {Dn : Ends} {r : R Out} {k : Ev → S → R Out} {N : L2.St → Hp → Prop} (p : PoS g ρ H E Dn (r.bind (afterTurn k)))
    (hN : ∀ e ρ' H' σ' st, ρ <+: ρ' → TLe g H H' → SR g ρ' st H' → Slo g ρ' H' e σ' → PoS g ρ' H' E Dn (k e st) → N σ' H') : PoS g ρ H E { Dn with nx := N, ct := N, bk := Dn.nx } r :=
  PoS.then p hN (fun d ρ1 H1 v s1 x1 t1 sr1 r1 p1 => p1.rt sr1 r1) (fun e1 ρ1 H1 σ1 s1 x1 t1 sr1 sl1 p1 => p1.nx sr1 sl1) hN
/-- the items stand: J's turns are those of xs -/
theorem forT_W (J : It) {tgr : TG} {g : G} {Dn : Ends} {xs : List D} (ht : TgR g tgr set) (P : Hp → Prop) {ρ : List Addr} (hP : ∀ H H', TLe g H H' → P H → P H')
    (hg : ∀ i H d, xs[i]? = some d → P H → J.go i H) (hs : ∀ H, P H → J.stop xs.length H) (hy : ∀ i H d v H' ρ0, ρ <+: ρ0 → xs[i]? = some d → P H → J.yld i H v H' → H' = H ∧ Rep g ρ0 H d v)
    {H : Hp} {es : Ev} {st : S} {σ : L2.St} (sr : SR g ρ st H) (sl : Slo g ρ H es σ) (hp : P H) (p : PoS g ρ H E Dn (forT set b xs es st)) :
    ∃ W : Nat → Nat → L2.St → Hp → Prop, (∃ m, W 0 m σ H) ∧ ∀ i m σ H, W i m σ H → (J.stop i H ∧ Dn.nx σ H) ∨ (J.go i H ∧ ∃ N : L2.St → Hp → Prop, (∀ σ' H', N σ' H' → ∃ m', m' < m ∧ W (i + 1) m' σ' H') ∧
      ∀ x H', J.yld i H x H' → tgr x σ H' fun σ2 H2 => tS g E b { Dn with nx := N, ct := N, bk := Dn.nx } σ2 H2) := by
  refine ⟨fun i m σ H => i + m = xs.length ∧ P H ∧ ∃ ρ1 es st, ρ <+: ρ1 ∧ SR g ρ1 st H ∧ Slo g ρ1 H es σ ∧ PoS g ρ1 H E Dn (forT set b (xs.drop i) es st), ⟨xs.length, by omega, hp, ρ, es, st, List.prefix_refl _, sr, sl, p⟩, ?_⟩
  rintro i m σ1 H1 ⟨him, hp1, ρ1, es1, st1, pre, sr1, sl1, p1⟩
  cases hd : xs[i]? with
  | none =>
    have hi : xs.length ≤ i := List.getElem?_eq_none_iff.mp hd
    have ei : i = xs.length := by omega
    subst ei
    rw [List.drop_length] at p1
    exact .inl ⟨hs H1 hp1, PoS.nx p1 sr1 sl1⟩
  | some d =>
    have hi : i < xs.length := (List.getElem?_eq_some_iff.mp hd).1
    have ed : xs.drop i = d :: xs.drop (i + 1) := by
      rw [List.drop_eq_getElem_cons hi, (List.getElem?_eq_some_iff.mp hd).2]
    rw [ed] at p1
    unfold forT at p1
    refine .inr ⟨hg i H1 d hd hp1, fun σ' H' => P H' ∧ ∃ ρ2 es2 st2, ρ <+: ρ2 ∧ SR g ρ2 st2 H' ∧ Slo g ρ2 H' es2 σ' ∧ PoS g ρ2 H' E Dn (forT set b (xs.drop (i + 1)) es2 st2), fun σ' H' h => ⟨m - 1, by omega, by omega, h⟩, fun x H' hyl => ?_⟩
    obtain ⟨eH, rx⟩ := hy i H1 d x H' ρ1 pre hd hp1 hyl
    subst eH
    split at p1
    · rename_i es2 e2
      refine ht _ _ _ _ _ _ _ _ _ sr1 sl1 rx e2 fun σ2 sl2 => ?_
      exact ⟨ρ1, es2, st1, sr1, sl2, turn_ok p1 fun e3 ρ3 H3 σ3 st3 x3 t3 sr3 sl3 p3 => ⟨hP _ _ t3 hp1, ρ3, e3, st3, pre.trans x3, sr3, sl3, p3⟩⟩
    · exact p1.elim
/-- for over a value -/
theorem s_for (hp : PassesOwn (model X.prog X.w) X.A X.env X.xe) (hc : X.calm = true) (he : PE X iter (tM (gX X cad) E m)) (hg : PGd X cad tg set) (hb : PSs X body (tS (gX X cad) E b)) (hs : ∀ x, foldedSetIterable iter X.env x = pure x := by intro _; rfl) : PS X (.For tg iter body [] pos) (tS (gX X cad) E (sFor m set b)) := by
  obtain ⟨t, h2, h3⟩ := hg.ex
  refine ⟨fun pins s σ H Dn I h => ?_⟩
  obtain ⟨ρ, es, st, sr, sl, p⟩ := h
  unfold sFor at p
  cases hm : m es st with
  | ok d s1 =>
    rw [hm] at p
    simp only [R.bind] at p
    split at p
    · rename_i xs
      refine (ps_for hp hc (pi_tup he) h2 hb hs).run pins s σ H Dn I ⟨ρ, es, st, sr, sl, ?_⟩
      rw [hm]
      intro ρ1 H1 v e1 t1 sr1 rx
      obtain ⟨a, vs, rfl, k1, k2⟩ := rx.tup
      refine ⟨a, rfl, ⟨vs, k1⟩, forT_W (Itt X.K a) (xs := xs) h3 (fun H => SqT X.K H a vs ∧ ∀ ρ0, ρ1 <+: ρ0 → Reps (gX X cad) ρ0 H xs vs) (fun H H' tl h => ⟨tl.tup _ _ h.1, fun ρ0 e => (h.2 ρ0 e).mono (List.prefix_refl _) tl⟩) (fun i H d hd h => ?_)
        (fun H h => ⟨vs, h.1, by rw [(h.2 _ (List.prefix_refl _)).length]; exact Nat.le_refl _⟩) (fun i H d v H' ρ0 e0 hd h hy => ?_) sr1 (sl.mono e1 t1) ⟨k1, fun ρ0 e => k2.mono e TLe.refl⟩ (p.mono e1 t1)⟩
      · obtain ⟨w, w1, _⟩ := (h.2 _ (List.prefix_refl _)).get hd
        exact ⟨vs, w, h.1, w1⟩
      · obtain ⟨w, w1, w2⟩ := (h.2 _ e0).get hd
        have e5 := hy.2 vs h.1
        rw [w1] at e5
        cases e5
        exact ⟨hy.1, w2⟩
    · rename_i n
      refine (ps_for hp hc (pi_list he) h2 hb hs).run pins s σ H Dn I ⟨ρ, es, st, sr, sl, ?_⟩
      rw [hm]
      intro ρ1 H1 v e1 t1 sr1 rx
      obtain ⟨a, q0, rfl⟩ := rx.loc
      have p1 := p.mono e1 t1
      have hx : ∃ vs, SqL X.K H1 a vs := by
        unfold forL at p1
        split at p1
        · exact p1.elim
        · rename_i xs ex
          obtain ⟨a', vs, w1, h1, _⟩ := sr1.getL ex
          rw [q0] at w1
          cases w1
          exact ⟨vs, h1⟩
      refine ⟨a, rfl, hx, fun i m σ H => ∃ ρ2 es2 st2, ρ2[n]? = some a ∧ SR (gX X cad) ρ2 st2 H ∧ Slo (gX X cad) ρ2 H es2 σ ∧ PoS (gX X cad) ρ2 H E Dn (forL set b n m i es2 st2), ⟨1000000, ρ1, es, s1, q0, sr1, sl.mono e1 t1, p1⟩, ?_⟩
      rintro i m σ2 H2 ⟨ρ2, es2, st2, q2, sr2, sl2, p2⟩
      cases m with
      | zero => exact p2.elim
      | succ m =>
        unfold forL at p2
        split at p2
        · exact p2.elim
        · rename_i xs ex
          obtain ⟨a', vs, w1, h1, k2⟩ := sr2.getL ex
          rw [q2] at w1
          cases w1
          split at p2
          · rename_i en
            exact .inl ⟨⟨vs, h1, by rw [k2.length]; exact List.getElem?_eq_none_iff.mp en⟩, PoS.nx p2 sr2 sl2⟩
          · rename_i d ed
            obtain ⟨w, w1, w2⟩ := k2.get ed
            refine .inr ⟨⟨vs, w, h1, w1⟩, fun σ' H' => ∃ ρ3 es3 st3, ρ3[n]? = some a ∧ SR (gX X cad) ρ3 st3 H' ∧ Slo (gX X cad) ρ3 H' es3 σ' ∧ PoS (gX X cad) ρ3 H' E Dn (forL set b n m (i + 1) es3 st3), fun σ' H' h => ⟨m, Nat.lt_succ_self _, h⟩, fun x H' hyl => ?_⟩
            obtain ⟨rfl, hy2⟩ := hyl
            have e5 := hy2 vs h1
            rw [w1] at e5
            cases e5
            split at p2
            · rename_i es3 e3
              refine h3 _ _ _ _ _ _ _ _ _ sr2 sl2 w2 e3 fun σ3 sl3 => ?_
              exact ⟨ρ2, es3, st2, sr2, sl3, turn_ok p2 fun e4 ρ4 H4 σ4 st4 x4 t4 sr4 sl4 p4 => ⟨ρ4, e4, st4, pre_get x4 q2, sr4, sl4, p4⟩⟩
            · exact p2.elim
    · exact p.elim
  | exc c fs s1 =>
    refine (ps_for hp hc (pi_tup he) h2 hb hs).run pins s σ H Dn I ⟨ρ, es, st, sr, sl, ?_⟩
    rw [hm] at p ⊢
    exact p
  | bad =>
    rw [hm] at p
    exact p.elim
theorem rangeD_get {lo : Int} {n i : Nat} {d : D} (h : (rangeD lo n)[i]? = some d) : i < n ∧ d = .int (lo + (i : Nat)) := by
  unfold rangeD at h
  rw [List.getElem?_map] at h
  cases e : (List.range n)[i]? with
  | none => rw [e] at h; cases h
  | some k =>
    rw [e] at h
    obtain ⟨h1, h2⟩ := List.getElem?_eq_some_iff.mp e
    rw [List.length_range] at h1
    rw [List.getElem_range] at h2
    subst h2
    exact ⟨h1, (Option.some.inj h).symm⟩
theorem rangeD_len {lo : Int} {n : Nat} : (rangeD lo n).length = n := by
  unfold rangeD
  rw [List.length_map, List.length_range]
theorem rng_W {tgr : TG} {Dn : Ends} {lo : Int} {n : Nat} (ht : TgR (gX X cad) tgr set) {ρ : List Addr} {H : Hp} {es : Ev} {st : S} {σ : L2.St} (sr : SR (gX X cad) ρ st H) (sl : Slo (gX X cad) ρ H es σ) (p : PoS (gX X cad) ρ H E Dn (forT set b (rangeD lo n) es st)) :
    ∃ W : Nat → Nat → L2.St → Hp → Prop, (∃ m, W 0 m σ H) ∧ ∀ i m σ H, W i m σ H → ((Itr lo n).stop i H ∧ Dn.nx σ H) ∨ ((Itr lo n).go i H ∧ ∃ N : L2.St → Hp → Prop, (∀ σ' H', N σ' H' → ∃ m', m' < m ∧ W (i + 1) m' σ' H') ∧
      ∀ x H', (Itr lo n).yld i H x H' → tgr x σ H' fun σ2 H2 => tS (gX X cad) E b { Dn with nx := N, ct := N, bk := Dn.nx } σ2 H2) :=
  forT_W (Itr lo n) (xs := rangeD lo n) ht (fun _ => True) (fun _ _ _ _ => True.intro) (fun i H d hd _ => (rangeD_get hd).1) (fun H _ => by rw [rangeD_len]; exact Nat.le_refl _) (fun i H d v H' ρ0 _ hd _ hy => by
      obtain ⟨_, rfl⟩ := rangeD_get hd
      rw [hy.2]
      exact ⟨hy.1, rep_int⟩) sr sl True.intro p
theorem s_forR1 {a : Expr} {p1 p2 : Pos} (hp : PassesOwn (model X.prog X.w) X.A X.env X.xe) (hc : X.calm = true) (hgr : Gl X "range") (hmr : X.mg "range" = none) (ha : PA X [a] (tA (gX X cad) E mA)) (hg : PGd X cad tg set) (hb : PSs X body (tS (gX X cad) E b))
    (hs : starEach [a] X.env = [(false, eval a X.env)] := by rfl) : PS X (.For tg (.Call (.Name "range" p1) [a] [] p2) body [] pos) (tS (gX X cad) E (sForR1 mA set b)) := by
  obtain ⟨t, h2, h3⟩ := hg.ex
  refine PS.imp (ps_for hp hc (pi_range1 hgr hmr ha hs) h2 hb) fun Dn σ H h => ?_
  obtain ⟨ρ, es, st, sr, sl, p⟩ := h
  refine ⟨ρ, es, st, sr, sl, p.bind fun ρ1 H1 ds vs s1 e1 t1 sr1 rx p1 => ?_⟩
  split at p1
  · split at p1
    · rename_i hz
      obtain ⟨v, rfl, r1⟩ := rx.uno
      exact ⟨_, by rw [r1.int], hz.1, hz.2, rng_W h3 sr1 (sl.mono e1 t1) p1⟩
    · exact p1.elim
  · exact p1.elim
end

/-! ### defs -/
def fnD (N n : Nat) (b : M Out) : List D → S → R D := fun ds st => if ds.length = n then (b (ds.map some ++ List.replicate (N - n) none) st).bind fun o s => match o with
    | .rt d => .ok d s
    | .nx _ => .ok .non s
    | _ => .bad
  else .bad
theorem start_slo {g : G} {ρ : List Addr} {H : Hp} {ds : List D} {vs : List V} (r : Reps g ρ H ds vs) (N : List Str) : Slo g ρ H (ds.map some ++ List.replicate (N.length - ds.length) none) (L2.start N vs) := by
  unfold L2.start
  refine ⟨by simp [r.length], fun i d e => ?_⟩
  by_cases hi : i < ds.length
  · rw [List.getElem?_append_left (by rw [List.length_map]; exact hi), List.getElem?_map] at e
    cases q : ds[i]? with
    | none => rw [q] at e; cases e
    | some d' =>
      rw [q] at e
      cases e
      obtain ⟨v, q1, q2⟩ := r.get q
      refine ⟨v, ?_, q2⟩
      rw [List.getElem?_append_left (by rw [List.length_map, r.length]; exact hi), List.getElem?_map, q1]
      rfl
  · rw [List.getElem?_append_right (by rw [List.length_map]; omega), List.getElem?_replicate] at e
    split at e <;> cases e
section
variable {P : Program} {w : World} {K : PySem.W.Frag} {mg : Str → Option Value} {base : Heap} {cad : Nat → Addr}
theorem fn_ok {x qual : Str} {st : Stmt} {f : Addr} {fd : FuncData} {N ps : List Str} {k : Nat} {b : M Out} (F : Fun K x qual st f fd) (Sc : FnScope N ps (defScope st))
    (hb : ∀ (cdv : Value) (A : Around) (outer : List Env) (s : Shared) (H : Hp) (E : XK), Room k (A.deeper (envOfC qual (defScope st) s.heap.objs.size f cdv)) →
      PSs (cxOf (L2.CX P w) P w K mg base N qual (defScope st) f cdv A outer s H E) (defBody st) (tS ⟨K, cad⟩ E b)) : FnOk P w K mg base (L2.CX P w) (k + 1) f fd ps (spF ⟨K, cad⟩ (fnD N.length ps.length b)) := by
  refine F.okX Sc (fun vs H Q E h => ?_) (fun cdv A outer s H vs Q E hr h => ?_)
  · obtain ⟨ρ, s0, ds, sr, rs, p⟩ := h
    unfold fnD at p
    split at p
    · rename_i hl
      rw [rs.length]
      exact hl
    · exact p.elim
  · obtain ⟨ρ, s0, ds, sr, rs, p⟩ := h
    refine ⟨_, hb cdv A outer s H E hr, ρ, _, s0, sr, start_slo rs N, ?_⟩
    unfold fnD at p
    split at p
    · rename_i hl
      rw [hl]
      cases hm : b (ds.map some ++ List.replicate (N.length - ps.length) none) s0 with
      | ok o s1 =>
        rw [hm] at p
        cases o with
        | nx e => exact fun ρ' H' σ' e1 t1 sr1 sl1 => p ρ' H' .non e1 t1 sr1 rep_non
        | rt d => exact fun ρ' H' v e1 t1 sr1 r1 => p ρ' H' v e1 t1 sr1 r1
        | bk e => exact p.elim
        | ct e => exact p.elim
      | exc c fs s1 =>
        rw [hm] at p
        exact p
      | bad =>
        rw [hm] at p
        exact p.elim
    · exact p.elim
/-- what leaves a def's body, what a call in it hands on -/
theorem own_ok {N : List Str} {qual : Str} {sc : Scope} {f : Addr} {cdv : Value} {A : Around} {outer : List Env} {s : Shared} {H : Hp} {E : XK} :
    PassesOwn (model P w) (cxOf (L2.CX P w) P w K mg base N qual sc f cdv A outer s H E).A (cxOf (L2.CX P w) P w K mg base N qual sc f cdv A outer s H E).env (cxOf (L2.CX P w) P w K mg base N qual sc f cdv A outer s H E).xe := passes_of (X := cxOf (L2.CX P w) P w K mg base N qual sc f cdv A outer s H E) rfl
theorem hand_on {N : List Str} {qual : Str} {sc : Scope} {f : Addr} {cdv : Value} {A : Around} {outer : List Env} {s : Shared} {H : Hp} {E : XK} :
    Passes (L2.CX P w) (cxOf (L2.CX P w) P w K mg base N qual sc f cdv A outer s H E) E := passes_call (X := cxOf (L2.CX P w) P w K mg base N qual sc f cdv A outer s H E) (W := fun cls d _ H => E cls d H) (takes_of rfl rfl rfl rfl) (fun _ _ _ _ h => h)
end
end Z
end
section
set_option Elab.async false
set_option linter.all false
set_option maxRecDepth 100000
set_option maxHeartbeats 4000000
/-! Z9: comprehensions. -/
namespace Z
open PySem PySem.Spec PyProof.Rows L2

def wipeD (es : Ev) : List Nat → Ev
  | [] => es
  | v :: vs => (wipeD es vs).set v none
/-- an item is added to the list at n -/
def addIt (n : Nat) (y : D) (s : S) : R Unit := match getW s n with
  | some acc => if acc.length < 1000000 then .ok () (s.set n (.lst (acc ++ [y]))) else .bad
  | none => .bad
def compTurn (n : Nat) (mt : M Bool) (me : M D) : M Unit := fun es st => (mt es st).bind fun k s => match k with
  | true => (me es s).bind fun y s => addIt n y s
  | false => .ok () s
def compT (n : Nat) (set : Ev → D → Option Ev) (mt : M Bool) (me : M D) : List D → M Unit
  | [], _, st => .ok () st
  | d :: ds, es, st => match set es d with
    | some es1 => (compTurn n mt me es1 st).bind fun _ s => compT n set mt me ds es s
    | none => .bad
def compL (n : Nat) (set : Ev → D → Option Ev) (mt : M Bool) (me : M D) (l : Nat) : Nat → Nat → M Unit
  | 0, _, _, _ => .bad
  | k + 1, i, es, st => match getL st l with
    | none => .bad
    | some xs => match xs[i]? with
      | none => .ok () st
      | some d => match set es d with
        | some es1 => (compTurn n mt me es1 st).bind fun _ s => compL n set mt me l k (i + 1) es s
        | none => .bad
/-- what raises within is not followed -/
def noX {α : Type} (r : R α) : R α := match r with
  | .ok a s => .ok a s
  | _ => .bad
def compV (set : Ev → D → Option Ev) (vs : List Nat) (mt : M Bool) (me : M D) (xs : List D) : M D := fun es s =>
  (noX (compT s.length set mt me xs (wipeD es vs) (s ++ [.lst []]))).bind fun _ s2 => .ok (.loc s.length) s2
def cComp (m : M D) (set : Ev → D → Option Ev) (vs : List Nat) (mt : M Bool) (me : M D) : M D := fun es st => (m es st).bind fun d s => match d with
  | .tup xs => compV set vs mt me xs es s
  | .loc l => (noX (compL s.length set mt me l 1000000 0 (wipeD es vs) (s ++ [.lst []]))).bind fun _ s2 => .ok (.loc s.length) s2
  | _ => .bad
def cCompR1 (mA : M (List D)) (set : Ev → D → Option Ev) (vs : List Nat) (mt : M Bool) (me : M D) : M D := fun es st => (mA es st).bind fun ds s => match ds with
  | [.int j] => if -(2 ^ 62) ≤ j ∧ j < 2 ^ 62 then compV set vs mt me (rangeD 0 j.toNat) es s else .bad
  | _ => .bad
def cCompR2 (mA : M (List D)) (set : Ev → D → Option Ev) (vs : List Nat) (mt : M Bool) (me : M D) : M D := fun es st => (mA es st).bind fun ds s => match ds with
  | [.int i, .int j] => if (-(2 ^ 62) ≤ i ∧ i < 2 ^ 62) ∧ -(2 ^ 62) ≤ j ∧ j < 2 ^ 62 then compV set vs mt me (rangeD i (j - i).toNat) es s else .bad
  | _ => .bad
def cYes : M Bool := fun _ st => .ok true st
/-- a target within own names -/
def OwnT (set : Ev → D → Option Ev) (vs : List Nat) (tg : TG) : Prop := ∀ v (σ : L2.St) H Q, tg v σ H Q → tg v σ H fun σ2 H2 => wipe σ2 vs = wipe σ vs ∧ Q σ2 H2
theorem wipe_get {σ : L2.St} {j : Nat} : ∀ {vs : List Nat}, (wipe σ vs)[j]? = if j ∈ vs ∧ j < σ.length then some none else σ[j]?
  | [] => by simp [wipe]
  | v :: vs => by
    unfold wipe
    by_cases hj : v = j
    · subst hj
      by_cases hl : v < σ.length
      · rw [List.getElem?_set_self (by rw [wipe_length]; exact hl), if_pos ⟨List.mem_cons_self .., hl⟩]
      · rw [if_neg (fun h => hl h.2), List.getElem?_eq_none (by rw [List.length_set, wipe_length]; omega), List.getElem?_eq_none (by omega)]
    · rw [List.getElem?_set_ne hj, wipe_get]
      have e : (j ∈ v :: vs) = (j ∈ vs) := by
        rw [List.mem_cons]
        exact propext ⟨fun h => h.resolve_left fun z => hj z.symm, .inr⟩
      simp only [e]
theorem wipe_set {σ : L2.St} {vs : List Nat} {i : Nat} {x : Option V} (h : i ∈ vs) : wipe (σ.set i x) vs = wipe σ vs := by
  apply List.ext_getElem?
  intro j
  rw [wipe_get, wipe_get, List.length_set]
  by_cases hj : i = j
  · subst hj
    by_cases hl : i < σ.length
    · rw [if_pos ⟨h, hl⟩, if_pos ⟨h, hl⟩]
    · rw [if_neg (fun z => hl z.2), if_neg (fun z => hl z.2), List.getElem?_eq_none (by rw [List.length_set]; omega), List.getElem?_eq_none (by omega)]
  · rw [List.getElem?_set_ne hj]
theorem wipe_wipe {σ : L2.St} {vs : List Nat} : wipe (wipe σ vs) vs = wipe σ vs := by
  apply List.ext_getElem?
  intro j
  rw [wipe_get, wipe_get, wipe_length]
  by_cases h : j ∈ vs ∧ j < σ.length
  · rw [if_pos h, if_pos h]
  · rw [if_neg h, if_neg h]
theorem wipe_slo {g : G} {ρ : List Addr} {H : Hp} {es : Ev} {σ : L2.St} (h : Slo g ρ H es σ) : ∀ vs : List Nat, Slo g ρ H (wipeD es vs) (wipe σ vs)
  | [] => h
  | v :: vs => by
    obtain ⟨h1, h2⟩ := wipe_slo h vs
    unfold wipeD wipe
    refine ⟨by rw [List.length_set, List.length_set]; exact h1, fun i d e => ?_⟩
    by_cases hv : v = i
    · subst hv
      by_cases hl : v < (wipeD es vs).length
      · rw [List.getElem?_set_self hl] at e
        cases e
      · rw [List.getElem?_eq_none (by rw [List.length_set]; omega)] at e
        cases e
    · rw [List.getElem?_set_ne hv] at e
      rw [List.getElem?_set_ne hv]
      exact h2 i d e
/-- targets of a comprehension -/
structure PGo (X : Cx) (cad : Nat → Addr) (target : Expr) (set : Ev → D → Option Ev) (tg : TG) (vs : List Nat) : Prop where
  pg : PG X target tg
  ok : TgR (gX X cad) tg set
theorem own_name {i : Nat} {vs : List Nat} (h : i ∈ vs) : OwnT (setN i) vs (gName i) := fun v σ H Q q => ⟨wipe_set h, q⟩
theorem tgr_name {g : G} {i : Nat} : TgR g (gName i) (setN i) := fun ρ st H es es1 d v σ Q sr sl r e q => by
  cases e
  exact q _ (sl.set i r)
section
variable {X : Cx} {cad : Nat → Addr} {E : XK} {elt tg iter : Expr} {ifs : List Expr} {scope : Scope} {own : List (Str × Nat)} {set : Ev → D → Option Ev} {tgr : TG} {m me : M D} {mA : M (List D)} {mt : M Bool} {pos : Pos}
theorem PoE.inner {g : G} {ρ : List Addr} {H : Hp} {α β α' β' : Type} {rel : List Addr → Hp → α → β → Prop} {rel' : List Addr → Hp → α' → β' → Prop} {Q : β → Hp → Prop} {Q' : β' → Hp → Prop} {r : R α'} {f : α' → S → R α}
    (p : PoE g ρ H (fun _ _ _ => False) rel Q (r.bind f)) (k : ∀ ρ' H' a b st, ρ <+: ρ' → TLe g H H' → SR g ρ' st H' → rel' ρ' H' a b → PoE g ρ' H' (fun _ _ _ => False) rel Q (f a st) → Q' b H') : PoE g ρ H (fun _ _ _ => False) rel' Q' r := PoE.bind p k
/-- one turn of a comprehension -/
theorem turn_comp {g : G} {ρ : List Addr} {H : Hp} {es1 : Ev} {st : S} {σ2 : L2.St} {n : Nat} {Da : Addr} {Q : VK} {Nx : Hp → Prop} {f : Unit → S → R D} (sr : SR g ρ st H) (sl : Slo g ρ H es1 σ2) (hn : ρ[n]? = some Da)
    (p : PoE g ρ H (fun _ _ _ => False) (Rep g) Q ((compTurn n mt me es1 st).bind f)) (kN : ∀ ρ' H' s', ρ <+: ρ' → TLe g H H' → SR g ρ' s' H' → PoE g ρ' H' (fun _ _ _ => False) (Rep g) Q (f () s') → Nx H') :
    tT g (fun _ _ _ => False) mt σ2 H fun b H3 => if b = true then tM g (fun _ _ _ => False) me σ2 H3 fun y H4 => ∃ acc, H4 Da = some (.lst acc) ∧ acc.length < sizeLine ∧ Nx (upd H4 Da (.lst (acc ++ [y]))) else Nx H3 := by
  unfold compTurn at p
  have p' : PoE g ρ H (fun _ _ _ => False) (Rep g) Q ((mt es1 st).bind fun k s => ((match k with
    | true => (me es1 s).bind fun y s => addIt n y s
    | false => .ok () s) : R Unit).bind f) := by
    cases hm : mt es1 st with
    | ok k s => rw [hm] at p; exact p
    | exc c fs s => rw [hm] at p; exact p
    | bad => rw [hm] at p; exact p
  refine ⟨ρ, es1, st, sr, sl, PoE.bind p' fun ρ1 H1 k v st1 e1 t1 sr1 rk p1 => ?_⟩
  subst rk
  cases k with
  | false => exact iteF (kN ρ1 H1 st1 e1 t1 sr1 p1)
  | true =>
    refine iteT ?_
    have p2 : PoE g ρ1 H1 (fun _ _ _ => False) (Rep g) Q ((me es1 st1).bind fun y s => (addIt n y s).bind f) := by
      cases hm : me es1 st1 with
      | ok k s => simp only [hm] at p1; exact p1
      | exc c fs s => simp only [hm] at p1; exact p1
      | bad => simp only [hm] at p1; exact p1
    refine ⟨ρ1, es1, st1, sr1, sl.mono e1 t1, PoE.bind p2 fun ρ2 H2 y v st2 e2 t2 sr2 ry p3 => ?_⟩
    unfold addIt at p3
    split at p3
    · rename_i acc ea
      split at p3
      · rename_i hz
        obtain ⟨a, ws, q0, h1, h2⟩ := sr2.getW ea
        have q1 := pre_get (e1.trans e2) hn
        rw [q1] at q0
        cases q0
        have t4 : TLe g H2 (upd H2 Da (.lst (ws ++ [v]))) := TLe.put h1 (fun _ z => nomatch z) (fun _ _ z => nomatch z)
        refine ⟨ws, h1, by rw [h2.length]; exact sz1 hz, kN ρ2 _ _ (e1.trans e2) ((t1.trans t2).trans t4) (sr2.put (o := .lst (acc ++ [y])) q1 (getW_eq ea) (fun _ z => nomatch z) h1 (fun _ z => nomatch z) (fun _ _ z => nomatch z) ⟨_, upd_same, ((h2.append (Reps.one ry)).mono (List.prefix_refl _) t4)⟩) (PoE.mono p3 (List.prefix_refl _) t4)⟩
      · exact p3.elim
    · exact p3.elim
theorem own_w {vs : List Nat} (ow : OwnT set vs tgr) {v : V} {σ : L2.St} {H : Hp} {Q : L2.St → Hp → Prop} (q : tgr v (wipe σ vs) H Q) : tgr v (wipe σ vs) H fun σ2 H2 => wipe σ2 vs = wipe σ vs ∧ Q σ2 H2 := by
  have z := ow v (wipe σ vs) H Q q
  rw [wipe_wipe] at z
  exact z
theorem noX_in {g : G} {ρ : List Addr} {H : Hp} {Q : VK} {n : Nat} {r : R Unit} (p : PoE g ρ H E (Rep g) Q ((noX r).bind fun _ s2 => .ok (.loc n) s2)) : PoE g ρ H (fun _ _ _ => False) (Rep g) Q (r.bind fun _ s2 => .ok (.loc n) s2) := by
  cases r with
  | ok a s => exact p
  | exc c fs s => exact p.elim
  | bad => exact p.elim
/-- the turns over items that stand -/
theorem compT_W (J : It) {g : G} {xs : List D} {vs : List Nat} {σ : L2.St} {Q : VK} {Da : Addr} {n : Nat} {es : Ev} (ht : TgR g tgr set) (ow : OwnT set vs tgr) (P : Hp → Prop) {ρ : List Addr} (hP : ∀ H H', TLe g H H' → P H → P H')
    (hg : ∀ i H d, xs[i]? = some d → P H → J.go i H) (hs : ∀ H, P H → J.stop xs.length H) (hy : ∀ i H d v H' ρ0, ρ <+: ρ0 → xs[i]? = some d → P H → J.yld i H v H' → H' = H ∧ Rep g ρ0 H d v)
    {H : Hp} {st : S} (sr : SR g ρ st H) (hn : ρ[n]? = some Da) (hes : ∀ ρ0 H0, ρ <+: ρ0 → TLe g H H0 → Slo g ρ0 H0 es (wipe σ vs)) (hp : P H)
    (p : PoE g ρ H (fun _ _ _ => False) (Rep g) Q ((compT n set mt me xs es st).bind fun _ s2 => .ok (.loc n) s2)) :
    ∃ W : Nat → Nat → Hp → Prop, (∃ m, W 0 m H) ∧ ∀ i m H, W i m H → (J.stop i H ∧ Q (.ref Da) H) ∨ (J.go i H ∧ ∃ Nx : Hp → Prop, (∀ H', Nx H' → ∃ m', m' < m ∧ W (i + 1) m' H') ∧ ∀ x H', J.yld i H x H' → tgr x (wipe σ vs) H' fun σ2 H2 => wipe σ2 vs = wipe σ vs ∧
      tT g (fun _ _ _ => False) mt σ2 H2 fun b H3 => if b = true then tM g (fun _ _ _ => False) me σ2 H3 fun y H4 => ∃ acc, H4 Da = some (.lst acc) ∧ acc.length < sizeLine ∧ Nx (upd H4 Da (.lst (acc ++ [y]))) else Nx H3) := by
  refine ⟨fun i m H1 => i + m = xs.length ∧ P H1 ∧ TLe g H H1 ∧ ∃ ρ1 st, ρ <+: ρ1 ∧ SR g ρ1 st H1 ∧ PoE g ρ1 H1 (fun _ _ _ => False) (Rep g) Q ((compT n set mt me (xs.drop i) es st).bind fun _ s2 => .ok (.loc n) s2), ⟨xs.length, by omega, hp, TLe.refl, ρ, st, List.prefix_refl _, sr, p⟩, ?_⟩
  rintro i m H1 ⟨him, hp1, tl, ρ1, st1, pre, sr1, p1⟩
  cases hd : xs[i]? with
  | none =>
    have hi : xs.length ≤ i := List.getElem?_eq_none_iff.mp hd
    have ei : i = xs.length := by omega
    subst ei
    rw [List.drop_length] at p1
    exact .inl ⟨hs H1 hp1, PoE.here p1 sr1 (rep_loc (pre_get pre hn))⟩
  | some d =>
    have hi : i < xs.length := (List.getElem?_eq_some_iff.mp hd).1
    have ed : xs.drop i = d :: xs.drop (i + 1) := by
      rw [List.drop_eq_getElem_cons hi, (List.getElem?_eq_some_iff.mp hd).2]
    rw [ed] at p1
    unfold compT at p1
    refine .inr ⟨hg i H1 d hd hp1, fun H' => P H' ∧ TLe g H H' ∧ ∃ ρ2 st2, ρ <+: ρ2 ∧ SR g ρ2 st2 H' ∧ PoE g ρ2 H' (fun _ _ _ => False) (Rep g) Q ((compT n set mt me (xs.drop (i + 1)) es st2).bind fun _ s2 => .ok (.loc n) s2), fun H' h => ⟨m - 1, by omega, by omega, h⟩, fun x H' hyl => own_w ow ?_⟩
    obtain ⟨eH, rx⟩ := hy i H1 d x H' ρ1 pre hd hp1 hyl
    subst eH
    split at p1
    · rename_i es2 e2
      refine ht _ _ _ _ _ _ _ _ _ sr1 (hes _ _ pre tl) rx e2 fun σ2 sl2 => ?_
      have p2 : PoE g ρ1 H' (fun _ _ _ => False) (Rep g) Q ((compTurn n mt me es2 st1).bind fun u s => (compT n set mt me (xs.drop (i + 1)) es s).bind fun _ s2 => .ok (.loc n) s2) := by
        cases hm : compTurn n mt me es2 st1 with
        | ok k s => rw [hm] at p1; exact p1
        | exc c fs s => rw [hm] at p1; exact p1
        | bad => rw [hm] at p1; exact p1
      exact turn_comp sr1 sl2 (pre_get pre hn) p2 fun ρ3 H3 s3 x3 t3 sr3 p3 => ⟨hP _ _ t3 hp1, tl.trans t3, ρ3, s3, pre.trans x3, sr3, p3⟩
    · exact p1.elim
theorem new_lst {g : G} {ρ : List Addr} {H : Hp} {st : S} {Da : Addr} (sr : SR g ρ st H) (hD : H Da = none) : SR g (ρ ++ [Da]) (st ++ [.lst []]) (upd H Da (.lst [])) ∧ (ρ ++ [Da])[st.length]? = some Da ∧ TLe g H (upd H Da (.lst [])) := by
  have t := TLe.new (g := g) (u := HO.lst []) hD
  refine ⟨sr.new hD ⟨[], upd_same, reps_nil⟩, ?_, t⟩
  rw [← sr.len, List.getElem?_append_right (Nat.le_refl _), Nat.sub_self]
  rfl
theorem compV_read (J : It) {g : G} {xs : List D} {vs : List Nat} {σ : L2.St} {Q : VK} {es : Ev} {ρ : List Addr} {H : Hp} {st : S} (ht : TgR g tgr set) (ow : OwnT set vs tgr) (P : Hp → Prop) (hP : ∀ H H', TLe g H H' → P H → P H')
    (hg : ∀ i H d, xs[i]? = some d → P H → J.go i H) (hs : ∀ H, P H → J.stop xs.length H) (hy : ∀ i H d v H' ρ0, ρ <+: ρ0 → xs[i]? = some d → P H → J.yld i H v H' → H' = H ∧ Rep g ρ0 H d v)
    (sr : SR g ρ st H) (sl : Slo g ρ H es σ) (hp : P H) (p : PoE g ρ H E (Rep g) Q (compV set vs mt me xs es st)) (Da : Addr) (hD : H Da = none) :
    ∃ W : Nat → Nat → Hp → Prop, (∃ m, W 0 m (upd H Da (.lst []))) ∧ ∀ i m H, W i m H → (J.stop i H ∧ Q (.ref Da) H) ∨ (J.go i H ∧ ∃ Nx : Hp → Prop, (∀ H', Nx H' → ∃ m', m' < m ∧ W (i + 1) m' H') ∧ ∀ x H', J.yld i H x H' → tgr x (wipe σ vs) H' fun σ2 H2 => wipe σ2 vs = wipe σ vs ∧
      tT g (fun _ _ _ => False) mt σ2 H2 fun b H3 => if b = true then tM g (fun _ _ _ => False) me σ2 H3 fun y H4 => ∃ acc, H4 Da = some (.lst acc) ∧ acc.length < sizeLine ∧ Nx (upd H4 Da (.lst (acc ++ [y]))) else Nx H3) := by
  obtain ⟨sr1, hn, t1⟩ := new_lst sr hD
  refine compT_W J ht ow P hP hg hs (fun i H d v H' ρ0 e0 => hy i H d v H' ρ0 ((List.prefix_append _ _).trans e0)) sr1 hn (fun ρ0 H0 e0 t0 => wipe_slo (sl.mono ((List.prefix_append _ _).trans e0) (t1.trans t0)) vs) (hP _ _ t1 hp) ?_
  exact noX_in (PoE.mono p (List.prefix_append _ _) t1)
abbrev eBlk (X : Cx) (scope : Scope) (s : Shared) (H : Hp) (C : Addr) (cl : List (Str × Addr)) (fp : List Addr) : Cx := X.blk s H scope (compEnvC scope cl C X.env) fp
theorem comp_read (ht : TgR (gX X cad) tgr set) (ow : OwnT set (own.map (·.2)) tgr) {σ : L2.St} {H : Hp} {Q : VK} (h : tM (gX X cad) E (cComp m set (own.map (·.2)) mt me) σ H Q) :
    tLc (iTup X.K (tM (gX X cad) E m)) tgr (tT (gX X cad) (fun _ _ _ => False) mt) (tM (gX X cad) (fun _ _ _ => False) me) (own.map (·.2)) σ H Q ∨ tLc (iList X.K (tM (gX X cad) E m)) tgr (tT (gX X cad) (fun _ _ _ => False) mt) (tM (gX X cad) (fun _ _ _ => False) me) (own.map (·.2)) σ H Q := by
  obtain ⟨ρ, es, st, sr, sl, p⟩ := h
  unfold cComp at p
  cases hm : m es st with
  | ok d s1 =>
    rw [hm] at p
    simp only [R.bind] at p
    split at p
    · rename_i xs
      refine .inl ⟨ρ, es, st, sr, sl, ?_⟩
      rw [hm]
      intro ρ1 H1 v e1 t1 sr1 rx
      obtain ⟨a, vs, rfl, k1, k2⟩ := rx.tup
      refine ⟨a, rfl, ⟨vs, k1⟩, fun Da hD => compV_read (Itt X.K a) (xs := xs) ht ow (fun H => SqT X.K H a vs ∧ ∀ ρ0, ρ1 <+: ρ0 → Reps (gX X cad) ρ0 H xs vs) (fun H H' tl h => ⟨tl.tup _ _ h.1, fun ρ0 e => (h.2 ρ0 e).mono (List.prefix_refl _) tl⟩) (fun i H d hd h => ?_)
        (fun H h => ⟨vs, h.1, by rw [(h.2 _ (List.prefix_refl _)).length]; exact Nat.le_refl _⟩) (fun i H d v H' ρ0 e0 hd h hy => ?_) sr1 (sl.mono e1 t1) ⟨k1, fun ρ0 e => k2.mono e TLe.refl⟩ (p.mono e1 t1) Da hD⟩
      · obtain ⟨w, w1, _⟩ := (h.2 _ (List.prefix_refl _)).get hd
        exact ⟨vs, w, h.1, w1⟩
      · obtain ⟨w, w1, w2⟩ := (h.2 _ e0).get hd
        have e5 := hy.2 vs h.1
        rw [w1] at e5
        cases e5
        exact ⟨hy.1, w2⟩
    · rename_i l
      refine .inr ⟨ρ, es, st, sr, sl, ?_⟩
      rw [hm]
      intro ρ1 H1 v e1 t1 sr1 rx
      obtain ⟨a, q0, rfl⟩ := rx.loc
      have p1 := noX_in (p.mono e1 t1)
      have hx : ∃ vs, SqL X.K H1 a vs := by
        unfold compL at p1
        split at p1
        · exact p1.elim
        · rename_i xs ex
          have hl : l < s1.length := by
            rw [← sr1.len]
            exact (List.getElem?_eq_some_iff.mp q0).1
          have ex2 : getL s1 l = some xs := by
            unfold getL at ex ⊢
            rw [List.getElem?_append_left hl] at ex
            exact ex
          obtain ⟨a', vs, w1, h1, _⟩ := sr1.getL ex2
          rw [q0] at w1
          cases w1
          exact ⟨vs, h1⟩
      refine ⟨a, rfl, hx, fun Da hD => ?_⟩
      obtain ⟨sr2, hn, t2⟩ := new_lst sr1 hD
      have sl2 := (sl.mono e1 t1).mono (List.prefix_append ρ1 [Da]) t2
      have p2 := PoE.mono p1 (List.prefix_append ρ1 [Da]) t2
      refine ⟨fun i m H => ∃ ρ2 st2, (ρ1 ++ [Da]) <+: ρ2 ∧ TLe (gX X cad) (upd H1 Da (.lst [])) H ∧ SR (gX X cad) ρ2 st2 H ∧ PoE (gX X cad) ρ2 H (fun _ _ _ => False) (Rep (gX X cad)) Q ((compL s1.length set mt me l m i (wipeD es (own.map (·.2))) st2).bind fun _ s2 => .ok (.loc s1.length) s2),
        ⟨1000000, ρ1 ++ [Da], _, List.prefix_refl _, TLe.refl, sr2, p2⟩, ?_⟩
      rintro i m H2 ⟨ρ2, st2, pre, tl, sr3, p3⟩
      have q2 : ρ2[l]? = some a := pre_get ((List.prefix_append ρ1 [Da]).trans pre) q0
      have n2 : ρ2[s1.length]? = some Da := pre_get pre hn
      have sl3 := sl2.mono pre tl
      cases m with
      | zero => exact p3.elim
      | succ m =>
        unfold compL at p3
        split at p3
        · exact p3.elim
        · rename_i xs ex
          obtain ⟨a', vs, w1, h1, k2⟩ := sr3.getL ex
          rw [q2] at w1
          cases w1
          split at p3
          · rename_i en
            exact .inl ⟨⟨vs, h1, by rw [k2.length]; exact List.getElem?_eq_none_iff.mp en⟩, PoE.here p3 sr3 (rep_loc n2)⟩
          · rename_i d ed
            obtain ⟨w, w1, w2⟩ := k2.get ed
            refine .inr ⟨⟨vs, w, h1, w1⟩, fun H' => ∃ ρ3 st3, (ρ1 ++ [Da]) <+: ρ3 ∧ TLe (gX X cad) (upd H1 Da (.lst [])) H' ∧ SR (gX X cad) ρ3 st3 H' ∧ PoE (gX X cad) ρ3 H' (fun _ _ _ => False) (Rep (gX X cad)) Q ((compL s1.length set mt me l m (i + 1) (wipeD es (own.map (·.2))) st3).bind fun _ s2 => .ok (.loc s1.length) s2),
              fun H' h => ⟨m, Nat.lt_succ_self _, h⟩, fun x H' hyl => own_w ow ?_⟩
            obtain ⟨rfl, hy2⟩ := hyl
            have e5 := hy2 vs h1
            rw [w1] at e5
            cases e5
            split at p3
            · rename_i es3 e3
              refine ht _ _ _ _ _ _ _ _ _ sr3 (wipe_slo sl3 _) w2 e3 fun σ3 sl4 => ?_
              have p4 : PoE (gX X cad) ρ2 H' (fun _ _ _ => False) (Rep (gX X cad)) Q ((compTurn s1.length mt me es3 st2).bind fun u s => (compL s1.length set mt me l m (i + 1) (wipeD es (own.map (·.2))) s).bind fun _ s2 => .ok (.loc s1.length) s2) := by
                cases hm : compTurn s1.length mt me es3 st2 with
                | ok k s => rw [hm] at p3; exact p3
                | exc c fs s => rw [hm] at p3; exact p3
                | bad => rw [hm] at p3; exact p3
              exact turn_comp sr3 sl4 n2 p4 fun ρ4 H4 s4 x4 t4 sr4 p5 => ⟨ρ4, s4, pre.trans x4, tl.trans t4, sr4, p5⟩
            · exact p3.elim
    · exact p.elim
  | exc c fs s1 =>
    refine .inl ⟨ρ, es, st, sr, sl, ?_⟩
    rw [hm] at p ⊢
    exact p
  | bad =>
    rw [hm] at p
    exact p.elim
/-- [elt for tg in iter if ..] over a value -/
theorem e_comp (hc : X.calm = true) (hN : X.N.Nodup) (ok : BlkOk X.N X.env.scope scope own) (he : PE X iter (tM (gX X cad) E m)) {vs : List Nat} (ht : TgR (gX X cad) tgr set) (ow : OwnT set (vs) tgr)
    (hg : ∀ (s : Shared) (H : Hp) (C : Addr) (cl : List (Str × Addr)) (fp : List Addr), PG (eBlk X scope s H C cl fp) tg tgr) (hif : ∀ (s : Shared) (H : Hp) (C : Addr) (cl : List (Str × Addr)) (fp : List Addr), PTs (eBlk X scope s H C cl fp) ifs (tT (gX X cad) (fun _ _ _ => False) mt))
    (hel : ∀ (s : Shared) (H : Hp) (C : Addr) (cl : List (Str × Addr)) (fp : List Addr), PE (eBlk X scope s H C cl fp) elt (tM (gX X cad) (fun _ _ _ => False) me)) (hs : ∀ x, foldedSetIterable iter X.env x = pure x := by intro _; rfl) (hv : vs = own.map (·.2) := by rfl) :
    PE X (.ListComp elt [⟨tg, iter, ifs, 0⟩] scope pos) (tM (gX X cad) E (cComp m set (vs) mt me)) := by
  subst hv
  refine ⟨fun pins s σ H Q I h => ?_⟩
  rcases comp_read ht ow h with h | h
  · exact (pe_lc hc hN (pi_tup he) ok hg hif hel hs).run pins s σ H Q I h
  · exact (pe_lc hc hN (pi_list he) ok hg hif hel hs).run pins s σ H Q I h
theorem set_read {i : Nat} {mc : M D} {Dn : Ends} {σ : L2.St} {H : Hp} (h : tS (gX X cad) E (sSet i mc) Dn σ H) : tM (gX X cad) E mc σ H fun x H1 => gName i x σ H1 Dn.nx := by
  obtain ⟨ρ, es, st, sr, sl, p⟩ := h
  exact ⟨ρ, es, st, sr, sl, p.bind fun ρ1 H1 d v1 st1 e1 t1 sr1 rx p1 => p1.nx sr1 ((sl.mono e1 t1).set i rx)⟩
theorem s_setComp {i : Nat} {y : Str} {py spos : Pos} (hc : X.calm = true) (hN : X.N.Nodup) (hy : X.N[i]? = some y) (hyl : X.env.scope.names.lookup y = some .local)
    (hsw : swapsWith (.ListComp elt [⟨tg, iter, ifs, 0⟩] scope pos) (some (.Name y py)) spos.line X.env = pure true) (ok : BlkOk X.N X.env.scope scope own) (he : PE X iter (tM (gX X cad) E m)) {vs : List Nat} (ht : TgR (gX X cad) tgr set) (ow : OwnT set (vs) tgr)
    (hg : ∀ (s : Shared) (H : Hp) (C : Addr) (cl : List (Str × Addr)) (fp : List Addr), PG (eBlk X scope s H C cl fp) tg tgr) (hif : ∀ (s : Shared) (H : Hp) (C : Addr) (cl : List (Str × Addr)) (fp : List Addr), PTs (eBlk X scope s H C cl fp) ifs (tT (gX X cad) (fun _ _ _ => False) mt))
    (hel : ∀ (s : Shared) (H : Hp) (C : Addr) (cl : List (Str × Addr)) (fp : List Addr), PE (eBlk X scope s H C cl fp) elt (tM (gX X cad) (fun _ _ _ => False) me)) (hs : ∀ x, foldedSetIterable iter X.env x = pure x := by intro _; rfl) (hv : vs = own.map (·.2) := by rfl) :
    PS X (.Assign [.Name y py] (.ListComp elt [⟨tg, iter, ifs, 0⟩] scope pos) spos) (tS (gX X cad) E (sSet i (cComp m set (vs) mt me))) := by
  subst hv
  refine ⟨fun pins s σ H Dn I h => ?_⟩
  rcases comp_read ht ow (set_read h) with h | h
  · exact (ps_setLc hc hN hy hyl hsw (pi_tup he) ok hg hif hel hs).run pins s σ H Dn I h
  · exact (ps_setLc hc hN hy hyl hsw (pi_list he) ok hg hif hel hs).run pins s σ H Dn I h
theorem rng_comp {lo : Int} {n : Nat} {vs : List Nat} {σ : L2.St} {Q : VK} {es : Ev} {ρ : List Addr} {H : Hp} {st : S} (ht : TgR (gX X cad) tgr set) (ow : OwnT set vs tgr) (sr : SR (gX X cad) ρ st H) (sl : Slo (gX X cad) ρ H es σ)
    (p : PoE (gX X cad) ρ H E (Rep (gX X cad)) Q (compV set vs mt me (rangeD lo n) es st)) (Da : Addr) (hD : H Da = none) :
    ∃ W : Nat → Nat → Hp → Prop, (∃ m, W 0 m (upd H Da (.lst []))) ∧ ∀ i m H, W i m H → ((Itr lo n).stop i H ∧ Q (.ref Da) H) ∨ ((Itr lo n).go i H ∧ ∃ Nx : Hp → Prop, (∀ H', Nx H' → ∃ m', m' < m ∧ W (i + 1) m' H') ∧ ∀ x H', (Itr lo n).yld i H x H' → tgr x (wipe σ vs) H' fun σ2 H2 => wipe σ2 vs = wipe σ vs ∧
      tT (gX X cad) (fun _ _ _ => False) mt σ2 H2 fun b H3 => if b = true then tM (gX X cad) (fun _ _ _ => False) me σ2 H3 fun y H4 => ∃ acc, H4 Da = some (.lst acc) ∧ acc.length < sizeLine ∧ Nx (upd H4 Da (.lst (acc ++ [y]))) else Nx H3) :=
  compV_read (Itr lo n) (xs := rangeD lo n) ht ow (fun _ => True) (fun _ _ _ _ => True.intro) (fun i H d hd _ => (rangeD_get hd).1) (fun H _ => by rw [rangeD_len]; exact Nat.le_refl _) (fun i H d v H' ρ0 _ hd _ hy => by
      obtain ⟨_, rfl⟩ := rangeD_get hd
      rw [hy.2]
      exact ⟨hy.1, rep_int⟩) sr sl True.intro p Da hD
theorem compR1_read (ht : TgR (gX X cad) tgr set) (ow : OwnT set (own.map (·.2)) tgr) : ∀ (σ : L2.St) (H : Hp) (Q : VK), tM (gX X cad) E (cCompR1 mA set (own.map (·.2)) mt me) σ H Q →
    tLc (iRng1 (tA (gX X cad) E mA)) tgr (tT (gX X cad) (fun _ _ _ => False) mt) (tM (gX X cad) (fun _ _ _ => False) me) (own.map (·.2)) σ H Q := by
  intro σ H Q h
  obtain ⟨ρ, es, st, sr, sl, p⟩ := h
  refine ⟨ρ, es, st, sr, sl, p.bind fun ρ1 H1 ds vs s1 e1 t1 sr1 rx p1 => ?_⟩
  split at p1
  · split at p1
    · rename_i hz
      obtain ⟨v, rfl, r1⟩ := rx.uno
      exact ⟨_, by rw [r1.int], hz.1, hz.2, fun Da hD => rng_comp ht ow sr1 (sl.mono e1 t1) p1 Da hD⟩
    · exact p1.elim
  · exact p1.elim
theorem s_setCompR1 {i : Nat} {y : Str} {py spos : Pos} {a : Expr} {p1 p2 : Pos} (hc : X.calm = true) (hN : X.N.Nodup) (hy : X.N[i]? = some y) (hyl : X.env.scope.names.lookup y = some .local)
    (hsw : swapsWith (.ListComp elt [⟨tg, .Call (.Name "range" p1) [a] [] p2, ifs, 0⟩] scope pos) (some (.Name y py)) spos.line X.env = pure true) (ok : BlkOk X.N X.env.scope scope own) (hgr : Gl X "range") (hmr : X.mg "range" = none) (ha : PA X [a] (tA (gX X cad) E mA)) {vs : List Nat} (ht : TgR (gX X cad) tgr set) (ow : OwnT set (vs) tgr)
    (hg : ∀ (s : Shared) (H : Hp) (C : Addr) (cl : List (Str × Addr)) (fp : List Addr), PG (eBlk X scope s H C cl fp) tg tgr) (hif : ∀ (s : Shared) (H : Hp) (C : Addr) (cl : List (Str × Addr)) (fp : List Addr), PTs (eBlk X scope s H C cl fp) ifs (tT (gX X cad) (fun _ _ _ => False) mt))
    (hel : ∀ (s : Shared) (H : Hp) (C : Addr) (cl : List (Str × Addr)) (fp : List Addr), PE (eBlk X scope s H C cl fp) elt (tM (gX X cad) (fun _ _ _ => False) me)) (hst : starEach [a] X.env = [(false, eval a X.env)] := by rfl) (hs : ∀ x, foldedSetIterable (.Call (.Name "range" p1) [a] [] p2) X.env x = pure x := by intro _; rfl) (hv : vs = own.map (·.2) := by rfl) :
    PS X (.Assign [.Name y py] (.ListComp elt [⟨tg, .Call (.Name "range" p1) [a] [] p2, ifs, 0⟩] scope pos) spos) (tS (gX X cad) E (sSet i (cCompR1 mA set (vs) mt me))) := by
  subst hv
  exact PS.imp (ps_setLc hc hN hy hyl hsw (pi_range1 hgr hmr ha hst) ok hg hif hel hs) fun Dn σ H h => compR1_read ht ow _ _ _ (set_read h)
theorem i_nil : PTs X [] (tT (gX X cad) E cYes) := ⟨fun pins s σ H Q I h => pts_nil.run pins s σ H Q I (by
  obtain ⟨ρ, es, st, sr, sl, p⟩ := h
  exact PoE.here p sr rfl)⟩
theorem i_one {c : Expr} (h : PT X c (tT (gX X cad) E mt)) : PTs X [c] (tT (gX X cad) E mt) := pts_one h
end
end Z
end
section
set_option Elab.async false
set_option linter.all false
set_option maxRecDepth 100000
set_option maxHeartbeats 4000000
/-! ZA: what stands at the top: defs, classes, constants, as hypotheses; calls by them. -/
namespace Z
open PySem PySem.Spec PyProof.Rows L2

theorem mk_binds {K : PySem.W.Frag} {fd : FuncData} {ps ks : List Str} {gU : List Value → List Value → List Value} {gV : List V → List V → List V} (h : ∀ us ws, (gU us ws).length = ps.length → bindArgs fd ⟨us, ks.zip ws⟩ = pure (ps.zip (gU us ws))) (r : ∀ {vs : List V} {us : List Value} {zs : List V} {ws : List Value}, Vals vs us → Vals zs ws → Vals (gV vs zs) (gU us ws)) : KBinds K fd ps ks gU gV := ⟨fun s us ws _ hl => .of_eq (h us ws hl), r⟩
/-- a def of the text -/
structure Def (K : PySem.W.Frag) (mg : Str → Option Value) (x : Str) (st : Stmt) (ps : List Str) : Prop where
  ex : ∃ f fd, Fun K x x st f fd ∧ mg x = some (.ref f) ∧ Binds K fd ps []
/-- a def and its promise -/
structure Fn (P : Program) (w : World) (K : PySem.W.Frag) (mg : Str → Option Value) (base : Heap) (cad : Nat → Addr) (x : Str) (st : Stmt) (ps : List Str) (k : Nat) (F : List D → S → R D) : Prop where
  ex : ∃ f fd, FnOk P w K mg base (L2.CX P w) k f fd ps (spF ⟨K, cad⟩ F) ∧ mg x = some (.ref f) ∧ PySem.W.keepIn K (.ref f) = true ∧ Binds K fd ps [] ∧ Fun K x x st f fd
theorem fn_zero_f {P : Program} {w : World} {K : PySem.W.Frag} {mg : Str → Option Value} {base : Heap} {cad : Nat → Addr} {x : Str} {st : Stmt} {ps : List Str} {k : Nat} (h : Def K mg x st ps) : Fn P w K mg base cad x st ps k (fun _ _ => .bad) := by
  obtain ⟨f, fd, F, g, b⟩ := h.ex
  refine ⟨f, fd, ⟨fun vs H Q E h => ?_, fun A outer s H args us vs Q E hr e0 hb r h => ?_⟩, g, F.kp, b, F⟩
  · obtain ⟨ρ, st, ds, sr, rs, p⟩ := h
    exact p.elim
  · obtain ⟨ρ, st, ds, sr, rs, p⟩ := h
    exact p.elim
/-- keywords: the parameters in order, each a positional one or a keyword's -/
def selK {α : Type} (a b : Nat) (sel : List (Sum Nat Nat)) (us ws : List α) : List α := if us.length = a ∧ ws.length = b then sel.filterMap (fun z => match z with
  | .inl i => us[i]?
  | .inr j => ws[j]?) else []
theorem selK_vals {a b : Nat} : ∀ {sel : List (Sum Nat Nat)} {vs : List V} {us : List Value} {zs : List V} {ws : List Value}, Vals vs us → Vals zs ws → Vals (selK a b sel vs zs) (selK a b sel us ws) := by
  intro sel vs us zs ws h1 h2
  unfold selK
  rw [h1.length, h2.length]
  split
  · induction sel with
    | nil => exact .nil
    | cons z sel ih =>
      rw [List.filterMap_cons, List.filterMap_cons]
      cases z with
      | inl i =>
        cases e : vs[i]? with
        | none => simp only [e, h1.none_of e]; exact ih
        | some v =>
          obtain ⟨u, e2, r⟩ := h1.get e
          simp only [e, e2]
          exact .cons r ih
      | inr i =>
        cases e : zs[i]? with
        | none => simp only [e, h2.none_of e]; exact ih
        | some v =>
          obtain ⟨u, e2, r⟩ := h2.get e
          simp only [e, e2]
          exact .cons r ih
  · exact .nil
theorem selK_reps {g : G} {ρ : List Addr} {H : Hp} {a b : Nat} {sel : List (Sum Nat Nat)} {ds zs : List D} {vs ws : List V} (h1 : Reps g ρ H ds vs) (h2 : Reps g ρ H zs ws) : Reps g ρ H (selK a b sel ds zs) (selK a b sel vs ws) := by
  unfold selK
  rw [h1.length, h2.length]
  split
  · induction sel with
    | nil => exact reps_nil
    | cons z sel ih =>
      rw [List.filterMap_cons, List.filterMap_cons]
      cases z with
      | inl i =>
        cases e : ds[i]? with
        | none =>
          have e2 : vs[i]? = none := List.getElem?_eq_none (by rw [h1.length]; exact List.getElem?_eq_none_iff.mp e)
          simp only [e, e2]
          exact ih
        | some d =>
          obtain ⟨u, e2, r⟩ := h1.get e
          simp only [e, e2]
          exact reps_cons r ih
      | inr i =>
        cases e : zs[i]? with
        | none =>
          have e2 : ws[i]? = none := List.getElem?_eq_none (by rw [h2.length]; exact List.getElem?_eq_none_iff.mp e)
          simp only [e, e2]
          exact ih
        | some d =>
          obtain ⟨u, e2, r⟩ := h2.get e
          simp only [e, e2]
          exact reps_cons r ih
  · exact reps_nil
theorem selK_binds {K : PySem.W.Frag} {x : Str} {st : Stmt} {f : Addr} {fd : FuncData} {ps ks : List Str} {a b : Nat} {sel : List (Sum Nat Nat)} (F : Fun K x x st f fd) (hp : 0 < ps.length)
    (h : ∀ (kV doc pm : Value) (an : Option Addr) (cdv ct : Value) (us ws : List Value), us.length = a → ws.length = b → bindArgs (PySem.W.fnOf x x (defArgs st) (defBody st) (defScope st) .none kV doc pm an cdv ct) ⟨us, ks.zip ws⟩ = pure (ps.zip (selK a b sel us ws))) : KBinds K fd ps ks (selK a b sel) (selK a b sel) := by
  obtain ⟨oc, od, kV, doc, pm, an, cdv, ct, osl, rfl, lk, hcd⟩ := F.ex
  refine mk_binds (fun us ws hl => ?_) selK_vals
  by_cases hz : us.length = a ∧ ws.length = b
  · exact h kV doc pm an cdv ct us ws hz.1 hz.2
  · unfold selK at hl
    rw [if_neg hz] at hl
    rw [← hl] at hp
    exact absurd hp (Nat.lt_irrefl _)
/-- a class of the text and its __init__ -/
structure Cl (P : Program) (w : World) (K : PySem.W.Frag) (mg : Str → Option Value) (base : Heap) (cad : Nat → Addr) (x : Str) (c : Nat) (ps : List Str) (k : Nat) (F : List D → S → R D) : Prop where
  ex : ∃ f fd, FnOk P w K mg base (L2.CX P w) k f fd ps (spF ⟨K, cad⟩ F) ∧ Mk K (cad c) f ∧ Binds K fd ps []
  g : mg x = some (.ref (cad c))
/-- a property -/
structure Pr (P : Program) (w : World) (K : PySem.W.Frag) (mg : Str → Option Value) (base : Heap) (cad : Nat → Addr) (m : Str) (c : Nat) (k : Nat) (F : List D → S → R D) : Prop where
  ex : ∃ pa f fd, FnOk P w K mg base (L2.CX P w) k f fd ["self"] (spF ⟨K, cad⟩ F) ∧ PropOf K (cad c) m pa f ∧ Binds K fd ["self"] []
  cl : Cls K (cad c)
/-- a constant -/
structure Cst (K : PySem.W.Frag) (mg : Str → Option Value) (cad : Nat → Addr) (x : Str) (d : D) : Prop where
  ex : ∃ v u, mg x = some u ∧ RelV v u ∧ ∀ ρ H, Rep ⟨K, cad⟩ ρ H d v
section
variable {X : Cx} {cad : Nat → Addr} {k : Nat} {ps : List Str} {E : XK} {x m : Str} {p pos : Pos} {e o : Expr} {es : List Expr} {mA : M (List D)} {mo : M D} {F : List D → S → R D} {d : D}
theorem e_cst (h : Cst X.K X.mg cad x d) (hg : Gl X x := by rfl) (hdb : (x == ("__debug__" : Str)) = false := by decide) : PE X (.Name x pos) (tM (gX X cad) E (cC d)) := by
  obtain ⟨v, u, h1, h2, h3⟩ := h.ex
  exact e_glob hg h1 h2 h3 hdb
theorem e_callF {st : Stmt} (h : Fn X.prog X.w X.K X.mg X.base cad x st ps k F) (hr : Room k X.A) (hx : Passes (L2.CX X.prog X.w) X E) (ha : PA X (e :: es) (tA (gX X cad) E mA)) (hg : Gl X x := by rfl)
    (hdb : (x == ("__debug__" : Str)) = false := by decide) (he : starEach (e :: es) X.env = (false, eval e X.env) :: starEach es X.env := by rfl) (hpl : (backTo pos (starEach es X.env)).any (·.1) = false := by rfl) :
    PE X (.Call (.Name x p) (e :: es) [] pos) (tM (gX X cad) E (cCall mA F)) := by
  obtain ⟨f, fd, h1, h2, h3, h4, _⟩ := h.ex
  exact e_call h1 hr hg h2 h3 h4 hx ha hdb he hpl
theorem e_callKF0 {st : Stmt} {ks : List Str} {b : Nat} {sel : List (Sum Nat Nat)} {kws : List Keyword} {mK : M (List D)} (h : Fn X.prog X.w X.K X.mg X.base cad x st ps k F) (hr : Room k X.A) (hx : Passes (L2.CX X.prog X.w) X E) (hp : 0 < ps.length)
    (hb : ∀ (kV doc pm : Value) (an : Option Addr) (cdv ct : Value) (us ws : List Value), us.length = 0 → ws.length = b → bindArgs (PySem.W.fnOf x x (defArgs st) (defBody st) (defScope st) .none kV doc pm an cdv ct) ⟨us, ks.zip ws⟩ = pure (ps.zip (selK 0 b sel us ws)))
    (hkw : PK X kws (tA (gX X cad) E mK)) (hg : Gl X x := by rfl)
    (hall : (backToKw pos (keywordEach kws X.env)).all (·.1.isSome) = true := by rfl) (hks : (backToKw pos (keywordEach kws X.env)).filterMap (·.1) = ks := by rfl)
    (hdb : (x == ("__debug__" : Str)) = false := by decide)
    (hpl : ((backTo pos (starEach [] X.env)).any (·.1) || (backToKw pos (keywordEach kws X.env)).any (·.1.isNone)) = false := by rfl) :
    PE X (.Call (.Name x p) [] kws pos) (tM (gX X cad) E (cCallK cNil mK (selK 0 b sel) F)) := by
  obtain ⟨f, fd, h1, h2, h3, h4, h5⟩ := h.ex
  exact e_callK0 (fun _ _ _ _ _ _ q1 q2 => selK_reps q1 q2) h1 hr hg h2 h3 (selK_binds h5 hp hb) hx hkw hall hks hdb hpl
end
/-- what raises is not followed -/
def cNox (m : M D) : M D := fun es st => noX (m es st)
end Z
namespace Z
open PySem PySem.Spec PyProof.Rows L2
abbrev vK (f : D → D → S → R Bool) : D → D → S → R D := fun x y s => (f x y s).bind fun k s => .ok (.bl k) s
/-- a class's __init__, a property's getter, as they stand -/
structure InitD (K : PySem.W.Frag) (C : Addr) (qual : Str) (st : Stmt) (ps : List Str) : Prop where
  ex : ∃ f fd, Fun K "__init__" qual st f fd ∧ Mk K C f ∧ Binds K fd ps []
structure PropD (K : PySem.W.Frag) (C : Addr) (m qual : Str) (st : Stmt) : Prop where
  ex : ∃ pa f fd, Fun K m qual st f fd ∧ PropOf K C m pa f ∧ Binds K fd ["self"] []
section
variable {K : PySem.W.Frag} {mg : Str → Option Value} {h : Heap} {f C pa : Addr} {x qual m : Str} {st : Stmt} {ps : List Str} {oc kV doc pm cdv ct : Value} {od an : Option Addr} {osl : Array (Option Value)} {rest : List Value}
theorem def_mk (X : K.In h) (G : h.Ns mainGlobals mg) (a : PySem.W.nsIn K mainGlobals x = some (some (.ref f))) (l : K.lookup f = some ⟨oc, od, .func (PySem.W.fnOf x x (defArgs st) (defBody st) (defScope st) .none kV doc pm an cdv ct), osl⟩)
    (c : PySem.W.codeIn K cdv x = true) (k : PySem.W.keepIn K (.ref f) = true)
    (b : ∀ (kV doc pm : Value) (an : Option Addr) (cdv ct : Value) (us : List Value), us.length = ps.length → bindArgs (PySem.W.fnOf x x (defArgs st) (defBody st) (defScope st) .none kV doc pm an cdv ct) ⟨us, []⟩ = pure (ps.zip us)) : Def K mg x st ps := by
  have F := fun_mk (st := st) l c k
  exact ⟨f, _, F, PySem.W.mg_of X G a, F.binds b⟩
theorem cst_int {cad : Nat → Addr} {i : Int} {t : Tok} (X : K.In h) (G : h.Ns mainGlobals mg) (a : PySem.W.nsIn K mainGlobals x = some (some (.int i t))) : Cst K mg cad x (.int i) := ⟨.int i, .int i t, PySem.W.mg_of X G a, ⟨t, rfl⟩, fun _ _ => rep_int⟩
end
end Z
end
section
set_option Elab.async false
set_option linter.all false
set_option maxRecDepth 100000
set_option maxHeartbeats 4000000
/-! ZB: xs.index(k) for a list of ints, max of a tuple of ints. -/
namespace Z
open PySem PySem.Spec PyProof.Rows L2
section
variable {X : Cx} {cad : Nat → Addr} {E : XK}
end
end Z
end
section
set_option Elab.async false
set_option linter.all false
set_option maxRecDepth 100000
set_option maxHeartbeats 4000000
/-! ZD: dicts of ints and texts as keys, wide * and //, a < b < c. -/
namespace Z
open PySem PySem.Spec PyProof.Rows L2
def keyD : D → Option Key
  | .int i => some (.inl i)
  | .str x => some (.inr x)
  | _ => none
def getK (s : S) (n : Nat) : Option (List (Key × D)) := match s[n]? with
  | some (.dic kvs) => some kvs
  | some (.dro kvs) => some kvs
  | _ => none
def getKW (s : S) (n : Nat) : Option (List (Key × D)) := match s[n]? with
  | some (.dic kvs) => some kvs
  | _ => none
def valD (kvs : List (Key × D)) (k : Key) : Option D := (kvs.find? fun kv => decide (kv.1 = k)).map (·.2)
def putDk (kvs : List (Key × D)) (k : Key) (d : D) : List (Key × D) := if (kvs.any fun kv => decide (kv.1 = k)) = true then kvs.map (fun kv => if kv.1 = k then (kv.1, d) else kv) else kvs ++ [(k, d)]
/-- o[i]: a dict's, else as before -/
def ixA (o i : D) (s : S) : R D := match o with
  | .loc n => match getK s n, keyD i with
    | some kvs, some k => match valD kvs k with
      | some d => .ok d s
      | none => .bad
    | _, _ => ixD o i s
  | _ => ixD o i s
def setIxA (o i v : D) (s : S) : R Unit := match o with
  | .loc n => match getKW s n, keyD i with
    | some kvs, some k => if kvs.length < 1000000 then .ok () (s.set n (.dic (putDk kvs k v))) else .bad
    | _, _ => setIx o i v s
  | _ => setIx o i v s
def sSubA (mo mi m : M D) : M Out := fun es st => (m es st).bind fun v s => (mo es s).bind fun o s => (mi es s).bind fun i s => (setIxA o i v s).bind fun _ s => .ok (.nx es) s
def kInA (x y : D) (s : S) : R Bool := match y with
  | .loc n => match getK s n, keyD x with
    | some kvs, some k => .ok (valD kvs k).isSome s
    | _, _ => kIn x y s
  | _ => kIn x y s
def kNotInA (x y : D) (s : S) : R Bool := match y with
  | .loc n => match getK s n, keyD x with
    | some kvs, some k => .ok (!(valD kvs k).isSome) s
    | _, _ => kNotIn x y s
  | _ => kNotIn x y s
def fLenA : List D → S → R D
  | [.loc n], s => match getKW s n with
    | some kvs => .ok (.int kvs.length) s
    | none => fLen [.loc n] s
  | ds, s => fLen ds s
def fDict : List D → S → R D
  | [.loc n], s => match getK s n with
    | some kvs => .ok (.loc s.length) (s ++ [.dic kvs])
    | none => .bad
  | _, _ => .bad
def cDic0 : M D := fun _ st => .ok (.loc st.length) (st ++ [.dic []])
/-- two dicts of ints, the same -/
def sameK (ks ls : List (Key × D)) : Bool := decide (ks.length = ls.length) && ks.all fun p => match p.2, valD ls p.1 with
  | .int i, some (.int j) => decide (i = j)
  | _, _ => false
def kNeA (x y : D) (s : S) : R Bool := match x, y with
  | .loc n, .loc m => match getKW s n, getKW s m with
    | some ks, some ls => if sameK ks ls = true then .ok false s else .bad
    | _, _ => kNe x y s
  | _, _ => kNe x y s
def bMulA (x y : D) (s : S) : R D := match x, y with
  | .int i, .int j => if ((-(2 ^ 64) < i ∧ i < 2 ^ 64) ∨ (-(2 ^ 64) < j ∧ j < 2 ^ 64)) ∨ (Builtin.Int.intBits i : Int) + (Builtin.Int.intBits j : Int) ≤ 134217728 then .ok (.int (i * j)) s else .bad
  | _, _ => bMul x y s
def bDivA (x y : D) (s : S) : R D := match x, y with
  | .int i, .int j => if j ≠ 0 ∧ j.natAbs.log2 < 9000 then .ok (.int (i.fdiv j)) s else .bad
  | _, _ => .bad
/-- a op b op' c -/
def cChain (ma mb mc : M D) (f f' : D → D → S → R Bool) : M Bool := fun es st => (ma es st).bind fun x s => (mb es s).bind fun y s => (f x y s).bind fun k s => if k = true then (mc es s).bind fun z s => f' y z s else .ok false s
section
variable {g : G} {ρ : List Addr} {H : Hp} {st : S}
theorem RepK.val (k : Key) : ∀ {ds : List (Key × D)} {vs : List (Key × V)}, RepK g ρ H ds vs → match valD ds k with
    | some d => ∃ v, valV vs k = some v ∧ Rep g ρ H d v
    | none => valV vs k = none
  | [], vs, h => by
    have h : vs = [] := h
    subst h
    rfl
  | p :: ds, vs, h => by
    obtain ⟨v, r, rfl, h2, h3⟩ := h
    have ih := RepK.val k h3
    by_cases e : p.1 = k
    · have e1 : valD (p :: ds) k = some p.2 := by simp [valD, List.find?_cons, e]
      rw [e1]
      exact ⟨v, valV_pos (p := (p.1, v)) e, h2⟩
    · have e1 : valD (p :: ds) k = valD ds k := by simp [valD, List.find?_cons, e]
      rw [e1, valV_neg (p := (p.1, v)) e]
      exact ih
theorem RepK.len : ∀ {ds : List (Key × D)} {vs : List (Key × V)}, RepK g ρ H ds vs → vs.length = ds.length
  | [], vs, h => by
    have h : vs = [] := h
    subst h
    rfl
  | p :: ds, vs, h => by
    obtain ⟨v, r, rfl, h2, h3⟩ := h
    show r.length + 1 = ds.length + 1
    rw [RepK.len h3]
theorem RepK.get : ∀ {ds : List (Key × D)} {vs : List (Key × V)} {i : Nat} {p : Key × D}, RepK g ρ H ds vs → ds[i]? = some p → ∃ v, vs[i]? = some (p.1, v) ∧ Rep g ρ H p.2 v
  | [], _, _, _, _, e => nomatch e
  | q :: ds, vs, i, p, h, e => by
    obtain ⟨v, r, rfl, h2, h3⟩ := h
    match i, e with
    | 0, e =>
      cases e
      exact ⟨v, rfl, h2⟩
    | i + 1, e =>
      obtain ⟨w, e1, e2⟩ := RepK.get (i := i) (p := p) h3 (by simpa using e)
      exact ⟨w, by simpa using e1, e2⟩
theorem RepK.mapP {k : Key} {d : D} {v : V} (hd : Rep g ρ H d v) : ∀ {ds : List (Key × D)} {vs : List (Key × V)}, RepK g ρ H ds vs → RepK g ρ H (ds.map fun kv => if kv.1 = k then (kv.1, d) else kv) (vs.map fun kv => if kv.1 = k then (kv.1, v) else kv)
  | [], vs, h => by
    have h : vs = [] := h
    subst h
    rfl
  | p :: ds, vs, h => by
    obtain ⟨w, r, rfl, h2, h3⟩ := h
    have ih := RepK.mapP (k := k) hd h3
    rw [List.map_cons, List.map_cons]
    by_cases e : p.1 = k
    · rw [if_pos e, if_pos (show ((p.1, w) : Key × V).1 = k from e)]
      exact ⟨v, _, rfl, hd, ih⟩
    · rw [if_neg e, if_neg (show ¬ ((p.1, w) : Key × V).1 = k from e)]
      exact ⟨w, _, rfl, h2, ih⟩
theorem RepK.snoc {k : Key} {d : D} {v : V} (hd : Rep g ρ H d v) : ∀ {ds : List (Key × D)} {vs : List (Key × V)}, RepK g ρ H ds vs → RepK g ρ H (ds ++ [(k, d)]) (vs ++ [(k, v)])
  | [], vs, h => by
    have h : vs = [] := h
    subst h
    exact ⟨v, [], rfl, hd, rfl⟩
  | p :: ds, vs, h => by
    obtain ⟨w, r, rfl, h2, h3⟩ := h
    exact ⟨w, _, rfl, h2, RepK.snoc hd h3⟩
theorem RepK.put {k : Key} {d : D} {v : V} {ds : List (Key × D)} {vs : List (Key × V)} (h : RepK g ρ H ds vs) (hd : Rep g ρ H d v) : RepK g ρ H (putDk ds k d) (putK vs k v) := by
  have e : (vs.any fun kv => decide (kv.1 = k)) = (ds.any fun kv => decide (kv.1 = k)) := by
    have key : ∀ {ds : List (Key × D)} {vs : List (Key × V)}, RepK g ρ H ds vs → (vs.any fun kv => decide (kv.1 = k)) = (ds.any fun kv => decide (kv.1 = k)) := by
      intro ds
      induction ds with
      | nil =>
        intro vs h
        have h : vs = [] := h
        subst h
        rfl
      | cons p ds ih =>
        intro vs h
        obtain ⟨w, r, rfl, h2, h3⟩ := h
        rw [List.any_cons, List.any_cons, ih h3]
    exact key h
  unfold putDk putK
  rw [e]
  split
  · exact RepK.mapP hd h
  · exact RepK.snoc hd h
theorem SR.getK (sr : SR g ρ st H) {n : Nat} {kvs : List (Key × D)} {v : V} (r : Rep g ρ H (.loc n) v) (e : Z.getK st n = some kvs) : ∃ a vs, v = .ref a ∧ Rd H a (.dK vs) ∧ RepK g ρ H kvs vs := by
  obtain ⟨a, q0, rfl⟩ := r.loc
  unfold Z.getK at e
  split at e
  · rename_i k' e1
    cases e
    obtain ⟨b, hb, vs, h1, h2⟩ := sr.at_ e1
    rw [q0] at hb
    cases hb
    exact ⟨a, vs, rfl, .inl h1, h2⟩
  · rename_i k' e1
    cases e
    obtain ⟨b, hb, vs, h1, h2⟩ := sr.at_ e1
    rw [q0] at hb
    cases hb
    exact ⟨a, vs, rfl, h1, h2⟩
  · cases e
theorem SR.getKW (sr : SR g ρ st H) {n : Nat} {kvs : List (Key × D)} {v : V} (r : Rep g ρ H (.loc n) v) (e : Z.getKW st n = some kvs) : ∃ a vs, v = .ref a ∧ ρ[n]? = some a ∧ st[n]? = some (.dic kvs) ∧ H a = some (.dK vs) ∧ RepK g ρ H kvs vs := by
  obtain ⟨a, q0, rfl⟩ := r.loc
  unfold Z.getKW at e
  split at e
  · rename_i k' e1
    cases e
    obtain ⟨b, hb, vs, h1, h2⟩ := sr.at_ e1
    rw [q0] at hb
    cases hb
    exact ⟨a, vs, rfl, q0, e1, h1, h2⟩
  · cases e
theorem Rep.key {d : D} {v : V} {k : Key} (r : Rep g ρ H d v) (e : keyD d = some k) : v = kV k := by
  cases d with
  | int i =>
    cases e
    exact r.int
  | str x =>
    cases e
    exact r.str
  | _ => cases e
end
/-! ### ties -/
theorem PE.or {X : Cx} {e : Expr} {t t' : TE} (h : PE X e t) (h' : PE X e t') : PE X e (fun σ H Q => t σ H Q ∨ t' σ H Q) := ⟨fun pins s σ H Q I q => q.elim (h.run pins s σ H Q I) (h'.run pins s σ H Q I)⟩
theorem PS.or {X : Cx} {e : Stmt} {t t' : TS} (h : PS X e t) (h' : PS X e t') : PS X e (fun D σ H => t D σ H ∨ t' D σ H) := ⟨fun pins s σ H D I q => q.elim (h.run pins s σ H D I) (h'.run pins s σ H D I)⟩
section
variable {X : Cx} {cad : Nat → Addr} {E : XK} {a b : Expr} {ma mb : M D} {pos : Pos}
theorem e_ixA (hu : X.A.units + 64 < cLine) (ha : PE X a (tM (gX X cad) E ma)) (hb : PE X b (tM (gX X cad) E mb)) (hs : PlainIx b := by exact fun _ _ => rfl) : PE X (.Subscript a b pos) (tM (gX X cad) E (c2 ma mb ixA)) := by
  refine PE.imp (PE.or (e_ix ha hb hs) (pe_dget (by omega) ha hb hs)) fun σ H Q h => ?_
  obtain ⟨ρ, es, st, sr, sl, p⟩ := h
  cases hm : ma es st with
  | exc c fs s1 => exact .inl ⟨ρ, es, st, sr, sl, by unfold c2 at p ⊢; rw [hm] at p ⊢; exact p⟩
  | bad => exact .inl ⟨ρ, es, st, sr, sl, by unfold c2 at p ⊢; rw [hm] at p ⊢; exact p⟩
  | ok x s1 =>
    cases hm2 : mb es s1 with
    | exc c fs s2 => exact .inl ⟨ρ, es, st, sr, sl, by unfold c2 at p ⊢; rw [hm] at p ⊢; simp only [R.bind, hm2] at p ⊢; exact p⟩
    | bad => exact .inl ⟨ρ, es, st, sr, sl, by unfold c2 at p ⊢; rw [hm] at p ⊢; simp only [R.bind, hm2] at p ⊢; exact p⟩
    | ok y s2 =>
      have ep : c2 ma mb ixA es st = ixA x y s2 := by unfold c2; rw [hm]; simp only [R.bind, hm2]
      have ep2 : c2 ma mb ixD es st = ixD x y s2 := by unfold c2; rw [hm]; simp only [R.bind, hm2]
      rw [ep] at p
      have old : ixA x y s2 = ixD x y s2 → tM (gX X cad) E (c2 ma mb ixD) σ H Q := fun e => ⟨ρ, es, st, sr, sl, by rw [ep2, ← e]; exact p⟩
      unfold ixA at p old
      split at p
      · rename_i n
        split at p
        · rename_i kvs k e1 e2
          split at p
          · rename_i d e3
            refine .inr ⟨ρ, es, st, sr, sl, ?_⟩
            rw [hm]
            intro ρ1 H1 v1 le1 t1 sr1 rx
            refine ⟨ρ1, es, s1, sr1, sl.mono le1 t1, ?_⟩
            rw [hm2]
            intro ρ2 H2 v2 le2 t2 sr2 ry
            obtain ⟨A, vs, rfl, hr, hk⟩ := sr2.getK (rx.mono le2 t2) e1
            have hv := RepK.val k hk
            rw [e3] at hv
            obtain ⟨w, w1, w2⟩ := hv
            exact ⟨A, w, rfl, .inl ⟨vs, k, hr, ry.key e2, w1.symm⟩, p ρ2 H2 w (le1.trans le2) (t1.trans t2) sr2 w2⟩
          · exact p.elim
        · rename_i hn
          refine .inl (old ?_)
          dsimp only
          split
          · rename_i kvs k e1 e2
            exact (hn kvs k e1 e2).elim
          · rfl
      · rename_i hn
        refine .inl (old ?_)
        split
        · rename_i n
          exact (hn n rfl).elim
        · rfl
/-- o[i] = e, o a list or a dict -/
theorem s_subA {e o ie : Expr} {m mo mi : M D} {p2 : Pos} (hu : X.A.units + 64 < cLine) (he : PE X e (tM (gX X cad) E m)) (ho : PE X o (tM (gX X cad) E mo)) (hi : PE X ie (tM (gX X cad) E mi))
    (ha : ∀ v, assign (.Subscript o ie p2) X.env v = (do
      let ov ← holding [v] (eval o X.env)
      let iv ← holding [v, ov] (eval ie X.env)
      standAt p2
      holding [v, ov, iv] (setItem ov iv v)
      release [v, ov, iv] []) := by intro _; rfl)
    (hs : swapsWithSole [.Subscript o ie p2] e pos.line X.env = pure false := by rfl) (hw : swappedStores [.Subscript o ie p2] e X.env = pure none := by rfl)
    (h1 : (assignEach [.Subscript o ie p2] X.env).map (·.2) = [assign (.Subscript o ie p2) X.env] := by rfl) (hs2 : swapsWith e (some (.Subscript o ie p2)) pos.line X.env = pure false := by rfl) : PS X (.Assign [.Subscript o ie p2] e pos) (tS (gX X cad) E (sSubA mo mi m)) := by
  refine PS.imp (PS.or (s_sub he ho hi ha hs hw h1) (ps_dput (by omega) ho hi he hs2)) fun Dn σ H h => ?_
  obtain ⟨ρ, es, st, sr, sl, p⟩ := h
  cases hm : m es st with
  | exc c fs s1 => exact .inl ⟨ρ, es, st, sr, sl, by unfold sSubA at p; unfold sSub; rw [hm] at p ⊢; exact p⟩
  | bad => exact .inl ⟨ρ, es, st, sr, sl, by unfold sSubA at p; unfold sSub; rw [hm] at p ⊢; exact p⟩
  | ok v s1 =>
    cases hm2 : mo es s1 with
    | exc c fs s2 => exact .inl ⟨ρ, es, st, sr, sl, by unfold sSubA at p; unfold sSub; rw [hm] at p ⊢; simp only [R.bind, hm2] at p ⊢; exact p⟩
    | bad => exact .inl ⟨ρ, es, st, sr, sl, by unfold sSubA at p; unfold sSub; rw [hm] at p ⊢; simp only [R.bind, hm2] at p ⊢; exact p⟩
    | ok x s2 =>
      cases hm3 : mi es s2 with
      | exc c fs s3 => exact .inl ⟨ρ, es, st, sr, sl, by unfold sSubA at p; unfold sSub; rw [hm] at p ⊢; simp only [R.bind, hm2, hm3] at p ⊢; exact p⟩
      | bad => exact .inl ⟨ρ, es, st, sr, sl, by unfold sSubA at p; unfold sSub; rw [hm] at p ⊢; simp only [R.bind, hm2, hm3] at p ⊢; exact p⟩
      | ok y s3 =>
        have ep : sSubA mo mi m es st = (setIxA x y v s3).bind fun _ s => .ok (.nx es) s := by unfold sSubA; rw [hm]; simp only [R.bind, hm2, hm3]
        have ep2 : sSub mo mi m es st = (setIx x y v s3).bind fun _ s => .ok (.nx es) s := by unfold sSub; rw [hm]; simp only [R.bind, hm2, hm3]
        rw [ep] at p
        have old : setIxA x y v s3 = setIx x y v s3 → tS (gX X cad) E (sSub mo mi m) Dn σ H := fun e => ⟨ρ, es, st, sr, sl, by rw [ep2, ← e]; exact p⟩
        unfold setIxA at p old
        split at p
        · rename_i n
          split at p
          · rename_i kvs k e1 e2
            split at p
            · rename_i hz
              refine .inr ⟨ρ, es, st, sr, sl, ?_⟩
              rw [hm]
              intro ρ1 H1 v1 le1 t1 sr1 rx
              refine ⟨ρ1, es, s1, sr1, sl.mono le1 t1, ?_⟩
              rw [hm2]
              intro ρ2 H2 v2 le2 t2 sr2 ro
              refine ⟨ρ2, es, s2, sr2, (sl.mono le1 t1).mono le2 t2, ?_⟩
              rw [hm3]
              intro ρ3 H3 v3 le3 t3 sr3 ry
              obtain ⟨A, vs, rfl, q0, q1, q2, hk⟩ := sr3.getKW (ro.mono le3 t3) e1
              have rx3 := (rx.mono le2 t2).mono le3 t3
              have lv := RepK.len hk
              have t4 : TLe (gX X cad) H3 (upd H3 A (.dK (putK vs k v1))) := TLe.put q2 (fun _ z => nomatch z) (fun _ _ z => nomatch z)
              refine ⟨A, _, rfl, .inl ⟨vs, k, q2, ry.key e2, by rw [lv]; exact Nat.lt_of_lt_of_le hz (by first | size_fits | decide +kernel), rfl⟩, ?_⟩
              exact PoS.nx (PoS.mono p ((le1.trans le2).trans le3) (((t1.trans t2).trans t3).trans t4)) (sr3.put q0 q1 (fun _ z => nomatch z) q2 (fun _ z => nomatch z) (fun _ _ z => nomatch z) ⟨_, upd_same, (RepK.put hk rx3).mono (List.prefix_refl _) t4⟩) ((((sl.mono le1 t1).mono le2 t2).mono le3 t3).mono (List.prefix_refl _) t4)
            · exact p.elim
          · rename_i hn
            refine .inl (old ?_)
            dsimp only
            split
            · rename_i kvs k e1 e2
              exact (hn kvs k e1 e2).elim
            · rfl
        · rename_i hn
          refine .inl (old ?_)
          split
          · rename_i n
            exact (hn n rfl).elim
          · rfl
end
end Z
end
section
set_option Elab.async false
set_option linter.all false
set_option maxRecDepth 100000
set_option maxHeartbeats 4000000
/-! ZF: in, len, dict(), != of dicts, wide * and //, a < b < c. -/
namespace Z
open PySem PySem.Spec PyProof.Rows L2
section
variable {X : Cx} {cad : Nat → Addr} {E : XK} {a b c : Expr} {ma mb mc : M D} {pos : Pos}
theorem val_some {g : G} {ρ : List Addr} {H : Hp} {ds : List (Key × D)} {vs : List (Key × V)} (k : Key) (h : RepK g ρ H ds vs) : (valV vs k).isSome = (valD ds k).isSome := by
  have hv := RepK.val k h
  cases e : valD ds k with
  | none =>
    rw [e] at hv
    rw [show valV vs k = none from hv]
    rfl
  | some d =>
    rw [e] at hv
    obtain ⟨v, h1, -⟩ := hv
    rw [h1]
    rfl
theorem kq_inA (hu : X.A.units + 64 < cLine) : OpK X cad E (compareOp .In) kInA := by
  intro pins s σ H x y v u Q I rx ry h
  obtain ⟨ρ, st, dx, dy, sr, r1, r2, p⟩ := h
  unfold kInA at p
  split at p
  · split at p
    · rename_i kvs k e1 e2
      obtain ⟨A, vs, rfl, hr, hk⟩ := sr.getK r2 e1
      obtain rfl : u = Value.ref A := ry
      refine d_in (by omega) I (.inl ⟨vs, k, hr, r1.key e2, rfl⟩) rx fun s' I' => ⟨.bl _, H, I', rfl, ?_⟩
      rw [val_some k hk]
      exact p.here sr rfl
    · exact kq_in pins s σ H _ _ v u Q I rx ry ⟨ρ, st, dx, _, sr, r1, r2, p⟩
  · exact kq_in pins s σ H _ _ v u Q I rx ry ⟨ρ, st, dx, _, sr, r1, r2, p⟩
theorem kq_notInA (hu : X.A.units + 64 < cLine) : OpK X cad E (compareOp .NotIn) kNotInA := by
  intro pins s σ H x y v u Q I rx ry h
  obtain ⟨ρ, st, dx, dy, sr, r1, r2, p⟩ := h
  unfold kNotInA at p
  split at p
  · split at p
    · rename_i kvs k e1 e2
      obtain ⟨A, vs, rfl, hr, hk⟩ := sr.getK r2 e1
      obtain rfl : u = Value.ref A := ry
      refine d_notIn (by omega) I (.inl ⟨vs, k, hr, r1.key e2, rfl⟩) rx fun s' I' => ⟨.bl _, H, I', rfl, ?_⟩
      rw [val_some k hk]
      exact p.here sr rfl
    · exact kq_notIn pins s σ H _ _ v u Q I rx ry ⟨ρ, st, dx, _, sr, r1, r2, p⟩
  · exact kq_notIn pins s σ H _ _ v u Q I rx ry ⟨ρ, st, dx, _, sr, r1, r2, p⟩
theorem q_lenA : CallM X cad E (.builtin "len") fLenA := by
  intro pins s σ H vs us Q I r h
  obtain ⟨ρ, st, ds, sr, rs, p⟩ := h
  unfold fLenA at p
  split at p
  · split at p
    · rename_i kvs e1
      obtain ⟨v, rfl, r1⟩ := rs.uno
      obtain ⟨A, vs, rfl, q0, q1, q2, hk⟩ := sr.getKW r1 e1
      refine call_lenD pins s σ H _ us Q I r ⟨A, vs, rfl, q2, ?_⟩
      rw [RepK.len hk]
      exact p.here sr rep_int
    · exact q_len pins s σ H vs us Q I r ⟨ρ, st, _, sr, rs, p⟩
  · exact q_len pins s σ H vs us Q I r ⟨ρ, st, _, sr, rs, p⟩
theorem q_dict : CallM X cad E (.type "dict") fDict := by
  intro pins s σ H vs us Q I r h
  obtain ⟨ρ, st, ds, sr, rs, p⟩ := h
  unfold fDict at p
  split at p
  · split at p
    · rename_i kvs e1
      obtain ⟨v, rfl, r1⟩ := rs.uno
      obtain ⟨A, vs, rfl, hr, hk⟩ := sr.getK r1 e1
      refine call_dictD pins s σ H _ us Q I r ⟨A, vs, rfl, hr, fun q hq => ?_⟩
      have t : TLe (gX X cad) H (upd H q (.dK vs)) := TLe.new hq
      exact p _ _ _ (List.prefix_append _ _) t (sr.new hq ⟨vs, upd_same, hk.mono (List.prefix_append _ _) t⟩) (rep_loc (by rw [← sr.len, List.getElem?_append_right (Nat.le_refl _), Nat.sub_self]; rfl))
    · exact p.elim
  · exact p.elim
theorem e_dic0 : PE X (.Dict [] [] pos) (tM (gX X cad) E cDic0) := by
  refine PE.imp pe_dnewK fun σ H Q h => ?_
  obtain ⟨ρ, es, st, sr, sl, p⟩ := h
  intro q hq
  have t : TLe (gX X cad) H (upd H q (.dK [])) := TLe.new hq
  exact p _ _ _ (List.prefix_append _ _) t (sr.new hq ⟨[], upd_same, rfl⟩) (rep_loc (by rw [← sr.len, List.getElem?_append_right (Nat.le_refl _), Nat.sub_self]; rfl))
theorem o_mulA : OpM X cad E (binaryOp .Mult) bMulA := by
  intro pins s σ H x y v u Q I rx ry h
  obtain ⟨ρ, st, dx, dy, sr, r1, r2, p⟩ := h
  unfold bMulA at p
  split at p
  · split at p
    · rename_i hz
      cases r1.int
      cases r2.int
      rcases hz with hz | hz
      · exact op_mul pins s σ H _ _ v u Q I rx ry ⟨_, _, rfl, rfl, hz, p.here sr rep_int⟩
      · exact op_mulX pins s σ H _ _ v u Q I rx ry ⟨_, _, rfl, rfl, hz, p.here sr rep_int⟩
    · exact p.elim
  · exact o_mul pins s σ H _ _ v u Q I rx ry ⟨ρ, st, _, _, sr, r1, r2, p⟩
theorem op_fdivN : OpR X (binaryOp .FloorDiv) (rI (fun _ j => j ≠ 0 ∧ j.natAbs.log2 < 9000) fun i j => .int (i.fdiv j)) := opI fun i j _ _ _ _ _ hc q => floordiv_int hc.1 q (.inl (PyProof.noPylong_of_log2 hc.2))
theorem o_divA : OpM X cad E (binaryOp .FloorDiv) bDivA := by
  intro pins s σ H x y v u Q I rx ry h
  obtain ⟨ρ, st, dx, dy, sr, r1, r2, p⟩ := h
  unfold bDivA at p
  split at p
  · split at p
    · rename_i hz
      cases r1.int
      cases r2.int
      exact op_fdivN pins s σ H _ _ v u Q I rx ry ⟨_, _, rfl, rfl, hz, p.here sr rep_int⟩
    · exact p.elim
  · exact p.elim
theorem repK_mem {g : G} {ρ : List Addr} {H : Hp} : ∀ {ds : List (Key × D)} {vs : List (Key × V)} {p : Key × V}, RepK g ρ H ds vs → p ∈ vs → ∃ q ∈ ds, q.1 = p.1 ∧ Rep g ρ H q.2 p.2
  | [], vs, p, h, m => by
    have h : vs = [] := h
    subst h
    exact nomatch m
  | q :: ds, vs, p, h, m => by
    obtain ⟨v, r, rfl, h2, h3⟩ := h
    rcases List.mem_cons.mp m with rfl | m
    · exact ⟨q, List.mem_cons_self .., rfl, h2⟩
    · obtain ⟨q', m', e⟩ := repK_mem h3 m
      exact ⟨q', List.mem_cons_of_mem _ m', e⟩
theorem kq_neA (hu : X.A.units + 64 < cLine) : OpK X cad E (compareOp .NotEq) kNeA := by
  intro pins s σ H x y v u Q I rx ry h
  obtain ⟨ρ, st, dx, dy, sr, r1, r2, p⟩ := h
  unfold kNeA at p
  split at p
  · split at p
    · rename_i ks ls e1 e2
      split at p
      · rename_i hs
        obtain ⟨A, vs, rfl, q0, q1, q2, hk⟩ := sr.getKW r1 e1
        obtain ⟨B, ws, rfl, z0, z1, z2, hk2⟩ := sr.getKW r2 e2
        unfold sameK at hs
        rw [Bool.and_eq_true, List.all_eq_true] at hs
        obtain ⟨hl, ha⟩ := hs
        refine op_ne_dictA (by omega) pins s σ H _ _ v u Q I rx ry ⟨A, B, vs, ws, rfl, rfl, q2, z2, by rw [RepK.len hk, RepK.len hk2]; exact of_decide_eq_true hl, fun p' hp => ?_, p.here sr rfl⟩
        obtain ⟨q', m', e', r'⟩ := repK_mem hk hp
        have h1 := ha q' m'
        split at h1
        · rename_i i j d1 d2
          have hv := RepK.val q'.1 hk2
          rw [d2] at hv
          obtain ⟨w, w1, w2⟩ := hv
          rw [d1] at r'
          rw [← e', w1, w2.int, r'.int, of_decide_eq_true h1]
          exact ⟨rfl, rfl⟩
        · cases h1
      · exact p.elim
    · exact k_ne hu pins s σ H _ _ v u Q I rx ry ⟨ρ, st, _, _, sr, r1, r2, p⟩
  · exact k_ne hu pins s σ H _ _ v u Q I rx ry ⟨ρ, st, _, _, sr, r1, r2, p⟩
theorem t_chain {op op' : CmpOp} {f f' : D → D → S → R Bool} (ho : OpK X cad E (compareOp op) f) (ho' : OpK X cad E (compareOp op') f') (ha : PE X a (tM (gX X cad) E ma)) (hb : PE X b (tM (gX X cad) E mb)) (hc : PE X c (tM (gX X cad) E mc))
    (hm : lastMarks [op, op'] [b, c] = false := by with_unfolding_all rfl) : PT X (.Compare a [op, op'] [b, c] pos) (tT (gX X cad) E (cChain ma mb mc f f')) := by
  refine PT.imp (pt_chain ho ho' ha hb hc hm) fun σ H Q h => ?_
  obtain ⟨ρ, es, st, sr, sl, p⟩ := h
  refine ⟨ρ, es, st, sr, sl, p.bind fun ρ1 H1 x v1 st1 e1 t1 sr1 rx p1 => ⟨ρ1, es, st1, sr1, sl.mono e1 t1, p1.bind fun ρ2 H2 y v2 st2 e2 t2 sr2 ry p2 => ?_⟩⟩
  refine ⟨ρ2, st2, x, y, sr2, rx.mono e2 t2, ry, p2.bind fun ρ3 H3 k z st3 e3 t3 sr3 rz p3 => ⟨k, rz, ?_⟩⟩
  cases k with
  | false =>
    rw [if_neg Bool.false_ne_true]
    exact ⟨false, rfl, p3.here sr3 rfl⟩
  | true =>
    rw [if_pos rfl]
    refine ⟨ρ3, es, st3, sr3, ((sl.mono e1 t1).mono e2 t2).mono e3 t3, PoE.bind (f := fun z s => f' y z s) p3 fun ρ4 H4 w v4 st4 e4 t4 sr4 rw4 p4 => ?_⟩
    refine ⟨ρ4, st4, y, w, sr4, (ry.mono e3 t3).mono e4 t4, rw4, ?_⟩
    cases hf : f' y w st4 with
    | ok k s5 =>
      rw [hf] at p4
      intro ρ' H' z' e t s r
      exact ⟨k, r, p4 ρ' H' k e t s rfl⟩
    | exc c fs s5 => rw [hf] at p4; exact p4
    | bad => rw [hf] at p4; exact p4
end
end Z
end
section
set_option Elab.async false
set_option linter.all false
set_option maxRecDepth 100000
set_option maxHeartbeats 4000000
/-! ZG: for k in d, the dict locked. -/
namespace Z
open PySem PySem.Spec PyProof.Rows L2
/-- tuples stay -/
def TLt (g : G) (H H' : Hp) : Prop := (∀ a vs, SqT g.K H a vs → SqT g.K H' a vs) ∧ ∀ b fs, H b = some (.xd fs) → H' b = some (.xd fs)
section
variable {g : G} {ρ : List Addr} {H H' : Hp}
mutual
theorem Rep.monoT (t : TLt g H H') : ∀ {d : D} {v : V}, Rep g ρ H d v → Rep g ρ H' d v
  | .non, _, h => by unfold Rep at h ⊢; exact h
  | .bl _, _, h => by unfold Rep at h ⊢; exact h
  | .int _, _, h => by unfold Rep at h ⊢; exact h
  | .str _, _, h => by unfold Rep at h ⊢; exact h
  | .ty _, _, h => by unfold Rep at h ⊢; exact h
  | .cls _, _, h => by unfold Rep at h ⊢; exact h
  | .adr _ _ _ xs, _, h => by
    unfold Rep at h ⊢
    obtain ⟨h0, vs, h1, h2, h3⟩ := h
    exact ⟨h0, vs, t.2 _ _ h1, h2, Reps.monoT t h3⟩
  | .loc _, _, h => by
    unfold Rep at h ⊢
    obtain ⟨a, h1, h2⟩ := h
    exact ⟨a, h1, h2⟩
  | .tup xs, _, h => by
    unfold Rep at h ⊢
    obtain ⟨a, vs, h1, h2, h3⟩ := h
    exact ⟨a, vs, h1, t.1 _ _ h2, Reps.monoT t h3⟩
theorem Reps.monoT (t : TLt g H H') : ∀ {ds : List D} {vs : List V}, Reps g ρ H ds vs → Reps g ρ H' ds vs
  | [], _, h => by unfold Reps at h ⊢; exact h
  | _ :: _, _, h => by
    unfold Reps at h ⊢
    obtain ⟨v, r, h1, h2, h3⟩ := h
    exact ⟨v, r, h1, Rep.monoT t h2, Reps.monoT t h3⟩
end
theorem RepF.monoT (t : TLt g H H') : ∀ {ds : List (Str × D)} {vs : List (Str × V)}, RepF g ρ H ds vs → RepF g ρ H' ds vs
  | [], _, h => h
  | _ :: _, _, h => by
    obtain ⟨v, r, h1, h2, h3⟩ := h
    exact ⟨v, r, h1, h2.monoT t, h3.monoT t⟩
theorem RepK.monoT (t : TLt g H H') : ∀ {ds : List (Key × D)} {vs : List (Key × V)}, RepK g ρ H ds vs → RepK g ρ H' ds vs
  | [], _, h => h
  | _ :: _, _, h => by
    obtain ⟨v, r, h1, h2, h3⟩ := h
    exact ⟨v, r, h1, h2.monoT t, h3.monoT t⟩
theorem RepN.monoT (t : TLt g H H') : ∀ {ds : List (NestedKey × D)} {xs : List (NestedKey × Addr × Value)}, RepN g ρ H ds xs → RepN g ρ H' ds xs
  | [], _, h => h
  | _ :: _, _, h => by
    obtain ⟨a, u, v, r, h1, h2, h3, h4, h5⟩ := h
    exact ⟨a, u, v, r, h1, h2.monoT t, h3.monoT t, h4, h5.monoT t⟩
theorem KP.monoT {a : Addr} {o : O} (h : KP g ρ H a o) (t : TLt g H H') : KP g ρ H' a o := by
  cases o with
  | ro xs => obtain ⟨vs, k, r⟩ := h; exact ⟨vs, k, r.monoT t⟩
  | _ => exact h
theorem ObjR.monoT {a : Addr} {o : O} (h : ObjR g ρ H a o) (t : TLt g H H') (k : H' a = H a) : ObjR g ρ H' a o := by
  cases o with
  | lst xs => obtain ⟨vs, q, r⟩ := h; exact ⟨vs, k.trans q, r.monoT t⟩
  | ro xs =>
    obtain ⟨vs, q, r⟩ := h
    refine ⟨vs, ?_, r.monoT t⟩
    unfold SqL Rd at q ⊢
    rw [k]
    exact q
  | hole => obtain ⟨vs, q⟩ := h; exact ⟨vs, k.trans q⟩
  | ins c fs => obtain ⟨dx, vs, q, r⟩ := h; exact ⟨dx, vs, k.trans q, r.monoT t⟩
  | dic kvs => obtain ⟨vs, q, r⟩ := h; exact ⟨vs, k.trans q, r.monoT t⟩
  | dro kvs =>
    obtain ⟨vs, q, r⟩ := h
    refine ⟨vs, ?_, r.monoT t⟩
    unfold Rd at q ⊢
    rw [k]
    exact q
  | dkn kvs => obtain ⟨o, es, ep, xs, q, h1, h2, h3, h4, h5, r⟩ := h; exact ⟨o, es, ep, xs, k.trans q, h1, h2, h3, h4, h5, r.monoT t⟩
theorem SR.putT {st : S} (h : SR g ρ st H) {n : Nat} {a : Addr} {u : HO} {o o0 : O} (hn : ρ[n]? = some a) (h0 : st[n]? = some o0) (hro : ∀ xs, o0 ≠ .ro xs) (tl : TLt g H (upd H a u)) (ho : ObjR g ρ (upd H a u) a o) : SR g ρ (st.set n o) (upd H a u) := by
  have nk : ¬ KP g ρ H a o0 := fun z => by
    cases o0 with
    | ro xs => exact hro xs rfl
    | _ => exact z
  have hl : n < st.length := (List.getElem?_eq_some_iff.mp h0).1
  have kp : ∀ (m : Nat) (o' : O), n ≠ m → st[m]? = some o' → ρ[m]? = some a → KP g ρ H a o' := fun m o' ne e q => (h.nd n m a o0 o' ne hn q h0 e).resolve_left nk
  refine ⟨by rw [List.length_set]; exact h.len, fun i j b oi oj ne r1 r2 s1 s2 => ?_, fun m o' b e q => ?_⟩
  · by_cases hi : n = i
    · subst hi
      rw [hn] at r1
      cases r1
      rw [List.getElem?_set_ne ne] at s2
      exact .inr ((kp j oj ne s2 r2).monoT tl)
    · rw [List.getElem?_set_ne hi] at s1
      by_cases hj : n = j
      · subst hj
        rw [hn] at r2
        cases r2
        exact .inl ((kp i oi hi s1 r1).monoT tl)
      · rw [List.getElem?_set_ne hj] at s2
        exact (h.nd i j b oi oj ne r1 r2 s1 s2).imp (fun z => z.monoT tl) (fun z => z.monoT tl)
  · by_cases hm : n = m
    · subst hm
      rw [List.getElem?_set_self hl] at e
      rw [hn] at q
      cases e
      cases q
      exact ho
    · rw [List.getElem?_set_ne hm] at e
      by_cases ne : b = a
      · subst ne
        exact ((kp m o' hm e q).monoT tl).ob
      · exact (h.ob m o' b e q).monoT tl (upd_ne ne)
theorem Slo.monoT {es : Ev} {σ : L2.St} (h : Slo g ρ H es σ) (t : TLt g H H') : Slo g ρ H' es σ := ⟨h.1, fun i d q => by
  obtain ⟨v, q1, q2⟩ := h.2 i d q
  exact ⟨v, q1, q2.monoT t⟩⟩
theorem unf_t {a : Addr} {o : Obj} {vs : List (Key × V)} (h : H a = some (.frz o (.dK vs))) : TLt g H (upd H a (.dK vs)) := by
  refine ⟨fun b ws q => ?_, fun b u q => by rw [upd_ne (fun e => by rw [e, h] at q; cases q)]; exact q⟩
  rcases q with (q | ⟨o', q⟩) | q
  · refine .inl (.inl ?_)
    rw [upd_ne (fun e => by rw [e, h] at q; cases q)]
    exact q
  · refine .inl (.inr ⟨o', ?_⟩)
    rw [upd_ne (fun e => by rw [e, h] at q; cases q)]
    exact q
  · exact .inr q
end
def kD : Key → D
  | .inl i => .int i
  | .inr x => .str x
def sForA (i : Nat) (set : Ev → D → Option Ev) (b : M Out) : M Out := fun es st => match es[i]? with
  | some (some (.loc n)) => match getKW st n with
    | some kvs => match forT set b (kvs.map fun kv => kD kv.1) es (st.set n (.dro kvs)) with
      | .ok o s => match s[n]? with
        | some (.dro kvs') => .ok o (s.set n (.dic kvs'))
        | _ => .bad
      | _ => .bad
    | none => sFor (cVar i) set b es st
  | _ => sFor (cVar i) set b es st
section
variable {X : Cx} {cad : Nat → Addr} {E : XK} {tg iter : Expr} {body : List Stmt} {set : Ev → D → Option Ev} {b : M Out} {pos : Pos} {i : Nat}
theorem kD_rep {g : G} {ρ : List Addr} {H : Hp} (k : Key) : Rep g ρ H (kD k) (kV k) := by
  cases k with
  | inl i => exact rep_int
  | inr x => exact rep_str
theorem s_forA (hp : PassesOwn (model X.prog X.w) X.A X.env X.xe) (hc : X.calm = true) (he : PE X iter (tM (gX X cad) E (cVar i))) (hg : PGd X cad tg set) (hb : PSs X body (tS (gX X cad) E b)) (hs : ∀ x, foldedSetIterable iter X.env x = pure x := by intro _; rfl) : PS X (.For tg iter body [] pos) (tS (gX X cad) E (sForA i set b)) := by
  obtain ⟨tt, h2, h3⟩ := id hg.ex
  refine ⟨fun pins s σ H Dn I h => ?_⟩
  obtain ⟨ρ, es, st, sr, sl, p⟩ := h
  have old : sForA i set b es st = sFor (cVar i) set b es st → wpAny (model X.prog X.w) X.A (exec (.For tg iter body [] pos) X.env) (SP X pins Dn) X.xe s := fun e => (s_for hp hc he hg hb hs).run pins s σ H Dn I ⟨ρ, es, st, sr, sl, by rw [← e]; exact p⟩
  unfold sForA at p old
  split at p
  · rename_i n hn
    split at p
    · rename_i kvs e1
      obtain ⟨v, q1, q2⟩ := sl.2 i _ hn
      obtain ⟨A, vs, rfl, r0, r1, r2, hk⟩ := sr.getKW q2 e1
      refine (ps_lock (ps_for hp hc (pi_keys he) h2 hb hs)).run pins s σ H Dn I ⟨A, .dK vs, r2, trivial, fun od => ?_⟩
      have t1 : TLe (gX X cad) H (upd H A (.frz od (.dK vs))) := TLe.put r2 (fun _ z => nomatch z) (fun _ _ z => nomatch z)
      have sr1 := sr.put (u := .frz od (.dK vs)) (o := .dro kvs) r0 r1 (fun _ z => nomatch z) r2 (fun _ z => nomatch z) (fun _ _ z => nomatch z) ⟨vs, .inr ⟨od, upd_same⟩, hk.mono (List.prefix_refl _) t1⟩
      have sl1 := sl.mono (List.prefix_refl _) t1
      refine ⟨ρ, es, _, sr1, sl1, ?_⟩
      have ec : cVar i es (st.set n (.dro kvs)) = .ok (.loc n) (st.set n (.dro kvs)) := by unfold cVar; rw [hn]
      rw [ec]
      intro ρ2 H2 v le2 t2 sr2 rx
      have f2 := t2.frz _ _ _ upd_same
      have a2 : v = .ref A := by
        obtain ⟨a, z1, z2⟩ := rx.loc
        rw [pre_get le2 r0] at z1
        cases z1
        exact z2
      subst a2
      have hk2 := (hk.mono (List.prefix_refl _) t1).mono le2 t2
      refine ⟨A, od, rfl, .inl ⟨vs, f2, forT_W (Itk A od vs) (xs := kvs.map fun kv => kD kv.1) h3 (fun H => H A = some (.frz od (.dK vs))) (fun H H' tl h => tl.frz _ _ _ h) (fun j H d hd h => ?_) (fun H h => ?_) (fun j H d w H' ρ0 e0 hd h hy => ?_) sr2 (sl1.mono le2 t2) f2 ?_⟩⟩
      · have jl := (List.getElem?_eq_some_iff.mp hd).1
        rw [List.length_map] at jl
        exact ⟨h, by rw [RepK.len hk]; exact jl⟩
      · rw [List.length_map]
        exact ⟨h, by rw [RepK.len hk]; exact Nat.le_refl _⟩
      · obtain ⟨eH, k, w', e2, e3⟩ := hy
        refine ⟨eH, ?_⟩
        rw [List.getElem?_map] at hd
        obtain ⟨p', e4, e5⟩ := Option.map_eq_some_iff.mp hd
        obtain ⟨u, e6, -⟩ := RepK.get hk e4
        rw [e6] at e2
        cases e2
        rw [← e5, e3]
        exact kD_rep _
      · -- the loop's outcome, unlocked
        have fin : ∀ {ρ' : List Addr} {H' : Hp} {s' : S}, ρ2 <+: ρ' → TLe (gX X cad) H2 H' → SR (gX X cad) ρ' s' H' → H' A = some (.frz od (.dK vs)) ∧ TLt (gX X cad) H' (upd H' A (.dK vs)) ∧ TLe (gX X cad) H (upd H' A (.dK vs)) ∧ ∀ kvs', s'[n]? = some (.dro kvs') → SR (gX X cad) ρ' (s'.set n (.dic kvs')) (upd H' A (.dK vs)) := fun {ρ' H' s'} le3 t3 sr3 => by
          have f3 := t3.frz _ _ _ f2
          have ut := unf_t (g := gX X cad) f3
          have t13 := (t1.trans t2).trans t3
          refine ⟨f3, ut, ⟨fun b ws q => ut.1 _ _ (t13.tup _ _ q), fun b o u q => ?_, fun b u q => ut.2 _ _ (t13.xd _ _ q)⟩, fun kvs' e => ?_⟩
          · have nb : b ≠ A := fun z => by
              rw [z, r2] at q
              cases q
            rw [upd_ne nb]
            exact t13.frz _ _ _ q
          · have an := pre_get (le2.trans le3) r0
            refine sr3.putT an e (fun _ z => nomatch z) ut ?_
            obtain ⟨b, hb, ws, hr, hk3⟩ := sr3.at_ e
            rw [an] at hb
            cases hb
            have ew : ws = vs := by
              rcases hr with hr | ⟨o', hr⟩
              · rw [f3] at hr
                cases hr
              · rw [f3] at hr
                cases hr
                rfl
            subst ew
            exact ⟨ws, upd_same, hk3.monoT ut⟩
        revert p
        cases forT set b (kvs.map fun kv => kD kv.1) es (st.set n (.dro kvs)) with
        | exc c fs s' => exact fun p => p.elim
        | bad => exact fun p => p.elim
        | ok o s' =>
          intro p
          dsimp only at p
          split at p
          · rename_i kvs' e9
            cases o with
            | nx e =>
              intro ρ' H' σ' le3 t3 sr3 sl3
              obtain ⟨f3, ut, th, hs3⟩ := fin le3 t3 sr3
              exact ⟨f3, p ρ' _ σ' (le2.trans le3) th (hs3 _ e9) (sl3.monoT ut)⟩
            | rt d =>
              intro ρ' H' w le3 t3 sr3 rd
              obtain ⟨f3, ut, th, hs3⟩ := fin le3 t3 sr3
              exact ⟨f3, p ρ' _ w (le2.trans le3) th (hs3 _ e9) (rd.monoT ut)⟩
            | bk e =>
              intro ρ' H' σ' le3 t3 sr3 sl3
              obtain ⟨f3, ut, th, hs3⟩ := fin le3 t3 sr3
              exact ⟨f3, p ρ' _ σ' (le2.trans le3) th (hs3 _ e9) (sl3.monoT ut)⟩
            | ct e =>
              intro ρ' H' σ' le3 t3 sr3 sl3
              obtain ⟨f3, ut, th, hs3⟩ := fin le3 t3 sr3
              exact ⟨f3, p ρ' _ σ' (le2.trans le3) th (hs3 _ e9) (sl3.monoT ut)⟩
          · exact p.elim
    · exact old (by rename_i e1; rw [hn]; dsimp only; rw [e1])
  · rename_i hn
    refine old ?_
    split
    · rename_i n e
      exact (hn n e).elim
    · rfl
end
end Z
end
section
set_option Elab.async false
set_option linter.all false
set_option maxRecDepth 100000
set_option maxHeartbeats 4000000
/-! ZS: evaluation by simp. -/
namespace Z
open PySem PySem.Spec PyProof.Rows L2
section
variable {α β : Type} {a : α} {s st : S} {es : Ev}
end
end Z
end
section
set_option Elab.async false
set_option linter.all false
set_option maxRecDepth 100000
set_option maxHeartbeats 4000000
/-! ZW: what an evaluator ends in: rules by what is wanted behind it. -/
namespace Z
open PySem PySem.Spec PyProof.Rows L2
def Wp {α : Type} (r : R α) (Q : α → S → Prop) : Prop := match r with
  | .ok a s => Q a s
  | _ => False
section
variable {α β : Type} {a : α} {s st : S} {es : Ev} {Q Q' : α → S → Prop} {r : R α}
theorem Wp.ok (h : Wp r Q) : ∃ a s, r = .ok a s ∧ Q a s := by
  cases r with
  | ok a s => exact ⟨a, s, rfl, h⟩
  | exc => exact h.elim
  | bad => exact h.elim
theorem Wp.mono (h : Wp r Q) (k : ∀ a s, Q a s → Q' a s) : Wp r Q' := by
  cases r with
  | ok a s => exact k a s h
  | exc => exact h.elim
  | bad => exact h.elim
theorem wp_bind {f : α → S → R β} {Q : β → S → Prop} (h : Wp r fun a s => Wp (f a s) Q) : Wp (r.bind f) Q := by
  cases r with
  | ok a s => exact h
  | exc => exact h.elim
  | bad => exact h.elim
end
section
variable {s st : S} {es : Ev} {QD : D → S → Prop} {QB : Bool → S → Prop} {QL : List D → S → Prop} {QO : Out → S → Prop} {α : Type} {Q : α → S → Prop} {ma mb mo mi m : M D} {mA mK : M (List D)} {mc mt mt2 : M Bool} {b b2 : M Out} {i j : Nat} {d : D}
theorem wp_var (h : es[i]? = some (some d)) (q : QD d st) : Wp (cVar i es st) QD := by unfold cVar; rw [h]; exact q
theorem wp_c (q : QD d st) : Wp (cC d es st) QD := q
theorem wp_c2 {f : D → D → S → R α} (h : Wp (ma es st) fun x s => Wp (mb es s) fun y s => Wp (f x y s) Q) : Wp (c2 ma mb f es st) Q := wp_bind (h.mono fun _ _ q => wp_bind q)
theorem wp_c1 {f : D → S → R α} (h : Wp (ma es st) fun x s => Wp (f x s) Q) : Wp (c1 ma f es st) Q := wp_bind h
theorem wp_vK {f : D → D → S → R Bool} {x y : D} (h : Wp (f x y s) fun k s => QD (.bl k) s) : Wp (vK f x y s) QD := wp_bind h
theorem wp_and (h : Wp (mt es st) fun k s => (k = true → Wp (mt2 es s) QB) ∧ (k = false → QB false s)) : Wp (cAnd mt mt2 es st) QB := wp_bind (h.mono fun k s q => by cases k with
  | true => exact q.1 rfl
  | false => exact q.2 rfl)
theorem wp_or (h : Wp (mt es st) fun k s => (k = true → QB true s) ∧ (k = false → Wp (mt2 es s) QB)) : Wp (cOr mt mt2 es st) QB := wp_bind (h.mono fun k s q => by cases k with
  | true => exact q.1 rfl
  | false => exact q.2 rfl)
theorem wp_not (h : Wp (mt es st) fun k s => QB (!k) s) : Wp (cNot mt es st) QB := wp_bind h
theorem wp_if {ma mb : M α} (h : Wp (mc es st) fun k s => (k = true → Wp (ma es s) Q) ∧ (k = false → Wp (mb es s) Q)) : Wp (cIf mc ma mb es st) Q := wp_bind (h.mono fun k s q => by cases k with
  | true => exact q.1 rfl
  | false => exact q.2 rfl)
theorem wp_vand (h : Wp (ma es st) fun x s => ∃ k, x = .bl k ∧ (k = true → Wp (mb es s) QD) ∧ (k = false → QD (.bl false) s)) : Wp (vAnd ma mb es st) QD := wp_bind (h.mono fun x s q => by
  obtain ⟨k, rfl, q⟩ := q
  cases k with
  | true => exact q.1 rfl
  | false => exact q.2 rfl)
theorem wp_vor (h : Wp (ma es st) fun x s => ∃ k, x = .bl k ∧ (k = true → QD (.bl true) s) ∧ (k = false → Wp (mb es s) QD)) : Wp (vOr ma mb es st) QD := wp_bind (h.mono fun x s q => by
  obtain ⟨k, rfl, q⟩ := q
  cases k with
  | true => exact q.1 rfl
  | false => exact q.2 rfl)
theorem wp_vnot (h : Wp (ma es st) fun x s => ∃ k, x = .bl k ∧ QD (.bl (!k)) s) : Wp (vNot ma es st) QD := wp_bind (h.mono fun x s q => by
  obtain ⟨k, rfl, q⟩ := q
  exact q)
theorem wp_tr_bl {k : Bool} (q : QB k s) : Wp (truD (.bl k) s) QB := q
theorem wp_tr_int {n : Int} (q : QB (n != 0) s) : Wp (truD (.int n) s) QB := q
theorem wp_nil (q : QL [] st) : Wp (cNil es st) QL := q
theorem wp_cons (h : Wp (ma es st) fun x s => Wp (mA es s) fun xs s => QL (x :: xs) s) : Wp (cCons ma mA es st) QL := wp_bind (h.mono fun _ _ q => wp_bind q)
theorem wp_tup (h : Wp (mA es st) fun xs s => xs.length ≤ 1000000 ∧ QD (.tup xs) s) : Wp (cTup mA es st) QD := wp_bind (h.mono fun xs s q => by rw [if_pos q.1]; exact q.2)
theorem wp_lst (h : Wp (mA es st) fun xs s => xs.length ≤ 1000000 ∧ QD (.loc s.length) (s ++ [.lst xs])) : Wp (cLst mA es st) QD := wp_bind (h.mono fun xs s q => by rw [if_pos q.1]; exact q.2)
theorem wp_call {f : List D → S → R D} (h : Wp (mA es st) fun ds s => Wp (f ds s) QD) : Wp (cCall mA f es st) QD := wp_bind h
theorem wp_callK {gD} {f : List D → S → R D} (h : Wp (mA es st) fun ds s => Wp (mK es s) fun zs s => Wp (f (gD ds zs) s) QD) : Wp (cCallK mA mK gD f es st) QD := wp_bind (h.mono fun _ _ q => wp_bind q)
theorem wp_meth {f : D → List D → S → R D} (h : Wp (mo es st) fun o s => isL o s = true ∧ Wp (mA es s) fun ds s => Wp (f o ds s) QD) : Wp (cMeth mo mA f es st) QD := wp_bind (h.mono fun o s q => by rw [if_pos q.1]; exact wp_bind q.2)
theorem wp_make {c : Nat} {F : List D → S → R D} (h : Wp (mA es st) fun ds s => Wp (F (.loc s.length :: ds) (s ++ [.ins c []])) fun v s2 => v = .non ∧ QD (.loc s.length) s2) : Wp (cMake c mA F es st) QD := wp_bind (h.mono fun ds s q => wp_bind (q.mono fun v s2 q => by
  obtain ⟨rfl, q⟩ := q
  exact q))
theorem wp_is {n : Ty} (h : Wp (ma es st) fun x s => ∃ t k, tyD x s = some t ∧ isTy t n = some k ∧ QD (.bl k) s) : Wp (cIs n ma es st) QD := wp_bind (h.mono fun x s q => by
  obtain ⟨t, k, e1, e2, q⟩ := q
  rw [e1]
  show Wp (match isTy t n with
    | some b => .ok (.bl b) s
    | none => .bad) QD
  rw [e2]
  exact q)
theorem wp_nox (h : Wp (m es st) QD) : Wp (cNox m es st) QD := by
  unfold cNox
  obtain ⟨a, s, e, q⟩ := h.ok
  rw [e]
  exact q
theorem wp_slice {ml mh : M (Option Int)} (h : Wp (ma es st) fun x s => Wp (ml es s) fun lo s => Wp (mh es s) fun hi s => Wp (slD x lo hi s) QD) : Wp (cSlice ma ml mh es st) QD := wp_bind (h.mono fun _ _ q => wp_bind (q.mono fun _ _ q => wp_bind q))
theorem wp_nopart {Q : Option Int → S → Prop} (q : Q none st) : Wp (cNoPart es st) Q := q
theorem wp_part {Q : Option Int → S → Prop} (h : Wp (ma es st) fun x s => ∃ i, x = .int i ∧ Q (some i) s) : Wp (cPart ma es st) Q := wp_bind (h.mono fun x s q => by
  obtain ⟨i, rfl, q⟩ := q
  exact q)
/-! ### statements -/
theorem wp_next (q : QO (.nx es) st) : Wp (sNext es st) QO := q
theorem wp_break (q : QO (.bk es) st) : Wp (sBreak es st) QO := q
/-- behind a statement of a row -/
def After (b : M Out) (Q : Out → S → Prop) (o : Out) (s : S) : Prop := match o with
  | .nx e => Wp (b e s) Q
  | o => Q o s
theorem af_nx (h : Wp (b es s) QO) : After b QO (.nx es) s := h
theorem af_rt (h : QO (.rt d) s) : After b QO (.rt d) s := h
theorem af_bk (h : QO (.bk es) s) : After b QO (.bk es) s := h
theorem wp_seq (h : Wp (b es st) (After b2 QO)) : Wp (sSeq b b2 es st) QO := wp_bind (h.mono fun o s q => by
  cases o with
  | nx e => exact q
  | _ => exact q)
theorem wp_drop (h : Wp (m es st) fun _ s => QO (.nx es) s) : Wp (sDrop m es st) QO := wp_bind h
theorem wp_ret (h : Wp (m es st) fun d s => QO (.rt d) s) : Wp (sRet m es st) QO := wp_bind h
theorem wp_retN (h : QO (.rt .non) st) : Wp (sRetN es st) QO := h
theorem wp_set (h : Wp (m es st) fun d s => QO (.nx (es.set i (some d))) s) : Wp (sSet i m es st) QO := wp_bind h
theorem wp_asg {set} (h : Wp (m es st) fun d s => ∃ e, set es d = some e ∧ QO (.nx e) s) : Wp (sAsg set m es st) QO := wp_bind (h.mono fun d s q => by
  obtain ⟨e, e1, q⟩ := q
  rw [e1]
  exact q)
theorem wp_sub (h : Wp (m es st) fun v s => Wp (mo es s) fun o s => Wp (mi es s) fun i s => Wp (setIx o i v s) fun _ s => QO (.nx es) s) : Wp (sSub mo mi m es st) QO := wp_bind (h.mono fun _ _ q => wp_bind (q.mono fun _ _ q => wp_bind (q.mono fun _ _ q => wp_bind q)))
theorem wp_sfld {c f} (h : Wp (m es st) fun v s => Wp (mo es s) fun o s => Wp (setF c f o v s) fun _ s => QO (.nx es) s) : Wp (sFldD c f mo m es st) QO := wp_bind (h.mono fun _ _ q => wp_bind (q.mono fun _ _ q => wp_bind q))
/-- a def -/
def Back (Q : D → S → Prop) (o : Out) (s : S) : Prop := match o with
  | .rt d => Q d s
  | .nx _ => Q .non s
  | _ => False
theorem bk_rt (h : QD d s) : Back QD (.rt d) s := h
theorem bk_nx (h : QD .non s) : Back QD (.nx es) s := h
theorem wp_fn {N n : Nat} {ds : List D} (hl : ds.length = n) (h : Wp (b (ds.map some ++ List.replicate (N - n) none) st) (Back QD)) : Wp (fnD N n b ds st) QD := by
  unfold fnD
  rw [if_pos hl]
  exact wp_bind (h.mono fun o s q => by
    cases o with
    | rt d => exact q
    | nx e => exact q
    | bk e => exact q.elim
    | ct e => exact q.elim)
/-! ### operators -/
variable {x y n k : Int}
theorem wp_addI (q : QD (.int (x + y)) s) : Wp (bAdd (.int x) (.int y) s) QD := q
theorem wp_addL {n m : Nat} {xs ys : List D} (h1 : getW s n = some xs) (h2 : getW s m = some ys) (hl : xs.length + ys.length ≤ 1000000) (q : QD (.loc s.length) (s ++ [.lst (xs ++ ys)])) : Wp (bAdd (.loc n) (.loc m) s) QD := by
  unfold bAdd
  simp only [h1, h2]
  rw [if_pos hl]
  exact q
theorem wp_subI (q : QD (.int (x - y)) s) : Wp (bSub (.int x) (.int y) s) QD := q
theorem wp_mulI (h : (-(2 ^ 64) < x ∧ x < 2 ^ 64) ∨ (-(2 ^ 64) < y ∧ y < 2 ^ 64)) (q : QD (.int (x * y)) s) : Wp (bMul (.int x) (.int y) s) QD := by
  unfold bMul
  dsimp only
  rw [if_pos (.inl h)]
  exact q
theorem flat_one (d : D) : ∀ n : Nat, (List.replicate n [d]).flatten = List.replicate n d
  | 0 => rfl
  | n + 1 => by
    rw [List.replicate_succ, List.replicate_succ, List.flatten_cons, flat_one d n]
    rfl
theorem wp_mulT (h : 1 ≤ x) (h2 : x ≤ 1000) (q : QD (.tup (List.replicate x.toNat d)) s) : Wp (bMul (.tup [d]) (.int x) s) QD := by
  unfold bMul
  dsimp only
  by_cases e : x = 1
  · subst e
    exact q
  · rw [if_neg e, if_pos ⟨by simp, by omega, h2, by show 1 ≤ 1000; omega⟩, flat_one]
    exact q
theorem wp_divI (h : 0 < y) (h2 : y < 1073741824) (q : QD (.int (x / y)) s) : Wp (bDiv (.int x) (.int y) s) QD := by
  unfold bDiv
  dsimp only
  rw [if_pos (.inl ⟨by omega, by omega⟩)]
  rw [Int.fdiv_eq_ediv_of_nonneg _ (by omega)]
  exact q
theorem wp_modI (h : 0 < y) (q : QD (.int (x % y)) s) : Wp (bMod (.int x) (.int y) s) QD := by
  unfold bMod
  dsimp only
  rw [if_pos (by omega)]
  rw [Int.fmod_eq_emod_of_nonneg _ (by omega)]
  exact q
theorem wp_powI (h : 0 ≤ y ∧ y ≤ 1000000 ∧ x.natAbs < 2 ^ 64) (q : QD (.int (x ^ y.toNat)) s) : Wp (bPow (.int x) (.int y) s) QD := by
  unfold bPow
  dsimp only
  rw [if_pos h]
  exact q
theorem wp_neg (q : QD (.int (-x)) s) : Wp (uNeg (.int x) s) QD := q
theorem wp_eqI (q : QB (decide (x = y)) s) : Wp (kEq (.int x) (.int y) s) QB := q
theorem wp_eqS {x y : Str} (q : QB (decide (x = y)) s) : Wp (kEq (.str x) (.str y) s) QB := q
theorem wp_eqB {x y : Bool} (q : QB (decide (x = y)) s) : Wp (kEq (.bl x) (.bl y) s) QB := q
theorem wp_neI (q : QB (!decide (x = y)) s) : Wp (kNe (.int x) (.int y) s) QB := q
theorem wp_neS {x y : Str} (q : QB (!decide (x = y)) s) : Wp (kNe (.str x) (.str y) s) QB := q
theorem wp_ltI (q : QB (decide (x < y)) s) : Wp (kLt (.int x) (.int y) s) QB := q
theorem wp_leI (q : QB (decide (x ≤ y)) s) : Wp (kLe (.int x) (.int y) s) QB := q
theorem wp_gtI (q : QB (decide (y < x)) s) : Wp (kGt (.int x) (.int y) s) QB := q
theorem wp_geI (q : QB (decide (y ≤ x)) s) : Wp (kGe (.int x) (.int y) s) QB := q
theorem wp_isN (q : QB (isNonD d) s) : Wp (kIs d .non s) QB := by cases d <;> exact q
theorem wp_isNotN (q : QB (!isNonD d) s) : Wp (kIsNot d .non s) QB := by cases d <;> exact q
theorem wp_ixT {xs : List D} (h : L2.atI xs x = some d) (q : QD d s) : Wp (ixD (.tup xs) (.int x) s) QD := by
  unfold ixD
  simp only [h]
  exact q
theorem wp_ixL {n : Nat} {xs : List D} (h1 : getL s n = some xs) (h : L2.atI xs x = some d) (q : QD d s) : Wp (ixD (.loc n) (.int x) s) QD := by
  unfold ixD
  simp only [h1, h]
  exact q
theorem wp_slL {n : Nat} {xs : List D} {lo hi : Option Int} (h1 : getL s n = some xs) (q : QD (.loc s.length) (s ++ [.lst (cutD xs lo hi)])) : Wp (slD (.loc n) lo hi s) QD := by
  unfold slD
  simp only [h1]
  exact q
theorem wp_slT {xs : List D} {lo hi : Option Int} (q : QD (.tup (cutD xs lo hi)) s) : Wp (slD (.tup xs) lo hi s) QD := q
theorem wp_setIx {n : Nat} {xs : List D} {v : D} {j : Nat} {Q : Unit → S → Prop} (h1 : getW s n = some xs) (h2 : ixN xs.length x = some j) (q : Q () (s.set n (.lst (xs.set j v)))) : Wp (setIx (.loc n) (.int x) v s) Q := by
  unfold setIx
  simp only [h1, h2]
  exact q
theorem wp_setF {n c : Nat} {f : Str} {fs : List (Str × D)} {v : D} {Q : Unit → S → Prop} (h1 : getI s n = some (c, fs)) (h2 : fs.length < 1000) (q : Q () (s.set n (.ins c (putD f v fs)))) : Wp (setF c f (.loc n) v s) Q := by
  unfold setF
  dsimp only
  rw [h1]
  dsimp only
  rw [if_pos ⟨rfl, h2⟩]
  exact q
theorem wp_fld {n c : Nat} {f : Str} {fs : List (Str × D)} (h1 : getI s n = some (c, fs)) (h2 : fs.lookup f = some d) (q : QD d s) : Wp (fldD c f (.loc n) s) QD := by
  unfold fldD
  simp only [h1, h2]
  exact q
theorem wp_prop {n c : Nat} {F : List D → S → R D} {fs : List (Str × D)} (h1 : getI s n = some (c, fs)) (q : Wp (F [.loc n] s) QD) : Wp (propD c F (.loc n) s) QD := by
  unfold propD
  simp only [h1]
  exact q
/-! ### builtins -/
theorem wp_len {xs : List D} (h : seqOf d s = some xs) (q : QD (.int xs.length) s) : Wp (fLen [d] s) QD := by
  unfold fLen
  cases d with
  | str z => cases h
  | _ => simp only [h]; exact q
theorem wp_list {xs : List D} (h : seqOf d s = some xs) (q : QD (.loc s.length) (s ++ [.lst xs])) : Wp (fList [d] s) QD := by
  unfold fList
  simp only [h]
  exact q
theorem wp_tupT {xs : List D} (q : QD (.tup xs) s) : Wp (fTuple [.tup xs] s) QD := q
theorem wp_tupL {n : Nat} {xs : List D} (h : getL s n = some xs) (q : QD (.tup xs) s) : Wp (fTuple [.loc n] s) QD := by
  unfold fTuple
  simp only [h]
  exact q
theorem wp_int (q : QD (.int x) s) : Wp (fInt [.int x] s) QD := q
theorem wp_max2 (q : QD (.int (if y > x then y else x)) s) : Wp (fMax [.int x, .int y] s) QD := q
theorem wp_min2 (q : QD (.int (if y < x then y else x)) s) : Wp (fMin [.int x, .int y] s) QD := q
theorem wp_append {n : Nat} {xs : List D} (h : getW s n = some xs) (hl : xs.length < 1000000) (q : QD .non (s.set n (.lst (xs ++ [d])))) : Wp (mAppend (.loc n) [d] s) QD := by
  unfold mAppend
  simp only [h]
  rw [if_pos hl]
  exact q
end
/-! ### loops -/
section
variable {set : Ev → D → Option Ev} {b : M Out} {es : Ev} {st : S} {QO : Out → S → Prop} {QD : D → S → Prop}
/-- behind a turn -/
def Turned (I : Ev → S → Prop) (Q : Out → S → Prop) (o : Out) (s : S) : Prop := match o with
  | .nx e => I e s
  | .ct e => I e s
  | .bk e => Q (.nx e) s
  | .rt d => Q (.rt d) s
theorem turned_nx {I : Ev → S → Prop} (h : I es st) : Turned I QO (.nx es) st := h
theorem turned_bk {I : Ev → S → Prop} (h : QO (.nx es) st) : Turned I QO (.bk es) st := h
theorem turned_rt {I : Ev → S → Prop} {d : D} (h : QO (.rt d) st) : Turned I QO (.rt d) st := h
theorem wp_after {k : Ev → S → R Out} {I : Ev → S → Prop} {o : Out} {s : S} (h : Turned I QO o s) (hk : ∀ e s, I e s → Wp (k e s) QO) : Wp (afterTurn k o s) QO := by
  cases o with
  | nx e => exact hk e s h
  | ct e => exact hk e s h
  | bk e => exact h
  | rt d => exact h
theorem wp_forT (I : Nat → Ev → S → Prop) {xs : List D} (h0 : I 0 es st) (step : ∀ i d es st, xs[i]? = some d → I i es st → ∃ es1, set es d = some es1 ∧ Wp (b es1 st) (Turned (I (i + 1)) QO)) (hd : ∀ es st, I xs.length es st → QO (.nx es) st) : Wp (forT set b xs es st) QO := by
  have key : ∀ (n i : Nat) (es : Ev) (st : S), i + n = xs.length → I i es st → Wp (forT set b (xs.drop i) es st) QO := by
    intro n
    induction n with
    | zero =>
      intro i es st e h
      have ei : i = xs.length := by omega
      subst ei
      rw [List.drop_length]
      exact hd es st h
    | succ n ih =>
      intro i es st e h
      have hi : i < xs.length := by omega
      rw [List.drop_eq_getElem_cons hi]
      obtain ⟨es1, e1, w⟩ := step i xs[i] es st (List.getElem?_eq_getElem hi) h
      unfold forT
      rw [e1]
      exact wp_bind (w.mono fun o s q => wp_after q fun e s q => ih (i + 1) e s (by omega) q)
  exact key xs.length 0 es st (by omega) h0
theorem wp_forL (I : Nat → Ev → S → Prop) {n : Nat} {xs : List D} (h0 : I 0 es st) (hl : ∀ i es st, i ≤ xs.length → I i es st → getL st n = some xs) (hz : xs.length < 1000000) (step : ∀ i d es st, xs[i]? = some d → I i es st → ∃ es1, set es d = some es1 ∧ Wp (b es1 st) (Turned (I (i + 1)) QO)) (hd : ∀ es st, I xs.length es st → QO (.nx es) st) : Wp (forL set b n 1000000 0 es st) QO := by
  have key : ∀ (m i k : Nat) (es : Ev) (st : S), i + m = xs.length → m < k → I i es st → Wp (forL set b n k i es st) QO := by
    intro m
    induction m with
    | zero =>
      intro i k es st e hk h
      cases k with
      | zero => omega
      | succ k =>
        have ei : i = xs.length := by omega
        unfold forL
        simp only [hl i es st (by omega) h]
        rw [List.getElem?_eq_none (by omega)]
        subst ei
        exact hd es st h
    | succ m ih =>
      intro i k es st e hk h
      cases k with
      | zero => omega
      | succ k =>
        have hi : i < xs.length := by omega
        obtain ⟨es1, e1, w⟩ := step i xs[i] es st (List.getElem?_eq_getElem hi) h
        unfold forL
        simp only [hl i es st (by omega) h, List.getElem?_eq_getElem hi, e1]
        exact wp_bind (w.mono fun o s q => wp_after q fun e s q => ih (i + 1) k e s (by omega) (by omega) q)
  exact key xs.length 0 1000000 es st (by omega) hz h0
theorem wp_for_tup {m : M D} {xs : List D} (h : Wp (m es st) fun d s => d = .tup xs ∧ Wp (forT set b xs es s) QO) : Wp (sFor m set b es st) QO := wp_bind (h.mono fun d s q => by
  obtain ⟨rfl, q⟩ := q
  exact q)
theorem wp_for_loc {m : M D} (h : Wp (m es st) fun d s => ∃ n, d = .loc n ∧ Wp (forL set b n 1000000 0 es s) QO) : Wp (sFor m set b es st) QO := wp_bind (h.mono fun d s q => by
  obtain ⟨n, rfl, q⟩ := q
  exact q)
theorem wp_forR1 {mA : M (List D)} (h : Wp (mA es st) fun ds s => ∃ j : Int, ds = [.int j] ∧ -(2 ^ 62) ≤ j ∧ j < 2 ^ 62 ∧ Wp (forT set b (rangeD 0 j.toNat) es s) QO) : Wp (sForR1 mA set b es st) QO := wp_bind (h.mono fun ds s q => by
  obtain ⟨j, rfl, h1, h2, q⟩ := q
  show Wp (if -(2 ^ 62) ≤ j ∧ j < 2 ^ 62 then _ else _) QO
  rw [if_pos ⟨h1, h2⟩]
  exact q)
theorem wp_forR2 {mA : M (List D)} (h : Wp (mA es st) fun ds s => ∃ i j : Int, ds = [.int i, .int j] ∧ -(2 ^ 62) ≤ i ∧ i < 2 ^ 62 ∧ -(2 ^ 62) ≤ j ∧ j < 2 ^ 62 ∧ Wp (forT set b (rangeD i (j - i).toNat) es s) QO) : Wp (sForR2 mA set b es st) QO := wp_bind (h.mono fun ds s q => by
  obtain ⟨i, j, rfl, h1, h2, h3, h4, q⟩ := q
  show Wp (if (-(2 ^ 62) ≤ i ∧ i < 2 ^ 62) ∧ -(2 ^ 62) ≤ j ∧ j < 2 ^ 62 then _ else _) QO
  rw [if_pos ⟨⟨h1, h2⟩, h3, h4⟩]
  exact q)
/-! ### comprehensions -/
variable {vs : List Nat} {mt : M Bool} {me : M D}
theorem wp_addIt {n : Nat} {y : D} {acc : List D} {Q : Unit → S → Prop} (h1 : getW st n = some acc) (h2 : acc.length < 1000000) (q : Q () (st.set n (.lst (acc ++ [y])))) : Wp (addIt n y st) Q := by
  unfold addIt
  simp only [h1]
  rw [if_pos h2]
  exact q
theorem wp_compTurn {n : Nat} {Q : Unit → S → Prop} (h : Wp (mt es st) fun k s => (k = true → Wp (me es s) fun y s => Wp (addIt n y s) Q) ∧ (k = false → Q () s)) : Wp (compTurn n mt me es st) Q := wp_bind (h.mono fun k s q => by
  cases k with
  | true => exact wp_bind (q.1 rfl)
  | false => exact q.2 rfl)
theorem wp_noX {α : Type} {r : R α} {Q : α → S → Prop} (h : Wp r Q) : Wp (noX r) Q := by
  obtain ⟨a, s, e, q⟩ := h.ok
  rw [e]
  exact q
theorem wp_compV (I : Nat → S → Prop) {xs : List D} (h0 : I 0 (st ++ [.lst []])) (step : ∀ i d s, xs[i]? = some d → I i s → ∃ es1, set (wipeD es vs) d = some es1 ∧ Wp (compTurn st.length mt me es1 s) fun _ s => I (i + 1) s) (hd : ∀ s, I xs.length s → QD (.loc st.length) s) : Wp (compV set vs mt me xs es st) QD := by
  have key : ∀ (n i : Nat) (s : S), i + n = xs.length → I i s → Wp (compT st.length set mt me (xs.drop i) (wipeD es vs) s) fun _ s => QD (.loc st.length) s := by
    intro n
    induction n with
    | zero =>
      intro i s e h
      have ei : i = xs.length := by omega
      subst ei
      rw [List.drop_length]
      exact hd s h
    | succ n ih =>
      intro i s e h
      have hi : i < xs.length := by omega
      rw [List.drop_eq_getElem_cons hi]
      obtain ⟨es1, e1, w⟩ := step i xs[i] s (List.getElem?_eq_getElem hi) h
      unfold compT
      rw [e1]
      exact wp_bind (w.mono fun _ s q => ih (i + 1) s (by omega) q)
  exact wp_bind (wp_noX (key xs.length 0 _ (by omega) h0))
theorem wp_compL (I : Nat → S → Prop) {l : Nat} {xs : List D} (h0 : I 0 (st ++ [.lst []])) (hl : ∀ i s, i ≤ xs.length → I i s → getL s l = some xs) (hz : xs.length < 1000000) (step : ∀ i d s, xs[i]? = some d → I i s → ∃ es1, set (wipeD es vs) d = some es1 ∧ Wp (compTurn st.length mt me es1 s) fun _ s => I (i + 1) s) (hd : ∀ s, I xs.length s → QD (.loc st.length) s) :
    Wp ((noX (compL st.length set mt me l 1000000 0 (wipeD es vs) (st ++ [.lst []]))).bind fun _ s2 => .ok (.loc st.length) s2) QD := by
  have key : ∀ (m i k : Nat) (s : S), i + m = xs.length → m < k → I i s → Wp (compL st.length set mt me l k i (wipeD es vs) s) fun _ s => QD (.loc st.length) s := by
    intro m
    induction m with
    | zero =>
      intro i k s e hk h
      cases k with
      | zero => omega
      | succ k =>
        have ei : i = xs.length := by omega
        unfold compL
        simp only [hl i s (by omega) h]
        rw [List.getElem?_eq_none (by omega)]
        subst ei
        exact hd s h
    | succ m ih =>
      intro i k s e hk h
      cases k with
      | zero => omega
      | succ k =>
        have hi : i < xs.length := by omega
        obtain ⟨es1, e1, w⟩ := step i xs[i] s (List.getElem?_eq_getElem hi) h
        unfold compL
        simp only [hl i s (by omega) h, List.getElem?_eq_getElem hi, e1]
        exact wp_bind (w.mono fun _ s q => ih (i + 1) k s (by omega) (by omega) q)
  exact wp_bind (wp_noX (key xs.length 0 1000000 _ (by omega) hz h0))
theorem wp_comp_tup {m : M D} {xs : List D} (h : Wp (m es st) fun d s => d = .tup xs ∧ Wp (compV set vs mt me xs es s) QD) : Wp (cComp m set vs mt me es st) QD := wp_bind (h.mono fun d s q => by
  obtain ⟨rfl, q⟩ := q
  exact q)
theorem wp_comp_loc {m : M D} (h : Wp (m es st) fun d s => ∃ l, d = .loc l ∧ Wp ((noX (compL s.length set mt me l 1000000 0 (wipeD es vs) (s ++ [.lst []]))).bind fun _ s2 => .ok (.loc s.length) s2) QD) : Wp (cComp m set vs mt me es st) QD := wp_bind (h.mono fun d s q => by
  obtain ⟨l, rfl, q⟩ := q
  exact q)
theorem wp_compR1 {mA : M (List D)} (h : Wp (mA es st) fun ds s => ∃ j : Int, ds = [.int j] ∧ -(2 ^ 62) ≤ j ∧ j < 2 ^ 62 ∧ Wp (compV set vs mt me (rangeD 0 j.toNat) es s) QD) : Wp (cCompR1 mA set vs mt me es st) QD := wp_bind (h.mono fun ds s q => by
  obtain ⟨j, rfl, h1, h2, q⟩ := q
  show Wp (if -(2 ^ 62) ≤ j ∧ j < 2 ^ 62 then _ else _) QD
  rw [if_pos ⟨h1, h2⟩]
  exact q)
theorem wp_compR2 {mA : M (List D)} (h : Wp (mA es st) fun ds s => ∃ i j : Int, ds = [.int i, .int j] ∧ -(2 ^ 62) ≤ i ∧ i < 2 ^ 62 ∧ -(2 ^ 62) ≤ j ∧ j < 2 ^ 62 ∧ Wp (compV set vs mt me (rangeD i (j - i).toNat) es s) QD) : Wp (cCompR2 mA set vs mt me es st) QD := wp_bind (h.mono fun ds s q => by
  obtain ⟨i, j, rfl, h1, h2, h3, h4, q⟩ := q
  show Wp (if (-(2 ^ 62) ≤ i ∧ i < 2 ^ 62) ∧ -(2 ^ 62) ≤ j ∧ j < 2 ^ 62 then _ else _) QD
  rw [if_pos ⟨⟨h1, h2⟩, h3, h4⟩]
  exact q)
theorem wp_yes {Q : Bool → S → Prop} (q : Q true st) : Wp (cYes es st) Q := q
end
end Z
end
section
set_option Elab.async false
set_option linter.all false
set_option maxRecDepth 100000
set_option maxHeartbeats 400000
/-! ZX: facts of a store, and how they last. -/
namespace Z
open PySem PySem.Spec PyProof.Rows L2
theorem getL_of {s : S} {n : Nat} {xs : List D} (h : s[n]? = some (.lst xs)) : getL s n = some xs := by unfold getL; rw [h]
theorem getL_ro {s : S} {n : Nat} {xs : List D} (h : s[n]? = some (.ro xs)) : getL s n = some xs := by unfold getL; rw [h]
theorem getW_of {s : S} {n : Nat} {xs : List D} (h : s[n]? = some (.lst xs)) : getW s n = some xs := by unfold getW; rw [h]
theorem getI_of {s : S} {n c : Nat} {fs : List (Str × D)} (h : s[n]? = some (.ins c fs)) : getI s n = some (c, fs) := by unfold getI; rw [h]
theorem isL_of {s : S} {n : Nat} {xs : List D} (h : getL s n = some xs) : isL (.loc n) s = true := by unfold isL; simp only [h]; rfl
theorem and_isL {s : S} {n : Nat} {xs : List D} {P : Prop} (h : getL s n = some xs) (p : P) : isL (.loc n) s = true ∧ P := ⟨isL_of h, p⟩
theorem at_lt {s : S} {n : Nat} {o : O} (h : s[n]? = some o) : n < s.length := (List.getElem?_eq_some_iff.mp h).1
theorem at_last {s : S} {o : O} : (s ++ [o])[s.length]? = some o := by rw [List.getElem?_append_right (Nat.le_refl _), Nat.sub_self]; rfl
theorem at_set {s : S} {n : Nat} {o o0 : O} (h : s[n]? = some o0) : (s.set n o)[n]? = some o := List.getElem?_set_self (List.getElem?_eq_some_iff.mp h).1
theorem at_app {s t : S} {n : Nat} {o : O} (h : s[n]? = some o) : (s ++ t)[n]? = some o := by
  rw [List.getElem?_append_left (List.getElem?_eq_some_iff.mp h).1]
  exact h
theorem at_setne {s : S} {n m : Nat} {o o' : O} (h : n ≠ m) (k : s[m]? = some o) : (s.set n o')[m]? = some o := by rw [List.getElem?_set_ne h]; exact k
/-- the store grew, and of what stood only place a may differ -/
structure Gx (a : Nat) (s t : S) : Prop where
  len : s.length ≤ t.length
  at_ : ∀ n, n < s.length → n ≠ a → t[n]? = s[n]?
theorem Gx.refl {a : Nat} {s : S} : Gx a s s := ⟨Nat.le_refl _, fun _ _ _ => rfl⟩
theorem Gx.trans {a : Nat} {s t u : S} (h : Gx a s t) (k : Gx a t u) : Gx a s u := ⟨Nat.le_trans h.len k.len, fun n l e => (k.at_ n (Nat.lt_of_lt_of_le l h.len) e).trans (h.at_ n l e)⟩
theorem Gx.app {a : Nat} {s t : S} : Gx a s (s ++ t) := ⟨by rw [List.length_append]; omega, fun n l _ => List.getElem?_append_left l⟩
theorem Gx.set {a : Nat} {s : S} {o : O} : Gx a s (s.set a o) := ⟨by rw [List.length_set]; exact Nat.le_refl _, fun n _ e => List.getElem?_set_ne (Ne.symm e)⟩
theorem Gx.setNew {a n : Nat} {s t : S} {o : O} (h : Gx a s t) (k : s.length ≤ n) : Gx a s (t.set n o) := ⟨by rw [List.length_set]; exact h.len, fun m l e => by rw [List.getElem?_set_ne (by omega)]; exact h.at_ m l e⟩
theorem Gx.keep {a n : Nat} {s t : S} {o : O} (h : Gx a s t) (e : n ≠ a) (k : s[n]? = some o) : t[n]? = some o := (h.at_ n (at_lt k) e).trans k
/-- the store grew, and all that stood is as it was -/
structure Gr (s t : S) : Prop where
  len : s.length ≤ t.length
  at_ : ∀ n, n < s.length → t[n]? = s[n]?
theorem Gr.refl {s : S} : Gr s s := ⟨Nat.le_refl _, fun _ _ => rfl⟩
theorem Gr.trans {s t u : S} (h : Gr s t) (k : Gr t u) : Gr s u := ⟨Nat.le_trans h.len k.len, fun n l => (k.at_ n (Nat.lt_of_lt_of_le l h.len)).trans (h.at_ n l)⟩
theorem Gr.app {s t : S} : Gr s (s ++ t) := ⟨by rw [List.length_append]; omega, fun n l => List.getElem?_append_left l⟩
theorem Gr.setNew {n : Nat} {s t : S} {o : O} (h : Gr s t) (k : s.length ≤ n) : Gr s (t.set n o) := ⟨by rw [List.length_set]; exact h.len, fun m l => by rw [List.getElem?_set_ne (by omega)]; exact h.at_ m l⟩
theorem Gr.keep {n : Nat} {s t : S} {o : O} (h : Gr s t) (k : s[n]? = some o) : t[n]? = some o := (h.at_ n (at_lt k)).trans k
theorem Gr.gx {a : Nat} {s t : S} (h : Gr s t) : Gx a s t := ⟨h.len, fun n l _ => h.at_ n l⟩
theorem Gx.new {a : Nat} {s t u : S} (h : Gr s t) (k : Gx a t u) (e : s.length ≤ a) : Gr s u := ⟨Nat.le_trans h.len k.len, fun n l => (k.at_ n (Nat.lt_of_lt_of_le l h.len) (by omega)).trans (h.at_ n l)⟩
/-- the places lo to hi stand as they stood -/
def Kp (lo hi : Nat) (s t : S) : Prop := ∀ n, lo ≤ n → n < hi → t[n]? = s[n]?
theorem Kp.refl {lo hi : Nat} {s : S} : Kp lo hi s s := fun _ _ _ => rfl
theorem Kp.trans {lo hi : Nat} {s t u : S} (h : Kp lo hi s t) (k : Kp lo hi t u) : Kp lo hi s u := fun n a b => (k n a b).trans (h n a b)
theorem Kp.set {lo hi n : Nat} {s t : S} {o : O} (h : Kp lo hi s t) (k : n < lo ∨ hi ≤ n) : Kp lo hi s (t.set n o) := fun m a b => by rw [List.getElem?_set_ne (by omega)]; exact h m a b
theorem Kp.app {lo hi : Nat} {s t u : S} (h : Kp lo hi s t) (k : hi ≤ t.length) : Kp lo hi s (t ++ u) := fun m a b => by rw [List.getElem?_append_left (by omega)]; exact h m a b
theorem Kp.gr {lo hi : Nat} {s t u : S} (h : Kp lo hi s t) (g : Gr t u) (k : hi ≤ t.length) : Kp lo hi s u := fun m a b => (g.at_ m (by omega)).trans (h m a b)
theorem Kp.gx {lo hi c : Nat} {s t u : S} (h : Kp lo hi s t) (g : Gx c t u) (k : hi ≤ t.length) (e : c < lo ∨ hi ≤ c) : Kp lo hi s u := fun m a b => (g.at_ m (by omega) (by omega)).trans (h m a b)
theorem Kp.keep {lo hi n : Nat} {s t : S} {o : O} (h : Kp lo hi s t) (a : lo ≤ n) (b : n < hi) (k : s[n]? = some o) : t[n]? = some o := (h n a b).trans k
/-! ### rows of ints -/
/-- the k-th of a row -/
def gI (ns : List Int) (k : Int) : Int := ns.getD k.toNat 0
theorem ixN_of {n : Nat} {k : Int} (h0 : 0 ≤ k) (h1 : k < n) : ixN n k = some k.toNat := by
  unfold ixN
  rw [if_pos h0, if_pos h1]
theorem atI_of {xs : List D} {k : Int} {d : D} (h0 : 0 ≤ k) (h : xs[k.toNat]? = some d) : atI xs k = some d := by
  have l := (List.getElem?_eq_some_iff.mp h).1
  unfold atI
  rw [ixN_of h0 (by omega)]
  exact h
theorem get_int {ns : List Int} {k : Nat} (h : k < ns.length) : (ns.map D.int)[k]? = some (.int (ns.getD k 0)) := by
  rw [List.getElem?_map, List.getElem?_eq_getElem h, List.getD_eq_getElem?_getD, List.getElem?_eq_getElem h]
  rfl
theorem atI_int {ns : List Int} {k : Int} (h0 : 0 ≤ k) (h1 : k < ns.length) : atI (ns.map D.int) k = some (.int (gI ns k)) := atI_of h0 (get_int (by omega))
theorem gI_mem {ns : List Int} {k : Int} (h0 : 0 ≤ k) (h1 : k < ns.length) : gI ns k ∈ ns := by
  unfold gI
  rw [List.getD_eq_getElem?_getD, List.getElem?_eq_getElem (by omega)]
  exact List.getElem_mem _
theorem map_set_int (ns : List Int) (k : Nat) (v : Int) : (ns.map D.int).set k (.int v) = (ns.set k v).map D.int := by
  rw [List.map_set]
theorem get_map_int {ns : List Int} {k : Nat} {d : D} (h : (ns.map D.int)[k]? = some d) : ∃ v, d = .int v ∧ v ∈ ns ∧ ns[k]? = some v := by
  rw [List.getElem?_map] at h
  cases q : ns[k]? with
  | none => rw [q] at h; cases h
  | some v => rw [q] at h; cases h; exact ⟨v, rfl, List.mem_of_getElem? q, rfl⟩
theorem get_range {lo : Int} {n k : Nat} {d : D} (h : (rangeD lo n)[k]? = some d) : d = .int (lo + (k : Nat)) ∧ k < n := by
  unfold rangeD at h
  rw [List.getElem?_map] at h
  by_cases hk : k < n
  · rw [List.getElem?_range hk] at h
    cases h
    exact ⟨rfl, hk⟩
  · rw [List.getElem?_eq_none (by rw [List.length_range]; omega)] at h
    cases h
theorem len_range {lo : Int} {n : Nat} : (rangeD lo n).length = n := by unfold rangeD; rw [List.length_map, List.length_range]
/-! ### the same by value -/
theorem mapO_all {α β γ : Type} {f : α → Option β} {g : γ → α} {h : γ → β} : ∀ {ns : List γ}, (∀ n ∈ ns, f (g n) = some (h n)) → mapO f (ns.map g) = some (ns.map h)
  | [], _ => rfl
  | n :: ns, e => by
    simp only [List.map_cons, mapO, e n (List.mem_cons_self ..), mapO_all (ns := ns) (fun m hm => e m (List.mem_cons_of_mem _ hm))]
theorem mapO_int (k : Nat) (s : S) (ns : List Int) : mapO (toP (k + 1) s) (ns.map D.int) = some (ns.map PyData.int) := mapO_all fun n _ => rfl
/-- a row of ints as data -/
def rowP (ns : List Int) : PyData := .list (ns.map PyData.int)
theorem canLay_ints : ∀ ns : List Int, PyData.canLayAll0 (ns.map PyData.int) = true
  | [] => rfl
  | n :: ns => canLay_ints ns
theorem eqv_ints : ∀ ns ms : List Int, PyData.eqvAll (ns.map PyData.int) (ms.map PyData.int) = decide (ns = ms)
  | [], [] => rfl
  | [], _ :: _ => rfl
  | _ :: _, [] => rfl
  | n :: ns, m :: ms => by
    show ((n == m) && PyData.eqvAll (ns.map PyData.int) (ms.map PyData.int)) = _
    rw [eqv_ints, Bool.eq_iff_iff]
    simp
theorem depth_ints : ∀ ns : List Int, PyData.depthAll (ns.map PyData.int) ≤ 1
  | [] => by decide
  | n :: ns => by
    have := depth_ints ns
    show max _ (PyData.depthAll (ns.map PyData.int)) ≤ 1
    have h : PyData.depth (.int n) ≤ 1 := by show _ ≤ 1; first | exact Nat.le_refl _ | exact Nat.zero_le _
    omega
theorem kEqD_of {x y : D} {s : S} {p q : PyData} {Q : Bool → S → Prop} (h1 : toP 40 s x = some p) (h2 : toP 40 s y = some q) (h3 : SeqAt.shaped p = true) (h4 : SeqAt.shaped q = true) (h : Q (PyData.eqv p q) s) : Wp (kEqD x y s) Q := by
  unfold kEqD
  simp only [h1, h2, h3, h4]
  exact h
theorem shaped_row (ns : List Int) : SeqAt.shaped (rowP ns) = true := by
  unfold SeqAt.shaped
  rw [Bool.and_eq_true]
  refine ⟨canLay_ints ns, decide_eq_true ?_⟩
  have := depth_ints ns
  show PyData.depthAll (ns.map PyData.int) + 1 ≤ 64
  omega
theorem toP_row {k : Nat} {s : S} {a : Nat} {ns : List Int} (h : getL s a = some (ns.map D.int)) : toP (k + 2) s (.loc a) = some (rowP ns) := by
  simp only [toP, h, Option.bind_some, mapO_int]
  rfl
/-- two rows of ints -/
theorem wp_eqRow {s : S} {a b : Nat} {ns ms : List Int} {Q : Bool → S → Prop} (h1 : getL s a = some (ns.map D.int)) (h2 : getL s b = some (ms.map D.int)) (q : Q (decide (ns = ms)) s) : Wp (kEq (.loc a) (.loc b) s) Q :=
  kEqD_of (toP_row h1) (toP_row h2) (shaped_row _) (shaped_row _) (by
    show Q (PyData.eqvAll (ns.map PyData.int) (ms.map PyData.int)) s
    rw [eqv_ints]
    exact q)
theorem wp_ne {x y : D} {s : S} {Q : Bool → S → Prop} (h : Wp (kEq x y s) fun b s => Q (!b) s) : Wp (kNe x y s) Q := wp_bind h
theorem wp_mid {b b2 : M Out} {es : Ev} {st : S} {Q : Out → S → Prop} (P : Ev → S → Prop) (h : Wp (b es st) (fun o s => ∃ e, o = .nx e ∧ P e s)) (k : ∀ e s, P e s → Wp (b2 e s) Q) : Wp (sSeq b b2 es st) Q := wp_seq (h.mono fun o s ⟨e, q, p⟩ => by
  subst q
  exact k e s p)
theorem wp_lenL {s : S} {n : Nat} {xs : List D} {Q : D → S → Prop} (h : getL s n = some xs) (q : Q (.int xs.length) s) : Wp (fLen [.loc n] s) Q := wp_len (show seqOf (.loc n) s = some xs from h) q
theorem wp_lenT {s : S} {xs : List D} {Q : D → S → Prop} (q : Q (.int xs.length) s) : Wp (fLen [.tup xs] s) Q := wp_len (show seqOf (.tup xs) s = some xs from rfl) q
theorem wp_listL {s : S} {n : Nat} {xs : List D} {Q : D → S → Prop} (h : getL s n = some xs) (q : Q (.loc s.length) (s ++ [.lst xs])) : Wp (fList [.loc n] s) Q := wp_list (show seqOf (.loc n) s = some xs from h) q
theorem wp_listT {s : S} {xs : List D} {Q : D → S → Prop} (q : Q (.loc s.length) (s ++ [.lst xs])) : Wp (fList [.tup xs] s) Q := wp_list (show seqOf (.tup xs) s = some xs from rfl) q
theorem wp_setInt {s : S} {n : Nat} {ns : List Int} {x v : Int} {Q : Unit → S → Prop} (h1 : getW s n = some (ns.map D.int)) (h0 : 0 ≤ x) (h2 : x < ns.length) (q : Q () (s.set n (.lst ((ns.set x.toNat v).map D.int)))) : Wp (setIx (.loc n) (.int x) (.int v) s) Q := by
  refine wp_setIx h1 (ixN_of h0 (by rw [List.length_map]; exact h2)) ?_
  rw [map_set_int]
  exact q
/-- a row of ints, as a tuple or as a list -/
def IsRow (s : S) (d : D) (ns : List Int) : Prop := d = .tup (ns.map D.int) ∨ ∃ n, d = .loc n ∧ s[n]? = some (.lst (ns.map D.int))
theorem IsRow.gr {s t : S} {d : D} {ns : List Int} (h : IsRow s d ns) (g : Gr s t) : IsRow t d ns := by
  rcases h with h | ⟨n, e, h⟩
  · exact Or.inl h
  · exact Or.inr ⟨n, e, g.keep h⟩
/-! ### comprehensions of ints -/
section
variable {set : Ev → D → Option Ev} {es : Ev} {st : S} {QD : D → S → Prop} {vs : List Nat} {mt : M Bool} {me : M D}
end
end Z
end
section
set_option Elab.async false
set_option linter.all false
set_option maxRecDepth 100000
set_option maxHeartbeats 4000000
/-! ZH: Wp rules of dicts, wide * and //, a < b < c, texts. -/
namespace Z
open PySem PySem.Spec PyProof.Rows L2
section
variable {s st : S} {es : Ev} {QD : D → S → Prop} {QB : Bool → S → Prop} {QO : Out → S → Prop} {ma mb mo mi m mc : M D} {d : D}
theorem getK_l {n : Nat} {xs : List D} (h : getL s n = some xs) : getK s n = none := by
  unfold getL at h
  unfold getK
  split at h
  · rename_i e; rw [e]
  · rename_i e; rw [e]
  · cases h
theorem getKW_l {n : Nat} {xs : List D} (h : getL s n = some xs) : getKW s n = none := by
  unfold getL at h
  unfold getKW
  split at h
  · rename_i e; rw [e]
  · rename_i e; rw [e]
  · cases h
theorem getK_d {n : Nat} {kvs : List (Key × D)} (h : s[n]? = some (.dic kvs)) : getK s n = some kvs := by unfold getK; rw [h]
theorem getK_r {n : Nat} {kvs : List (Key × D)} (h : s[n]? = some (.dro kvs)) : getK s n = some kvs := by unfold getK; rw [h]
theorem getKW_d {n : Nat} {kvs : List (Key × D)} (h : s[n]? = some (.dic kvs)) : getKW s n = some kvs := by unfold getKW; rw [h]
theorem wp_ixAT {xs : List D} {x : Int} (h : L2.atI xs x = some d) (q : QD d s) : Wp (ixA (.tup xs) (.int x) s) QD := wp_ixT h q
theorem wp_ixAL {n : Nat} {xs : List D} {x : Int} (h1 : getL s n = some xs) (h : L2.atI xs x = some d) (q : QD d s) : Wp (ixA (.loc n) (.int x) s) QD := by
  unfold ixA
  simp only [getK_l h1]
  exact wp_ixL h1 h q
theorem wp_ixAD {n : Nat} {kvs : List (Key × D)} {i : D} {k : Key} (h1 : getK s n = some kvs) (h2 : keyD i = some k) (h3 : valD kvs k = some d) (q : QD d s) : Wp (ixA (.loc n) i s) QD := by
  unfold ixA
  simp only [h1, h2, h3]
  exact q
theorem wp_ixAS {z : Str} {x : Int} {c : Nat} (hz : z.length ≤ 16000000) (h : L2.atI z.cps.toList x = some c) (q : QD (.str ⟨#[c]⟩) s) : Wp (ixA (.str z) (.int x) s) QD := by
  unfold ixA ixD
  dsimp only
  rw [if_pos hz]
  simp only [h]
  exact q
theorem wp_subA (h : Wp (m es st) fun v s => Wp (mo es s) fun o s => Wp (mi es s) fun i s => Wp (setIxA o i v s) fun _ s => QO (.nx es) s) : Wp (sSubA mo mi m es st) QO := wp_bind (h.mono fun _ _ q => wp_bind (q.mono fun _ _ q => wp_bind (q.mono fun _ _ q => wp_bind q)))
theorem wp_setAL {n : Nat} {i v : D} {xs : List D} {Q : Unit → S → Prop} (h1 : getL s n = some xs) (q : Wp (setIx (.loc n) i v s) Q) : Wp (setIxA (.loc n) i v s) Q := by
  unfold setIxA
  simp only [getKW_l h1]
  exact q
theorem wp_setAI {n : Nat} {ns : List Int} {x v : Int} {Q : Unit → S → Prop} (h1 : getW s n = some (ns.map D.int)) (h0 : 0 ≤ x) (h2 : x < ns.length) (q : Q () (s.set n (.lst ((ns.set x.toNat v).map D.int)))) : Wp (setIxA (.loc n) (.int x) (.int v) s) Q := by
  refine wp_setAL (xs := ns.map D.int) ?_ (wp_setInt h1 h0 h2 q)
  unfold getW at h1
  unfold getL
  split at h1
  · rename_i e
    rw [e]
    exact h1
  · cases h1
theorem wp_setAX {n : Nat} {xs : List D} {v : D} {x : Int} {j : Nat} {Q : Unit → S → Prop} (h1 : getW s n = some xs) (h2 : ixN xs.length x = some j) (q : Q () (s.set n (.lst (xs.set j v)))) : Wp (setIxA (.loc n) (.int x) v s) Q := by
  refine wp_setAL (xs := xs) ?_ (wp_setIx h1 h2 q)
  unfold getW at h1
  unfold getL
  split at h1
  · rename_i e
    rw [e]
    exact h1
  · cases h1
theorem wp_setAD {n : Nat} {i v : D} {kvs : List (Key × D)} {k : Key} {Q : Unit → S → Prop} (h1 : s[n]? = some (.dic kvs)) (h2 : keyD i = some k) (hz : kvs.length < 1000000) (q : Q () (s.set n (.dic (putDk kvs k v)))) : Wp (setIxA (.loc n) i v s) Q := by
  unfold setIxA
  simp only [getKW_d h1, h2]
  rw [if_pos hz]
  exact q
theorem wp_lenAL {n : Nat} {xs : List D} (h : getL s n = some xs) (q : QD (.int xs.length) s) : Wp (fLenA [.loc n] s) QD := by
  unfold fLenA
  simp only [getKW_l h]
  exact wp_lenL h q
theorem wp_lenAT {xs : List D} (q : QD (.int xs.length) s) : Wp (fLenA [.tup xs] s) QD := wp_lenT q
theorem wp_lenAD {n : Nat} {kvs : List (Key × D)} (h : s[n]? = some (.dic kvs)) (q : QD (.int kvs.length) s) : Wp (fLenA [.loc n] s) QD := by
  unfold fLenA
  simp only [getKW_d h]
  exact q
theorem wp_lenAS {z : Str} (hz : z.length ≤ 16000000) (q : QD (.int z.length) s) : Wp (fLenA [.str z] s) QD := by
  unfold fLenA fLen
  dsimp only
  rw [if_pos hz]
  exact q
theorem wp_neAI {x y : Int} (q : QB (!decide (x = y)) s) : Wp (kNeA (.int x) (.int y) s) QB := q
theorem wp_neAS {x y : Str} (q : QB (!decide (x = y)) s) : Wp (kNeA (.str x) (.str y) s) QB := q
theorem wp_neAD {n m : Nat} {ks ls : List (Key × D)} (h1 : s[n]? = some (.dic ks)) (h2 : s[m]? = some (.dic ls)) (h : sameK ks ls = true) (q : QB false s) : Wp (kNeA (.loc n) (.loc m) s) QB := by
  unfold kNeA
  simp only [getKW_d h1, getKW_d h2]
  rw [if_pos h]
  exact q
theorem wp_neAR {a b : Nat} {ns ms : List Int} (h1 : getL s a = some (ns.map D.int)) (h2 : getL s b = some (ms.map D.int)) (q : QB (!decide (ns = ms)) s) : Wp (kNeA (.loc a) (.loc b) s) QB := by
  unfold kNeA
  simp only [getKW_l h1, getKW_l h2]
  exact wp_ne (wp_eqRow h1 h2 q)
theorem wp_inAL {n : Nat} {x : D} {xs : List D} (h1 : getL s n = some xs) (q : Wp (kIn x (.loc n) s) QB) : Wp (kInA x (.loc n) s) QB := by
  unfold kInA
  simp only [getK_l h1]
  exact q
theorem wp_notInAD {n : Nat} {x : D} {kvs : List (Key × D)} {k : Key} (h1 : getK s n = some kvs) (h2 : keyD x = some k) (q : QB (!(valD kvs k).isSome) s) : Wp (kNotInA x (.loc n) s) QB := by
  unfold kNotInA
  simp only [h1, h2]
  exact q
theorem wp_inStr {n : Nat} {x : Str} {ns : List Str} (h1 : getL s n = some (ns.map D.str)) (q : QB (ns.any fun z => z == x) s) : Wp (kIn (.str x) (.loc n) s) QB := by
  unfold kIn
  simp only [seqOf, h1]
  rw [if_pos ⟨rfl, by simp [flatD]⟩]
  have e : ((ns.map D.str).any fun z => eqF z (.str x)) = ns.any fun z => z == x := by
    rw [List.any_map]
    rfl
  show QB _ _
  rw [e]
  exact q
theorem wp_mulA {x y : Int} (h : (-(2 ^ 64) < x ∧ x < 2 ^ 64) ∨ (-(2 ^ 64) < y ∧ y < 2 ^ 64)) (q : QD (.int (x * y)) s) : Wp (bMulA (.int x) (.int y) s) QD := by
  unfold bMulA
  dsimp only
  rw [if_pos (.inl h)]
  exact q
theorem log_lt {y : Int} (h : -(2 ^ 64) < y ∧ y < 2 ^ 64) : y.natAbs.log2 < 9000 := by
  have h1 : y.natAbs < 2 ^ 64 := by omega
  exact Nat.lt_trans (PySem.Flt.log2_lt_of (by decide) h1) (by decide)
theorem wp_divA {x y : Int} (h0 : y ≠ 0) (h : -(2 ^ 64) < y ∧ y < 2 ^ 64) (q : QD (.int (x.fdiv y)) s) : Wp (bDivA (.int x) (.int y) s) QD := by
  unfold bDivA
  dsimp only
  rw [if_pos ⟨h0, log_lt h⟩]
  exact q
theorem wp_divA0 {x y : Int} (h0 : 0 < y) (h : y < 2 ^ 64) (q : QD (.int (x / y)) s) : Wp (bDivA (.int x) (.int y) s) QD := by
  refine wp_divA (by omega) ⟨by omega, h⟩ ?_
  rw [Int.fdiv_eq_ediv_of_nonneg x (by omega)]
  exact q
theorem wp_chain {f f' : D → D → S → R Bool} (h : Wp (ma es st) fun x s => Wp (mb es s) fun y s => Wp (f x y s) fun k s => (k = true → Wp (mc es s) fun z s => Wp (f' y z s) QB) ∧ (k = false → QB false s)) : Wp (cChain ma mb mc f f' es st) QB := wp_bind (h.mono fun _ _ q => wp_bind (q.mono fun _ _ q => wp_bind (q.mono fun k s q => by
  cases k with
  | true => exact wp_bind (q.1 rfl)
  | false => exact q.2 rfl)))
theorem wp_dic0 (q : QD (.loc st.length) (st ++ [.dic []])) : Wp (cDic0 es st) QD := q
theorem wp_dict {n : Nat} {kvs : List (Key × D)} (h : getK s n = some kvs) (q : QD (.loc s.length) (s ++ [.dic kvs])) : Wp (fDict [.loc n] s) QD := by
  unfold fDict
  simp only [h]
  exact q
theorem wp_forAL {i n : Nat} {set : Ev → D → Option Ev} {b : M Out} {xs : List D} (h : es[i]? = some (some (.loc n))) (h1 : getL st n = some xs) (q : Wp (forL set b n 1000000 0 es st) QO) : Wp (sForA i set b es st) QO := by
  unfold sForA
  simp only [h, getKW_l h1]
  refine wp_for_loc (wp_var h ⟨n, rfl, q⟩)
theorem wp_forAD {i n : Nat} {set : Ev → D → Option Ev} {b : M Out} {kvs : List (Key × D)} (h : es[i]? = some (some (.loc n))) (h1 : st[n]? = some (.dic kvs)) (q : Wp (forT set b (kvs.map fun kv => kD kv.1) es (st.set n (.dro kvs))) fun o s => s[n]? = some (.dro kvs) ∧ QO o (s.set n (.dic kvs))) : Wp (sForA i set b es st) QO := by
  unfold sForA
  simp only [h, getKW_d h1]
  revert q
  cases forT set b (kvs.map fun kv => kD kv.1) es (st.set n (.dro kvs)) with
  | ok o s =>
    intro q
    obtain ⟨q1, q2⟩ := q
    dsimp only
    rw [q1]
    exact q2
  | exc c fs s => exact fun q => q.elim
  | bad => exact fun q => q.elim
end
end Z
end
section
set_option Elab.async false
set_option linter.all false
set_option maxRecDepth 100000
set_option maxHeartbeats 4000000
/-! ZV1: sets of texts whose members can be gathered. -/
namespace Z
open PySem PySem.Spec PyProof.Rows L2
def keyT (e : Int × Value) : Str := match e.2 with
  | .str k _ => k
  | _ => ""
def GoodT (w : World) (e : Int × Value) : Prop := ∃ k tk, e.2 = Value.str k tk ∧ e.1 = hashStr w k
/-- the members S, each once -/
def SetT (w : World) (h : Heap) (a : Addr) (S : List Str) : Prop :=
  ∃ o es ep t, h.get? a = some o ∧ o.ExactSet ∧ o.data = .set es ep t ∧ (∀ e ∈ es.toList, GoodT w e) ∧ (es.toList.map keyT).Perm S ∧ S.Nodup ∧
    es.size < scanBound ∧ t.fits es.size = true ∧ Ris t.place.toList ∧ (w.params.followText "set-order" = true ∨ t.led = true)
def addS (S : List Str) (k : Str) : List Str := if k ∈ S then S else S ++ [k]
section
variable {P : Program} {w : World} {h h' : Heap} {a : Addr} {S : List Str}
theorem SetT.at (R : SetT w h a S) (k : ∀ o, h.get? a = some o → h'.get? a = some o) : SetT w h' a S := by
  obtain ⟨o, es, ep, t, ho, r⟩ := R
  exact ⟨o, es, ep, t, k o ho, r⟩
theorem isT (k : Str) (tk : Tok) : (strKind P w).is k (.str k tk) = true := by
  show Value.isStrOf k (.str k tk) = true
  unfold Value.isStrOf
  simp
theorem goodT_elems {l : List (Int × Value)} (g : ∀ e ∈ l, GoodT w e) : ElemsOf (strKind P w) l := fun e he => by
  obtain ⟨k, tk, h1, h2⟩ := g e he
  exact ⟨⟨k, by rw [h1]; exact isT k tk, h2⟩, by rw [h1] <;> rfl⟩
theorem goodT_is {e : Int × Value} (g : GoodT w e) (k : Str) : (strKind P w).is k e.2 = true ↔ keyT e = k := by
  obtain ⟨k0, tk, h1, _⟩ := g
  unfold keyT
  rw [h1]
  constructor
  · intro z
    obtain ⟨t, q⟩ := Value.isStrOf_shape (x := k) (v := .str k0 tk) z
    injection q
  · intro z
    exact z ▸ isT k0 tk
theorem goodT_mem {l : List (Int × Value)} (g : ∀ e ∈ l, GoodT w e) (k : Str) : k ∈ l.map keyT ↔ ∃ e ∈ l, (strKind P w).is k e.2 = true := by
  rw [List.mem_map]
  constructor
  · rintro ⟨e, he, q⟩
    exact ⟨e, he, (goodT_is (g e he) k).2 q⟩
  · rintro ⟨e, he, q⟩
    exact ⟨e, he, (goodT_is (g e he) k).1 q⟩
theorem SetT.setOf (R : SetT w h a S) : h.SetOf (strKind P w) a (fun k => decide (k ∈ S)) S.length := by
  obtain ⟨o, es, ep, t, ho, hx, hd, g, pm, nd, hb, hf, _⟩ := R
  exact ⟨o, es, ep, t, ho, hx, hd, goodT_elems g, fun k => by rw [decide_eq_true_eq, ← pm.mem_iff]; exact goodT_mem g k, hb, hf, by rw [← pm.length_eq, List.length_map, Array.length_toList]⟩
theorem setT_size {es : Array (Int × Value)} (pm : (es.toList.map keyT).Perm S) : es.size = S.length := by rw [← pm.length_eq, List.length_map, Array.length_toList]
theorem setT_fresh {h : Heap} (w : World) : SetT w (h.push { cls := .type "set", dict := none, data := .set #[] 0 (.fresh 0 0 (!w.params.followText "set-order")) }) h.objs.size [] :=
  ⟨_, #[], 0, _, Heap.get?_push_size _ rfl, ⟨rfl, rfl, rfl⟩, rfl, (fun e he => by simp at he), List.Perm.refl _, List.nodup_nil, (by decide), (by rfl), List.Pairwise.nil, by
    show _ ∨ (!w.params.followText "set-order") = true
    cases w.params.followText "set-order"
    · exact .inr rfl
    · exact .inl rfl⟩
end
section
variable {P : Program} {w : World} {A : Around} {E : Value → Shared → Prop} {s : Shared} {a : Addr} {S : List Str}
/-- the end of an add: the table stored, laid anew when too full -/
theorem setT_tail {g : Bool → Sem Unit} (hg : ∀ (b : Bool) (s₁ : Shared) (Q' : Unit → Shared → Prop), Q' () s₁ → wpAny (model P w) A (g b) Q' E s₁) {o : Obj} {es : Array (Int × Value)} {ep : Nat} {t : SetTable} (ho : s.heap.get? a = some o) (hex : o.ExactSet) (hd : o.data = .set es ep t)
    {es1 : Array (Int × Value)} {t2 : SetTable} {S1 : List Str} (g1 : ∀ e ∈ es1.toList, GoodT w e) (p1 : (es1.toList.map keyT).Perm S1) (nd1 : S1.Nodup) (hb1 : es1.size < scanBound) (hf2 : t2.fits es1.size = true) (hr : Ris t2.place.toList) (hl : w.params.followText "set-order" = true ∨ t2.led = true) {wasDummy : Bool} {R : Option Bool → Shared → Prop}
    (hR : ∀ h', Heap.SameBut a s.heap h' → SetT w h' a S1 → R (some true) { s with heap := h' }) :
    wpAny (model P w) A (do
        storeSet a es1 t2
        if (!wasDummy && t2.tooFull) = true then do
            g (relayAll t2 es1 (SetTable.grown es1.size)).2.2
            storeSet a (relayAll t2 es1 (SetTable.grown es1.size)).1 (relayAll t2 es1 (SetTable.grown es1.size)).2.1
            pure (some true)
          else pure (some true)) R E s := by
  refine wpAny_bind (wpAny_storeSet_of ho hd ?_ (fits_of_scanBound hb1))
  have ho1 := store_at (es' := es1) (t' := t2) ho hd
  have sb1 := Heap.SameBut.update s.heap a (Obj.putSet es1 t2)
  split
  · have pm := relayAll_perm t2 es1 (SetTable.grown es1.size)
    have hf3 := relayAll_fits t2 es1 (SetTable.grown es1.size)
    have hr3 := relayAll_ris t2 es1 (SetTable.grown es1.size)
    have hl3 := relayAll_led t2 es1 (SetTable.grown es1.size)
    generalize relayAll t2 es1 (SetTable.grown es1.size) = Z at pm hf3 hr3 hl3 ⊢
    obtain ⟨es2, t3, gave⟩ := Z
    dsimp only at pm hf3 hr3 hl3 ⊢
    have hsz : es2.size = es1.size := by rw [← Array.length_toList, pm.length_eq, Array.length_toList]
    have hb2 : es2.size < scanBound := by rw [hsz]; exact hb1
    refine wpAny_bind (hg _ _ _ (wpAny_bind (wpAny_storeSet_of ho1 rfl ?_ (fits_of_scanBound hb2))))
    have ho2 := store_at (es' := es2) (t' := t3) ho1 rfl
    exact wpAny_pure (hR _ (sb1.trans (Heap.SameBut.update _ a _)) ⟨_, es2, _, t3, ho2, hex, rfl, fun e he => g1 e (pm.mem_iff.mp he), (pm.map keyT).trans p1, nd1, hb2, hf3, hr3, hl.imp id fun z => by rw [hl3]; exact z⟩)
  · exact wpAny_pure (hR _ sb1 ⟨_, es1, _, t2, ho1, hex, rfl, g1, p1, nd1, hb1, hf2, hr, hl⟩)
theorem setT_hashed {k : Str} {tk : Tok} {Q : Bool → Shared → Prop} (R : SetT w s.heap a S) (room : S.length + 1 < scanBound) (hQ : ∀ b h', Heap.SameBut a s.heap h' → SetT w h' a (addS S k) → Q b { s with heap := h' }) : wpAny (model P w) A (setAddHashed a (.str k tk) ((strKind P w).hash k)) Q E s := by
  obtain ⟨o, es, ep, t, ho, hex, hd, g, pm0, nd, hb, hf, hr, hl⟩ := R
  have hkey : (strKind P w).is k (.str k tk) = true := isT k tk
  have hsc : (Value.str k tk).scannable = true := rfl
  have hel : ElemsOf (strKind P w) es.toList := goodT_elems g
  have hn := setT_size pm0
  unfold setAddHashed setAddHashedIn
  refine wpAny_holding (wpAny_bind (wpAny_setState_of ho hd hf ?_))
  dsimp only
  rw [byScan_of hsc hb hel]
  simp only [↓reduceIte]
  unfold setAddByScan
  refine wpAny_bind (wpAny_bind (wpAny_rule (wpAny_bind (wpAny_setScan_of hkey ho hd hf hel ?_))))
  cases hfi : List.findIdx? (fun e => (strKind P w).is k e.2) es.toList with
  | some j =>
    dsimp only
    obtain ⟨hj, pj, _⟩ := List.findIdx?_eq_some_iff_getElem.mp hfi
    have hk : k ∈ S := pm0.mem_iff.mp ((goodT_mem (P := P) (w := w) g k).2 ⟨es.toList[j], List.getElem_mem hj, pj⟩)
    refine wpAny_pure (wpAny_pure (hQ _ s.heap (Heap.SameBut.refl a s.heap) ?_))
    unfold addS
    rw [if_pos hk]
    exact ⟨o, es, ep, t, ho, hex, hd, g, pm0, nd, hb, hf, hr, hl⟩
  | none =>
    dsimp only
    have hnk : k ∉ S := fun z => by
      obtain ⟨e, he, q⟩ := (goodT_mem (P := P) (w := w) g k).1 (pm0.mem_iff.mpr z)
      have c := List.findIdx?_eq_none_iff.mp hfi e he
      rw [q] at c
      cases c
    have hgw : ∀ (b : Bool) {s₁ : Shared} {Q' : Unit → Shared → Prop}, Q' () s₁ → wpAny (model P w) A (match b with | true => rule "set.scan.the-table-gave-way" | false => pure ()) Q' E s₁ :=
      fun b s₁ Q' q => by cases b <;> first | exact wpAny_pure q | exact wpAny_rule q
    have pm := layNew_perm t es ((strKind P w).hash k) (.str k tk)
    have hf1 := layNew_fits t es ((strKind P w).hash k) (.str k tk)
    have hr1 := layNew_ris t es ((strKind P w).hash k) (.str k tk) hr
    have hl1 := layNew_led t es ((strKind P w).hash k) (.str k tk)
    generalize layNew t es ((strKind P w).hash k) (.str k tk) = Z at pm hf1 hr1 hl1 ⊢
    obtain ⟨es1, t1, wasDummy, gave⟩ := Z
    dsimp only at pm hf1 hr1 hl1 ⊢
    rw [Array.toList_push] at pm
    have pk : (es1.toList.map keyT).Perm (addS S k) := by
      unfold addS
      rw [if_neg hnk]
      refine (pm.map keyT).trans ?_
      rw [List.map_append]
      exact pm0.append_right _
    have g1 : ∀ e ∈ es1.toList, GoodT w e := fun e he => by
      rcases List.mem_append.mp (pm.mem_iff.mp he) with z | z
      · exact g e z
      · rw [List.mem_singleton.mp z]; exact ⟨k, tk, rfl, rfl⟩
    have nd1 : (addS S k).Nodup := by
      unfold addS
      rw [if_neg hnk]
      exact List.nodup_append.mpr ⟨nd, (by simp), fun x hx y hy e => hnk (by rw [List.mem_singleton.mp hy] at e; exact e ▸ hx)⟩
    have hsz : es1.size = S.length + 1 := by
      rw [setT_size pk]
      unfold addS
      rw [if_neg hnk, List.length_append]
      rfl
    have hb1 : es1.size < scanBound := by rw [hsz]; exact room
    have hled : w.params.followText "set-order" = true ∨ t1.led = true := hl.imp id fun z => by rw [hl1]; exact z
    refine wpAny_bind (hgw _ ?_)
    split
    · refine wpAny_bind ?_
      rw [hashByValue_scannable 8 hsc]
      refine wpAny_pure (setT_tail ?_ ho hex hd g1 pk nd1 hb1 ?_ ?_ ?_ ?_)
      · intro b s₁ Q' q; cases b <;> first | exact wpAny_pure q | exact wpAny_rule q
      · first | (split <;> first | exact hf1 | exact SetTable.fits_plain_off hf1) | exact hf1
      · first | (split <;> exact hr1) | exact hr1
      · first | (split <;> exact hled) | exact hled
      · intro h' sb r; dsimp only; exact wpAny_pure (hQ _ h' sb r)
    · refine wpAny_bind (wpAny_pure ?_)
      simp only [↓reduceIte]
      refine setT_tail ?_ ho hex hd g1 pk nd1 hb1 hf1 hr1 hled ?_
      · intro b s₁ Q' q; cases b <;> first | exact wpAny_pure q | exact wpAny_rule q
      · intro h' sb r; dsimp only; exact wpAny_pure (hQ _ h' sb r)
theorem setT_add {k : Str} {tk : Tok} {Q : Value → Shared → Prop} (R : SetT w s.heap a S) (room : S.length + 1 < scanBound) (hQ : ∀ h', Heap.SameBut a s.heap h' → SetT w h' a (addS S k) → Q .none { s with heap := h', toks := s.toks + 1 }) : wpAny (model P w) A (call (.builtin "set.add") [.ref a, .str k tk]) Q E s := by
  have hS := R.setOf (P := P)
  refine wpAny_call_entry F.slot_set_add hS.typeIs F.entry_set_add ?_ (F.args_set_add_2 _ _)
  unfold Builtin.«set.add» Builtin.Frozenset.oneOther
  simp only [List.isEmpty_nil, bind_assoc]
  unfold Builtin.Frozenset.addrOf setAdd
  refine wpAny_bind (wpAny_pure ?_)
  try dsimp only
  refine wpAny_bind (wpAny_pure ?_)
  try dsimp only
  refine wpAny_bind (wpAny_holding (wpAny_bind ((strKind P w).pyHash (isT k tk) ?_)))
  refine setT_hashed (s := { s with toks := s.toks + 1 }) R room fun b h' sb r => ?_
  show wpAny _ _ (ret Value.none) _ _ _
  exact wpAny_pure ⟨_, rfl, hQ h' sb r⟩
end
end Z
end
section
set_option Elab.async false
set_option linter.all false
set_option maxRecDepth 100000
set_option maxHeartbeats 4000000
/-! ZV2: comprehensions that make a set of texts; sorted of such a set. -/
namespace Z
open PySem PySem.Spec PyProof.Rows L2 PpSet
def SetTO (w : World) (a : Addr) (S : List Str) : HO := .ext fun h => SetT w h a S
theorem setTO_new {w : World} {P : Program} {H : Hp} {h : Heap} {a : Addr} {S : List Str} (R : SetT w h a S) : ObjOk P w H h a (SetTO w a S) := by
  have ⟨o, _, _, _, ho, _⟩ := R
  exact ⟨R, ⟨o, ho⟩, fun h1 h2 p k => SetT.at p k⟩
section
variable {X : Cx}
theorem setTO_get {pins : List (Addr × Obj)} {σ : L2.St} {H : Hp} {s : Shared} {a : Addr} {S : List Str} (I : Inv X pins σ H s) (ha : H a = some (SetTO X.w a S)) : SetT X.w s.heap a S := (I.hok a _ ha).1
theorem setTO_add {pins : List (Addr × Obj)} {σ : L2.St} {H : Hp} {s : Shared} {E : Value → Shared → Prop} {Da : Addr} {S : List Str} {y : Str} {tk : Tok} {Q : Value → Shared → Prop} (I : Inv X pins σ H s) (hD : H Da = some (SetTO X.w Da S)) (room : S.length + 1 < scanBound)
    (h : ∀ s', Inv X pins σ (upd H Da (SetTO X.w Da (addS S y))) s' → Q .none s') : wpAny (model X.prog X.w) X.A (call (.builtin "set.add") [.ref Da, .str y tk]) Q E s := by
  have R := setTO_get I hD
  refine setT_add R room fun h' sb new => ?_
  have he : ∃ u, h'.get? Da = some u := by
    have ⟨o, _, _, _, ho, _⟩ := new
    exact ⟨o, ho⟩
  exact h _ (I.write (e := Da) (t' := s.toks + 1) (by rw [hD]; trivial) (.inl rfl) (fun b u hb hu => (sb.2 b hb).trans hu) he (setTO_new new))
theorem strsT {w : World} : ∀ (l : List Value), (∀ v ∈ l, ∃ e, GoodT w e ∧ e.2 = v) → StrsAre l (l.map fun v => keyT (0, v))
  | [], _ => .nil
  | v :: l, h => by
    obtain ⟨e, ⟨k, tk, h1, _⟩, rfl⟩ := h v (List.mem_cons_self ..)
    have r := strsT l fun u hu => h u (List.mem_cons_of_mem _ hu)
    rw [List.map_cons]
    rw [h1]
    exact .cons k tk r
/-- sorted(a set of texts), fewer than 64 -/
def rSortedT' (w : World) : List V → Hp → VK → Prop := fun xs H Q => ∃ (a : Addr) (S : List Str), xs = [.ref a] ∧ H a = some (SetTO w a S) ∧ S.length < 64 ∧ ∀ ys p, ys.Perm S → sortedS ys = true → H p = none → Q (.ref p) (upd H p (.lst (ys.map V.str)))
theorem cr_sortedT' (hcalm : X.calm = true) : CallR X (.builtin "sorted") (rSortedT' X.w) := by
  intro pins s σ H xs us Q I r q
  obtain ⟨a, S, ex, hd, h64, q⟩ := q
  subst ex
  obtain ⟨u, eu, rx⟩ := vals1 r
  subst eu
  cases rx
  obtain ⟨o, es, ep, t, ho, hex, hdt, g, pm0, nd, hb, hf, hr, hl⟩ := setTO_get I hd
  refine Calls.call_function_entry PyProof.Rows.kind_sorted PyProof.Rows.plain_sorted PyProof.Rows.entry_sorted (PyProof.Rows.args_sorted1 _) ?_
  unfold Builtin.«sorted»
  refine wpAny_bind (m := checkCount "sorted" 1 1 _) (wpAny_pure ?_)
  refine wpAny_bind (collect_set (A := X.A.in1) (I.ok.hd hcalm) ⟨o, ho, hex.1, hdt⟩ hf hb hr hl fun s1 out k1 hz g1 o1 pm => ?_)
  have hol : out.length = S.length := by rw [pm.length_eq, List.length_map, Array.length_toList, setT_size pm0]
  have hS : StrsAre out (out.map fun v => keyT (0, v)) := strsT (w := X.w) out fun v hv => by
    obtain ⟨e, he, q⟩ := List.mem_map.mp (pm.mem_iff.mp hv)
    exact ⟨e, g e he, q⟩
  have hp0 : (out.map fun v => keyT (0, v)).Perm S := by
    refine (pm.map _).trans ?_
    rw [List.map_map]
    exact pm0
  have I1 : Inv X pins σ H s1 := I.call' (ch := []) o1 (Un.kept k1) (I.hok.kept k1) (by rw [g1]; exact I.bare) (fun _ z => nomatch z)
  refine wpAny_bind (wpAny_newList ?_ (by rw [hol, sizeLine_eq]; omega))
  have hoL : (s1.heap.push (seqObj "list" out.toArray 0)).get? s1.heap.objs.size = some (seqObj "list" out.toArray 0) := Heap.get?_push_size _ rfl
  show wpAny _ _ _ _ _ { s1 with heap := s1.heap.push (seqObj "list" out.toArray 0) }
  refine wpAny_bind (wpAny_holding (wpAny_call_entry PyProof.Rows.slot_list_sort ⟨_, hoL, rfl⟩ PyProof.Rows.entry_list_sort
    (list_sort_treeK strKind_oneLt (s := { s1 with heap := s1.heap.push (seqObj "list" out.toArray 0) }) hoL hS.keysOf (fun v₁ v₂ rest e => keyKind_strs (by rw [← e]; exact hS)) (by rw [hol]; exact h64) fun st' hp hs => ⟨_, rfl, ?_⟩)
    (PyProof.Rows.args_list_sort _)))
  obtain ⟨ys, q1, q2, q3⟩ := sorted_out_str hS hp hs
  obtain ⟨e', he'⟩ := PyProof.Rows.sortedHeap_at (vs := out) (out := (arrOf st').map (·.2)) hoL
  have q2 := q2.trans hp0
  have hlen : (ys.map V.str).length ≤ sizeLine := by
    rw [List.length_map, q2.length_eq]
    exact Nat.le_trans (Nat.le_of_lt h64) (by decide)
  refine wpAny_pure ⟨_, rfl, .ref s1.heap.objs.size, upd H s1.heap.objs.size (.lst (ys.map V.str)), I1.laid (t' := s1.toks) (fun b u e => ?_) (Nat.le_refl _)
    (show ObjOk X.prog X.w _ _ _ (.lst (ys.map V.str)) from ⟨hlen, ((arrOf st').map (·.2)).toList, e', vals_of_strs q1, by rw [Array.toArray_toList]; exact he'⟩), rfl, q ys _ q2 q3 (I1.hok.fresh (Nat.le_refl _))⟩
  have hb : b < s1.heap.objs.size := Heap.lt_size e
  rw [PyProof.Rows.sortedHeap_old (Nat.ne_of_lt hb) (by rw [size_push']; exact Nat.lt_succ_of_lt hb)]
  exact Heap.get?_push_of_some _ e
/-! the comprehension -/
def tScT (w : World) (wi : TI) (g : TG) (tt : TT) (te : TE) (vs : List Nat) : TE := fun σ H Q => wi σ H fun J H1 => ∀ Da, H1 Da = none → ∃ W : Nat → Nat → Hp → Prop, (∃ m, W 0 m (upd H1 Da (SetTO w Da []))) ∧ ∀ i m H, W i m H →
  (J.stop i H ∧ Q (.ref Da) H) ∨ (J.go i H ∧ ∃ Nx : Hp → Prop, (∀ H', Nx H' → ∃ m', m' < m ∧ W (i + 1) m' H') ∧ ∀ x H', J.yld i H x H' → g x (wipe σ vs) H' fun σ2 H2 => wipe σ2 vs = wipe σ vs ∧ tt σ2 H2 fun b H3 =>
    if b = true then te σ2 H3 fun y H4 => ∃ (c : Str) (S : List Str), y = .str c ∧ H4 Da = some (SetTO w Da S) ∧ S.length + 1 < scanBound ∧ Nx (upd H4 Da (SetTO w Da (addS S c))) else Nx H3)
theorem scT_core {pins : List (Addr × Obj)} {s : Shared} {σ : L2.St} {H : Hp} {Q : VK} {elt tg iter : Expr} {ifs : List Expr} {scope : Scope} {own : List (PySem.Str × Nat)} {pos pos' : Pos} {wi : TI} {g : TG} {tt : TT} {te : TE} {use : Option (Value → Sem Unit)} {Qf : Value → Shared → Prop}
    (hc : X.calm = true) (hN : X.N.Nodup) (I : Inv X pins σ H s) (hi : PI X tg iter wi) (ok : BlkOk X.N X.env.scope scope own)
    (hg : ∀ (s : Shared) (H : Hp) (C : Addr) (cl : List (PySem.Str × Addr)) (fp : List Addr), PG (X.blk s H scope (compEnvC scope cl C X.env) fp) tg g) (ht : ∀ (s : Shared) (H : Hp) (C : Addr) (cl : List (PySem.Str × Addr)) (fp : List Addr), PTs (X.blk s H scope (compEnvC scope cl C X.env) fp) ifs tt)
    (he : ∀ (s : Shared) (H : Hp) (C : Addr) (cl : List (PySem.Str × Addr)) (fp : List Addr), PE (X.blk s H scope (compEnvC scope cl C X.env) fp) elt te) (hs : ∀ x, foldedSetIterable iter X.env x = pure x)
    (h : tScT X.w wi g tt te (own.map (·.2)) σ H Q)
    (hRR : ∀ Da C s' m H', Inv X pins σ H' s' → Q (.ref Da) H' → s'.heap.Ns C m → FpOk X pins H' C → compPost (model X.prog X.w) X.A X.xe use Qf (.ref Da) C (.ok .next) s') :
    wpAny (model X.prog X.w) X.A (comprehension (.SetComp elt [⟨tg, iter, ifs, 0⟩] scope pos) scope X.env pos' (newSet (.type "set")) false (eval iter X.env) use) Qf X.xe s := by
  have hfree : ∀ y ∈ scope.names, y.2 = .free → ∃ c, X.env.cells.lookup y.1 = some c := fun y hy e => by
    rcases ok.free y hy e with k | k
    · exact I.ok.has _ (.inl k)
    · exact I.ok.has _ (.inr k)
  refine wpAny_comprehension_free (use := use) rfl hs (closure_ok hfree) ok.kind (fun y hy e => by rw [ok.uniq y hy, e])
    (thn (hi.run pins s σ H _ I h) fun xv s1 hx => thn hx fun itv s2 h2 => ?_)
  obtain ⟨it, fp, tn, J, H2, e, I2, T, st2, f2, q⟩ := h2
  subst e
  refine newSet_ok (newEnv_comp ?_)
  generalize hD : s2.heap.objs.size = Da
  have hDn : H2 Da = none := I2.hok.fresh (Nat.le_of_eq hD)
  obtain ⟨W, ⟨m0, w0⟩, turn⟩ := q Da hDn
  generalize hs3 : ({ s2 with heap := s2.heap.push { cls := .type "set", dict := none, data := .set #[] 0 (.fresh 0 0 (!X.w.params.followText "set-order")) } } : Shared) = s3
  have I3 : Inv X pins σ (upd H2 Da (SetTO X.w Da [])) s3 := by
    rw [← hs3]
    refine I2.laid (t' := s2.toks) (fun b o e => Heap.get?_push_of_some _ e) (Nat.le_of_eq hD) ?_
    rw [← hD]
    exact setTO_new (setT_fresh X.w)
  have h3 : s3.heap = s2.heap.push { cls := .type "set", dict := none, data := .set #[] 0 (.fresh 0 0 (!X.w.params.followText "set-order")) } := by rw [← hs3]
  have sz : ∀ b ∈ fp, b < s2.heap.objs.size := fun b hb => by
    obtain ⟨o, e, _⟩ := T.obj _ _ st2 b hb
    exact Heap.lt_size e
  have f3 : ∀ b ∈ fp, FpOk X pins (upd H2 Da (SetTO X.w Da [])) b ∧ b < s3.heap.objs.size := fun b hb => by
    have hlt := sz b hb
    refine ⟨⟨?_, (f2 b hb).2⟩, by rw [h3, Heap.size_push]; exact Nat.lt_succ_of_lt hlt⟩
    rw [upd_ne (by rw [← hD]; exact Nat.ne_of_lt hlt)]
    exact (f2 b hb).1
  have st3 : tn 0 s3.heap := T.keep _ _ _ st2 fun b _ o e => by rw [h3]; exact Heap.get?_push_of_some _ e
  have I4 := block_start I3 ok hN f3
  have pg := hg s3 (upd H2 Da (SetTO X.w Da [])) s3.heap.objs.size (cellsFrom (s3.heap.objs.size + 1) scope.names (cloFrom X.env.cells scope.names [])) fp
  have pt := ht s3 (upd H2 Da (SetTO X.w Da [])) s3.heap.objs.size (cellsFrom (s3.heap.objs.size + 1) scope.names (cloFrom X.env.cells scope.names [])) fp
  have pe := he s3 (upd H2 Da (SetTO X.w Da [])) s3.heap.objs.size (cellsFrom (s3.heap.objs.size + 1) scope.names (cloFrom X.env.cells scope.names [])) fp
  show codeAny _ _ (.compStart (.SetComp elt [⟨tg, iter, ifs, 0⟩] scope pos) 0 (.ref it) (.ref Da) (compEnvC scope (cellsFrom (s3.heap.objs.size + 1) scope.names (cloFrom X.env.cells scope.names [])) s3.heap.objs.size X.env)) (compPost (model X.prog X.w) X.A X.xe use Qf (.ref Da) s3.heap.objs.size) { s3 with heap := pushCells (s3.heap.push { cls := .type "dict", data := .dict #[] }) scope.names }
  have nfp : ∀ b ∈ fp, (upd H2 Da (SetTO X.w Da [])) b = none := fun b hb => (f3 b hb).1.1
  generalize hce : compEnvC scope (cellsFrom (s3.heap.objs.size + 1) scope.names (cloFrom X.env.cells scope.names [])) s3.heap.objs.size X.env = ce at I4 pg pt pe ⊢
  have cL : ce.locals = s3.heap.objs.size := by subst hce; rfl
  generalize hH3 : upd H2 Da (SetTO X.w Da []) = H3 at I3 I4 pg pt pe w0 nfp f3
  generalize hs4 : ({ s3 with heap := pushCells (s3.heap.push { cls := .type "dict", data := .dict #[] }) scope.names } : Shared) = s4 at I4 ⊢
  have st4 : tn 0 s4.heap := T.keep _ _ _ st3 fun b _ o e => by rw [← hs4]; exact pushCells_keeps _ _ _ _ (Heap.get?_push_of_some _ e)
  have stat : ∀ {σ' : L2.St} {H' : Hp} {s' : Shared}, Inv (X.blk s3 H3 scope ce fp) [] σ' H' s' → (∀ b ∈ fp, H' b = none) → ∀ b ∈ fp, FpOk (X.blk s3 H3 scope ce fp) [] H' b := fun {σ' H' s'} I' hn b hb =>
    ⟨hn b hb, (I'.ok.exf b hb).1, I'.ok.exfs b hb, .inl hb, fun x c e => (I'.ok.exf b hb).2 x c e, fun p hp => absurd (show p ∈ ([] : List (Addr × Obj)) ++ [] from hp) (by simp)⟩
  have loop : codeAny (model X.prog X.w) X.A (.compLoop (.SetComp elt [⟨tg, iter, ifs, 0⟩] scope pos) 0 (.ref it) (.ref Da) ce) (compPost (model X.prog X.w) X.A X.xe use Qf (.ref Da) s3.heap.objs.size) s4 := by
    refine compLoopS_any (fun n s' => ∃ i H', Inv (X.blk s3 H3 scope ce fp) [] (wipe σ (own.map (·.2))) H' s' ∧ tn i s'.heap ∧ (∀ b ∈ fp, H' b = none) ∧ W i n H') ?_ m0 ⟨0, H3, I4, st4, nfp, w0⟩
    rintro n s5 ⟨i, H5, I5, st5, n5, w5⟩
    rcases turn i n H5 w5 with ⟨stop, qq⟩ | ⟨go, Nx, hNx, step⟩
    · have td := T.done (X.blk s3 H3 scope ce fp) rfl rfl rfl hc i [] s5 _ H5 (fun _ _ => False) I5 (stat I5 n5) st5 stop
      refine thnF td fun r s6 ⟨hr, I6⟩ => ?_
      subst hr
      have I7 : Inv X pins σ H5 s6 := I3.call' (ch := fp) I6.os I6.base I6.hok I6.bare fun b hb => ⟨(f3 b hb).1.2.2.2.1, (f3 b hb).1.2.1, (f3 b hb).1.2.2.2.2.1, (f3 b hb).1.2.2.2.2.2⟩
      have nC : H5 s3.heap.objs.size = none := by
        have z : H5 ce.locals = none := I6.free
        rw [cL] at z
        exact z
      obtain ⟨m, hn, _⟩ := I6.loc
      have hn : s6.heap.Ns ce.locals m := hn
      rw [cL] at hn
      exact hRR Da s3.heap.objs.size s6 m H5 I7 qq hn (I3.fpOk (Nat.le_refl _) nC)
    · have ti := T.item (X.blk s3 H3 scope ce fp) rfl rfl rfl hc i [] s5 _ H5 (fun _ _ => False) I5 (stat I5 n5) st5 go
      refine thnF ti fun r s6 ⟨u, hr, h6⟩ => ?_
      subst hr
      refine thnF h6 fun _ s7 ⟨x, H7, I7, r7, y7, st7, n7⟩ => ?_
      have I7' := I7.pinned (stat I7 n7) (T.obj _ _ st7)
      refine thnF (pg.run _ s7 _ H7 x u _ I7' r7 (step x H7 y7)) fun _ s8 ⟨σ8, H8, I8, hw8, q8⟩ => ?_
      refine thnF (pt.run _ s8 σ8 H8 _ I8 q8) fun b s9 ⟨H9, I9, q9⟩ => ?_
      have fin : ∀ {s' : Shared} {H' : Hp}, Inv (X.blk s3 H3 scope ce fp) ([] ++ pinsAt fp s7.heap) σ8 H' s' → Nx H' → ∃ m, m < n ∧ ∃ i H', Inv (X.blk s3 H3 scope ce fp) [] (wipe σ (own.map (·.2))) H' s' ∧ tn i s'.heap ∧ (∀ b ∈ fp, H' b = none) ∧ W i m H' := fun {s' H'} I' nx => by
        obtain ⟨m', hm, w'⟩ := hNx H' nx
        have pin' : ∀ b ∈ fp, ∀ o, s7.heap.get? b = some o → s'.heap.get? b = some o ∧ H' b = none := fun b hb o e =>
          let z := I'.pin (b, o) (List.mem_append_right _ (List.mem_append_right _ (mem_pinsAt hb e)))
          ⟨z.1, z.2.1⟩
        have hl : (wipe σ (own.map (·.2))).length = σ8.length := by rw [← hw8, wipe_length]
        refine ⟨m', hm, i + 1, H', (I'.unpinned (pins := [])).weak hl (fun j v e => ?_), T.keep _ _ _ st7 fun b hb o e => (pin' b hb o e).1, fun b hb => ?_, w'⟩
        · rw [← hw8] at e
          exact (wipe_some e).1
        · obtain ⟨o, e, _⟩ := T.obj _ _ st7 b hb
          exact (pin' b hb o e).2
      cases b with
      | false =>
        simp only [Bool.false_eq_true, if_false] at q9 ⊢
        exact fin I9 q9
      | true =>
        simp only [if_true] at q9 ⊢
        refine thnF (pe.run _ s9 σ8 H9 _ I9 q9) fun z s10 ⟨yv, H10, I10, r10, cb, S0, ey, hD10, hz10, nx⟩ => ?_
        subst ey
        obtain ⟨tk, rfl⟩ := (show ∃ t, z = Value.str cb t from r10)
        exact setTO_add (X := X.blk s3 H3 scope ce fp) I10 hD10 hz10 fun s11 I11 => fin I11 nx
  exact codeAny_compStart_set loop (T.self X.A 0 _ _ _ st4 loop)
theorem pe_scT {elt tg iter : Expr} {ifs : List Expr} {scope : Scope} {own : List (PySem.Str × Nat)} {pos : Pos} {wi : TI} {g : TG} {tt : TT} {te : TE} (hc : X.calm = true) (hN : X.N.Nodup) (hi : PI X tg iter wi) (ok : BlkOk X.N X.env.scope scope own)
    (hg : ∀ (s : Shared) (H : Hp) (C : Addr) (cl : List (PySem.Str × Addr)) (fp : List Addr), PG (X.blk s H scope (compEnvC scope cl C X.env) fp) tg g) (ht : ∀ (s : Shared) (H : Hp) (C : Addr) (cl : List (PySem.Str × Addr)) (fp : List Addr), PTs (X.blk s H scope (compEnvC scope cl C X.env) fp) ifs tt)
    (he : ∀ (s : Shared) (H : Hp) (C : Addr) (cl : List (PySem.Str × Addr)) (fp : List Addr), PE (X.blk s H scope (compEnvC scope cl C X.env) fp) elt te) (hs : ∀ x, foldedSetIterable iter X.env x = pure x := by intro _; rfl) :
    PE X (.SetComp elt [⟨tg, iter, ifs, 0⟩] scope pos) (tScT X.w wi g tt te (own.map (·.2))) := by
  refine ⟨fun pins s σ H Q I h => ?_⟩
  rw [eval_SetComp]
  refine scT_core hc hN I hi ok hg ht he hs h fun Da C s' m H' I' q hn f => ⟨m, hn, fun h'' sb => ?_⟩
  obtain ⟨f0, f1, f2, f3, f4, f5⟩ := f
  exact ⟨.ref Da, H', I'.turned (t' := s'.toks) (fun b o hb e => (sb.2 b hb).trans e) f0 f1 f3 f4 f5, rfl, q⟩
end
end Z
end
section
set_option Elab.async false
set_option linter.all false
set_option maxRecDepth 100000
set_option maxHeartbeats 4000000
/-! ZV3: sorted of texts: of a list, of {b for a, b in pairs if a == c}. -/
namespace Z
open PySem PySem.Spec PyProof.Rows L2
/-! the order of texts -/
theorem lc_irr : ∀ a : List Nat, ltCps a a = false
  | [] => rfl
  | x :: r => by
    unfold ltCps
    rw [lc_irr r]
    simp
theorem lc_trans : ∀ {a b c : List Nat}, ltCps a b = true → ltCps b c = true → ltCps a c = true
  | [], [], _, h, _ => by cases h
  | [], _ :: _, [], _, h => by cases h
  | [], _ :: _, _ :: _, _, _ => rfl
  | _ :: _, [], _, h, _ => by cases h
  | _ :: _, _ :: _, [], _, h => by cases h
  | x :: a, y :: b, z :: c, h, k => by
    unfold ltCps at h k ⊢
    simp only [Bool.or_eq_true, decide_eq_true_eq, Bool.and_eq_true, beq_iff_eq] at h k ⊢
    rcases h with h | ⟨rfl, h⟩ <;> rcases k with k | ⟨rfl, k⟩
    · exact .inl (by omega)
    · exact .inl h
    · exact .inl k
    · exact .inr ⟨rfl, lc_trans h k⟩
theorem lc_tri : ∀ a b : List Nat, ltCps a b = true ∨ a = b ∨ ltCps b a = true
  | [], [] => .inr (.inl rfl)
  | [], _ :: _ => .inl rfl
  | _ :: _, [] => .inr (.inr rfl)
  | x :: a, y :: b => by
    unfold ltCps
    simp only [Bool.or_eq_true, decide_eq_true_eq, Bool.and_eq_true, beq_iff_eq, List.cons.injEq]
    rcases Nat.lt_trichotomy x y with h | rfl | h
    · exact .inl (.inl h)
    · rcases lc_tri a b with h | rfl | h
      · exact .inl (.inr ⟨rfl, h⟩)
      · exact .inr (.inl ⟨rfl, rfl⟩)
      · exact .inr (.inr (.inr ⟨rfl, h⟩))
    · exact .inr (.inr (.inl h))
def leT (x y : Str) : Prop := ltCps y.cps.toList x.cps.toList = false
theorem leT_anti {x y : Str} (h : leT x y) (k : leT y x) : x = y := by
  rcases lc_tri x.cps.toList y.cps.toList with z | z | z
  · exact absurd (k.symm.trans z) Bool.false_ne_true
  · cases x
    cases y
    simp only [Str.mk.injEq]
    exact Array.toList_inj.mp z
  · exact absurd (h.symm.trans z) Bool.false_ne_true
theorem leT_total (x y : Str) : leT x y ∨ leT y x := by
  unfold leT
  rcases lc_tri x.cps.toList y.cps.toList with z | z | z
  · refine .inl ?_
    cases q : ltCps y.cps.toList x.cps.toList with
    | false => rfl
    | true => exact absurd ((lc_irr _).symm.trans (lc_trans z q)) Bool.false_ne_true
  · rw [z]
    exact .inl (lc_irr _)
  · refine .inr ?_
    cases q : ltCps x.cps.toList y.cps.toList with
    | false => rfl
    | true => exact absurd ((lc_irr _).symm.trans (lc_trans z q)) Bool.false_ne_true
theorem leT_trans {x y z : Str} (h : leT x y) (k : leT y z) : leT x z := by
  unfold leT at *
  cases q : ltCps z.cps.toList x.cps.toList with
  | false => rfl
  | true =>
    rcases lc_tri x.cps.toList y.cps.toList with c | c | c
    · exact absurd (k.symm.trans (lc_trans q c)) Bool.false_ne_true
    · rw [c] at q
      exact absurd (k.symm.trans q) Bool.false_ne_true
    · exact absurd (h.symm.trans c) Bool.false_ne_true
def insT (x : Str) : List Str → List Str
  | [] => [x]
  | y :: r => if ltCps y.cps.toList x.cps.toList = true then y :: insT x r else x :: y :: r
def sortT : List Str → List Str
  | [] => []
  | x :: r => insT x (sortT r)
theorem insT_perm (x : Str) : ∀ l : List Str, (insT x l).Perm (x :: l)
  | [] => List.Perm.refl _
  | y :: r => by
    unfold insT
    split
    · exact ((insT_perm x r).cons y).trans (List.Perm.swap x y r)
    · exact List.Perm.refl _
theorem sortT_perm : ∀ l : List Str, (sortT l).Perm l
  | [] => List.Perm.refl _
  | x :: r => (insT_perm x _).trans ((sortT_perm r).cons x)
theorem insT_ord (x : Str) : ∀ {l : List Str}, l.Pairwise leT → (insT x l).Pairwise leT
  | [], _ => List.pairwise_cons.mpr ⟨fun _ h => (nomatch h), List.Pairwise.nil⟩
  | y :: r, h => by
    obtain ⟨h1, h2⟩ := List.pairwise_cons.mp h
    unfold insT
    split
    · rename_i hc
      refine List.pairwise_cons.mpr ⟨fun z hz => ?_, insT_ord x h2⟩
      rcases List.mem_cons.mp ((insT_perm x r).mem_iff.mp hz) with rfl | hz
      · exact (leT_total y z).resolve_right fun k => absurd (k.symm.trans hc) Bool.false_ne_true
      · exact h1 z hz
    · rename_i hc
      have hxy : leT x y := by
        unfold leT
        cases q : ltCps y.cps.toList x.cps.toList with
        | false => rfl
        | true => exact absurd q hc
      refine List.pairwise_cons.mpr ⟨fun z hz => ?_, h⟩
      rcases List.mem_cons.mp hz with rfl | hz
      · exact hxy
      · exact leT_trans hxy (h1 z hz)
theorem sortT_ord : ∀ l : List Str, (sortT l).Pairwise leT
  | [] => List.Pairwise.nil
  | x :: r => insT_ord x (sortT_ord r)
theorem ord_uniq : ∀ {l k : List Str}, l.Perm k → l.Pairwise leT → k.Pairwise leT → l = k
  | [], k, p, _, _ => p.nil_eq
  | x :: l, [], p, _, _ => absurd p.length_eq (by simp)
  | x :: l, y :: k, p, h1, h2 => by
    obtain ⟨a1, a2⟩ := List.pairwise_cons.mp h1
    obtain ⟨b1, b2⟩ := List.pairwise_cons.mp h2
    have r1 : leT x y := by
      rcases List.mem_cons.mp (p.mem_iff.mpr (List.mem_cons_self ..)) with e | e
      · rw [e]
        exact lc_irr _
      · exact a1 y e
    have r2 : leT y x := by
      rcases List.mem_cons.mp (p.mem_iff.mp (List.mem_cons_self ..)) with e | e
      · rw [e]
        exact lc_irr _
      · exact b1 x e
    have e := leT_anti r1 r2
    subst e
    rw [ord_uniq p.cons_inv a2 b2]
theorem rising_ord : ∀ {r : List Str} {x : Str}, risingS x r = true → (x :: r).Pairwise leT
  | [], x, _ => List.pairwise_cons.mpr ⟨fun _ h => (nomatch h), List.Pairwise.nil⟩
  | y :: r, x, h => by
    unfold risingS at h
    rw [Bool.and_eq_true, Bool.not_eq_true'] at h
    have ih := rising_ord h.2
    refine List.pairwise_cons.mpr ⟨fun z hz => ?_, ih⟩
    rcases List.mem_cons.mp hz with rfl | hz
    · exact h.1
    · exact leT_trans h.1 ((List.pairwise_cons.mp ih).1 z hz)
theorem sorted_is {ys S : List Str} (p : ys.Perm S) (h : sortedS ys = true) : ys = sortT S := by
  refine ord_uniq (p.trans (sortT_perm S).symm) ?_ (sortT_ord S)
  cases ys with
  | nil => exact List.Pairwise.nil
  | cons x r => exact rising_ord h
/-! evaluators -/
def textsD : List D → Option (List Str)
  | [] => some []
  | .str x :: r => (textsD r).map (x :: ·)
  | _ :: _ => none
theorem textsD_map : ∀ ys : List Str, textsD (ys.map D.str) = some ys
  | [] => rfl
  | y :: ys => by
    show (textsD (ys.map D.str)).map (y :: ·) = _
    rw [textsD_map ys]
    rfl
def fSortS : List D → S → R D
  | [.loc l], s => match getL s l with
    | some xs => match textsD xs with
      | some ys => if ys.length < 64 then nw (.lst ((sortT ys).map D.str)) s else .bad
      | none => .bad
    | none => .bad
  | _, _ => .bad
def pairsT : List D → Option (List (Str × Str))
  | [] => some []
  | .tup [.str a, .str b] :: r => (pairsT r).map ((a, b) :: ·)
  | _ :: _ => none
def foldT (c : Str) : List (Str × Str) → List Str → List Str
  | [], S => S
  | p :: r, S => foldT c r (if p.1 = c then addS S p.2 else S)
def cSortP (j i1 i2 : Nat) (c : Str) : M D := fun es st => match es[j]? with
  | some (some (.loc l)) => match getL st l with
    | some xs => match pairsT xs with
      | some ps => if (foldT c ps []).length < 64 ∧ i1 < es.length ∧ i2 < es.length then nw (.lst ((sortT (foldT c ps [])).map D.str)) st else .bad
      | none => .bad
    | none => .bad
  | _ => .bad
theorem addS_len (S : List Str) (x : Str) : S.length ≤ (addS S x).length := by
  unfold addS
  split
  · exact Nat.le_refl _
  · rw [List.length_append]
    omega
theorem foldT_len {c : Str} : ∀ (ps : List (Str × Str)) (S : List Str), S.length ≤ (foldT c ps S).length
  | [], S => Nat.le_refl _
  | p :: r, S => by
    unfold foldT
    refine Nat.le_trans ?_ (foldT_len r _)
    split
    · exact addS_len S p.2
    · exact Nat.le_refl _
theorem foldT_app {c : Str} : ∀ (ps qs : List (Str × Str)) (S : List Str), foldT c (ps ++ qs) S = foldT c qs (foldT c ps S)
  | [], _, _ => rfl
  | p :: r, qs, S => by
    show foldT c (r ++ qs) _ = _
    rw [foldT_app r qs]
    rfl
theorem pairsT_get : ∀ {xs : List D} {ps : List (Str × Str)}, pairsT xs = some ps → ps.length = xs.length ∧ ∀ (i : Nat) (p : Str × Str), ps[i]? = some p → xs[i]? = some (.tup [.str p.1, .str p.2])
  | [], ps, h => by
    cases h
    exact ⟨rfl, fun i p h => by simp at h⟩
  | d :: r, ps, h => by
    unfold pairsT at h
    split at h
    · rename_i e
      cases e
    · rename_i a b r2 e
      cases e
      cases q : pairsT r with
      | none => rw [q] at h; cases h
      | some qs =>
        rw [q] at h
        cases h
        obtain ⟨l, k⟩ := pairsT_get q
        refine ⟨by rw [List.length_cons, List.length_cons, l], fun i p hp => ?_⟩
        cases i with
        | zero => cases hp; rfl
        | succ i => exact k i p hp
    · cases h
section
variable {X : Cx} {cad : Nat → Addr} {E : XK}
theorem reps_texts {g : G} {ρ : List Addr} {H : Hp} : ∀ ys : List Str, Reps g ρ H (ys.map D.str) (ys.map V.str)
  | [] => reps_nil
  | y :: ys => reps_cons rep_str (reps_texts ys)
theorem texts_V {g : G} {ρ : List Addr} {H : Hp} : ∀ {xs : List D} {ys : List Str} {vs : List V}, textsD xs = some ys → Reps g ρ H xs vs → vs = ys.map V.str
  | [], ys, vs, h, r => by
    cases h
    rw [r.nil]
    rfl
  | d :: xs, ys, vs, h, r => by
    unfold textsD at h
    split at h
    · rename_i e
      cases e
    · rename_i x r2 e
      cases e
      cases q : textsD xs with
      | none => rw [q] at h; cases h
      | some zs =>
        rw [q] at h
        cases h
        obtain ⟨v, ws, rfl, r1, r2⟩ := r.cons
        rw [r1.str, texts_V q r2]
        rfl
    · cases h
theorem q_sortS : CallM X cad E (.builtin "sorted") fSortS := by
  intro pins s σ H vs us Q I r h
  obtain ⟨ρ, st, ds, sr, rs, p⟩ := h
  unfold fSortS at p
  split at p
  · split at p
    · rename_i l xs hx
      split at p
      · rename_i ys hy
        split at p
        · rename_i hz
          obtain ⟨v, rfl, r1⟩ := rs.uno
          obtain ⟨a, w1, rfl⟩ := r1.loc
          obtain ⟨a', vs, w2, h1, k1⟩ := sr.getL hx
          rw [w1] at w2
          cases w2
          rw [texts_V hy k1] at h1
          exact cr_sortedS pins s σ H _ us Q I r ⟨a, ys, rfl, h1, hz, fun zs q pm so hq => by
            rw [sorted_is pm so]
            exact lst_new sr (reps_texts _) p q hq⟩
        · exact p.elim
      · exact p.elim
    · exact p.elim
  · exact p.elim
/-- sorted({b for a, b in pairs if a == c}) -/
theorem e_sortP {j i1 i2 : Nat} {x y1 y2 : Str} {c : Str} {tg : Expr} {scope : Scope} {own : List (Str × Nat)} {pos ps px pe p1 p2 pc pf : Pos} {k : Nat} (hc : X.calm = true) (hN : X.N.Nodup) (ok : BlkOk X.N X.env.scope scope own) (hj : X.N[j]? = some x) (hv : Vis X.env.scope x)
    (hgs : Gl X "sorted") (hms : X.mg "sorted" = none)
    (hg : ∀ (s : Shared) (H : Hp) (C : Addr) (cl : List (Str × Addr)) (fp : List Addr), PG (eBlk X scope s H C cl fp) tg (gTup X.K 2 (gOf [i1, i2])))
    (h1 : ∀ (s : Shared) (H : Hp) (C : Addr) (cl : List (Str × Addr)) (fp : List Addr), PE (eBlk X scope s H C cl fp) (.Name y1 p1) (tVar i1))
    (h2 : ∀ (s : Shared) (H : Hp) (C : Addr) (cl : List (Str × Addr)) (fp : List Addr), PE (eBlk X scope s H C cl fp) (.Name y2 p2) (tVar i2))
    (o1 : i1 ∈ own.map (·.2)) (o2 : i2 ∈ own.map (·.2)) (hne : i1 ≠ i2) (hd : (x == ("__debug__" : Str)) = false) (hcd : (x == ("__classdict__" : Str)) = false) (hs : ∀ z, foldedSetIterable (.Name x px) X.env z = pure z := by intro _; rfl)
    (he : starEach [Expr.SetComp (.Name y2 p2) [⟨tg, .Name x px, [.Compare (.Name y1 p1) [.Eq] [.Constant (.str c) k pc] pe], 0⟩] scope ps] X.env = (false, eval (Expr.SetComp (.Name y2 p2) [⟨tg, .Name x px, [.Compare (.Name y1 p1) [.Eq] [.Constant (.str c) k pc] pe], 0⟩] scope ps) X.env) :: starEach [] X.env := by rfl) :
    PE X (.Call (.Name "sorted" pf) [.SetComp (.Name y2 p2) [⟨tg, .Name x px, [.Compare (.Name y1 p1) [.Eq] [.Constant (.str c) k pc] pe], 0⟩] scope ps] [] pos) (tM (gX X cad) E (cSortP j i1 i2 c)) := by
  refine PE.imp (pe_callB (cr_sortedT' hc) hgs hms (by rfl) (pa_cons (pe_scT hc hN (pi_list (pe_var hj hv hd hcd)) ok hg (fun s H C cl fp => pts_one (pt_cmpR op_eq (h1 s H C cl fp) pe_str (nomark _))) h2 hs) pa_nil) (by decide) (by decide) he (by rfl)) fun σ H Q h => ?_
  obtain ⟨ρ, es, st, sr, sl, p⟩ := h
  unfold cSortP at p
  split at p
  · rename_i l el
    split at p
    · rename_i xs ex
      split at p
      · rename_i qs eq
        split at p
        · rename_i hz
          obtain ⟨v, ev, rv⟩ := sl.2 j _ el
          obtain ⟨a, w1, rfl⟩ := rv.loc
          obtain ⟨a0, vs0, w2, s0, k0⟩ := sr.getL ex
          rw [w1] at w2
          cases w2
          obtain ⟨ql, qg⟩ := pairsT_get eq
          refine ⟨_, ev, a, rfl, ⟨vs0, s0⟩, fun Da hD => ?_⟩
          have st1 : ∀ o : HO, TLe (gX X cad) H (upd H Da o) := fun o => TLe.new hD
          have sr1 : ∀ o : HO, SR (gX X cad) ρ st (upd H Da o) := fun o => sr.same fun b u hb => by
            rw [upd_ne (fun e => by rw [e, hD] at hb; cases hb)]
            exact hb
          refine ⟨fun i m H' => i + m = qs.length ∧ H' = upd H Da (SetTO X.w Da (foldT c (qs.take i) [])), ⟨qs.length, by omega, by rw [List.take_zero]; rfl⟩, ?_⟩
          rintro i m H' ⟨him, rfl⟩
          obtain ⟨a1, vs1, w3, s1, k1⟩ := (sr1 (SetTO X.w Da (foldT c (qs.take i) []))).getL ex
          rw [w1] at w3
          cases w3
          cases hd2 : qs[i]? with
          | none =>
            have hi : i = qs.length := by
              have := List.getElem?_eq_none_iff.mp hd2
              omega
            subst hi
            rw [List.take_length] at s1 k1 ⊢
            refine .inl ⟨⟨vs1, s1, by rw [k1.length, ← ql]; exact Nat.le_refl _⟩, ?_⟩
            refine ⟨Da, foldT c qs [], rfl, upd_same, hz.1, fun zs q pm so hq => ?_⟩
            rw [sorted_is pm so]
            exact lst_new (sr1 _) (reps_texts _) (PoE.mono p (List.prefix_refl _) (st1 _)) q hq
          | some pr =>
            have hi := (List.getElem?_eq_some_iff.mp hd2).1
            have exi := qg i pr hd2
            obtain ⟨u, eu, ru⟩ := k1.get exi
            refine .inr ⟨⟨vs1, u, s1, eu⟩, fun H' => H' = upd H Da (SetTO X.w Da (foldT c (qs.take (i + 1)) [])), fun H' hH => ⟨m - 1, by omega, by omega, hH⟩, fun z H' hy => ?_⟩
            obtain ⟨rfl, hy2⟩ := hy
            have e5 := hy2 vs1 s1
            rw [eu] at e5
            cases e5
            obtain ⟨at2, ws, rfl, st2, r2⟩ := ru.tup
            obtain ⟨va, wr, rfl, ra, r3⟩ := r2.cons
            obtain ⟨vb, wr2, rfl, rb, r4⟩ := r3.cons
            cases ra.str
            cases rb.str
            cases r4.nil
            have hlen : σ.length = es.length := sl.1.symm
            have efold : foldT c (qs.take (i + 1)) [] = if pr.1 = c then addS (foldT c (qs.take i) []) pr.2 else foldT c (qs.take i) [] := by
              rw [List.take_succ, hd2, foldT_app]
              rfl
            refine ⟨at2, _, rfl, st2, rfl, _, _, rfl, _, _, rfl, rfl, ?_, ?_⟩
            · rw [wipe_set o2, wipe_set o1, wipe_wipe]
            refine ⟨.str pr.1, ?_, ?_⟩
            · rw [List.getElem?_set_ne (Ne.symm hne), List.getElem?_set_self (by rw [wipe_length, hlen]; exact hz.2.1)]
            refine ⟨rfl, _, rfl, ?_⟩
            by_cases hpc : pr.1 = c
            · rw [if_pos hpc] at efold
              rw [if_pos (by rw [hpc]; exact decide_eq_true rfl)]
              refine ⟨.str pr.2, ?_, pr.2, foldT c (qs.take i) [], rfl, upd_same, ?_, ?_⟩
              · rw [List.getElem?_set_self (by rw [List.length_set, wipe_length, hlen]; exact hz.2.2)]
              · have := foldT_len (c := c) (qs.drop i) (foldT c (qs.take i) [])
                rw [← foldT_app, List.take_append_drop] at this
                have := hz.1
                show _ < scanBound
                unfold scanBound
                omega
              · rw [efold, upd_upd]
            · rw [if_neg hpc] at efold
              rw [if_neg (by
                intro q
                have q2 := of_decide_eq_true q
                injection q2 with q3
                exact hpc q3)]
              rw [efold]
        · exact p.elim
      · exact p.elim
    · exact p.elim
  · exact p.elim
end
end Z
end
section
set_option Elab.async false
set_option linter.all false
set_option maxRecDepth 100000
set_option maxHeartbeats 1000000
/-! the walk of k01: printed by gen.py -/
namespace K01
open PySem PySem.Spec PyProof.Rows L2 Z
def topS (i : Nat) : Stmt := PySem.Challenge.pw_wholerows_k01_reads_picks_nth_and_words.main.body.getD i (.Pass ⟨0, 0, 0, 0⟩)
def K_LIMIT : D := .int 1000000000000
theorem bt_bool : bootBuiltins "bool" = some (.type "bool") := by decide +kernel
theorem bt_dict : bootBuiltins "dict" = some (.type "dict") := by decide +kernel
theorem bt_int : bootBuiltins "int" = some (.type "int") := by decide +kernel
theorem bt_len : bootBuiltins "len" = some (.builtin "len") := by decide +kernel
theorem bt_list : bootBuiltins "list" = some (.type "list") := by decide +kernel
theorem bt_max : bootBuiltins "max" = some (.builtin "max") := by decide +kernel
theorem bt_min : bootBuiltins "min" = some (.builtin "min") := by decide +kernel
theorem bt_sorted : bootBuiltins "sorted" = some (.builtin "sorted") := by decide +kernel
theorem bt_str : bootBuiltins "str" = some (.type "str") := by decide +kernel
theorem bt_tuple : bootBuiltins "tuple" = some (.type "tuple") := by decide +kernel
structure Tp (K : PySem.W.Frag) (mg : Str → Option Value) (cad : Nat → Addr) : Prop where
  LIMIT : Cst K mg cad "LIMIT" K_LIMIT
  bool_ : mg "bool" = none
  dict_ : mg "dict" = none
  int_ : mg "int" = none
  isinstance_ : mg "isinstance" = none
  len_ : mg "len" = none
  list_ : mg "list" = none
  max_ : mg "max" = none
  min_ : mg "min" = none
  range_ : mg "range" = none
  sorted_ : mg "sorted" = none
  str_ : mg "str" = none
  tuple_ : mg "tuple" = none
/-! clip -/
abbrev s_clip : Stmt := topS 2
abbrev N_clip : List Str := ["number"]
theorem sc_clip : FnScope N_clip ["number"] (defScope s_clip) := ⟨rfl, rfl, rfl, by decide +kernel, rfl, by decide +kernel, by decide +kernel⟩
def b_clip : M Out :=
  (sSeq (cIf (c2 (cVar 0) (cC K_LIMIT) kGt) (sRet (cC K_LIMIT)) sNext)
  (sSeq (cIf (c2 (cVar 0) (c1 (cC K_LIMIT) uNeg) kLt) (sRet (c1 (cC K_LIMIT) uNeg)) sNext)
  (sRet (cVar 0))))
def F_clip : List D → S → R D := fnD 1 1 b_clip
/-! parts_within -/
abbrev s_parts_within : Stmt := topS 4
abbrev N_parts_within : List Str := ["expression"]
theorem sc_parts_within : FnScope N_parts_within ["expression"] (defScope s_parts_within) := ⟨rfl, rfl, rfl, by decide +kernel, rfl, by decide +kernel, by decide +kernel⟩
def b_parts_within : M Out :=
  (sSeq (cIf (c2 (c2 (cVar 0) (cC (.int 0)) ixA) (cC (.str "read")) kEq) (sRet (cTup (cCons (c2 (cVar 0) (cC (.int 2)) ixA) cNil))) sNext)
  (sSeq (cIf (c2 (c2 (cVar 0) (cC (.int 0)) ixA) (cC (.str "op")) kEq) (sRet (cTup (cCons (c2 (cVar 0) (cC (.int 2)) ixA) (cCons (c2 (cVar 0) (cC (.int 3)) ixA) cNil)))) sNext)
  (sSeq (cIf (c2 (c2 (cVar 0) (cC (.int 0)) ixA) (cC (.str "call")) kEq) (sRet (c2 (cVar 0) (cC (.int 2)) ixA)) sNext)
  (sRet (cTup cNil)))))
def F_parts_within : List D → S → R D := fnD 1 1 b_parts_within
/-! quotient_of -/
abbrev s_quotient_of : Stmt := topS 5
abbrev N_quotient_of : List Str := ["left", "right"]
theorem sc_quotient_of : FnScope N_quotient_of ["left", "right"] (defScope s_quotient_of) := ⟨rfl, rfl, rfl, by decide +kernel, rfl, by decide +kernel, by decide +kernel⟩
def b_quotient_of : M Out :=
  (sSeq (cIf (c2 (cVar 1) (cC (.int 0)) kEq) (sRet (cC (.int 0))) sNext)
  (sRet (c2 (cVar 0) (cVar 1) bDivA)))
def F_quotient_of : List D → S → R D := fnD 2 2 b_quotient_of
/-! remainder_of -/
abbrev s_remainder_of : Stmt := topS 6
abbrev N_remainder_of : List Str := ["left", "right"]
theorem sc_remainder_of : FnScope N_remainder_of ["left", "right"] (defScope s_remainder_of) := ⟨rfl, rfl, rfl, by decide +kernel, rfl, by decide +kernel, by decide +kernel⟩
def b_remainder_of : M Out :=
  (sSeq (cIf (c2 (cVar 1) (cC (.int 0)) kEq) (sRet (cC (.int 0))) sNext)
  (sRet (c2 (cVar 0) (c2 (cVar 1) (c2 (cVar 0) (cVar 1) bDivA) bMulA) bSub)))
def F_remainder_of : List D → S → R D := fnD 2 2 b_remainder_of
/-! comparison_holds -/
abbrev s_comparison_holds : Stmt := topS 7
abbrev N_comparison_holds : List Str := ["sign", "left", "right"]
theorem sc_comparison_holds : FnScope N_comparison_holds ["sign", "left", "right"] (defScope s_comparison_holds) := ⟨rfl, rfl, rfl, by decide +kernel, rfl, by decide +kernel, by decide +kernel⟩
def b_comparison_holds : M Out :=
  (sSeq (cIf (c2 (cVar 0) (cC (.str "<")) kEq) (sRet (c2 (cVar 1) (cVar 2) (vK kLt))) sNext)
  (sSeq (cIf (c2 (cVar 0) (cC (.str "<=")) kEq) (sRet (c2 (cVar 1) (cVar 2) (vK kLe))) sNext)
  (sSeq (cIf (c2 (cVar 0) (cC (.str ">")) kEq) (sRet (c2 (cVar 1) (cVar 2) (vK kGt))) sNext)
  (sSeq (cIf (c2 (cVar 0) (cC (.str ">=")) kEq) (sRet (c2 (cVar 1) (cVar 2) (vK kGe))) sNext)
  (sSeq (cIf (c2 (cVar 0) (cC (.str "=")) kEq) (sRet (c2 (cVar 1) (cVar 2) (vK kEq))) sNext)
  (sRet (c2 (cVar 1) (cVar 2) (vK kNeA))))))))
def F_comparison_holds : List D → S → R D := fnD 3 3 b_comparison_holds
/-! value_of_op -/
abbrev s_value_of_op : Stmt := topS 8
abbrev N_value_of_op : List Str := ["sign", "left", "right"]
theorem sc_value_of_op : FnScope N_value_of_op ["sign", "left", "right"] (defScope s_value_of_op) := ⟨rfl, rfl, rfl, by decide +kernel, rfl, by decide +kernel, by decide +kernel⟩
def b_value_of_op : M Out :=
  (sSeq (cIf (c2 (cVar 0) (cC (.str "+")) kEq) (sRet (cCall (cCons (c2 (cVar 1) (cVar 2) bAdd) cNil) F_clip)) sNext)
  (sSeq (cIf (c2 (cVar 0) (cC (.str "-")) kEq) (sRet (cCall (cCons (c2 (cVar 1) (cVar 2) bSub) cNil) F_clip)) sNext)
  (sSeq (cIf (c2 (cVar 0) (cC (.str "*")) kEq) (sRet (cCall (cCons (c2 (cVar 1) (cVar 2) bMulA) cNil) F_clip)) sNext)
  (sSeq (cIf (c2 (cVar 0) (cC (.str "div")) kEq) (sRet (cCall (cCons (cVar 1) (cCons (cVar 2) cNil)) F_quotient_of)) sNext)
  (sSeq (cIf (c2 (cVar 0) (cC (.str "mod")) kEq) (sRet (cCall (cCons (cVar 1) (cCons (cVar 2) cNil)) F_remainder_of)) sNext)
  (sRet (cCall (cCons (cCall (cCons (cVar 0) (cCons (cVar 1) (cCons (cVar 2) cNil))) F_comparison_holds) cNil) fInt)))))))
def F_value_of_op : List D → S → R D := fnD 3 3 b_value_of_op
/-! value_of_read -/
abbrev s_value_of_read : Stmt := topS 9
abbrev N_value_of_read : List Str := ["cells", "place"]
theorem sc_value_of_read : FnScope N_value_of_read ["cells", "place"] (defScope s_value_of_read) := ⟨rfl, rfl, rfl, by decide +kernel, rfl, by decide +kernel, by decide +kernel⟩
def b_value_of_read : M Out :=
  (sSeq (cIf (cChain (cC (.int 0)) (cVar 1) (cCall (cCons (cVar 0) cNil) fLenA) kLe kLt) (sRet (c2 (cVar 0) (cVar 1) ixA)) sNext)
  (sRet (cC (.int 0))))
def F_value_of_read : List D → S → R D := fnD 2 2 b_value_of_read
/-! index_of_zero -/
abbrev s_index_of_zero : Stmt := topS 10
abbrev N_index_of_zero : List Str := ["cells", "number", "zeros", "index"]
theorem sc_index_of_zero : FnScope N_index_of_zero ["cells", "number"] (defScope s_index_of_zero) := ⟨rfl, rfl, rfl, by decide +kernel, rfl, by decide +kernel, by decide +kernel⟩
def b_index_of_zero : M Out :=
  (sSeq (sSet 2 (cCompR1 (cCons (cCall (cCons (cVar 0) cNil) fLenA) cNil) (setN 3) [3] (c2 (c2 (cVar 0) (cVar 3) ixA) (cC (.int 0)) kEq) (cVar 3)))
  (sSeq (cIf (cChain (cC (.int 0)) (cVar 1) (cCall (cCons (cVar 2) cNil) fLenA) kLe kLt) (sRet (c2 (cVar 2) (cVar 1) ixA)) sNext)
  (sRet (c1 (cC (.int 1)) uNeg))))
def F_index_of_zero : List D → S → R D := fnD 4 2 b_index_of_zero
/-! value_of_call -/
abbrev s_value_of_call : Stmt := topS 11
abbrev N_value_of_call : List Str := ["word", "values", "arrays"]
theorem sc_value_of_call : FnScope N_value_of_call ["word", "values", "arrays"] (defScope s_value_of_call) := ⟨rfl, rfl, rfl, by decide +kernel, rfl, by decide +kernel, by decide +kernel⟩
def b_value_of_call : M Out :=
  (sSeq (cIf (c2 (cVar 0) (cC (.str "min")) kEq) (sRet (cCall (cCons (c2 (cVar 1) (cC (.int 0)) ixA) (cCons (c2 (cVar 1) (cC (.int 1)) ixA) cNil)) fMin)) sNext)
  (sSeq (cIf (c2 (cVar 0) (cC (.str "max")) kEq) (sRet (cCall (cCons (c2 (cVar 1) (cC (.int 0)) ixA) (cCons (c2 (cVar 1) (cC (.int 1)) ixA) cNil)) fMax)) sNext)
  (sSeq (cIf (c2 (cVar 0) (cC (.str "nth")) kEq) (sRet (cCall (cCons (c2 (cVar 2) (cC (.str "place")) ixA) (cCons (c2 (cVar 1) (cC (.int 0)) ixA) cNil)) F_index_of_zero)) sNext)
  (sSeq (cIf (c2 (c2 (cVar 1) (cC (.int 0)) ixA) (cC (.int 0)) kNeA) (sRet (c2 (cVar 1) (cC (.int 1)) ixA)) sNext)
  (sRet (c2 (cVar 1) (cC (.int 2)) ixA))))))
def F_value_of_call : List D → S → R D := fnD 3 3 b_value_of_call
/-! value_of -/
abbrev s_value_of : Stmt := topS 12
abbrev N_value_of : List Str := ["expression", "names", "arrays", "kind", "values", "part"]
theorem sc_value_of : FnScope N_value_of ["expression", "names", "arrays"] (defScope s_value_of) := ⟨rfl, rfl, rfl, by decide +kernel, rfl, by decide +kernel, by decide +kernel⟩
def b_value_of (c_value_of : List D → S → R D) : M Out :=
  (sSeq (sSet 3 (c2 (cVar 0) (cC (.int 0)) ixA))
  (sSeq (cIf (c2 (cVar 3) (cC (.str "number")) kEq) (sRet (c2 (cVar 0) (cC (.int 1)) ixA)) sNext)
  (sSeq (cIf (c2 (cVar 3) (cC (.str "name")) kEq) (sRet (c2 (cVar 1) (c2 (cVar 0) (cC (.int 1)) ixA) ixA)) sNext)
  (sSeq (sSet 4 (cComp (cCall (cCons (cVar 0) cNil) F_parts_within) (setN 5) [5] cYes (cCall (cCons (cVar 5) (cCons (cVar 1) (cCons (cVar 2) cNil))) c_value_of)))
  (sSeq (cIf (c2 (cVar 3) (cC (.str "read")) kEq) (sRet (cCall (cCons (c2 (cVar 2) (c2 (cVar 0) (cC (.int 1)) ixA) ixA) (cCons (c2 (cVar 4) (cC (.int 0)) ixA) cNil)) F_value_of_read)) sNext)
  (sSeq (cIf (c2 (cVar 3) (cC (.str "op")) kEq) (sRet (cCall (cCons (c2 (cVar 0) (cC (.int 1)) ixA) (cCons (c2 (cVar 4) (cC (.int 0)) ixA) (cCons (c2 (cVar 4) (cC (.int 1)) ixA) cNil))) F_value_of_op)) sNext)
  (sRet (cCall (cCons (c2 (cVar 0) (cC (.int 1)) ixA) (cCons (cVar 4) (cCons (cVar 2) cNil))) F_value_of_call))))))))
def R_value_of : Nat → List D → S → R D
  | 0 => fun _ _ => .bad
  | n + 1 => fnD 6 3 (b_value_of (R_value_of n))
def F_value_of : List D → S → R D := R_value_of 16
/-! pairs_within -/
abbrev s_pairs_within : Stmt := topS 13
abbrev N_pairs_within : List Str := ["expression", "pairs", "part"]
theorem sc_pairs_within : FnScope N_pairs_within ["expression"] (defScope s_pairs_within) := ⟨rfl, rfl, rfl, by decide +kernel, rfl, by decide +kernel, by decide +kernel⟩
def b_pairs_within (c_pairs_within : List D → S → R D) : M Out :=
  (sSeq (sSet 1 (cLst cNil))
  (sSeq (cIf (c2 (c2 (cVar 0) (cC (.int 0)) ixA) (cTup (cCons (cC (.str "name")) (cCons (cC (.str "read")) (cCons (cC (.str "call")) cNil)))) kInA) (sDrop (cMeth (cVar 1) (cCons (cTup (cCons (c2 (cVar 0) (cC (.int 0)) ixA) (cCons (c2 (cVar 0) (cC (.int 1)) ixA) cNil))) cNil) mAppend)) sNext)
  (sSeq (sFor (cCall (cCons (cVar 0) cNil) F_parts_within) (setN 2) (sDrop (cMeth (cVar 1) (cCons (cCall (cCons (cVar 2) cNil) c_pairs_within) cNil) mExtend)))
  (sRet (cVar 1)))))
def R_pairs_within : Nat → List D → S → R D
  | 0 => fun _ _ => .bad
  | n + 1 => fnD 3 1 (b_pairs_within (R_pairs_within n))
def F_pairs_within : List D → S → R D := R_pairs_within 16
/-! words_of -/
abbrev s_words_of : Stmt := topS 14
abbrev N_words_of : List Str := ["expression", "pairs", "names", "arrays", "calls", "kind", "word"]
theorem sc_words_of : FnScope N_words_of ["expression"] (defScope s_words_of) := ⟨rfl, rfl, rfl, by decide +kernel, rfl, by decide +kernel, by decide +kernel⟩
def b_words_of : M Out :=
  (sSeq (sSet 1 (cCall (cCons (cVar 0) cNil) F_pairs_within))
  (sSeq (sSet 2 (cSortP 1 5 6 "name"))
  (sSeq (sSet 3 (cSortP 1 5 6 "read"))
  (sSeq (sSet 4 (cSortP 1 5 6 "call"))
  (sRet (cTup (cCons (cCall (cCons (cVar 2) cNil) fTuple) (cCons (cCall (cCons (cVar 3) cNil) fTuple) (cCons (cCall (cCons (cVar 4) cNil) fTuple) cNil)))))))))
def F_words_of : List D → S → R D := fnD 7 1 b_words_of
/-! _law_whole -/
abbrev s_law_whole : Stmt := topS 16
abbrev N_law_whole : List Str := ["value"]
theorem sc_law_whole : FnScope N_law_whole ["value"] (defScope s_law_whole) := ⟨rfl, rfl, rfl, by decide +kernel, rfl, by decide +kernel, by decide +kernel⟩
def b_law_whole : M Out :=
  (sRet (vAnd (cIs .int (cVar 0)) (vNot (cIs .bl (cVar 0)))))
def F_law_whole : List D → S → R D := fnD 1 1 b_law_whole
/-! _law_cell -/
abbrev s_law_cell : Stmt := topS 17
abbrev N_law_cell : List Str := ["script", "k", "seed", "cell"]
theorem sc_law_cell : FnScope N_law_cell ["script", "k"] (defScope s_law_cell) := ⟨rfl, rfl, rfl, by decide +kernel, rfl, by decide +kernel, by decide +kernel⟩
def b_law_cell : M Out :=
  (sSeq (cIf (c2 (cVar 1) (cCall (cCons (cVar 0) cNil) fLenA) kLt) (sRet (c2 (cVar 0) (cVar 1) ixA)) sNext)
  (sSeq (sSet 2 (cC (.int 17)))
  (sSeq (sForA 0 (setN 3) (sSet 2 (c2 (cCall (cCons (c2 (c2 (cVar 2) (cC (.int 31)) bMulA) (c2 (cCall (cCons (cVar 3) cNil) fInt) (cC (.int 1000003)) bMod) bAdd) cNil) fInt) (cC (.int 1000003)) bMod)))
  (sRet (c2 (cCall (cCons (c2 (c2 (c2 (cVar 2) (cC (.int 7)) bAdd) (c2 (cVar 1) (cC (.int 3)) bAdd) bMulA) (cC (.int 69621)) bMulA) cNil) fInt) (cC (.int 2147483647)) bMod)))))
def F_law_cell : List D → S → R D := fnD 4 2 b_law_cell
/-! _law_feed -/
abbrev s_law_feed : Stmt := topS 18
abbrev N_law_feed : List Str := ["cell", "rest"]
theorem sc_law_feed : FnScope N_law_feed ["cell"] (defScope s_law_feed) := ⟨rfl, rfl, rfl, by decide +kernel, rfl, by decide +kernel, by decide +kernel⟩
def b_law_feed : M Out :=
  (sSeq (sSet 1 (cCall (cCons (cVar 0) cNil) fInt))
  (sSeq (cIf (c2 (cVar 1) (c2 (cC (.int 10)) (cC (.int 18)) bPow) kGe) (sRet (cLst (cCons (cC (.int 1)) (cCons (c2 (cVar 1) (c2 (cC (.int 10)) (cC (.int 18)) bPow) bSub) (cCons (cC (.int 0)) cNil))))) sNext)
  (sRet (cLst (cCons (cC (.int 0)) (cCons (c2 (cCall (cCons (cVar 1) cNil) fInt) (cC (.int 2147483629)) bMod) (cCons (cC (.int 0)) cNil)))))))
def F_law_feed : List D → S → R D := fnD 2 1 b_law_feed
/-! _law_take -/
abbrev s_law_take : Stmt := topS 19
abbrev N_law_take : List Str := ["feed", "size", "twice", "digit"]
theorem sc_law_take : FnScope N_law_take ["feed", "size"] (defScope s_law_take) := ⟨rfl, rfl, rfl, by decide +kernel, rfl, by decide +kernel, by decide +kernel⟩
def b_law_take : M Out :=
  (sSeq (sSubA (cVar 0) (cC (.int 2)) (c2 (c2 (cVar 0) (cC (.int 2)) ixA) (cC (.int 1)) bAdd))
  (sSeq (cIf (cAnd (c2 (c2 (cVar 0) (cC (.int 0)) ixA) (cC (.int 1)) kEq) (c2 (c2 (cVar 0) (cC (.int 1)) ixA) (cC (.int 0)) kEq)) (sSeq (sSubA (cVar 0) (cC (.int 0)) (cC (.int 0)))
  (sSubA (cVar 0) (cC (.int 1)) (c2 (cC (.int 7919)) (c2 (cVar 0) (cC (.int 2)) ixA) bAdd))) sNext)
  (sSeq (cIf (c2 (c2 (cVar 0) (cC (.int 0)) ixA) (cC (.int 1)) kEq) (sSeq (sSet 3 (c2 (cCall (cCons (c2 (cVar 0) (cC (.int 1)) ixA) cNil) fInt) (cVar 1) bMod))
  (sSeq (sSubA (cVar 0) (cC (.int 1)) (c2 (cCall (cCons (c2 (cVar 0) (cC (.int 1)) ixA) cNil) fInt) (cVar 1) bDivA))
  (sRet (cVar 3)))) sNext)
  (sSeq (sSubA (cVar 0) (cC (.int 1)) (c2 (cCall (cCons (c2 (c2 (c2 (c2 (cVar 0) (cC (.int 1)) ixA) (cC (.int 48271)) bMulA) (c2 (cC (.int 974711)) (c2 (cVar 0) (cC (.int 2)) ixA) bMulA) bAdd) (cC (.int 12345)) bAdd) cNil) fInt) (cC (.int 2147483647)) bMod))
  (sSeq (sSet 2 (c2 (cCall (cCons (c2 (c2 (cVar 0) (cC (.int 1)) ixA) (c2 (c2 (c2 (cVar 0) (cC (.int 1)) ixA) (cC (.int 65537)) bDivA) (cC (.int 3)) bAdd) bMulA) cNil) fInt) (cC (.int 2147483629)) bMod))
  (sRet (c2 (c2 (cVar 2) (cC (.int 19)) bDivA) (cVar 1) bMod)))))))
def F_law_take : List D → S → R D := fnD 4 2 b_law_take
/-! _law_number -/
abbrev s_law_number : Stmt := topS 20
abbrev N_law_number : List Str := ["feed", "kind"]
theorem sc_law_number : FnScope N_law_number ["feed"] (defScope s_law_number) := ⟨rfl, rfl, rfl, by decide +kernel, rfl, by decide +kernel, by decide +kernel⟩
def b_law_number : M Out :=
  (sSeq (sSet 1 (cCall (cCons (cVar 0) (cCons (cC (.int 8)) cNil)) F_law_take))
  (sSeq (cIf (c2 (cVar 1) (cC (.int 3)) kLt) (sRet (cCall (cCons (cVar 0) (cCons (cC (.int 13)) cNil)) F_law_take)) sNext)
  (sSeq (cIf (c2 (cVar 1) (cC (.int 3)) kEq) (sRet (cCall (cCons (cVar 0) (cCons (cC (.int 1001)) cNil)) F_law_take)) sNext)
  (sSeq (cIf (c2 (cVar 1) (cC (.int 4)) kEq) (sRet (c2 (c2 (cC (.int 10)) (cC (.int 12)) bPow) (cCall (cCons (cVar 0) (cCons (cC (.int 3)) cNil)) F_law_take) bSub)) sNext)
  (sSeq (cIf (c2 (cVar 1) (cC (.int 5)) kEq) (sRet (c2 (c2 (c2 (cC (.int 10)) (cC (.int 6)) bPow) (cCall (cCons (cVar 0) (cCons (cC (.int 7)) cNil)) F_law_take) bAdd) (cC (.int 3)) bSub)) sNext)
  (sSeq (cIf (c2 (cVar 1) (cC (.int 6)) kEq) (sRet (cCall (cCons (cVar 0) (cCons (cC (.int 70)) cNil)) F_law_take)) sNext)
  (sRet (cCall (cCons (c2 (cC (.int 10)) (cC (.int 12)) bPow) (cCons (c2 (c2 (cCall (cCons (cVar 0) (cCons (c2 (c2 (cC (.int 10)) (cC (.int 6)) bPow) (cC (.int 1)) bAdd) cNil)) F_law_take) (c2 (cC (.int 10)) (cC (.int 6)) bPow) bMulA) (cCall (cCons (cVar 0) (cCons (c2 (cC (.int 10)) (cC (.int 6)) bPow) cNil)) F_law_take) bAdd) cNil)) fMin))))))))
def F_law_number : List D → S → R D := fnD 2 1 b_law_number
/-! _law_datum -/
abbrev s_law_datum : Stmt := topS 21
abbrev N_law_datum : List Str := ["feed", "number"]
theorem sc_law_datum : FnScope N_law_datum ["feed"] (defScope s_law_datum) := ⟨rfl, rfl, rfl, by decide +kernel, rfl, by decide +kernel, by decide +kernel⟩
def b_law_datum : M Out :=
  (sSeq (sSet 1 (cCall (cCons (cVar 0) cNil) F_law_number))
  (sSeq (cIf (c2 (cCall (cCons (cVar 0) (cCons (cC (.int 5)) cNil)) F_law_take) (cC (.int 2)) kLt) (sRet (c2 (cC (.int 0)) (cVar 1) bSub)) sNext)
  (sRet (cVar 1))))
def F_law_datum : List D → S → R D := fnD 2 1 b_law_datum
/-! _law_word -/
abbrev s_law_word : Stmt := topS 22
abbrev N_law_word : List Str := ["feed", "menu", "letters", "kind", "size", "word", "k"]
theorem sc_law_word : FnScope N_law_word ["feed"] (defScope s_law_word) := ⟨rfl, rfl, rfl, by decide +kernel, rfl, by decide +kernel, by decide +kernel⟩
def b_law_word : M Out :=
  (sSeq (sSet 1 (cLst (cCons (cC (.str "a")) (cCons (cC (.str "b")) (cCons (cC (.str "me")) (cCons (cC (.str "x_1")) (cCons (cC (.str "place")) (cCons (cC (.str "divs")) (cCons (cC (.str "mode")) (cCons (cC (.str "min2")) (cCons (cC (.str "maxi")) (cCons (cC (.str "pick_")) (cCons (cC (.str "nth0")) (cCons (cC (.str "whenever")) (cCons (cC (.str "mo")) (cCons (cC (.str "first")) (cCons (cC (.str "sum")) cNil)))))))))))))))))
  (sSeq (sSet 1 (c2 (cVar 1) (cLst (cCons (cC (.str "end")) (cCons (cC (.str "in")) (cCons (cC (.str "do")) (cCons (cC (.str "for")) (cCons (cC (.str "step")) (cCons (cC (.str "lanes")) (cCons (cC (.str "most")) (cCons (cC (.str "least")) (cCons (cC (.str "array")) cNil)))))))))) bAdd))
  (sSeq (sSet 2 (cC (.str "abcdefghijklmnopqrstuvwxyz0123456789_")))
  (sSeq (sSet 3 (cCall (cCons (cVar 0) (cCons (cC (.int 5)) cNil)) F_law_take))
  (sSeq (cIf (c2 (cVar 3) (cC (.int 0)) kEq) (sRet (c2 (cVar 1) (cCall (cCons (cVar 0) (cCons (cC (.int 24)) cNil)) F_law_take) ixA)) sNext)
  (sSeq (sSet 4 (c2 (cLst (cCons (cC (.int 1)) (cCons (cC (.int 2)) (cCons (cC (.int 12)) (cCons (c2 (cC (.int 1)) (cCall (cCons (cVar 0) (cCons (cC (.int 12)) cNil)) F_law_take) bAdd) cNil))))) (c2 (cVar 3) (cC (.int 1)) bSub) ixA))
  (sSeq (sSet 5 (c2 (cVar 2) (cCall (cCons (cVar 0) (cCons (cC (.int 26)) cNil)) F_law_take) ixA))
  (sSeq (sForR1 (cCons (c2 (cVar 4) (cC (.int 1)) bSub) cNil) (setN 6) (sSet 5 (c2 (cVar 5) (c2 (cVar 2) (cCall (cCons (cVar 0) (cCons (cC (.int 37)) cNil)) F_law_take) ixA) bAdd)))
  (sSeq (cIf (c2 (cVar 5) (cLst (cCons (cC (.str "div")) (cCons (cC (.str "mod")) (cCons (cC (.str "min")) (cCons (cC (.str "max")) (cCons (cC (.str "pick")) (cCons (cC (.str "nth")) (cCons (cC (.str "when")) cNil)))))))) kInA) (sSet 5 (c2 (cVar 5) (cC (.str "s")) bAdd)) sNext)
  (sRet (cVar 5)))))))))))
def F_law_word : List D → S → R D := fnD 7 1 b_law_word
/-! _law_near -/
abbrev s_law_near : Stmt := topS 23
abbrev N_law_near : List Str := ["feed", "word", "letters", "kind", "near", "at"]
theorem sc_law_near : FnScope N_law_near ["feed", "word"] (defScope s_law_near) := ⟨rfl, rfl, rfl, by decide +kernel, rfl, by decide +kernel, by decide +kernel⟩
def b_law_near : M Out :=
  (sSeq (sSet 2 (cC (.str "abcdefghijklmnopqrstuvwxyz0123456789_")))
  (sSeq (sSet 3 (cCall (cCons (cVar 0) (cCons (cC (.int 3)) cNil)) F_law_take))
  (sSeq (sSet 4 (c2 (cSlice (cVar 1) cNoPart (cPart (cC (.int 11)))) (c2 (cVar 2) (cCall (cCons (cVar 0) (cCons (cC (.int 37)) cNil)) F_law_take) ixA) bAdd))
  (sSeq (cIf (cAnd (c2 (cVar 3) (cC (.int 0)) kEq) (c2 (cCall (cCons (cVar 1) cNil) fLenA) (cC (.int 1)) kGt)) (sSet 4 (cSlice (cVar 1) cNoPart (cPart (c2 (cCall (cCons (cVar 1) cNil) fLenA) (cC (.int 1)) bSub)))) sNext)
  (sSeq (cIf (c2 (cVar 3) (cC (.int 1)) kEq) (sSeq (sSet 5 (cCall (cCons (cVar 0) (cCons (cCall (cCons (cVar 1) cNil) fLenA) cNil)) F_law_take))
  (sSet 4 (c2 (c2 (cSlice (cVar 1) cNoPart (cPart (cVar 5))) (c2 (cVar 2) (cCall (cCons (cVar 0) (cCons (cC (.int 26)) cNil)) F_law_take) ixA) bAdd) (cSlice (cVar 1) (cPart (c2 (cVar 5) (cC (.int 1)) bAdd)) cNoPart) bAdd))) sNext)
  (sSeq (cIf (c2 (cVar 4) (cLst (cCons (cC (.str "div")) (cCons (cC (.str "mod")) (cCons (cC (.str "min")) (cCons (cC (.str "max")) (cCons (cC (.str "pick")) (cCons (cC (.str "nth")) (cCons (cC (.str "when")) cNil)))))))) kInA) (sSet 4 (c2 (cVar 4) (cC (.str "s")) bAdd)) sNext)
  (sRet (cVar 4))))))))
def F_law_near : List D → S → R D := fnD 6 2 b_law_near
/-! _law_word_row -/
abbrev s_law_word_row : Stmt := topS 24
abbrev N_law_word_row : List Str := ["feed", "many", "words", "k", "word"]
theorem sc_law_word_row : FnScope N_law_word_row ["feed", "many"] (defScope s_law_word_row) := ⟨rfl, rfl, rfl, by decide +kernel, rfl, by decide +kernel, by decide +kernel⟩
def b_law_word_row : M Out :=
  (sSeq (sSet 2 (cLst cNil))
  (sSeq (sForR1 (cCons (cVar 1) cNil) (setN 3) (sSeq (sSet 4 (cCall (cCons (cVar 0) cNil) F_law_word))
  (sSeq (cIf (cAnd (c2 (cVar 3) (cC (.int 0)) kGt) (c2 (cCall (cCons (cVar 0) (cCons (cC (.int 3)) cNil)) F_law_take) (cC (.int 0)) kEq)) (sSet 4 (cCall (cCons (cVar 0) (cCons (c2 (cVar 2) (cCall (cCons (cVar 0) (cCons (cVar 3) cNil)) F_law_take) ixA) cNil)) F_law_near)) sNext)
  (sDrop (cMeth (cVar 2) (cCons (cVar 4) cNil) mAppend)))))
  (sRet (cVar 2))))
def F_law_word_row : List D → S → R D := fnD 5 2 b_law_word_row
/-! _law_leaf -/
abbrev s_law_leaf : Stmt := topS 25
abbrev N_law_leaf : List Str := ["feed", "heads"]
theorem sc_law_leaf : FnScope N_law_leaf ["feed", "heads"] (defScope s_law_leaf) := ⟨rfl, rfl, rfl, by decide +kernel, rfl, by decide +kernel, by decide +kernel⟩
def b_law_leaf : M Out :=
  (sSeq (cIf (c2 (cCall (cCons (cVar 0) (cCons (cC (.int 5)) cNil)) F_law_take) (cC (.int 2)) kLt) (sRet (cTup (cCons (cC (.str "number")) (cCons (cCall (cCons (cVar 0) cNil) F_law_number) cNil)))) sNext)
  (sRet (cTup (cCons (cC (.str "name")) (cCons (c2 (cVar 1) (cCall (cCons (cVar 0) (cCons (cCall (cCons (cVar 1) cNil) fLenA) cNil)) F_law_take) ixA) cNil)))))
def F_law_leaf : List D → S → R D := fnD 2 2 b_law_leaf
/-! _law_tree -/
abbrev s_law_tree : Stmt := topS 26
abbrev N_law_tree : List Str := ["feed", "room", "deep", "tight", "heads", "stores", "menu", "sort", "signs", "word", "many", "spine", "parts", "k"]
theorem sc_law_tree : FnScope N_law_tree ["feed", "room", "deep", "tight", "heads", "stores", "menu"] (defScope s_law_tree) := ⟨rfl, rfl, rfl, by decide +kernel, rfl, by decide +kernel, by decide +kernel⟩
def b_law_tree (c_law_tree : List D → S → R D) : M Out :=
  (sSeq (sSubA (cVar 1) (cC (.int 0)) (c2 (c2 (cVar 1) (cC (.int 0)) ixA) (cC (.int 1)) bSub))
  (sSeq (sSet 7 (c2 (cVar 6) (cCall (cCons (cVar 0) (cCons (cCall (cCons (cVar 6) cNil) fLenA) cNil)) F_law_take) ixA))
  (sSeq (cIf (cOr (c2 (cVar 2) (cC (.int 2)) kLt) (cAnd (cNot (c1 (cVar 3) truD)) (cOr (c2 (cVar 7) (cC (.str "leaf")) kEq) (c2 (c2 (cVar 1) (cC (.int 0)) ixA) (cC (.int 0)) kLt)))) (sRet (cCall (cCons (cVar 0) (cCons (cVar 4) cNil)) F_law_leaf)) sNext)
  (sSeq (sSet 8 (cLst (cCons (cC (.str "+")) (cCons (cC (.str "-")) (cCons (cC (.str "*")) (cCons (cC (.str "div")) (cCons (cC (.str "mod")) (cCons (cC (.str "+")) (cCons (cC (.str "-")) (cCons (cC (.str "*")) (cCons (cC (.str "div")) (cCons (cC (.str "mod")) (cCons (cC (.str "<")) (cCons (cC (.str "<=")) (cCons (cC (.str ">")) (cCons (cC (.str ">=")) (cCons (cC (.str "=")) (cCons (cC (.str "!=")) cNil))))))))))))))))))
  (sSeq (sSet 9 (c2 (cVar 8) (cCall (cCons (cVar 0) (cCons (cC (.int 16)) cNil)) F_law_take) ixA))
  (sSeq (sSet 10 (cC (.int 2)))
  (sSeq (cIf (c2 (cVar 7) (cC (.str "read")) kEq) (sSeq (sSet 9 (c2 (cVar 5) (cCall (cCons (cVar 0) (cCons (cCall (cCons (cVar 5) cNil) fLenA) cNil)) F_law_take) ixA))
  (sSet 10 (cC (.int 1)))) sNext)
  (sSeq (cIf (c2 (cVar 7) (cC (.str "call")) kEq) (sSeq (sSet 9 (c2 (cLst (cCons (cC (.str "min")) (cCons (cC (.str "max")) (cCons (cC (.str "pick")) (cCons (cC (.str "nth")) cNil))))) (cCall (cCons (cVar 0) (cCons (cC (.int 4)) cNil)) F_law_take) ixA))
  (sSet 10 (c2 (c2 (cC (.int 2)) (cCall (cCons (c2 (cVar 9) (cC (.str "pick")) (vK kEq)) cNil) fInt) bAdd) (cCall (cCons (c2 (cVar 9) (cC (.str "nth")) (vK kEq)) cNil) fInt) bSub))) sNext)
  (sSeq (sSet 11 (cCall (cCons (cVar 0) (cCons (cVar 10) cNil)) F_law_take))
  (sSeq (sSet 12 (cLst cNil))
  (sSeq (sForR1 (cCons (cVar 10) cNil) (setN 13) (cIf (cAnd (c1 (cVar 3) truD) (c2 (cVar 13) (cVar 11) kEq)) (sDrop (cMeth (cVar 12) (cCons (cCall (cCons (cVar 0) (cCons (cVar 1) (cCons (c2 (cVar 2) (cC (.int 1)) bSub) (cCons (cC (.bl true)) (cCons (cVar 4) (cCons (cVar 5) (cCons (cVar 6) cNil))))))) c_law_tree) cNil) mAppend)) (sDrop (cMeth (cVar 12) (cCons (cCall (cCons (cVar 0) (cCons (cVar 1) (cCons (c2 (cC (.int 1)) (cCall (cCons (cVar 0) (cCons (c2 (cVar 2) (cC (.int 1)) bSub) cNil)) F_law_take) bAdd) (cCons (cC (.bl false)) (cCons (cVar 4) (cCons (cVar 5) (cCons (cVar 6) cNil))))))) c_law_tree) cNil) mAppend))))
  (sSeq (cIf (c2 (cVar 7) (cC (.str "read")) kEq) (sRet (cTup (cCons (cC (.str "read")) (cCons (cVar 9) (cCons (c2 (cVar 12) (cC (.int 0)) ixA) cNil))))) sNext)
  (sSeq (cIf (c2 (cVar 7) (cC (.str "call")) kEq) (sRet (cTup (cCons (cC (.str "call")) (cCons (cVar 9) (cCons (cCall (cCons (cVar 12) cNil) fTuple) cNil))))) sNext)
  (sRet (cTup (cCons (cC (.str "op")) (cCons (cVar 9) (cCons (c2 (cVar 12) (cC (.int 0)) ixA) (cCons (c2 (cVar 12) (cC (.int 1)) ixA) cNil)))))))))))))))))))
def R_law_tree : Nat → List D → S → R D
  | 0 => fun _ _ => .bad
  | n + 1 => fnD 14 7 (b_law_tree (R_law_tree n))
def F_law_tree : List D → S → R D := R_law_tree 16
/-! _law_deep -/
abbrev s_law_deep : Stmt := topS 27
abbrev N_law_deep : List Str := ["feed", "kind"]
theorem sc_law_deep : FnScope N_law_deep ["feed"] (defScope s_law_deep) := ⟨rfl, rfl, rfl, by decide +kernel, rfl, by decide +kernel, by decide +kernel⟩
def b_law_deep : M Out :=
  (sSeq (sSet 1 (cCall (cCons (cVar 0) (cCons (cC (.int 5)) cNil)) F_law_take))
  (sSeq (cIf (c2 (cVar 1) (cC (.int 2)) kLt) (sRet (cC (.int 12))) sNext)
  (sSeq (cIf (c2 (cVar 1) (cC (.int 4)) kLt) (sRet (c2 (cC (.int 4)) (cCall (cCons (cVar 0) (cCons (cC (.int 9)) cNil)) F_law_take) bAdd)) sNext)
  (sRet (c2 (cC (.int 1)) (cCall (cCons (cVar 0) (cCons (cC (.int 12)) cNil)) F_law_take) bAdd)))))
def F_law_deep : List D → S → R D := fnD 2 1 b_law_deep
/-! _law_drawn -/
abbrev s_law_drawn : Stmt := topS 28
abbrev N_law_drawn : List Str := ["cell", "heads", "stores", "menu", "feed", "room"]
theorem sc_law_drawn : FnScope N_law_drawn ["cell", "heads", "stores", "menu"] (defScope s_law_drawn) := ⟨rfl, rfl, rfl, by decide +kernel, rfl, by decide +kernel, by decide +kernel⟩
def b_law_drawn : M Out :=
  (sSeq (sSet 4 (cCall (cCons (cVar 0) cNil) F_law_feed))
  (sSeq (sSet 5 (cLst (cCons (c2 (cLst (cCons (cC (.int 16)) (cCons (cC (.int 10)) (cCons (cC (.int 40)) (cCons (cC (.int 120)) cNil))))) (cCall (cCons (cVar 4) (cCons (cC (.int 4)) cNil)) F_law_take) ixA) cNil)))
  (sRet (cCall (cCons (cVar 4) (cCons (cVar 5) (cCons (cCall (cCons (cVar 4) cNil) F_law_deep) (cCons (cC (.bl true)) (cCons (cVar 1) (cCons (cVar 2) (cCons (cVar 3) cNil))))))) F_law_tree))))
def F_law_drawn : List D → S → R D := fnD 6 4 b_law_drawn
/-! _law_parts -/
abbrev s_law_parts : Stmt := topS 29
abbrev N_law_parts : List Str := ["expr"]
theorem sc_law_parts : FnScope N_law_parts ["expr"] (defScope s_law_parts) := ⟨rfl, rfl, rfl, by decide +kernel, rfl, by decide +kernel, by decide +kernel⟩
def b_law_parts : M Out :=
  (sSeq (cIf (c2 (c2 (cVar 0) (cC (.int 0)) ixA) (cC (.str "read")) kEq) (sRet (cLst (cCons (c2 (cVar 0) (cC (.int 2)) ixA) cNil))) sNext)
  (sSeq (cIf (c2 (c2 (cVar 0) (cC (.int 0)) ixA) (cC (.str "op")) kEq) (sRet (cLst (cCons (c2 (cVar 0) (cC (.int 2)) ixA) (cCons (c2 (cVar 0) (cC (.int 3)) ixA) cNil)))) sNext)
  (sSeq (cIf (c2 (c2 (cVar 0) (cC (.int 0)) ixA) (cC (.str "call")) kEq) (sRet (cCall (cCons (c2 (cVar 0) (cC (.int 2)) ixA) cNil) fList)) sNext)
  (sRet (cLst cNil)))))
def F_law_parts : List D → S → R D := fnD 1 1 b_law_parts
/-! _law_subs -/
abbrev s_law_subs : Stmt := topS 30
abbrev N_law_subs : List Str := ["expr", "rows", "part"]
theorem sc_law_subs : FnScope N_law_subs ["expr"] (defScope s_law_subs) := ⟨rfl, rfl, rfl, by decide +kernel, rfl, by decide +kernel, by decide +kernel⟩
def b_law_subs (c_law_subs : List D → S → R D) : M Out :=
  (sSeq (sSet 1 (cLst (cCons (cVar 0) cNil)))
  (sSeq (sFor (cCall (cCons (cVar 0) cNil) F_law_parts) (setN 2) (sSet 1 (c2 (cVar 1) (cCall (cCons (cVar 2) cNil) c_law_subs) bAdd)))
  (sRet (cVar 1))))
def R_law_subs : Nat → List D → S → R D
  | 0 => fun _ _ => .bad
  | n + 1 => fnD 3 1 (b_law_subs (R_law_subs n))
def F_law_subs : List D → S → R D := R_law_subs 16
/-! _law_clip -/
abbrev s_law_clip : Stmt := topS 31
abbrev N_law_clip : List Str := ["number"]
theorem sc_law_clip : FnScope N_law_clip ["number"] (defScope s_law_clip) := ⟨rfl, rfl, rfl, by decide +kernel, rfl, by decide +kernel, by decide +kernel⟩
def b_law_clip : M Out :=
  (sRet (cCall (cCons (c2 (cC (.int 0)) (c2 (cC (.int 10)) (cC (.int 12)) bPow) bSub) (cCons (cCall (cCons (c2 (cC (.int 10)) (cC (.int 12)) bPow) (cCons (cVar 0) cNil)) fMin) cNil)) fMax))
def F_law_clip : List D → S → R D := fnD 1 1 b_law_clip
/-! _law_sign_value -/
abbrev s_law_sign_value : Stmt := topS 32
abbrev N_law_sign_value : List Str := ["sign", "left", "right"]
theorem sc_law_sign_value : FnScope N_law_sign_value ["sign", "left", "right"] (defScope s_law_sign_value) := ⟨rfl, rfl, rfl, by decide +kernel, rfl, by decide +kernel, by decide +kernel⟩
def b_law_sign_value : M Out :=
  (sSeq (cIf (c2 (cVar 0) (cC (.str "+")) kEq) (sRet (cCall (cCons (c2 (cVar 1) (cVar 2) bAdd) cNil) F_law_clip)) sNext)
  (sSeq (cIf (c2 (cVar 0) (cC (.str "-")) kEq) (sRet (cCall (cCons (c2 (cVar 1) (cVar 2) bSub) cNil) F_law_clip)) sNext)
  (sSeq (cIf (c2 (cVar 0) (cC (.str "*")) kEq) (sRet (cCall (cCons (c2 (cVar 1) (cVar 2) bMulA) cNil) F_law_clip)) sNext)
  (sSeq (cIf (cOr (c2 (cVar 0) (cC (.str "div")) kEq) (c2 (cVar 0) (cC (.str "mod")) kEq)) (sSeq (cIf (c2 (cVar 2) (cC (.int 0)) kEq) (sRet (cC (.int 0))) sNext)
  (sSeq (cIf (c2 (cVar 0) (cC (.str "div")) kEq) (sRet (c2 (cVar 1) (cVar 2) bDivA)) sNext)
  (sRet (c2 (cVar 1) (c2 (cVar 2) (c2 (cVar 1) (cVar 2) bDivA) bMulA) bSub)))) sNext)
  (sSeq (cIf (c2 (cVar 0) (cC (.str "<")) kEq) (sRet (cCall (cCons (c2 (cVar 1) (cVar 2) (vK kLt)) cNil) fInt)) sNext)
  (sSeq (cIf (c2 (cVar 0) (cC (.str "<=")) kEq) (sRet (cCall (cCons (c2 (cVar 1) (cVar 2) (vK kLe)) cNil) fInt)) sNext)
  (sSeq (cIf (c2 (cVar 0) (cC (.str ">")) kEq) (sRet (cCall (cCons (c2 (cVar 1) (cVar 2) (vK kGt)) cNil) fInt)) sNext)
  (sSeq (cIf (c2 (cVar 0) (cC (.str ">=")) kEq) (sRet (cCall (cCons (c2 (cVar 1) (cVar 2) (vK kGe)) cNil) fInt)) sNext)
  (sSeq (cIf (c2 (cVar 0) (cC (.str "=")) kEq) (sRet (cCall (cCons (c2 (cVar 1) (cVar 2) (vK kEq)) cNil) fInt)) sNext)
  (sRet (cCall (cCons (c2 (cVar 1) (cVar 2) (vK kNeA)) cNil) fInt)))))))))))
def F_law_sign_value : List D → S → R D := fnD 3 3 b_law_sign_value
/-! _law_value -/
abbrev s_law_value : Stmt := topS 33
abbrev N_law_value : List Str := ["expr", "heads", "stores", "parts", "free", "spot", "row", "part", "k"]
theorem sc_law_value : FnScope N_law_value ["expr", "heads", "stores"] (defScope s_law_value) := ⟨rfl, rfl, rfl, by decide +kernel, rfl, by decide +kernel, by decide +kernel⟩
def b_law_value (c_law_value : List D → S → R D) : M Out :=
  (sSeq (cIf (c2 (c2 (cVar 0) (cC (.int 0)) ixA) (cC (.str "number")) kEq) (sRet (c2 (cVar 0) (cC (.int 1)) ixA)) sNext)
  (sSeq (cIf (c2 (c2 (cVar 0) (cC (.int 0)) ixA) (cC (.str "name")) kEq) (sRet (c2 (cVar 1) (c2 (cVar 0) (cC (.int 1)) ixA) ixA)) sNext)
  (sSeq (cIf (c2 (c2 (cVar 0) (cC (.int 0)) ixA) (cC (.str "read")) kEq) (sSeq (sSet 5 (cCall (cCons (c2 (cVar 0) (cC (.int 2)) ixA) (cCons (cVar 1) (cCons (cVar 2) cNil))) c_law_value))
  (sSeq (sSet 6 (c2 (cVar 2) (c2 (cVar 0) (cC (.int 1)) ixA) ixA))
  (sSeq (cIf (cAnd (c2 (cC (.int 0)) (cVar 5) kLe) (c2 (cVar 5) (cCall (cCons (cVar 6) cNil) fLenA) kLt)) (sRet (c2 (cVar 6) (cVar 5) ixA)) sNext)
  (sRet (cC (.int 0)))))) sNext)
  (sSeq (cIf (c2 (c2 (cVar 0) (cC (.int 0)) ixA) (cC (.str "op")) kEq) (sRet (cCall (cCons (c2 (cVar 0) (cC (.int 1)) ixA) (cCons (cCall (cCons (c2 (cVar 0) (cC (.int 2)) ixA) (cCons (cVar 1) (cCons (cVar 2) cNil))) c_law_value) (cCons (cCall (cCons (c2 (cVar 0) (cC (.int 3)) ixA) (cCons (cVar 1) (cCons (cVar 2) cNil))) c_law_value) cNil))) F_law_sign_value)) sNext)
  (sSeq (sSet 3 (cComp (c2 (cVar 0) (cC (.int 2)) ixA) (setN 7) [7] cYes (cCall (cCons (cVar 7) (cCons (cVar 1) (cCons (cVar 2) cNil))) c_law_value)))
  (sSeq (cIf (c2 (c2 (cVar 0) (cC (.int 1)) ixA) (cC (.str "min")) kEq) (sRet (cCall (cCons (c2 (cVar 3) (cC (.int 0)) ixA) (cCons (c2 (cVar 3) (cC (.int 1)) ixA) cNil)) fMin)) sNext)
  (sSeq (cIf (c2 (c2 (cVar 0) (cC (.int 1)) ixA) (cC (.str "max")) kEq) (sRet (cCall (cCons (c2 (cVar 3) (cC (.int 0)) ixA) (cCons (c2 (cVar 3) (cC (.int 1)) ixA) cNil)) fMax)) sNext)
  (sSeq (cIf (c2 (c2 (cVar 0) (cC (.int 1)) ixA) (cC (.str "pick")) kEq) (sRet (c2 (cLst (cCons (c2 (cVar 3) (cC (.int 2)) ixA) (cCons (c2 (cVar 3) (cC (.int 1)) ixA) cNil))) (cCall (cCons (c2 (c2 (cVar 3) (cC (.int 0)) ixA) (cC (.int 0)) (vK kNeA)) cNil) fInt) ixA)) sNext)
  (sSeq (sSet 4 (cCompR1 (cCons (cCall (cCons (c2 (cVar 2) (cC (.str "place")) ixA) cNil) fLenA) cNil) (setN 8) [8] (c2 (c2 (c2 (cVar 2) (cC (.str "place")) ixA) (cVar 8) ixA) (cC (.int 0)) kEq) (cVar 8)))
  (sSeq (cIf (cAnd (c2 (cC (.int 0)) (c2 (cVar 3) (cC (.int 0)) ixA) kLe) (c2 (c2 (cVar 3) (cC (.int 0)) ixA) (cCall (cCons (cVar 4) cNil) fLenA) kLt)) (sRet (c2 (cVar 4) (c2 (cVar 3) (cC (.int 0)) ixA) ixA)) sNext)
  (sRet (c1 (cC (.int 1)) uNeg))))))))))))
def R_law_value : Nat → List D → S → R D
  | 0 => fun _ _ => .bad
  | n + 1 => fnD 9 3 (b_law_value (R_law_value n))
def F_law_value : List D → S → R D := R_law_value 16
/-! _law_handed -/
abbrev s_law_handed : Stmt := topS 34
abbrev N_law_handed : List Str := ["feed", "heads", "stores", "rows", "word"]
theorem sc_law_handed : FnScope N_law_handed ["feed", "heads", "stores"] (defScope s_law_handed) := ⟨rfl, rfl, rfl, by decide +kernel, rfl, by decide +kernel, by decide +kernel⟩
def b_law_handed : M Out :=
  (sSeq (sSet 3 cDic0)
  (sSeq (sForA 2 (setN 4) (sSeq (sSubA (cVar 3) (cVar 4) (cCall (cCons (c2 (cVar 2) (cVar 4) ixA) cNil) fList))
  (cIf (c2 (cCall (cCons (cVar 0) (cCons (cC (.int 2)) cNil)) F_law_take) (cC (.int 0)) kEq) (sSubA (cVar 3) (cVar 4) (cCall (cCons (c2 (cVar 2) (cVar 4) ixA) cNil) fTuple)) sNext)))
  (sRet (cLst (cCons (cCall (cCons (cVar 1) cNil) fDict) (cCons (cVar 3) cNil))))))
def F_law_handed : List D → S → R D := fnD 5 3 b_law_handed
/-! _law_stayed -/
abbrev s_law_stayed : Stmt := topS 35
abbrev N_law_stayed : List Str := ["given", "heads", "stores", "word"]
theorem sc_law_stayed : FnScope N_law_stayed ["given", "heads", "stores"] (defScope s_law_stayed) := ⟨rfl, rfl, rfl, by decide +kernel, rfl, by decide +kernel, by decide +kernel⟩
def b_law_stayed : M Out :=
  (sSeq (cIf (cOr (c2 (c2 (cVar 0) (cC (.int 0)) ixA) (cVar 1) kNeA) (c2 (cCall (cCons (c2 (cVar 0) (cC (.int 1)) ixA) cNil) fLenA) (cCall (cCons (cVar 2) cNil) fLenA) kNeA)) (sRet (cC (.bl false))) sNext)
  (sSeq (sForA 2 (setN 3) (cIf (cOr (c2 (cVar 3) (c2 (cVar 0) (cC (.int 1)) ixA) kNotInA) (c2 (cCall (cCons (c2 (c2 (cVar 0) (cC (.int 1)) ixA) (cVar 3) ixA) cNil) fList) (c2 (cVar 2) (cVar 3) ixA) kNeA)) (sRet (cC (.bl false))) sNext))
  (sRet (cC (.bl true)))))
def F_law_stayed : List D → S → R D := fnD 4 3 b_law_stayed
/-! _law_valued -/
abbrev s_law_valued : Stmt := topS 36
abbrev N_law_valued : List Str := ["expr", "given", "heads", "stores", "actual"]
theorem sc_law_valued : FnScope N_law_valued ["expr", "given", "heads", "stores"] (defScope s_law_valued) := ⟨rfl, rfl, rfl, by decide +kernel, rfl, by decide +kernel, by decide +kernel⟩
def b_law_valued : M Out :=
  (sSeq (sSet 4 (cCall (cCons (cVar 0) (cCons (c2 (cVar 1) (cC (.int 0)) ixA) (cCons (c2 (cVar 1) (cC (.int 1)) ixA) cNil))) F_value_of))
  (sRet (vAnd (cCall (cCons (cVar 4) cNil) F_law_whole) (c2 (cVar 4) (cCall (cCons (cVar 0) (cCons (cVar 2) (cCons (cVar 3) cNil))) F_law_value) (vK kEq)))))
def F_law_valued : List D → S → R D := fnD 5 4 b_law_valued
/-! _law_named -/
abbrev s_law_named : Stmt := topS 37
abbrev N_law_named : List Str := ["expr", "given", "heads", "stores", "actual"]
theorem sc_law_named : FnScope N_law_named ["expr", "given", "heads", "stores"] (defScope s_law_named) := ⟨rfl, rfl, rfl, by decide +kernel, rfl, by decide +kernel, by decide +kernel⟩
def b_law_named : M Out :=
  (sSeq (sSet 4 (cCallK cNil (cCons (c2 (cVar 1) (cC (.int 1)) ixA) (cCons (c2 (cVar 1) (cC (.int 0)) ixA) (cCons (cVar 0) cNil))) (selK 0 3 [.inr 2, .inr 1, .inr 0]) F_value_of))
  (sRet (vAnd (cCall (cCons (cVar 4) cNil) F_law_whole) (c2 (cVar 4) (cCall (cCons (cVar 0) (cCons (cVar 2) (cCons (cVar 3) cNil))) F_law_value) (vK kEq)))))
def F_law_named : List D → S → R D := fnD 5 4 b_law_named
/-! _law_row -/
abbrev s_law_row : Stmt := topS 38
abbrev N_law_row : List Str := ["feed", "kind", "size", "style", "row", "k", "number"]
theorem sc_law_row : FnScope N_law_row ["feed"] (defScope s_law_row) := ⟨rfl, rfl, rfl, by decide +kernel, rfl, by decide +kernel, by decide +kernel⟩
def b_law_row : M Out :=
  (sSeq (sSet 1 (cCall (cCons (cVar 0) (cCons (cC (.int 9)) cNil)) F_law_take))
  (sSeq (sSet 2 (c2 (cC (.int 2)) (cCall (cCons (cVar 0) (cCons (cC (.int 8)) cNil)) F_law_take) bAdd))
  (sSeq (cIf (c2 (cVar 1) (cC (.int 3)) kLt) (sSet 2 (c2 (cLst (cCons (cC (.int 0)) (cCons (cC (.int 1)) (cCons (c2 (cC (.int 10)) (cCall (cCons (cVar 0) (cCons (cC (.int 55)) cNil)) F_law_take) bAdd) cNil)))) (cVar 1) ixA)) sNext)
  (sSeq (sSet 3 (cCall (cCons (cVar 0) (cCons (cC (.int 6)) cNil)) F_law_take))
  (sSeq (sSet 4 (cLst cNil))
  (sSeq (sForR1 (cCons (cVar 2) cNil) (setN 5) (sSeq (sSet 6 (cCall (cCons (cVar 0) cNil) F_law_datum))
  (sSeq (cIf (c2 (cVar 6) (cC (.int 0)) kEq) (sSet 6 (cC (.int 1))) sNext)
  (sSeq (cIf (cOr (c2 (cVar 3) (cC (.int 0)) kEq) (cAnd (c2 (cVar 3) (cC (.int 1)) kGt) (c2 (cCall (cCons (cVar 0) (cCons (cC (.int 2)) cNil)) F_law_take) (cC (.int 0)) kEq))) (sSet 6 (cC (.int 0))) sNext)
  (sDrop (cMeth (cVar 4) (cCons (cVar 6) cNil) mAppend))))))
  (sRet (cVar 4))))))))
def F_law_row : List D → S → R D := fnD 7 1 b_law_row
/-! _law_memory -/
abbrev s_law_memory : Stmt := topS 39
abbrev N_law_memory : List Str := ["cell", "words", "shelves", "feed", "heads", "word", "stores"]
theorem sc_law_memory : FnScope N_law_memory ["cell", "words", "shelves"] (defScope s_law_memory) := ⟨rfl, rfl, rfl, by decide +kernel, rfl, by decide +kernel, by decide +kernel⟩
def b_law_memory : M Out :=
  (sSeq (sSet 3 (cCall (cCons (cVar 0) cNil) F_law_feed))
  (sSeq (sSet 4 cDic0)
  (sSeq (sForA 1 (setN 5) (sSubA (cVar 4) (cVar 5) (cCall (cCons (cVar 3) cNil) F_law_datum)))
  (sSeq (sSet 6 cDic0)
  (sSeq (sForA 2 (setN 5) (sSubA (cVar 6) (cVar 5) (cCall (cCons (cVar 3) cNil) F_law_row)))
  (sRet (cLst (cCons (cVar 4) (cCons (cVar 6) cNil)))))))))
def F_law_memory : List D → S → R D := fnD 7 3 b_law_memory
/-! _law_spots -/
abbrev s_law_spots : Stmt := topS 40
abbrev N_law_spots : List Str := ["feed", "size", "spots"]
theorem sc_law_spots : FnScope N_law_spots ["feed", "size"] (defScope s_law_spots) := ⟨rfl, rfl, rfl, by decide +kernel, rfl, by decide +kernel, by decide +kernel⟩
def b_law_spots : M Out :=
  (sSeq (sSet 2 (cLst (cCons (c1 (cC (.int 1)) uNeg) (cCons (cC (.int 0)) (cCons (c2 (cVar 1) (cC (.int 1)) bSub) (cCons (cVar 1) (cCons (c2 (cVar 1) (cC (.int 1)) bAdd) (cCons (c2 (cC (.int 0)) (cVar 1) bSub) (cCons (c2 (cC (.int 10)) (cC (.int 12)) bPow) (cCons (c2 (cC (.int 0)) (c2 (cC (.int 10)) (cC (.int 12)) bPow) bSub) cNil))))))))))
  (sRet (c2 (cVar 2) (cLst (cCons (cCall (cCons (cVar 0) (cCons (c2 (cVar 1) (cC (.int 1)) bAdd) cNil)) F_law_take) (cCons (cCall (cCons (cVar 0) (cCons (c2 (cVar 1) (cC (.int 1)) bAdd) cNil)) F_law_take) (cCons (cCall (cCons (cVar 0) cNil) F_law_datum) cNil)))) bAdd)))
def F_law_spots : List D → S → R D := fnD 3 2 b_law_spots
/-! _law_spotted -/
abbrev s_law_spotted : Stmt := topS 41
abbrev N_law_spotted : List Str := ["feed", "given", "stores", "head", "word", "size", "spot", "heads", "inner", "part", "expr"]
theorem sc_law_spotted : FnScope N_law_spotted ["feed", "given", "stores", "head", "word", "size"] (defScope s_law_spotted) := ⟨rfl, rfl, rfl, by decide +kernel, rfl, by decide +kernel, by decide +kernel⟩
def b_law_spotted : M Out :=
  (sSeq (sFor (cCall (cCons (cVar 0) (cCons (cVar 5) cNil)) F_law_spots) (setN 6) (sSeq (sSet 7 cDic0)
  (sSeq (sSubA (cVar 7) (cVar 4) (cVar 6))
  (sSeq (sSet 8 (cLst (cCons (cTup (cCons (cC (.str "name")) (cCons (cVar 4) cNil))) cNil)))
  (sSeq (cIf (c2 (cVar 6) (cC (.int 0)) kGe) (sDrop (cMeth (cVar 8) (cCons (cTup (cCons (cC (.str "number")) (cCons (cVar 6) cNil))) cNil) mAppend)) sNext)
  (sForA 8 (setN 9) (sSeq (sSet 10 (cTup (cCons (cC (.str "read")) (cCons (cVar 3) (cCons (cVar 9) cNil)))))
  (sSeq (cIf (c2 (cVar 3) (cC (.str "nth")) kEq) (sSet 10 (cTup (cCons (cC (.str "call")) (cCons (cC (.str "nth")) (cCons (cTup (cCons (cVar 9) cNil)) cNil))))) sNext)
  (cIf (cNot (c1 (cCall (cCons (cVar 10) (cCons (cLst (cCons (cCall (cCons (cVar 7) cNil) fDict) (cCons (c2 (cVar 1) (cC (.int 1)) ixA) cNil))) (cCons (cVar 7) (cCons (cVar 2) cNil)))) F_law_valued) truD)) (sRet (cC (.bl false))) sNext)))))))))
  (sRet (cC (.bl true))))
def F_law_spotted : List D → S → R D := fnD 11 6 b_law_spotted
/-! _law_picked -/
abbrev s_law_picked : Stmt := topS 42
abbrev N_law_picked : List Str := ["feed", "base", "words", "parts", "x", "y", "turn", "heads", "call", "check"]
theorem sc_law_picked : FnScope N_law_picked ["feed", "base"] (defScope s_law_picked) := ⟨rfl, rfl, rfl, by decide +kernel, rfl, by decide +kernel, by decide +kernel⟩
def b_law_picked : M Out :=
  (sSeq (sSet 2 (cLst (cCons (c2 (cSlice (cVar 1) cNoPart (cPart (cC (.int 10)))) (cC (.str "0")) bAdd) (cCons (c2 (cSlice (cVar 1) cNoPart (cPart (cC (.int 10)))) (cC (.str "1")) bAdd) (cCons (c2 (cSlice (cVar 1) cNoPart (cPart (cC (.int 10)))) (cC (.str "2")) bAdd) cNil)))))
  (sSeq (sSet 3 (cTup (cCons (cTup (cCons (cC (.str "name")) (cCons (c2 (cVar 2) (cC (.int 0)) ixA) cNil))) (cCons (cTup (cCons (cC (.str "name")) (cCons (c2 (cVar 2) (cC (.int 1)) ixA) cNil))) (cCons (cTup (cCons (cC (.str "name")) (cCons (c2 (cVar 2) (cC (.int 2)) ixA) cNil))) cNil)))))
  (sSeq (sSet 4 (cCall (cCons (cVar 0) cNil) F_law_datum))
  (sSeq (sSet 5 (cCall (cCons (cVar 0) cNil) F_law_datum))
  (sSeq (cIf (c2 (cCall (cCons (cVar 0) (cCons (cC (.int 4)) cNil)) F_law_take) (cC (.int 0)) kEq) (sSet 5 (cCall (cCons (c2 (c2 (cVar 4) (cC (.int 1)) bAdd) (c2 (cC (.int 2)) (cCall (cCons (cVar 0) (cCons (cC (.int 2)) cNil)) F_law_take) bMulA) bSub) cNil) F_law_clip)) sNext)
  (sSeq (sForR1 (cCons (cC (.int 3)) cNil) (setN 6) (sSeq (sSet 7 cDic0)
  (sSeq (sSubA (cVar 7) (c2 (cVar 2) (cC (.int 1)) ixA) (c2 (cLst (cCons (cVar 4) (cCons (cVar 5) (cCons (cVar 4) cNil)))) (cVar 6) ixA))
  (sSeq (sSubA (cVar 7) (c2 (cVar 2) (cC (.int 2)) ixA) (c2 (cLst (cCons (cVar 5) (cCons (cVar 4) (cCons (cVar 4) cNil)))) (cVar 6) ixA))
  (sSeq (sFor (cLst (cCons (cC (.str "min")) (cCons (cC (.str "max")) cNil))) (setN 8) (cIf (cNot (c1 (cCall (cCons (cTup (cCons (cC (.str "call")) (cCons (cVar 8) (cCons (cTup (cCons (c2 (cVar 3) (cC (.int 1)) ixA) (cCons (c2 (cVar 3) (cC (.int 2)) ixA) cNil))) cNil)))) (cCons (cLst (cCons (cCall (cCons (cVar 7) cNil) fDict) (cCons cDic0 cNil))) (cCons (cVar 7) (cCons cDic0 cNil)))) F_law_valued) truD)) (sRet (cC (.bl false))) sNext))
  (sFor (cLst (cCons (cC (.int 0)) (cCons (cC (.int 1)) (cCons (c1 (cC (.int 1)) uNeg) (cCons (cCall (cCons (cVar 0) cNil) F_law_datum) (cCons (c2 (cC (.int 10)) (cC (.int 12)) bPow) (cCons (c2 (cC (.int 0)) (c2 (cC (.int 10)) (cC (.int 12)) bPow) bSub) cNil))))))) (setN 9) (sSeq (sSubA (cVar 7) (c2 (cVar 2) (cC (.int 0)) ixA) (cVar 9))
  (cIf (cNot (c1 (cCall (cCons (cTup (cCons (cC (.str "call")) (cCons (cC (.str "pick")) (cCons (cVar 3) cNil)))) (cCons (cLst (cCons (cCall (cCons (cVar 7) cNil) fDict) (cCons cDic0 cNil))) (cCons (cVar 7) (cCons cDic0 cNil)))) F_law_valued) truD)) (sRet (cC (.bl false))) sNext))))))))
  (sRet (cC (.bl true)))))))))
def F_law_picked : List D → S → R D := fnD 10 2 b_law_picked
/-! _law_same -/
abbrev s_law_same : Stmt := topS 43
abbrev N_law_same : List Str := ["given", "due", "k", "j"]
theorem sc_law_same : FnScope N_law_same ["given", "due"] (defScope s_law_same) := ⟨rfl, rfl, rfl, by decide +kernel, rfl, by decide +kernel, by decide +kernel⟩
def b_law_same : M Out :=
  (sSeq (cIf (cOr (cNot (c1 (cIs .tup (cVar 0)) truD)) (c2 (cCall (cCons (cVar 0) cNil) fLenA) (cC (.int 3)) kNeA)) (sRet (cC (.bl false))) sNext)
  (sSeq (sForR1 (cCons (cC (.int 3)) cNil) (setN 2) (sSeq (cIf (cOr (cNot (c1 (cIs .tup (c2 (cVar 0) (cVar 2) ixA)) truD)) (c2 (cCall (cCons (c2 (cVar 0) (cVar 2) ixA) cNil) fLenA) (cCall (cCons (c2 (cVar 1) (cVar 2) ixA) cNil) fLenA) kNeA)) (sRet (cC (.bl false))) sNext)
  (sForR1 (cCons (cCall (cCons (c2 (cVar 1) (cVar 2) ixA) cNil) fLenA) cNil) (setN 3) (cIf (cOr (cNot (c1 (cIs .str (c2 (c2 (cVar 0) (cVar 2) ixA) (cVar 3) ixA)) truD)) (c2 (c2 (c2 (cVar 0) (cVar 2) ixA) (cVar 3) ixA) (c2 (c2 (cVar 1) (cVar 2) ixA) (cVar 3) ixA) kNeA)) (sRet (cC (.bl false))) sNext))))
  (sRet (cC (.bl true)))))
def F_law_same : List D → S → R D := fnD 4 2 b_law_same
/-! _law_words -/
abbrev s_law_words : Stmt := topS 44
abbrev N_law_words : List Str := ["rows", "sort", "words", "part"]
theorem sc_law_words : FnScope N_law_words ["rows", "sort"] (defScope s_law_words) := ⟨rfl, rfl, rfl, by decide +kernel, rfl, by decide +kernel, by decide +kernel⟩
def b_law_words : M Out :=
  (sSeq (sSet 2 (cLst cNil))
  (sSeq (sForA 0 (setN 3) (cIf (cAnd (c2 (c2 (cVar 3) (cC (.int 0)) ixA) (cVar 1) kEq) (c2 (c2 (cVar 3) (cC (.int 1)) ixA) (cVar 2) kNotInA)) (sDrop (cMeth (cVar 2) (cCons (c2 (cVar 3) (cC (.int 1)) ixA) cNil) mAppend)) sNext))
  (sRet (cCall (cCons (cVar 2) cNil) fSortS))))
def F_law_words : List D → S → R D := fnD 4 2 b_law_words
/-! _law_triple -/
abbrev s_law_triple : Stmt := topS 45
abbrev N_law_triple : List Str := ["expr", "rows"]
theorem sc_law_triple : FnScope N_law_triple ["expr"] (defScope s_law_triple) := ⟨rfl, rfl, rfl, by decide +kernel, rfl, by decide +kernel, by decide +kernel⟩
def b_law_triple : M Out :=
  (sSeq (sSet 1 (cCall (cCons (cVar 0) cNil) F_law_subs))
  (sRet (cLst (cCons (cCall (cCons (cVar 1) (cCons (cC (.str "name")) cNil)) F_law_words) (cCons (cCall (cCons (cVar 1) (cCons (cC (.str "read")) cNil)) F_law_words) (cCons (cCall (cCons (cVar 1) (cCons (cC (.str "call")) cNil)) F_law_words) cNil))))))
def F_law_triple : List D → S → R D := fnD 2 1 b_law_triple
/-! _law_wide -/
abbrev s_law_wide : Stmt := topS 46
abbrev N_law_wide : List Str := ["feed", "heads", "stores", "rows", "word", "k", "joined", "j", "pair", "sort"]
theorem sc_law_wide : FnScope N_law_wide ["feed", "heads", "stores"] (defScope s_law_wide) := ⟨rfl, rfl, rfl, by decide +kernel, rfl, by decide +kernel, by decide +kernel⟩
def b_law_wide : M Out :=
  (sSeq (sSet 3 (cComp (cVar 1) (setN 4) [4] cYes (cTup (cCons (cC (.str "name")) (cCons (cVar 4) cNil)))))
  (sSeq (sForA 2 (setN 4) (sDrop (cMeth (cVar 3) (cCons (cTup (cCons (cC (.str "read")) (cCons (cVar 4) (cCons (cTup (cCons (cC (.str "number")) (cCons (cCall (cCons (cVar 0) (cCons (cC (.int 70)) cNil)) F_law_take) cNil))) cNil)))) cNil) mAppend)))
  (sSeq (sForR1 (cCons (cC (.int 6)) cNil) (setN 5) (sSeq (sSet 6 (cLst cNil))
  (sSeq (sForR1 (cCons (c2 (c2 (cCall (cCons (cVar 3) cNil) fLenA) (cC (.int 1)) bAdd) (cC (.int 2)) bDivA) cNil) (setN 7) (sSeq (sSet 8 (cSlice (cVar 3) (cPart (c2 (cC (.int 2)) (cVar 7) bMulA)) (cPart (c2 (c2 (cC (.int 2)) (cVar 7) bMulA) (cC (.int 2)) bAdd))))
  (sSeq (sSet 9 (cCall (cCons (cVar 0) (cCons (cC (.int 8)) cNil)) F_law_take))
  (cIf (c2 (cCall (cCons (cVar 8) cNil) fLenA) (cC (.int 1)) kEq) (sDrop (cMeth (cVar 6) (cCons (c2 (cVar 8) (cC (.int 0)) ixA) cNil) mAppend)) (cIf (c2 (cVar 9) (cC (.int 6)) kLt) (sDrop (cMeth (cVar 6) (cCons (cTup (cCons (cC (.str "op")) (cCons (c2 (cLst (cCons (cC (.str "+")) (cCons (cC (.str "-")) (cCons (cC (.str "*")) (cCons (cC (.str "div")) (cCons (cC (.str "<")) (cCons (cC (.str "=")) cNil))))))) (cVar 9) ixA) (cCons (c2 (cVar 8) (cC (.int 0)) ixA) (cCons (c2 (cVar 8) (cC (.int 1)) ixA) cNil))))) cNil) mAppend)) (sDrop (cMeth (cVar 6) (cCons (cTup (cCons (cC (.str "call")) (cCons (c2 (cLst (cCons (cC (.str "min")) (cCons (cC (.str "max")) cNil))) (c2 (cVar 9) (cC (.int 6)) bSub) ixA) (cCons (cTup (cCons (c2 (cVar 8) (cC (.int 0)) ixA) (cCons (c2 (cVar 8) (cC (.int 1)) ixA) cNil))) cNil)))) cNil) mAppend)))))))
  (sSet 3 (cVar 6)))))
  (sRet (c2 (cVar 3) (cC (.int 0)) ixA)))))
def F_law_wide : List D → S → R D := fnD 10 3 b_law_wide
/-! _law_values_right -/
abbrev s_law_values_right : Stmt := topS 47
abbrev N_law_values_right : List Str := ["script", "feed", "words", "shelves", "here", "there", "draw", "given", "other", "shelf", "free", "size", "menu", "expr", "part", "number"]
theorem sc_law_values_right : FnScope N_law_values_right ["script"] (defScope s_law_values_right) := ⟨rfl, rfl, rfl, by decide +kernel, rfl, by decide +kernel, by decide +kernel⟩
def b_law_values_right : M Out :=
  (sSeq (sSet 1 (cCall (cCons (cCall (cCons (cVar 0) (cCons (cC (.int 0)) cNil)) F_law_cell) cNil) F_law_feed))
  (sSeq (sSet 2 (cCall (cCons (cVar 1) (cCons (c2 (cC (.int 1)) (cCall (cCons (cVar 1) (cCons (cC (.int 5)) cNil)) F_law_take) bAdd) cNil)) F_law_word_row))
  (sSeq (sSet 3 (c2 (cLst (cCons (cC (.str "place")) cNil)) (cCall (cCons (cVar 1) (cCons (c2 (cC (.int 1)) (cCall (cCons (cVar 1) (cCons (cC (.int 3)) cNil)) F_law_take) bAdd) cNil)) F_law_word_row) bAdd))
  (sSeq (cIf (c2 (cCall (cCons (cVar 1) (cCons (cC (.int 3)) cNil)) F_law_take) (cC (.int 0)) kEq) (sDrop (cMeth (cVar 3) (cCons (c2 (cVar 2) (cC (.int 0)) ixA) cNil) mAppend)) sNext)
  (sSeq (sSet 4 (cCall (cCons (cCall (cCons (cVar 0) (cCons (cC (.int 1)) cNil)) F_law_cell) (cCons (cVar 2) (cCons (cVar 3) cNil))) F_law_memory))
  (sSeq (sSet 5 (cCall (cCons (cCall (cCons (cVar 0) (cCons (cC (.int 2)) cNil)) F_law_cell) (cCons (cVar 2) (cCons (cVar 3) cNil))) F_law_memory))
  (sSeq (sSet 6 (cCall (cCons (cCall (cCons (cVar 0) (cCons (cC (.int 3)) cNil)) F_law_cell) cNil) F_law_feed))
  (sSeq (sSet 7 (cCall (cCons (cVar 6) (cCons (c2 (cVar 4) (cC (.int 0)) ixA) (cCons (c2 (cVar 4) (cC (.int 1)) ixA) cNil))) F_law_handed))
  (sSeq (sSet 8 (cCall (cCons (cVar 6) (cCons (c2 (cVar 5) (cC (.int 0)) ixA) (cCons (c2 (cVar 5) (cC (.int 1)) ixA) cNil))) F_law_handed))
  (sSeq (sForA 3 (setN 9) (cIf (cNot (c1 (cCall (cCons (cVar 6) (cCons (cVar 7) (cCons (c2 (cVar 4) (cC (.int 1)) ixA) (cCons (cVar 9) (cCons (c2 (cVar 2) (cC (.int 0)) ixA) (cCons (cCall (cCons (c2 (c2 (cVar 4) (cC (.int 1)) ixA) (cVar 9) ixA) cNil) fLenA) cNil)))))) F_law_spotted) truD)) (sRet (cC (.bl false))) sNext))
  (sSeq (sSet 10 (cCall (cCons (cComp (c2 (c2 (cVar 4) (cC (.int 1)) ixA) (cC (.str "place")) ixA) (setN 15) [15] (c2 (cVar 15) (cC (.int 0)) kEq) (cVar 15)) cNil) fLenA))
  (sSeq (sFor (cLst (cCons (cVar 10) (cCons (cCall (cCons (c2 (c2 (cVar 4) (cC (.int 1)) ixA) (cC (.str "place")) ixA) cNil) fLenA) cNil))) (setN 11) (cIf (cNot (c1 (cCall (cCons (cVar 6) (cCons (cVar 7) (cCons (c2 (cVar 4) (cC (.int 1)) ixA) (cCons (cC (.str "nth")) (cCons (c2 (cVar 2) (cC (.int 0)) ixA) (cCons (cVar 11) cNil)))))) F_law_spotted) truD)) (sRet (cC (.bl false))) sNext))
  (sSeq (cIf (cNot (c1 (cCall (cCons (cVar 6) (cCons (c2 (cVar 2) (cC (.int 0)) ixA) cNil)) F_law_picked) truD)) (sRet (cC (.bl false))) sNext)
  (sSeq (sSet 12 (cLst (cCons (cC (.str "leaf")) (cCons (cC (.str "leaf")) (cCons (cC (.str "read")) (cCons (cC (.str "read")) (cCons (cC (.str "read")) (cCons (cC (.str "op")) (cCons (cC (.str "op")) (cCons (cC (.str "call")) (cCons (cC (.str "call")) (cCons (cC (.str "call")) cNil))))))))))))
  (sSeq (sSet 13 (cCall (cCons (cCall (cCons (cVar 0) (cCons (cC (.int 4)) cNil)) F_law_cell) (cCons (cVar 2) (cCons (cVar 3) (cCons (cVar 12) cNil)))) F_law_drawn))
  (sSeq (sFor (cCall (cCons (cVar 13) cNil) F_law_subs) (setN 14) (cIf (cNot (c1 (cCall (cCons (cVar 14) (cCons (cVar 7) (cCons (c2 (cVar 4) (cC (.int 0)) ixA) (cCons (c2 (cVar 4) (cC (.int 1)) ixA) cNil)))) F_law_valued) truD)) (sRet (cC (.bl false))) sNext))
  (sSeq (cIf (cOr (cNot (c1 (cCall (cCons (cVar 13) (cCons (cVar 8) (cCons (c2 (cVar 5) (cC (.int 0)) ixA) (cCons (c2 (cVar 5) (cC (.int 1)) ixA) cNil)))) F_law_valued) truD)) (cNot (c1 (cCall (cCons (cVar 13) (cCons (cVar 8) (cCons (c2 (cVar 5) (cC (.int 0)) ixA) (cCons (c2 (cVar 5) (cC (.int 1)) ixA) cNil)))) F_law_named) truD))) (sRet (cC (.bl false))) sNext)
  (sSeq (cIf (cNot (c1 (cCall (cCons (cVar 13) (cCons (cVar 7) (cCons (c2 (cVar 4) (cC (.int 0)) ixA) (cCons (c2 (cVar 4) (cC (.int 1)) ixA) cNil)))) F_law_valued) truD)) (sRet (cC (.bl false))) sNext)
  (sRet (vAnd (cCall (cCons (cVar 7) (cCons (c2 (cVar 4) (cC (.int 0)) ixA) (cCons (c2 (cVar 4) (cC (.int 1)) ixA) cNil))) F_law_stayed) (cCall (cCons (cVar 8) (cCons (c2 (cVar 5) (cC (.int 0)) ixA) (cCons (c2 (cVar 5) (cC (.int 1)) ixA) cNil))) F_law_stayed)))))))))))))))))))))
def F_law_values_right : List D → S → R D := fnD 16 1 b_law_values_right
/-! _law_words_right -/
abbrev s_law_words_right : Stmt := topS 48
abbrev N_law_words_right : List Str := ["script", "feed", "heads", "stores", "menu", "expr", "other", "wide", "part"]
theorem sc_law_words_right : FnScope N_law_words_right ["script"] (defScope s_law_words_right) := ⟨rfl, rfl, rfl, by decide +kernel, rfl, by decide +kernel, by decide +kernel⟩
def b_law_words_right : M Out :=
  (sSeq (sSet 1 (cCall (cCons (cCall (cCons (cVar 0) (cCons (cC (.int 5)) cNil)) F_law_cell) cNil) F_law_feed))
  (sSeq (sSet 2 (cCall (cCons (cVar 1) (cCons (c2 (cC (.int 1)) (cCall (cCons (cVar 1) (cCons (c2 (cLst (cCons (cC (.int 8)) (cCons (cC (.int 30)) cNil))) (cCall (cCons (cVar 1) (cCons (cC (.int 2)) cNil)) F_law_take) ixA) cNil)) F_law_take) bAdd) cNil)) F_law_word_row))
  (sSeq (sSet 3 (cCall (cCons (cVar 1) (cCons (c2 (cC (.int 1)) (cCall (cCons (cVar 1) (cCons (c2 (cLst (cCons (cC (.int 6)) (cCons (cC (.int 12)) cNil))) (cCall (cCons (cVar 1) (cCons (cC (.int 2)) cNil)) F_law_take) ixA) cNil)) F_law_take) bAdd) cNil)) F_law_word_row))
  (sSeq (cIf (c2 (cCall (cCons (cVar 1) (cCons (cC (.int 3)) cNil)) F_law_take) (cC (.int 0)) kEq) (sDrop (cMeth (cVar 3) (cCons (c2 (cVar 2) (cC (.int 0)) ixA) cNil) mAppend)) sNext)
  (sSeq (sSet 4 (cLst (cCons (cC (.str "leaf")) (cCons (cC (.str "read")) (cCons (cC (.str "read")) (cCons (cC (.str "op")) (cCons (cC (.str "op")) (cCons (cC (.str "op")) (cCons (cC (.str "call")) cNil)))))))))
  (sSeq (sSet 5 (cCall (cCons (cCall (cCons (cVar 0) (cCons (cC (.int 6)) cNil)) F_law_cell) (cCons (cVar 2) (cCons (cVar 3) (cCons (cVar 4) cNil)))) F_law_drawn))
  (sSeq (sSet 6 (cCall (cCons (cCall (cCons (cVar 0) (cCons (cC (.int 7)) cNil)) F_law_cell) (cCons (cVar 2) (cCons (cVar 3) (cCons (cVar 4) cNil)))) F_law_drawn))
  (sSeq (sSet 7 (cCall (cCons (cCall (cCons (cCall (cCons (cVar 0) (cCons (cC (.int 8)) cNil)) F_law_cell) cNil) F_law_feed) (cCons (cVar 2) (cCons (cVar 3) cNil))) F_law_wide))
  (sSeq (sFor (cCall (cCons (cVar 5) cNil) F_law_subs) (setN 8) (cIf (cNot (c1 (cCall (cCons (cCall (cCons (cVar 8) cNil) F_words_of) (cCons (cCall (cCons (cVar 8) cNil) F_law_triple) cNil)) F_law_same) truD)) (sRet (cC (.bl false))) sNext))
  (sSeq (cIf (cOr (cNot (c1 (cCall (cCons (cCall (cCons (cVar 6) cNil) F_words_of) (cCons (cCall (cCons (cVar 6) cNil) F_law_triple) cNil)) F_law_same) truD)) (cNot (c1 (cCall (cCons (cCall (cCons (cVar 7) cNil) F_words_of) (cCons (cCall (cCons (cVar 7) cNil) F_law_triple) cNil)) F_law_same) truD))) (sRet (cC (.bl false))) sNext)
  (sRet (cCall (cCons (cCallK cNil (cCons (cVar 5) cNil) (selK 0 1 [.inr 0]) F_words_of) (cCons (cCall (cCons (cVar 5) cNil) F_law_triple) cNil)) F_law_same))))))))))))
def F_law_words_right : List D → S → R D := fnD 9 1 b_law_words_right
/-! law -/
abbrev s_law : Stmt := topS 49
abbrev N_law : List Str := ["script"]
theorem sc_law : FnScope N_law ["script"] (defScope s_law) := ⟨rfl, rfl, rfl, by decide +kernel, rfl, by decide +kernel, by decide +kernel⟩
def b_law : M Out :=
  (sRet (vAnd (cCall (cCons (cVar 0) cNil) F_law_values_right) (cCall (cCons (cVar 0) cNil) F_law_words_right)))
def F_law : List D → S → R D := fnD 1 1 b_law
end K01
end
section
set_option Elab.async false
set_option linter.all false
set_option maxRecDepth 100000
set_option maxHeartbeats 400000
open PySem PySem.Spec PyProof.Rows L2 Z
local macro_rules | `(tactic| fail "zs") => `(tactic| first
  | assumption
  | with_reducible exact at_last
  | (with_reducible apply at_set; fail "zs")
  | (with_reducible apply at_app; fail "zs")
  | (with_reducible apply at_setne; (first | assumption | (apply Ne.symm; assumption) | omega); fail "zs")
  | (with_reducible refine Gr.keep (by assumption) ?_; fail "zs")
  | (with_reducible refine Gx.keep (by assumption) ?_ ?_; (first | assumption | (apply Ne.symm; assumption) | omega); fail "zs"))
local macro_rules | `(tactic| fail "zg") => `(tactic| first
  | assumption
  | (with_reducible apply getL_of; fail "zs")
  | (with_reducible apply getW_of; fail "zs")
  | (with_reducible apply getI_of; fail "zs"))
local macro_rules | `(tactic| fail "za") => `(tactic| first | (with_reducible apply atI_int; (first | assumption | omega); (first | assumption | omega | (simp only [List.length_set]; omega))) | with_unfolding_all exact rfl | assumption)
local macro_rules | `(tactic| fail "y0") => `(tactic| first
  | (with_reducible refine' wp_var ?z1 ?z2; (case z1 => with_unfolding_all exact rfl))
  | with_reducible refine wp_c2 ?_
  | with_reducible refine wp_cons ?_
  | with_reducible refine wp_c ?_
  | with_reducible refine wp_nil ?_
  | with_reducible refine wp_call ?_
  | with_reducible refine wp_c1 ?_)
local macro_rules | `(tactic| fail "y1") => `(tactic| first
  | with_reducible refine wp_set ?_
  | with_reducible refine wp_if ?_
  | with_reducible refine wp_next ?_
  | with_reducible refine wp_ret ?_
  | with_reducible refine af_nx ?_
  | with_reducible refine bk_rt ?_
  | (with_reducible refine' wp_ixL ?z1 ?z2 ?z3; (case z1 => fail "zg"); (case z2 => fail "za"))
  | (with_reducible refine' wp_ixT ?z1 ?z2; (case z1 => fail "za")))
local macro_rules | `(tactic| fail "y2") => `(tactic| first
  | with_reducible refine af_rt ?_
  | with_reducible refine af_bk ?_
  | with_reducible refine bk_nx ?_
  | with_reducible refine turned_nx ?_
  | with_reducible refine turned_bk ?_
  | with_reducible refine turned_rt ?_
  | with_reducible refine wp_and ?_
  | with_reducible refine wp_or ?_)
local macro_rules | `(tactic| fail "y3") => `(tactic| first
  | with_reducible refine wp_not ?_
  | with_reducible refine wp_sub ?_
  | with_reducible refine wp_subA ?_
  | with_reducible refine wp_chain ?_
  | with_reducible refine wp_neAI ?_
  | with_reducible refine wp_neAS ?_
  | with_reducible refine wp_dic0 ?_
  | with_reducible refine wp_drop ?_)
local macro_rules | `(tactic| fail "y4") => `(tactic| first
  | with_reducible refine wp_vK ?_
  | with_reducible refine wp_nox ?_
  | with_reducible refine wp_break ?_
  | with_reducible refine wp_retN ?_
  | with_reducible refine wp_sfld ?_
  | with_reducible refine wp_yes ?_
  | with_reducible refine wp_addI ?_
  | with_reducible refine wp_subI ?_)
local macro_rules | `(tactic| fail "y5") => `(tactic| first
  | with_reducible refine wp_neg ?_
  | with_reducible refine wp_eqI ?_
  | with_reducible refine wp_neI ?_
  | with_reducible refine wp_ltI ?_
  | with_reducible refine wp_leI ?_
  | with_reducible refine wp_gtI ?_
  | with_reducible refine wp_geI ?_
  | with_reducible refine wp_eqS ?_)
local macro_rules | `(tactic| fail "y6") => `(tactic| first
  | with_reducible refine wp_neS ?_
  | with_reducible refine wp_eqB ?_
  | with_reducible refine wp_isN ?_
  | with_reducible refine wp_isNotN ?_
  | with_reducible refine wp_int ?_
  | with_reducible refine wp_max2 ?_
  | with_reducible refine wp_min2 ?_
  | with_reducible refine wp_tr_bl ?_)
local macro_rules | `(tactic| fail "y7") => `(tactic| first
  | with_reducible refine wp_tr_int ?_
  | with_reducible refine wp_tupT ?_
  | with_reducible refine wp_slT ?_
  | with_reducible refine wp_nopart ?_
  | with_reducible refine wp_lst ?_
  | with_reducible refine wp_tup ?_
  | with_reducible refine wp_slice ?_
  | with_reducible refine wp_callK ?_)
local macro_rules | `(tactic| fail "y8") => `(tactic| first
  | with_reducible refine wp_make ?_
  | with_reducible refine wp_meth ?_
  | with_reducible refine wp_is ?_
  | with_reducible refine wp_vand ?_
  | with_reducible refine wp_vor ?_
  | with_reducible refine wp_vnot ?_
  | with_reducible refine wp_asg ?_
  | with_reducible refine wp_part ?_)
local macro_rules | `(tactic| fail "y9") => `(tactic| first
  | with_reducible refine wp_forR1 ?_
  | with_reducible refine wp_forR2 ?_
  | with_reducible refine wp_compR1 ?_
  | with_reducible refine wp_compR2 ?_
  | (with_reducible refine' wp_ixAL ?z1 ?z2 ?z3; (case z1 => fail "zg"); (case z2 => fail "za"))
  | (with_reducible refine' wp_ixAT ?z1 ?z2; (case z1 => fail "za"))
  | (with_reducible refine' and_isL ?z1 ?z2; (case z1 => fail "zg"))
  | (with_reducible refine' wp_append ?z1 ?z2 ?z3; (case z1 => fail "zg"); (case z2 => first | omega | (simp only [List.length_map, List.length_append, List.length_cons, List.length_nil]; omega))))
local macro_rules | `(tactic| fail "y10") => `(tactic| first
  | (with_reducible refine' wp_lenL ?z1 ?z2; (case z1 => fail "zg"))
  | with_reducible refine wp_lenT ?_
  | (with_reducible refine' wp_lenAL ?z1 ?z2; (case z1 => fail "zg"))
  | with_reducible refine wp_lenAT ?_
  | (with_reducible refine' wp_listL ?z1 ?z2; (case z1 => fail "zg"))
  | with_reducible refine wp_listT ?_
  | with_reducible refine ex_bl ?_
  | (with_reducible refine' ex_ty ?z1 ?z2 ?z3; (case z1 => with_unfolding_all exact rfl); (case z2 => with_unfolding_all exact rfl)))
local macro_rules | `(tactic| fail "y11") => `(tactic| first
  | (with_reducible refine' wp_mulT ?z1 ?z2 ?z3; (case z1 => omega); (case z2 => omega))
  | (with_reducible refine' wp_setF ?z1 ?z2 ?z3; (case z1 => fail "zg"); (case z2 => with_unfolding_all exact Nat.le_of_ble_eq_true rfl))
  | (with_reducible refine' wp_setInt ?z1 ?z2 ?z3 ?z4; (case z1 => fail "zg"); (case z2 => first | assumption | omega); (case z3 => first | assumption | omega | (simp only [List.length_set]; omega)))
  | (with_reducible refine' wp_setIx ?z1 ?z2 ?z3; (case z1 => fail "zg"); (case z2 => first | (with_reducible apply ixN_of; (first | assumption | omega); (first | assumption | omega | (rw [List.length_map]; omega))) | with_unfolding_all exact rfl | assumption))
  | (with_reducible refine' wp_setAI ?z1 ?z2 ?z3 ?z4; (case z1 => fail "zg"); (case z2 => first | assumption | omega); (case z3 => first | assumption | omega | (simp only [List.length_set]; omega)))
  | (with_reducible refine' wp_setAX ?z1 ?z2 ?z3; (case z1 => fail "zg"); (case z2 => first | (with_reducible apply ixN_of; (first | assumption | omega); (first | assumption | omega | (rw [List.length_map]; omega))) | with_unfolding_all exact rfl | assumption))
  | (with_reducible refine' wp_modI ?z1 ?z2; (case z1 => omega))
  | (with_reducible refine' wp_divA0 ?z1 ?z2 ?z3; (case z1 => omega); (case z2 => omega)))
local macro_rules | `(tactic| fail "y12") => `(tactic| first
  | (with_reducible refine' wp_mulA ?z1 ?z2; (case z1 => omega))
  | (with_reducible refine' wp_divI ?z1 ?z2 ?z3; (case z1 => omega); (case z2 => omega))
  | (with_reducible refine' wp_mulI ?z1 ?z2; (case z1 => omega))
  | (with_reducible refine' wp_powI ?z1 ?z2; (case z1 => with_unfolding_all decide))
  | (with_reducible refine' wp_fld ?z1 ?z2 ?z3; (case z1 => fail "zg"); (case z2 => first | with_unfolding_all exact rfl | assumption))
  | (with_reducible refine' wp_prop ?z1 ?z2; (case z1 => fail "zg"))
  | (with_reducible refine' wp_tupL ?z1 ?z2; (case z1 => fail "zg"))
  | (with_reducible refine' And.intro ?z1 ?z2; (case z1 => first | with_unfolding_all exact Nat.le_of_ble_eq_true rfl | with_unfolding_all decide)))
local macro_rules | `(tactic| fail "z0") => `(tactic| first | fail "y0" | fail "y1" | fail "y2" | fail "y3" | fail "y4" | fail "y5" | fail "y6" | fail "y7" | fail "y8" | fail "y9" | fail "y10" | fail "y11" | fail "y12")
local macro_rules | `(tactic| fail "z1") => `(tactic| first | with_reducible refine wp_seq ?_ | fail "z0")
local macro_rules | `(tactic| walk_at "z") => `(tactic| (repeat fail "z1"))
local macro_rules | `(tactic| fail "zb") => `(tactic| (with_reducible refine And.intro ?_ ?_; (all_goals (intro hb; first | (simp at hb; done) | (simp at hb; skip) | skip))))
local macro_rules | `(tactic| walk_at "zz") => `(tactic| (repeat' (first | fail "z1" | fail "zb")))
local macro_rules | `(tactic| walk_at "zy") => `(tactic| (repeat' (first | fail "z0" | fail "zb")))
local macro_rules | `(tactic| walk_at "zn") => `(tactic| (with_reducible refine wp_seq ?_; walk_at "zy"))
local macro_rules | `(tactic| walk_at "zs") => `(tactic| fail "zs")
local macro_rules | `(tactic| walk_at "zg") => `(tactic| fail "zg")
local macro_rules | `(tactic| walk_at "za") => `(tactic| fail "za")
local macro_rules | `(tactic| walk_at "z0") => `(tactic| fail "z0")
local macro_rules | `(tactic| walk_at "z1") => `(tactic| fail "z1")
local macro_rules | `(tactic| walk_at "zb") => `(tactic| fail "zb")
namespace K01
open PySem PySem.Spec PyProof.Rows L2 Z
/-- a feed stands at a -/
def Feed (st : S) (a : Nat) : Prop := ∃ m r c : Int, st[a]? = some (.lst [.int m, .int r, .int c])
theorem Feed.lt {st : S} {a : Nat} (h : Feed st a) : a < st.length := by
  obtain ⟨m, r, c, h⟩ := h
  exact at_lt h
theorem Feed.gr {st s : S} {a : Nat} (h : Feed st a) (g : Gr st s) : Feed s a := by
  obtain ⟨m, r, c, h⟩ := h
  exact ⟨m, r, c, g.keep h⟩
theorem Feed.gx {st s : S} {a b : Nat} (h : Feed st a) (g : Gx b st s) (e : a ≠ b) : Feed s a := by
  obtain ⟨m, r, c, h⟩ := h
  exact ⟨m, r, c, g.keep e h⟩
theorem Feed.set {st : S} {a b : Nat} {o : O} (h : Feed st a) (e : b ≠ a) : Feed (st.set b o) a := by
  obtain ⟨m, r, c, h⟩ := h
  exact ⟨m, r, c, at_setne e h⟩
theorem take_wp {st : S} {a : Nat} {n : Int} {Q : D → S → Prop} (hf : Feed st a) (h0 : 0 < n) (h1 : n < 1073741824) (q : ∀ (d : Int) (s : S), 0 ≤ d → d < n → Gx a st s → Feed s a → s.length = st.length → Q (.int d) s) : Wp (F_law_take [.loc a, .int n] st) Q := by
  have q : ∀ (d m r c : Int), 0 ≤ d → d < n → Q (.int d) (st.set a (.lst [.int m, .int r, .int c])) := fun d m r c x y => q d _ x y Gx.set ⟨m, r, c, by
    obtain ⟨m, r, c, h⟩ := hf
    exact at_set h⟩ (by rw [List.length_set])
  obtain ⟨m, r, c, h⟩ := hf
  unfold F_law_take b_law_take
  refine wp_fn rfl ?_
  walk_at "zz"
  all_goals (simp only [List.set_set]; exact q _ _ _ _ (Int.emod_nonneg _ (by omega)) (Int.emod_lt_of_pos _ h0))
theorem feed_wp {st : S} {n : Int} {Q : D → S → Prop} (q : ∀ (s : S), Gr st s → Feed s st.length → s.length = st.length + 1 → Q (.loc st.length) s) : Wp (F_law_feed [.int n] st) Q := by
  have q : ∀ (m r c : Int), Q (.loc st.length) (st ++ [.lst [.int m, .int r, .int c]]) := fun m r c => q _ Gr.app ⟨m, r, c, at_last⟩ (by rw [List.length_append]; rfl)
  unfold F_law_feed b_law_feed
  refine wp_fn rfl ?_
  walk_at "zz"
  all_goals exact q _ _ _
theorem cell_wp {st : S} {k : Int} {a : Nat} {ns : List Int} {Q : D → S → Prop} (hs : st[a]? = some (.ro (ns.map D.int))) (hn : ns.length < 1000000) (h0 : 0 ≤ k) (h1 : k < 1000000) (q : ∀ d : Int, Q (.int d) st) : Wp (F_law_cell [.loc a, .int k] st) Q := by
  unfold F_law_cell b_law_cell
  refine wp_fn rfl ?_
  walk_at "zz"
  refine wp_lenAL (getL_ro hs) ?_
  walk_at "zz"
  · rename_i hb
    refine wp_ixAL (getL_ro hs) (atI_int h0 hb) ?_
    walk_at "zz"
    exact q _
  · refine wp_forAL rfl (getL_ro hs) ?_
    refine (wp_forL (xs := ns.map D.int) (fun i es s => s = st ∧ ∃ (x : Int) (y : Option D), es = [some (.loc a), some (.int k), some (.int x), y]) ⟨rfl, 17, none, rfl⟩ ?_ (by rw [List.length_map]; exact hn) ?_ ?_)
    · rintro i es s - ⟨rfl, -⟩
      exact getL_ro hs
    · rintro i d es s hd ⟨rfl, x, y, rfl⟩
      obtain ⟨v, rfl, -⟩ := get_map_int hd
      refine ⟨_, rfl, ?_⟩
      walk_at "zz"
      exact ⟨rfl, _, _, rfl⟩
    · rintro es s ⟨rfl, x, y, rfl⟩
      walk_at "zz"
      exact q _
end K01
end
section
set_option Elab.async false
set_option linter.all false
set_option maxRecDepth 100000
set_option maxHeartbeats 1000000
open PySem PySem.Spec PyProof.Rows L2 Z
local macro_rules | `(tactic| fail "zs") => `(tactic| first
  | assumption
  | with_reducible exact at_last
  | (with_reducible apply at_set; fail "zs")
  | (with_reducible apply at_app; fail "zs")
  | (with_reducible apply at_setne; (first | assumption | (apply Ne.symm; assumption) | omega); fail "zs")
  | (with_reducible refine Gr.keep (by assumption) ?_; fail "zs")
  | (with_reducible refine Gx.keep (by assumption) ?_ ?_; (first | assumption | (apply Ne.symm; assumption) | omega); fail "zs"))
local macro_rules | `(tactic| fail "zg") => `(tactic| first
  | assumption
  | (with_reducible apply getL_of; fail "zs")
  | (with_reducible apply getW_of; fail "zs")
  | (with_reducible apply getI_of; fail "zs"))
local macro_rules | `(tactic| fail "za") => `(tactic| first | (with_reducible apply atI_int; (first | assumption | omega); (first | assumption | omega | (simp only [List.length_set]; omega))) | with_unfolding_all exact rfl | assumption)
local macro_rules | `(tactic| fail "y0") => `(tactic| first
  | (with_reducible refine' wp_var ?z1 ?z2; (case z1 => with_unfolding_all exact rfl))
  | with_reducible refine wp_c2 ?_
  | with_reducible refine wp_cons ?_
  | with_reducible refine wp_c ?_
  | with_reducible refine wp_nil ?_
  | with_reducible refine wp_call ?_
  | with_reducible refine wp_c1 ?_)
local macro_rules | `(tactic| fail "y1") => `(tactic| first
  | with_reducible refine wp_set ?_
  | with_reducible refine wp_if ?_
  | with_reducible refine wp_next ?_
  | with_reducible refine wp_ret ?_
  | with_reducible refine af_nx ?_
  | with_reducible refine bk_rt ?_
  | (with_reducible refine' wp_ixL ?z1 ?z2 ?z3; (case z1 => fail "zg"); (case z2 => fail "za"))
  | (with_reducible refine' wp_ixT ?z1 ?z2; (case z1 => fail "za")))
local macro_rules | `(tactic| fail "y2") => `(tactic| first
  | with_reducible refine af_rt ?_
  | with_reducible refine af_bk ?_
  | with_reducible refine bk_nx ?_
  | with_reducible refine turned_nx ?_
  | with_reducible refine turned_bk ?_
  | with_reducible refine turned_rt ?_
  | with_reducible refine wp_and ?_
  | with_reducible refine wp_or ?_)
local macro_rules | `(tactic| fail "y3") => `(tactic| first
  | with_reducible refine wp_not ?_
  | with_reducible refine wp_sub ?_
  | with_reducible refine wp_subA ?_
  | with_reducible refine wp_chain ?_
  | with_reducible refine wp_neAI ?_
  | with_reducible refine wp_neAS ?_
  | with_reducible refine wp_dic0 ?_
  | with_reducible refine wp_drop ?_)
local macro_rules | `(tactic| fail "y4") => `(tactic| first
  | with_reducible refine wp_vK ?_
  | with_reducible refine wp_nox ?_
  | with_reducible refine wp_break ?_
  | with_reducible refine wp_retN ?_
  | with_reducible refine wp_sfld ?_
  | with_reducible refine wp_yes ?_
  | with_reducible refine wp_addI ?_
  | with_reducible refine wp_subI ?_)
local macro_rules | `(tactic| fail "y5") => `(tactic| first
  | with_reducible refine wp_neg ?_
  | with_reducible refine wp_eqI ?_
  | with_reducible refine wp_neI ?_
  | with_reducible refine wp_ltI ?_
  | with_reducible refine wp_leI ?_
  | with_reducible refine wp_gtI ?_
  | with_reducible refine wp_geI ?_
  | with_reducible refine wp_eqS ?_)
local macro_rules | `(tactic| fail "y6") => `(tactic| first
  | with_reducible refine wp_neS ?_
  | with_reducible refine wp_eqB ?_
  | with_reducible refine wp_isN ?_
  | with_reducible refine wp_isNotN ?_
  | with_reducible refine wp_int ?_
  | with_reducible refine wp_max2 ?_
  | with_reducible refine wp_min2 ?_
  | with_reducible refine wp_tr_bl ?_)
local macro_rules | `(tactic| fail "y7") => `(tactic| first
  | with_reducible refine wp_tr_int ?_
  | with_reducible refine wp_tupT ?_
  | with_reducible refine wp_slT ?_
  | with_reducible refine wp_nopart ?_
  | with_reducible refine wp_lst ?_
  | with_reducible refine wp_tup ?_
  | with_reducible refine wp_slice ?_
  | with_reducible refine wp_callK ?_)
local macro_rules | `(tactic| fail "y8") => `(tactic| first
  | with_reducible refine wp_make ?_
  | with_reducible refine wp_meth ?_
  | with_reducible refine wp_is ?_
  | with_reducible refine wp_vand ?_
  | with_reducible refine wp_vor ?_
  | with_reducible refine wp_vnot ?_
  | with_reducible refine wp_asg ?_
  | with_reducible refine wp_part ?_)
local macro_rules | `(tactic| fail "y9") => `(tactic| first
  | with_reducible refine wp_forR1 ?_
  | with_reducible refine wp_forR2 ?_
  | with_reducible refine wp_compR1 ?_
  | with_reducible refine wp_compR2 ?_
  | (with_reducible refine' wp_ixAL ?z1 ?z2 ?z3; (case z1 => fail "zg"); (case z2 => fail "za"))
  | (with_reducible refine' wp_ixAT ?z1 ?z2; (case z1 => fail "za"))
  | (with_reducible refine' and_isL ?z1 ?z2; (case z1 => fail "zg"))
  | (with_reducible refine' wp_append ?z1 ?z2 ?z3; (case z1 => fail "zg"); (case z2 => first | omega | (simp only [List.length_map, List.length_append, List.length_cons, List.length_nil]; omega))))
local macro_rules | `(tactic| fail "y10") => `(tactic| first
  | (with_reducible refine' wp_lenL ?z1 ?z2; (case z1 => fail "zg"))
  | with_reducible refine wp_lenT ?_
  | (with_reducible refine' wp_lenAL ?z1 ?z2; (case z1 => fail "zg"))
  | with_reducible refine wp_lenAT ?_
  | (with_reducible refine' wp_listL ?z1 ?z2; (case z1 => fail "zg"))
  | with_reducible refine wp_listT ?_
  | with_reducible refine ex_bl ?_
  | (with_reducible refine' ex_ty ?z1 ?z2 ?z3; (case z1 => with_unfolding_all exact rfl); (case z2 => with_unfolding_all exact rfl)))
local macro_rules | `(tactic| fail "y11") => `(tactic| first
  | (with_reducible refine' wp_mulT ?z1 ?z2 ?z3; (case z1 => omega); (case z2 => omega))
  | (with_reducible refine' wp_setF ?z1 ?z2 ?z3; (case z1 => fail "zg"); (case z2 => with_unfolding_all exact Nat.le_of_ble_eq_true rfl))
  | (with_reducible refine' wp_setInt ?z1 ?z2 ?z3 ?z4; (case z1 => fail "zg"); (case z2 => first | assumption | omega); (case z3 => first | assumption | omega | (simp only [List.length_set]; omega)))
  | (with_reducible refine' wp_setIx ?z1 ?z2 ?z3; (case z1 => fail "zg"); (case z2 => first | (with_reducible apply ixN_of; (first | assumption | omega); (first | assumption | omega | (rw [List.length_map]; omega))) | with_unfolding_all exact rfl | assumption))
  | (with_reducible refine' wp_setAI ?z1 ?z2 ?z3 ?z4; (case z1 => fail "zg"); (case z2 => first | assumption | omega); (case z3 => first | assumption | omega | (simp only [List.length_set]; omega)))
  | (with_reducible refine' wp_setAX ?z1 ?z2 ?z3; (case z1 => fail "zg"); (case z2 => first | (with_reducible apply ixN_of; (first | assumption | omega); (first | assumption | omega | (rw [List.length_map]; omega))) | with_unfolding_all exact rfl | assumption))
  | (with_reducible refine' wp_modI ?z1 ?z2; (case z1 => omega))
  | (with_reducible refine' wp_divA0 ?z1 ?z2 ?z3; (case z1 => omega); (case z2 => omega)))
local macro_rules | `(tactic| fail "y12") => `(tactic| first
  | (with_reducible refine' wp_mulA ?z1 ?z2; (case z1 => omega))
  | (with_reducible refine' wp_divI ?z1 ?z2 ?z3; (case z1 => omega); (case z2 => omega))
  | (with_reducible refine' wp_mulI ?z1 ?z2; (case z1 => omega))
  | (with_reducible refine' wp_powI ?z1 ?z2; (case z1 => with_unfolding_all decide))
  | (with_reducible refine' wp_fld ?z1 ?z2 ?z3; (case z1 => fail "zg"); (case z2 => first | with_unfolding_all exact rfl | assumption))
  | (with_reducible refine' wp_prop ?z1 ?z2; (case z1 => fail "zg"))
  | (with_reducible refine' wp_tupL ?z1 ?z2; (case z1 => fail "zg"))
  | (with_reducible refine' And.intro ?z1 ?z2; (case z1 => first | with_unfolding_all exact Nat.le_of_ble_eq_true rfl | with_unfolding_all decide)))
local macro_rules | `(tactic| fail "z0") => `(tactic| first | fail "y0" | fail "y1" | fail "y2" | fail "y3" | fail "y4" | fail "y5" | fail "y6" | fail "y7" | fail "y8" | fail "y9" | fail "y10" | fail "y11" | fail "y12")
local macro_rules | `(tactic| fail "z1") => `(tactic| first | with_reducible refine wp_seq ?_ | fail "z0")
local macro_rules | `(tactic| walk_at "z") => `(tactic| (repeat fail "z1"))
local macro_rules | `(tactic| fail "zb") => `(tactic| (with_reducible refine And.intro ?_ ?_; (all_goals (intro hb; first | (simp at hb; done) | (simp at hb; skip) | skip))))
local macro_rules | `(tactic| walk_at "zz") => `(tactic| (repeat' (first | fail "z1" | fail "zb")))
local macro_rules | `(tactic| walk_at "zy") => `(tactic| (repeat' (first | fail "z0" | fail "zb")))
local macro_rules | `(tactic| walk_at "zn") => `(tactic| (with_reducible refine wp_seq ?_; walk_at "zy"))
local macro_rules | `(tactic| walk_at "zs") => `(tactic| fail "zs")
local macro_rules | `(tactic| walk_at "zg") => `(tactic| fail "zg")
local macro_rules | `(tactic| walk_at "za") => `(tactic| fail "za")
local macro_rules | `(tactic| walk_at "z0") => `(tactic| fail "z0")
local macro_rules | `(tactic| walk_at "z1") => `(tactic| fail "z1")
local macro_rules | `(tactic| walk_at "zb") => `(tactic| fail "zb")
namespace K01
open PySem PySem.Spec PyProof.Rows L2 Z
/-- an expression -/
inductive Xp where
  | num (n : Int) | nm (w : Str) | rd (a : Str) (x : Xp) | op (s : Str) (l r : Xp) | mn (x y : Xp) | mx (x y : Xp) | nth (x : Xp) | pick (x y z : Xp)
def Xp.d : Xp → D
  | .num n => .tup [.str "number", .int n]
  | .nm w => .tup [.str "name", .str w]
  | .rd a x => .tup [.str "read", .str a, x.d]
  | .op s l r => .tup [.str "op", .str s, l.d, r.d]
  | .mn x y => .tup [.str "call", .str "min", .tup [x.d, y.d]]
  | .mx x y => .tup [.str "call", .str "max", .tup [x.d, y.d]]
  | .nth x => .tup [.str "call", .str "nth", .tup [x.d]]
  | .pick x y z => .tup [.str "call", .str "pick", .tup [x.d, y.d, z.d]]
def Xp.parts : Xp → List Xp
  | .num _ => []
  | .nm _ => []
  | .rd _ x => [x]
  | .op _ l r => [l, r]
  | .mn x y => [x, y]
  | .mx x y => [x, y]
  | .nth x => [x]
  | .pick x y z => [x, y, z]
def Xp.dep : Xp → Nat
  | .num _ => 1
  | .nm _ => 1
  | .rd _ x => x.dep + 1
  | .op _ l r => max l.dep r.dep + 1
  | .mn x y => max x.dep y.dep + 1
  | .mx x y => max x.dep y.dep + 1
  | .nth x => x.dep + 1
  | .pick x y z => max x.dep (max y.dep z.dep) + 1
theorem part_dep : ∀ {x p : Xp}, p ∈ x.parts → p.dep + 1 ≤ x.dep
  | .num _, p, h => nomatch h
  | .nm _, p, h => nomatch h
  | .rd _ x, p, h => by
    rw [List.mem_singleton.mp h]
    exact Nat.le_refl _
  | .nth x, p, h => by
    rw [List.mem_singleton.mp h]
    exact Nat.le_refl _
  | .op _ l r, p, h => by
    show p.dep + 1 ≤ max l.dep r.dep + 1
    rcases List.mem_cons.mp h with rfl | h
    · omega
    · rw [List.mem_singleton.mp h]
      omega
  | .mn l r, p, h => by
    show p.dep + 1 ≤ max l.dep r.dep + 1
    rcases List.mem_cons.mp h with rfl | h
    · omega
    · rw [List.mem_singleton.mp h]
      omega
  | .mx l r, p, h => by
    show p.dep + 1 ≤ max l.dep r.dep + 1
    rcases List.mem_cons.mp h with rfl | h
    · omega
    · rw [List.mem_singleton.mp h]
      omega
  | .pick x y z, p, h => by
    show p.dep + 1 ≤ max x.dep (max y.dep z.dep) + 1
    rcases List.mem_cons.mp h with rfl | h
    · omega
    rcases List.mem_cons.mp h with rfl | h
    · omega
    rw [List.mem_singleton.mp h]
    omega
def big : Int := 1000000000000
def clipI (n : Int) : Int := if n > big then big else if n < -big then -big else n
def bi (b : Bool) : Int := if b then 1 else 0
def opv (s : Str) (l r : Int) : Int :=
  if s = ("+" : Str) then clipI (l + r) else if s = ("-" : Str) then clipI (l - r) else if s = ("*" : Str) then clipI (l * r)
  else if s = ("div" : Str) then (if r = 0 then 0 else l.fdiv r) else if s = ("mod" : Str) then (if r = 0 then 0 else l - r * (l.fdiv r))
  else if s = ("<" : Str) then bi (decide (l < r)) else if s = ("<=" : Str) then bi (decide (l ≤ r)) else if s = (">" : Str) then bi (decide (r < l)) else if s = (">=" : Str) then bi (decide (r ≤ l))
  else if s = ("=" : Str) then bi (decide (l = r)) else bi (!decide (l = r))
def rdv (ns : List Int) (k : Int) : Int := if 0 ≤ k ∧ k < ns.length then gI ns k else 0
def zeros (ns : List Int) : List Int := ((List.range ns.length).map fun (i : Nat) => (i : Int)).filter fun k => decide (gI ns k = 0)
def nthv (ns : List Int) (k : Int) : Int := if 0 ≤ k ∧ k < (zeros ns).length then gI (zeros ns) k else -1
def ev (N : Str → Int) (A : Str → List Int) : Xp → Int
  | .num n => n
  | .nm w => N w
  | .rd a x => rdv (A a) (ev N A x)
  | .op s l r => opv s (ev N A l) (ev N A r)
  | .mn x y => if ev N A y < ev N A x then ev N A y else ev N A x
  | .mx x y => if ev N A y > ev N A x then ev N A y else ev N A x
  | .nth x => nthv (A "place") (ev N A x)
  | .pick x y z => if ev N A x ≠ 0 then ev N A y else ev N A z
/-- words of an expression, numbers' bounds -/
def Xp.ok (ws sh : List Str) : Xp → Prop
  | .num n => 0 ≤ n ∧ n ≤ big
  | .nm w => w ∈ ws
  | .rd a x => a ∈ sh ∧ x.ok ws sh
  | .op _ l r => l.ok ws sh ∧ r.ok ws sh
  | .mn x y => x.ok ws sh ∧ y.ok ws sh
  | .mx x y => x.ok ws sh ∧ y.ok ws sh
  | .nth x => ("place" : Str) ∈ sh ∧ x.ok ws sh
  | .pick x y z => x.ok ws sh ∧ y.ok ws sh ∧ z.ok ws sh
def Sm (n : Int) : Prop := -big ≤ n ∧ n ≤ big
structure Mem (ws sh : List Str) (N : Str → Int) (A : Str → List Int) : Prop where
  n : ∀ w ∈ ws, Sm (N w)
  a : ∀ w ∈ sh, (A w).length ≤ 1000 ∧ ∀ x ∈ A w, Sm x
theorem clip_sm {n : Int} : Sm (clipI n) := by
  unfold Sm clipI big
  split
  · omega
  · split <;> omega
theorem bi_sm {b : Bool} : Sm (bi b) := by
  unfold Sm bi big
  split <;> omega
theorem fdiv_pos {l r : Int} (hr : 0 < r) : l.fdiv r = l / r := Int.fdiv_eq_ediv_of_nonneg l (by omega)
theorem ediv_abs {l r : Int} : -(l.natAbs : Int) ≤ l / r ∧ l / r ≤ l.natAbs := by
  have h := Int.natAbs_ediv_le_natAbs l r
  omega
theorem fdiv_neg {l r : Int} (hr : r < 0) : l.fdiv r = (-l) / (-r) := by
  rw [← Int.neg_fdiv_neg, fdiv_pos (by omega)]
theorem fdiv_sm {l r : Int} (h : Sm l) (hr : r ≠ 0) : Sm (l.fdiv r) := by
  unfold Sm big at *
  by_cases p : 0 < r
  · rw [fdiv_pos p]
    have := @ediv_abs l r
    omega
  · rw [fdiv_neg (by omega)]
    have := @ediv_abs (-l) (-r)
    omega
theorem fmod_sm {l r : Int} (h : Sm r) (hr : r ≠ 0) : Sm (l - r * l.fdiv r) := by
  unfold Sm big at *
  by_cases p : 0 < r
  · rw [fdiv_pos p, ← Int.emod_def]
    have := Int.emod_nonneg l hr
    have := Int.emod_lt_of_pos l p
    omega
  · rw [fdiv_neg (by omega)]
    have e := Int.emod_def (-l) (-r)
    rw [Int.neg_mul] at e
    have := Int.emod_nonneg (-l) (show -r ≠ 0 by omega)
    have := Int.emod_lt_of_pos (-l) (show 0 < -r by omega)
    omega
theorem opv_sm {s : Str} {l r : Int} (hl : Sm l) (hr : Sm r) : Sm (opv s l r) := by
  unfold opv
  repeat' split
  all_goals first | exact clip_sm | exact bi_sm | (unfold Sm big; omega) | (exact fdiv_sm hl (by assumption)) | (exact fmod_sm hr (by assumption))
theorem zeros_b {ns : List Int} {k : Int} (h : k ∈ zeros ns) : 0 ≤ k ∧ k < ns.length := by
  unfold zeros at h
  obtain ⟨h1, -⟩ := List.mem_filter.mp h
  obtain ⟨i, hi, rfl⟩ := List.mem_map.mp h1
  have := List.mem_range.mp hi
  omega
theorem ev_sm {ws sh : List Str} {N : Str → Int} {A : Str → List Int} (M : Mem ws sh N A) : ∀ x : Xp, x.ok ws sh → Sm (ev N A x)
  | .num n, h => by
    have h : 0 ≤ n ∧ n ≤ big := h
    show -big ≤ n ∧ n ≤ big
    have : big = 1000000000000 := rfl
    omega
  | .nm w, h => M.n w h
  | .rd a x, h => by
    show Sm (rdv (A a) (ev N A x))
    unfold rdv
    split
    · rename_i c
      exact (M.a a h.1).2 _ (gI_mem c.1 c.2)
    · unfold Sm big
      omega
  | .op s l r, h => opv_sm (ev_sm M l h.1) (ev_sm M r h.2)
  | .mn x y, h => by
    show Sm (if ev N A y < ev N A x then ev N A y else ev N A x)
    split
    · exact ev_sm M y h.2
    · exact ev_sm M x h.1
  | .mx x y, h => by
    show Sm (if ev N A y > ev N A x then ev N A y else ev N A x)
    split
    · exact ev_sm M y h.2
    · exact ev_sm M x h.1
  | .nth x, h => by
    show Sm (nthv (A "place") (ev N A x))
    have l := (M.a _ h.1).1
    unfold nthv
    split
    · rename_i c
      have := zeros_b (gI_mem c.1 c.2)
      unfold Sm big
      omega
    · unfold Sm big
      omega
  | .pick x y z, h => by
    show Sm (if ev N A x ≠ 0 then ev N A y else ev N A z)
    split
    · exact ev_sm M y h.2.1
    · exact ev_sm M z h.2.2
end K01
end
section
set_option Elab.async false
set_option linter.all false
set_option maxRecDepth 100000
set_option maxHeartbeats 1000000
open PySem PySem.Spec PyProof.Rows L2 Z
local macro_rules | `(tactic| fail "zs") => `(tactic| first
  | assumption
  | with_reducible exact at_last
  | (with_reducible apply at_set; fail "zs")
  | (with_reducible apply at_app; fail "zs")
  | (with_reducible apply at_setne; (first | assumption | (apply Ne.symm; assumption) | omega); fail "zs")
  | (with_reducible refine Gr.keep (by assumption) ?_; fail "zs")
  | (with_reducible refine Gx.keep (by assumption) ?_ ?_; (first | assumption | (apply Ne.symm; assumption) | omega); fail "zs"))
local macro_rules | `(tactic| fail "zg") => `(tactic| first
  | assumption
  | (with_reducible apply getL_of; fail "zs")
  | (with_reducible apply getW_of; fail "zs")
  | (with_reducible apply getI_of; fail "zs"))
local macro_rules | `(tactic| fail "za") => `(tactic| first | (with_reducible apply atI_int; (first | assumption | omega); (first | assumption | omega | (simp only [List.length_set]; omega))) | with_unfolding_all exact rfl | assumption)
local macro_rules | `(tactic| fail "y0") => `(tactic| first
  | (with_reducible refine' wp_var ?z1 ?z2; (case z1 => with_unfolding_all exact rfl))
  | with_reducible refine wp_c2 ?_
  | with_reducible refine wp_cons ?_
  | with_reducible refine wp_c ?_
  | with_reducible refine wp_nil ?_
  | with_reducible refine wp_call ?_
  | with_reducible refine wp_c1 ?_)
local macro_rules | `(tactic| fail "y1") => `(tactic| first
  | with_reducible refine wp_set ?_
  | with_reducible refine wp_if ?_
  | with_reducible refine wp_next ?_
  | with_reducible refine wp_ret ?_
  | with_reducible refine af_nx ?_
  | with_reducible refine bk_rt ?_
  | (with_reducible refine' wp_ixL ?z1 ?z2 ?z3; (case z1 => fail "zg"); (case z2 => fail "za"))
  | (with_reducible refine' wp_ixT ?z1 ?z2; (case z1 => fail "za")))
local macro_rules | `(tactic| fail "y2") => `(tactic| first
  | with_reducible refine af_rt ?_
  | with_reducible refine af_bk ?_
  | with_reducible refine bk_nx ?_
  | with_reducible refine turned_nx ?_
  | with_reducible refine turned_bk ?_
  | with_reducible refine turned_rt ?_
  | with_reducible refine wp_and ?_
  | with_reducible refine wp_or ?_)
local macro_rules | `(tactic| fail "y3") => `(tactic| first
  | with_reducible refine wp_not ?_
  | with_reducible refine wp_sub ?_
  | with_reducible refine wp_subA ?_
  | with_reducible refine wp_chain ?_
  | with_reducible refine wp_neAI ?_
  | with_reducible refine wp_neAS ?_
  | with_reducible refine wp_dic0 ?_
  | with_reducible refine wp_drop ?_)
local macro_rules | `(tactic| fail "y4") => `(tactic| first
  | with_reducible refine wp_vK ?_
  | with_reducible refine wp_nox ?_
  | with_reducible refine wp_break ?_
  | with_reducible refine wp_retN ?_
  | with_reducible refine wp_sfld ?_
  | with_reducible refine wp_yes ?_
  | with_reducible refine wp_addI ?_
  | with_reducible refine wp_subI ?_)
local macro_rules | `(tactic| fail "y5") => `(tactic| first
  | with_reducible refine wp_neg ?_
  | with_reducible refine wp_eqI ?_
  | with_reducible refine wp_neI ?_
  | with_reducible refine wp_ltI ?_
  | with_reducible refine wp_leI ?_
  | with_reducible refine wp_gtI ?_
  | with_reducible refine wp_geI ?_
  | with_reducible refine wp_eqS ?_)
local macro_rules | `(tactic| fail "y6") => `(tactic| first
  | with_reducible refine wp_neS ?_
  | with_reducible refine wp_eqB ?_
  | with_reducible refine wp_isN ?_
  | with_reducible refine wp_isNotN ?_
  | with_reducible refine wp_int ?_
  | with_reducible refine wp_max2 ?_
  | with_reducible refine wp_min2 ?_
  | with_reducible refine wp_tr_bl ?_)
local macro_rules | `(tactic| fail "y7") => `(tactic| first
  | with_reducible refine wp_tr_int ?_
  | with_reducible refine wp_tupT ?_
  | with_reducible refine wp_slT ?_
  | with_reducible refine wp_nopart ?_
  | with_reducible refine wp_lst ?_
  | with_reducible refine wp_tup ?_
  | with_reducible refine wp_slice ?_
  | with_reducible refine wp_callK ?_)
local macro_rules | `(tactic| fail "y8") => `(tactic| first
  | with_reducible refine wp_make ?_
  | with_reducible refine wp_meth ?_
  | with_reducible refine wp_is ?_
  | with_reducible refine wp_vand ?_
  | with_reducible refine wp_vor ?_
  | with_reducible refine wp_vnot ?_
  | with_reducible refine wp_asg ?_
  | with_reducible refine wp_part ?_)
local macro_rules | `(tactic| fail "y9") => `(tactic| first
  | with_reducible refine wp_forR1 ?_
  | with_reducible refine wp_forR2 ?_
  | with_reducible refine wp_compR1 ?_
  | with_reducible refine wp_compR2 ?_
  | (with_reducible refine' wp_ixAL ?z1 ?z2 ?z3; (case z1 => fail "zg"); (case z2 => fail "za"))
  | (with_reducible refine' wp_ixAT ?z1 ?z2; (case z1 => fail "za"))
  | (with_reducible refine' and_isL ?z1 ?z2; (case z1 => fail "zg"))
  | (with_reducible refine' wp_append ?z1 ?z2 ?z3; (case z1 => fail "zg"); (case z2 => first | omega | (simp only [List.length_map, List.length_append, List.length_cons, List.length_nil]; omega))))
local macro_rules | `(tactic| fail "y10") => `(tactic| first
  | (with_reducible refine' wp_lenL ?z1 ?z2; (case z1 => fail "zg"))
  | with_reducible refine wp_lenT ?_
  | (with_reducible refine' wp_lenAL ?z1 ?z2; (case z1 => fail "zg"))
  | with_reducible refine wp_lenAT ?_
  | (with_reducible refine' wp_listL ?z1 ?z2; (case z1 => fail "zg"))
  | with_reducible refine wp_listT ?_
  | with_reducible refine ex_bl ?_
  | (with_reducible refine' ex_ty ?z1 ?z2 ?z3; (case z1 => with_unfolding_all exact rfl); (case z2 => with_unfolding_all exact rfl)))
local macro_rules | `(tactic| fail "y11") => `(tactic| first
  | (with_reducible refine' wp_mulT ?z1 ?z2 ?z3; (case z1 => omega); (case z2 => omega))
  | (with_reducible refine' wp_setF ?z1 ?z2 ?z3; (case z1 => fail "zg"); (case z2 => with_unfolding_all exact Nat.le_of_ble_eq_true rfl))
  | (with_reducible refine' wp_setInt ?z1 ?z2 ?z3 ?z4; (case z1 => fail "zg"); (case z2 => first | assumption | omega); (case z3 => first | assumption | omega | (simp only [List.length_set]; omega)))
  | (with_reducible refine' wp_setIx ?z1 ?z2 ?z3; (case z1 => fail "zg"); (case z2 => first | (with_reducible apply ixN_of; (first | assumption | omega); (first | assumption | omega | (rw [List.length_map]; omega))) | with_unfolding_all exact rfl | assumption))
  | (with_reducible refine' wp_setAI ?z1 ?z2 ?z3 ?z4; (case z1 => fail "zg"); (case z2 => first | assumption | omega); (case z3 => first | assumption | omega | (simp only [List.length_set]; omega)))
  | (with_reducible refine' wp_setAX ?z1 ?z2 ?z3; (case z1 => fail "zg"); (case z2 => first | (with_reducible apply ixN_of; (first | assumption | omega); (first | assumption | omega | (rw [List.length_map]; omega))) | with_unfolding_all exact rfl | assumption))
  | (with_reducible refine' wp_modI ?z1 ?z2; (case z1 => omega))
  | (with_reducible refine' wp_divA0 ?z1 ?z2 ?z3; (case z1 => omega); (case z2 => omega)))
local macro_rules | `(tactic| fail "y12") => `(tactic| first
  | (with_reducible refine' wp_mulA ?z1 ?z2; (case z1 => omega))
  | (with_reducible refine' wp_divI ?z1 ?z2 ?z3; (case z1 => omega); (case z2 => omega))
  | (with_reducible refine' wp_mulI ?z1 ?z2; (case z1 => omega))
  | (with_reducible refine' wp_powI ?z1 ?z2; (case z1 => with_unfolding_all decide))
  | (with_reducible refine' wp_fld ?z1 ?z2 ?z3; (case z1 => fail "zg"); (case z2 => first | with_unfolding_all exact rfl | assumption))
  | (with_reducible refine' wp_prop ?z1 ?z2; (case z1 => fail "zg"))
  | (with_reducible refine' wp_tupL ?z1 ?z2; (case z1 => fail "zg"))
  | (with_reducible refine' And.intro ?z1 ?z2; (case z1 => first | with_unfolding_all exact Nat.le_of_ble_eq_true rfl | with_unfolding_all decide)))
local macro_rules | `(tactic| fail "z0") => `(tactic| first | fail "y0" | fail "y1" | fail "y2" | fail "y3" | fail "y4" | fail "y5" | fail "y6" | fail "y7" | fail "y8" | fail "y9" | fail "y10" | fail "y11" | fail "y12")
local macro_rules | `(tactic| fail "z1") => `(tactic| first | with_reducible refine wp_seq ?_ | fail "z0")
local macro_rules | `(tactic| walk_at "z") => `(tactic| (repeat fail "z1"))
local macro_rules | `(tactic| fail "zb") => `(tactic| (with_reducible refine And.intro ?_ ?_; (all_goals (intro hb; first | (simp at hb; done) | (simp at hb; skip) | skip))))
local macro_rules | `(tactic| walk_at "zz") => `(tactic| (repeat' (first | fail "z1" | fail "zb")))
local macro_rules | `(tactic| walk_at "zy") => `(tactic| (repeat' (first | fail "z0" | fail "zb")))
local macro_rules | `(tactic| walk_at "zn") => `(tactic| (with_reducible refine wp_seq ?_; walk_at "zy"))
local macro_rules | `(tactic| walk_at "zs") => `(tactic| fail "zs")
local macro_rules | `(tactic| walk_at "zg") => `(tactic| fail "zg")
local macro_rules | `(tactic| walk_at "za") => `(tactic| fail "za")
local macro_rules | `(tactic| walk_at "z0") => `(tactic| fail "z0")
local macro_rules | `(tactic| walk_at "z1") => `(tactic| fail "z1")
local macro_rules | `(tactic| walk_at "zb") => `(tactic| fail "zb")
namespace K01
open PySem PySem.Spec PyProof.Rows L2 Z
local macro_rules | `(tactic| fail "zb") => `(tactic| (with_reducible refine And.intro ?_ ?_; (all_goals (intro hb; first | (exact absurd hb (by decide)) | (simp at hb; done) | (simp only [decide_eq_true_eq, decide_eq_false_iff_not, Bool.not_eq_true', Bool.not_eq_false'] at hb; skip) | skip))))
section
variable {st : S} {d : D} {ns : List Int} {k l r n : Int} {Q : D → S → Prop} {QB : Bool → S → Prop}
theorem wp_lenRow (h : IsRow st d ns) (q : Q (.int ns.length) st) : Wp (fLenA [d] st) Q := by
  have e : ((ns.map D.int).length : Int) = ns.length := by rw [List.length_map]
  rcases h with rfl | ⟨m, rfl, h⟩
  · exact wp_lenAT (e ▸ q)
  · exact wp_lenAL (getL_of h) (e ▸ q)
theorem wp_ixRowA (h : IsRow st d ns) (h0 : 0 ≤ k) (h1 : k < ns.length) (q : Q (.int (gI ns k)) st) : Wp (ixA d (.int k) st) Q := by
  rcases h with rfl | ⟨m, rfl, h⟩
  · exact wp_ixAT (atI_int h0 h1) q
  · exact wp_ixAL (getL_of h) (atI_int h0 h1) q
theorem clip_wp (q : Q (.int (clipI n)) st) : Wp (F_clip [.int n] st) Q := by
  unfold F_clip b_clip
  unfold clipI big at q
  unfold K_LIMIT
  refine wp_fn rfl ?_
  walk_at "zz"
  · rename_i hb
    rw [if_pos hb] at q
    exact q
  · rw [if_neg (by omega), if_pos (by omega)] at q
    exact q
  · rw [if_neg (by omega), if_neg (by omega)] at q
    exact q
theorem read_wp (h : IsRow st d ns) (q : Q (.int (rdv ns k)) st) : Wp (F_value_of_read [d, .int k] st) Q := by
  unfold F_value_of_read b_value_of_read
  unfold rdv at q
  refine wp_fn rfl ?_
  walk_at "zz"
  · refine wp_lenRow h ?_
    walk_at "zz"
    · refine wp_ixRowA h (by assumption) (by assumption) ?_
      walk_at "zz"
      rw [if_pos (by omega)] at q
      exact q
    · rw [if_neg (by omega)] at q
      exact q
  · rw [if_neg (by omega)] at q
    exact q
theorem holds_wp {s : Str} (q : Q (.bl (if s = ("<" : Str) then decide (l < r) else if s = ("<=" : Str) then decide (l ≤ r) else if s = (">" : Str) then decide (r < l) else if s = (">=" : Str) then decide (r ≤ l) else if s = ("=" : Str) then decide (l = r) else !decide (l = r))) st) : Wp (F_comparison_holds [.str s, .int l, .int r] st) Q := by
  unfold F_comparison_holds b_comparison_holds
  refine wp_fn rfl ?_
  walk_at "zz"
  all_goals (simp only [*, if_true, if_false] at q; exact q)
theorem div_wp (hr : Sm r) (q : Q (.int (if r = 0 then 0 else l.fdiv r)) st) : Wp (F_quotient_of [.int l, .int r] st) Q := by
  unfold Sm big at hr
  unfold F_quotient_of b_quotient_of
  refine wp_fn rfl ?_
  walk_at "zz"
  · rename_i hb
    rw [if_pos hb] at q
    exact q
  · rename_i hb
    refine wp_divA hb (by omega) ?_
    walk_at "zz"
    rw [if_neg hb] at q
    exact q
theorem mod_wp (hr : Sm r) (q : Q (.int (if r = 0 then 0 else l - r * l.fdiv r)) st) : Wp (F_remainder_of [.int l, .int r] st) Q := by
  unfold Sm big at hr
  unfold F_remainder_of b_remainder_of
  refine wp_fn rfl ?_
  walk_at "zz"
  · rename_i hb
    rw [if_pos hb] at q
    exact q
  · rename_i hb
    refine wp_divA hb (by omega) ?_
    walk_at "zz"
    rw [if_neg hb] at q
    exact q
theorem int_bl {b : Bool} (q : Q (.int (bi b)) st) : Wp (fInt [.bl b] st) Q := by
  cases b <;> exact q
theorem bi_if {c : Prop} [Decidable c] {a b : Bool} : bi (if c then a else b) = if c then bi a else bi b := by split <;> rfl
theorem op_wp {s : Str} (hl : Sm l) (hr : Sm r) (q : Q (.int (opv s l r)) st) : Wp (F_value_of_op [.str s, .int l, .int r] st) Q := by
  have hl2 := hl
  have hr2 := hr
  unfold Sm big at hl2 hr2
  unfold F_value_of_op b_value_of_op
  unfold opv at q
  refine wp_fn rfl ?_
  walk_at "zz"
  · rename_i hb
    refine clip_wp ?_
    walk_at "zz"
    rw [if_pos hb] at q
    exact q
  · rename_i h1 hb
    refine clip_wp ?_
    walk_at "zz"
    rw [if_neg h1, if_pos hb] at q
    exact q
  · rename_i h1 h2 hb
    refine clip_wp ?_
    walk_at "zz"
    rw [if_neg h1, if_neg h2, if_pos hb] at q
    exact q
  · refine div_wp hr ?_
    walk_at "zz"
    rename_i h1 h2 h3 hb
    rw [if_neg h1, if_neg h2, if_neg h3, if_pos hb] at q
    exact q
  · refine mod_wp hr ?_
    walk_at "zz"
    rename_i h1 h2 h3 h4 hb
    rw [if_neg h1, if_neg h2, if_neg h3, if_neg h4, if_pos hb] at q
    exact q
  · rename_i h1 h2 h3 h4 hb
    rw [if_neg h1, if_neg h2, if_neg h3, if_neg h4, if_neg hb] at q
    refine holds_wp ?_
    walk_at "zz"
    refine int_bl ?_
    simp only [bi_if]
    exact q
end
end K01
end
section
set_option Elab.async false
set_option linter.all false
set_option maxRecDepth 100000
set_option maxHeartbeats 2000000
open PySem PySem.Spec PyProof.Rows L2 Z
local macro_rules | `(tactic| fail "zs") => `(tactic| first
  | assumption
  | with_reducible exact at_last
  | (with_reducible apply at_set; fail "zs")
  | (with_reducible apply at_app; fail "zs")
  | (with_reducible apply at_setne; (first | assumption | (apply Ne.symm; assumption) | omega); fail "zs")
  | (with_reducible refine Gr.keep (by assumption) ?_; fail "zs")
  | (with_reducible refine Gx.keep (by assumption) ?_ ?_; (first | assumption | (apply Ne.symm; assumption) | omega); fail "zs"))
local macro_rules | `(tactic| fail "zg") => `(tactic| first
  | assumption
  | (with_reducible apply getL_of; fail "zs")
  | (with_reducible apply getW_of; fail "zs")
  | (with_reducible apply getI_of; fail "zs"))
local macro_rules | `(tactic| fail "za") => `(tactic| first | (with_reducible apply atI_int; (first | assumption | omega); (first | assumption | omega | (simp only [List.length_set]; omega))) | with_unfolding_all exact rfl | assumption)
local macro_rules | `(tactic| fail "y0") => `(tactic| first
  | (with_reducible refine' wp_var ?z1 ?z2; (case z1 => with_unfolding_all exact rfl))
  | with_reducible refine wp_c2 ?_
  | with_reducible refine wp_cons ?_
  | with_reducible refine wp_c ?_
  | with_reducible refine wp_nil ?_
  | with_reducible refine wp_call ?_
  | with_reducible refine wp_c1 ?_)
local macro_rules | `(tactic| fail "y1") => `(tactic| first
  | with_reducible refine wp_set ?_
  | with_reducible refine wp_if ?_
  | with_reducible refine wp_next ?_
  | with_reducible refine wp_ret ?_
  | with_reducible refine af_nx ?_
  | with_reducible refine bk_rt ?_
  | (with_reducible refine' wp_ixL ?z1 ?z2 ?z3; (case z1 => fail "zg"); (case z2 => fail "za"))
  | (with_reducible refine' wp_ixT ?z1 ?z2; (case z1 => fail "za")))
local macro_rules | `(tactic| fail "y2") => `(tactic| first
  | with_reducible refine af_rt ?_
  | with_reducible refine af_bk ?_
  | with_reducible refine bk_nx ?_
  | with_reducible refine turned_nx ?_
  | with_reducible refine turned_bk ?_
  | with_reducible refine turned_rt ?_
  | with_reducible refine wp_and ?_
  | with_reducible refine wp_or ?_)
local macro_rules | `(tactic| fail "y3") => `(tactic| first
  | with_reducible refine wp_not ?_
  | with_reducible refine wp_sub ?_
  | with_reducible refine wp_subA ?_
  | with_reducible refine wp_chain ?_
  | with_reducible refine wp_neAI ?_
  | with_reducible refine wp_neAS ?_
  | with_reducible refine wp_dic0 ?_
  | with_reducible refine wp_drop ?_)
local macro_rules | `(tactic| fail "y4") => `(tactic| first
  | with_reducible refine wp_vK ?_
  | with_reducible refine wp_nox ?_
  | with_reducible refine wp_break ?_
  | with_reducible refine wp_retN ?_
  | with_reducible refine wp_sfld ?_
  | with_reducible refine wp_yes ?_
  | with_reducible refine wp_addI ?_
  | with_reducible refine wp_subI ?_)
local macro_rules | `(tactic| fail "y5") => `(tactic| first
  | with_reducible refine wp_neg ?_
  | with_reducible refine wp_eqI ?_
  | with_reducible refine wp_neI ?_
  | with_reducible refine wp_ltI ?_
  | with_reducible refine wp_leI ?_
  | with_reducible refine wp_gtI ?_
  | with_reducible refine wp_geI ?_
  | with_reducible refine wp_eqS ?_)
local macro_rules | `(tactic| fail "y6") => `(tactic| first
  | with_reducible refine wp_neS ?_
  | with_reducible refine wp_eqB ?_
  | with_reducible refine wp_isN ?_
  | with_reducible refine wp_isNotN ?_
  | with_reducible refine wp_int ?_
  | with_reducible refine wp_max2 ?_
  | with_reducible refine wp_min2 ?_
  | with_reducible refine wp_tr_bl ?_)
local macro_rules | `(tactic| fail "y7") => `(tactic| first
  | with_reducible refine wp_tr_int ?_
  | with_reducible refine wp_tupT ?_
  | with_reducible refine wp_slT ?_
  | with_reducible refine wp_nopart ?_
  | with_reducible refine wp_lst ?_
  | with_reducible refine wp_tup ?_
  | with_reducible refine wp_slice ?_
  | with_reducible refine wp_callK ?_)
local macro_rules | `(tactic| fail "y8") => `(tactic| first
  | with_reducible refine wp_make ?_
  | with_reducible refine wp_meth ?_
  | with_reducible refine wp_is ?_
  | with_reducible refine wp_vand ?_
  | with_reducible refine wp_vor ?_
  | with_reducible refine wp_vnot ?_
  | with_reducible refine wp_asg ?_
  | with_reducible refine wp_part ?_)
local macro_rules | `(tactic| fail "y9") => `(tactic| first
  | with_reducible refine wp_forR1 ?_
  | with_reducible refine wp_forR2 ?_
  | with_reducible refine wp_compR1 ?_
  | with_reducible refine wp_compR2 ?_
  | (with_reducible refine' wp_ixAL ?z1 ?z2 ?z3; (case z1 => fail "zg"); (case z2 => fail "za"))
  | (with_reducible refine' wp_ixAT ?z1 ?z2; (case z1 => fail "za"))
  | (with_reducible refine' and_isL ?z1 ?z2; (case z1 => fail "zg"))
  | (with_reducible refine' wp_append ?z1 ?z2 ?z3; (case z1 => fail "zg"); (case z2 => first | omega | (simp only [List.length_map, List.length_append, List.length_cons, List.length_nil]; omega))))
local macro_rules | `(tactic| fail "y10") => `(tactic| first
  | (with_reducible refine' wp_lenL ?z1 ?z2; (case z1 => fail "zg"))
  | with_reducible refine wp_lenT ?_
  | (with_reducible refine' wp_lenAL ?z1 ?z2; (case z1 => fail "zg"))
  | with_reducible refine wp_lenAT ?_
  | (with_reducible refine' wp_listL ?z1 ?z2; (case z1 => fail "zg"))
  | with_reducible refine wp_listT ?_
  | with_reducible refine ex_bl ?_
  | (with_reducible refine' ex_ty ?z1 ?z2 ?z3; (case z1 => with_unfolding_all exact rfl); (case z2 => with_unfolding_all exact rfl)))
local macro_rules | `(tactic| fail "y11") => `(tactic| first
  | (with_reducible refine' wp_mulT ?z1 ?z2 ?z3; (case z1 => omega); (case z2 => omega))
  | (with_reducible refine' wp_setF ?z1 ?z2 ?z3; (case z1 => fail "zg"); (case z2 => with_unfolding_all exact Nat.le_of_ble_eq_true rfl))
  | (with_reducible refine' wp_setInt ?z1 ?z2 ?z3 ?z4; (case z1 => fail "zg"); (case z2 => first | assumption | omega); (case z3 => first | assumption | omega | (simp only [List.length_set]; omega)))
  | (with_reducible refine' wp_setIx ?z1 ?z2 ?z3; (case z1 => fail "zg"); (case z2 => first | (with_reducible apply ixN_of; (first | assumption | omega); (first | assumption | omega | (rw [List.length_map]; omega))) | with_unfolding_all exact rfl | assumption))
  | (with_reducible refine' wp_setAI ?z1 ?z2 ?z3 ?z4; (case z1 => fail "zg"); (case z2 => first | assumption | omega); (case z3 => first | assumption | omega | (simp only [List.length_set]; omega)))
  | (with_reducible refine' wp_setAX ?z1 ?z2 ?z3; (case z1 => fail "zg"); (case z2 => first | (with_reducible apply ixN_of; (first | assumption | omega); (first | assumption | omega | (rw [List.length_map]; omega))) | with_unfolding_all exact rfl | assumption))
  | (with_reducible refine' wp_modI ?z1 ?z2; (case z1 => omega))
  | (with_reducible refine' wp_divA0 ?z1 ?z2 ?z3; (case z1 => omega); (case z2 => omega)))
local macro_rules | `(tactic| fail "y12") => `(tactic| first
  | (with_reducible refine' wp_mulA ?z1 ?z2; (case z1 => omega))
  | (with_reducible refine' wp_divI ?z1 ?z2 ?z3; (case z1 => omega); (case z2 => omega))
  | (with_reducible refine' wp_mulI ?z1 ?z2; (case z1 => omega))
  | (with_reducible refine' wp_powI ?z1 ?z2; (case z1 => with_unfolding_all decide))
  | (with_reducible refine' wp_fld ?z1 ?z2 ?z3; (case z1 => fail "zg"); (case z2 => first | with_unfolding_all exact rfl | assumption))
  | (with_reducible refine' wp_prop ?z1 ?z2; (case z1 => fail "zg"))
  | (with_reducible refine' wp_tupL ?z1 ?z2; (case z1 => fail "zg"))
  | (with_reducible refine' And.intro ?z1 ?z2; (case z1 => first | with_unfolding_all exact Nat.le_of_ble_eq_true rfl | with_unfolding_all decide)))
local macro_rules | `(tactic| fail "z0") => `(tactic| first | fail "y0" | fail "y1" | fail "y2" | fail "y3" | fail "y4" | fail "y5" | fail "y6" | fail "y7" | fail "y8" | fail "y9" | fail "y10" | fail "y11" | fail "y12")
local macro_rules | `(tactic| fail "z1") => `(tactic| first | with_reducible refine wp_seq ?_ | fail "z0")
local macro_rules | `(tactic| walk_at "z") => `(tactic| (repeat fail "z1"))
local macro_rules | `(tactic| fail "zb") => `(tactic| (with_reducible refine And.intro ?_ ?_; (all_goals (intro hb; first | (simp at hb; done) | (simp at hb; skip) | skip))))
local macro_rules | `(tactic| walk_at "zz") => `(tactic| (repeat' (first | fail "z1" | fail "zb")))
local macro_rules | `(tactic| walk_at "zy") => `(tactic| (repeat' (first | fail "z0" | fail "zb")))
local macro_rules | `(tactic| walk_at "zn") => `(tactic| (with_reducible refine wp_seq ?_; walk_at "zy"))
local macro_rules | `(tactic| walk_at "zs") => `(tactic| fail "zs")
local macro_rules | `(tactic| walk_at "zg") => `(tactic| fail "zg")
local macro_rules | `(tactic| walk_at "za") => `(tactic| fail "za")
local macro_rules | `(tactic| walk_at "z0") => `(tactic| fail "z0")
local macro_rules | `(tactic| walk_at "z1") => `(tactic| fail "z1")
local macro_rules | `(tactic| walk_at "zb") => `(tactic| fail "zb")
namespace K01
open PySem PySem.Spec PyProof.Rows L2 Z
local macro_rules | `(tactic| fail "zb") => `(tactic| (with_reducible refine And.intro ?_ ?_; (all_goals (intro hb; first | (exact absurd hb (by decide)) | (simp at hb; done) | (simp only [decide_eq_true_eq, decide_eq_false_iff_not, Bool.not_eq_true', Bool.not_eq_false'] at hb; skip) | skip))))
section
variable {es : Ev} {st : S} {set : Ev → D → Option Ev} {vs : List Nat} {mt : M Bool} {me : M D} {QD : D → S → Prop}
theorem wp_siftR {i n : Nat} (p : Int → Bool) (hn : n ≤ 1000) (step : ∀ (k : Int) (s : S), 0 ≤ k → k < n → Gr st s → ∃ es1, setN i (wipeD es vs) (.int k) = some es1 ∧ Wp (mt es1 s) (fun b s2 => s2 = s ∧ b = p k) ∧ Wp (me es1 s) fun y s2 => s2 = s ∧ y = .int k) (hd : ∀ s : S, Gr st s → s[st.length]? = some (.lst ((((List.range n).map fun (i : Nat) => (i : Int)).filter p).map D.int)) → QD (.loc st.length) s) :
    Wp (compV (setN i) vs mt me (rangeD 0 n) es st) QD := by
  refine wp_compV (fun k s => Gr st s ∧ s[st.length]? = some (.lst ((((List.range k).map fun (i : Nat) => (i : Int)).filter p).map D.int))) ⟨Gr.app, at_last⟩ ?_ ?_
  · rintro k d s hd ⟨g, e⟩
    obtain ⟨rfl, hk⟩ := get_range hd
    rw [Int.zero_add]
    obtain ⟨es1, e1, w1, w2⟩ := step (k : Nat) s (by omega) (by omega) g
    have et : ((List.range (k + 1)).map fun (i : Nat) => (i : Int)) = ((List.range k).map fun (i : Nat) => (i : Int)) ++ [((k : Nat) : Int)] := by rw [List.range_succ, List.map_append]; rfl
    refine ⟨es1, e1, wp_compTurn (w1.mono ?_)⟩
    rintro b s2 ⟨rfl, rfl⟩
    constructor
    · intro hp
      refine w2.mono ?_
      rintro y s3 ⟨rfl, rfl⟩
      have lt : (((List.range k).map fun (i : Nat) => (i : Int)).filter p).length ≤ k := Nat.le_trans (List.length_filter_le _ _) (by rw [List.length_map, List.length_range]; omega)
      refine wp_addIt (getW_of e) (by rw [List.length_map]; omega) ⟨g.setNew (Nat.le_refl _), ?_⟩
      rw [et, List.filter_append, List.map_append]
      simp only [List.filter_cons, hp, List.filter_nil]
      exact at_set e
    · intro hp
      rw [et, List.filter_append, List.map_append]
      simp only [List.filter_cons, hp, List.filter_nil]
      exact ⟨g, by simpa using e⟩
  · rintro s ⟨g, e⟩
    rw [len_range] at e
    exact hd s g e
theorem wp_valsV (P : Nat → D → S → Prop) (hP : ∀ (i : Nat) (y : D) (s t : S), P i y s → Gx st.length s t → P i y t) {xs : List D} (hx : xs.length < 1000000) (step : ∀ (i : Nat) (d : D) (s : S), xs[i]? = some d → Gr st s → st.length < s.length → ∃ es1, set (wipeD es vs) d = some es1 ∧ Wp (me es1 s) fun y s2 => Gr s s2 ∧ P i y s2) (hd : ∀ (s : S) (ys : List D), Gr st s → s[st.length]? = some (.lst ys) → ys.length = xs.length → (∀ i y, ys[i]? = some y → P i y s) → QD (.loc st.length) s) : Wp (compV set vs cYes me xs es st) QD := by
  refine wp_compV (fun i s => ∃ ys : List D, Gr st s ∧ s[st.length]? = some (.lst ys) ∧ ys.length = i ∧ ∀ i y, ys[i]? = some y → P i y s) ⟨[], Gr.app, at_last, rfl, fun i y h => nomatch h⟩ ?_ ?_
  · rintro i d s hd ⟨ys, g, e, l, b⟩
    obtain ⟨es1, e1, w⟩ := step i d s hd g (at_lt e)
    have il := (List.getElem?_eq_some_iff.mp hd).1
    refine ⟨es1, e1, wp_compTurn (wp_yes ⟨fun _ => w.mono ?_, fun h => nomatch h⟩)⟩
    rintro y s2 ⟨g2, py⟩
    have e2 := g2.keep e
    refine wp_addIt (getW_of e2) (by omega) ⟨ys ++ [y], (g.trans g2).setNew (Nat.le_refl _), at_set e2, by rw [List.length_append, l]; rfl, ?_⟩
    intro j z hz
    by_cases hj : j < ys.length
    · rw [List.getElem?_append_left hj] at hz
      exact hP j z _ _ (hP j z _ _ (b j z hz) g2.gx) Gx.set
    · rw [List.getElem?_append_right (by omega)] at hz
      have : j - ys.length = 0 := by
        have := (List.getElem?_eq_some_iff.mp hz).1
        simp at this
        omega
      rw [this] at hz
      cases hz
      have : j = i := by omega
      subst this
      exact hP _ _ _ _ py Gx.set
  · rintro s ⟨ys, g, e, l, b⟩
    exact hd s ys g e l b
/-- ints of a tuple of things -/
theorem wp_valsX {α : Type} (f : α → D) (v : α → Int) {xs : List α} (hx : xs.length < 1000000) (step : ∀ (x : α) (s : S), x ∈ xs → Gr st s → ∃ es1, set (wipeD es vs) (f x) = some es1 ∧ Wp (me es1 s) fun y s2 => Gr s s2 ∧ y = .int (v x)) (hd : ∀ (s : S), Gr st s → s[st.length]? = some (.lst ((xs.map v).map D.int)) → QD (.loc st.length) s) : Wp (compV set vs cYes me (xs.map f) es st) QD := by
  refine wp_valsV (fun i y s => ∃ x, xs[i]? = some x ∧ y = .int (v x)) (fun _ _ _ _ h _ => h) (by rw [List.length_map]; exact hx) ?_ ?_
  · intro i d s hd g _
    rw [List.getElem?_map] at hd
    cases e : xs[i]? with
    | none => rw [e] at hd; cases hd
    | some x =>
      rw [e] at hd
      cases hd
      obtain ⟨es1, e1, w⟩ := step x s (List.mem_of_getElem? e) g
      exact ⟨es1, e1, w.mono fun y s2 h => ⟨h.1, x, rfl, h.2⟩⟩
  · intro s ys g e l b
    rw [List.length_map] at l
    have : ys = (xs.map v).map D.int := by
      apply List.ext_getElem?
      intro i
      by_cases hi : i < ys.length
      · obtain ⟨x, e1, e2⟩ := b i _ (List.getElem?_eq_getElem hi)
        rw [List.getElem?_eq_getElem hi, e2, List.getElem?_map, List.getElem?_map, e1]
        rfl
      · rw [List.getElem?_eq_none (by omega), List.getElem?_eq_none (by rw [List.length_map, List.length_map]; omega)]
    subst this
    exact hd s g e
end
/-- names at pn, arrays at pa -/
structure EnvAt (s : S) (pn pa : Nat) (ws sh : List Str) (N : Str → Int) (A : Str → List Int) : Prop where
  n : ∃ kn, s[pn]? = some (.dic kn) ∧ ∀ w ∈ ws, valD kn (.inr w) = some (.int (N w))
  a : ∃ ka, s[pa]? = some (.dic ka) ∧ ∀ w ∈ sh, ∃ d, valD ka (.inr w) = some d ∧ IsRow s d (A w)
theorem EnvAt.gr {s t : S} {pn pa : Nat} {ws sh : List Str} {N : Str → Int} {A : Str → List Int} (h : EnvAt s pn pa ws sh N A) (g : Gr s t) : EnvAt t pn pa ws sh N A := by
  obtain ⟨⟨kn, e1, h1⟩, ka, e2, h2⟩ := h
  refine ⟨⟨kn, g.keep e1, h1⟩, ka, g.keep e2, fun w hw => ?_⟩
  obtain ⟨d, e, r⟩ := h2 w hw
  exact ⟨d, e, r.gr g⟩
section
variable {s st : S} {pn pa : Nat} {ws sh : List Str} {N : Str → Int} {A : Str → List Int} {Q : D → S → Prop} {d : D} {ns : List Int} {k : Int}
theorem wp_nameA {w : Str} (h : EnvAt s pn pa ws sh N A) (hw : w ∈ ws) (q : Q (.int (N w)) s) : Wp (ixA (.loc pn) (.str w) s) Q := by
  obtain ⟨⟨kn, e1, h1⟩, -⟩ := h
  exact wp_ixAD (getK_d e1) rfl (h1 w hw) q
theorem wp_shelfA {w : Str} (h : EnvAt s pn pa ws sh N A) (hw : w ∈ sh) (q : ∀ d, IsRow s d (A w) → Q d s) : Wp (ixA (.loc pa) (.str w) s) Q := by
  obtain ⟨-, ka, e1, h1⟩ := h
  obtain ⟨d, e, r⟩ := h1 w hw
  exact wp_ixAD (getK_d e1) rfl e (q d r)
theorem zero_wp (h : IsRow st d ns) (hn : ns.length ≤ 1000) (q : ∀ s, Gr st s → Q (.int (nthv ns k)) s) : Wp (F_index_of_zero [d, .int k] st) Q := by
  unfold F_index_of_zero b_index_of_zero
  refine wp_fn rfl ?_
  walk_at "zn"
  refine wp_lenRow h ?_
  walk_at "zy"
  refine ⟨_, rfl, by omega, by omega, ?_⟩
  rw [Int.toNat_natCast]
  refine wp_siftR (fun k => decide (gI ns k = 0)) hn ?_ ?_
  · intro j s j0 j1 g
    refine ⟨_, rfl, ?_, ?_⟩
    · walk_at "zy"
      refine wp_ixRowA (h.gr g) j0 j1 ?_
      walk_at "zy"
      exact ⟨rfl, rfl⟩
    · walk_at "zy"
      exact ⟨rfl, rfl⟩
  intro s g e
  have e : s[st.length]? = some (.lst ((zeros ns).map D.int)) := e
  have q := q s g
  unfold nthv at q
  revert q
  generalize zeros ns = zs at e
  intro q
  have lm : ((zs.map D.int).length : Int) = zs.length := by rw [List.length_map]
  walk_at "zz"
  all_goals (try rw [lm] at *)
  · rename_i a b
    rw [if_pos ⟨a, b⟩] at q
    exact q
  · rw [if_neg (by omega)] at q
    exact q
  · rw [if_neg (by omega)] at q
    exact q
theorem partsT_wp {x : Xp} (hx : ∀ w, x ≠ .nm w) (hn : ∀ n, x ≠ .num n) (q : Q (.tup (x.parts.map Xp.d)) st) : Wp (F_parts_within [x.d] st) Q := by
  unfold F_parts_within b_parts_within
  cases x with
  | num n => exact (hn n rfl).elim
  | nm n => exact (hx n rfl).elim
  | rd a x =>
    simp only [Xp.d, Xp.parts, List.map_cons, List.map_nil] at *
    refine wp_fn rfl ?_
    walk_at "zz"
    exact q
  | op a x y =>
    simp only [Xp.d, Xp.parts, List.map_cons, List.map_nil] at *
    refine wp_fn rfl ?_
    walk_at "zz"
    exact q
  | mn x y =>
    simp only [Xp.d, Xp.parts, List.map_cons, List.map_nil] at *
    refine wp_fn rfl ?_
    walk_at "zz"
    exact q
  | mx x y =>
    simp only [Xp.d, Xp.parts, List.map_cons, List.map_nil] at *
    refine wp_fn rfl ?_
    walk_at "zz"
    exact q
  | nth x =>
    simp only [Xp.d, Xp.parts, List.map_cons, List.map_nil] at *
    refine wp_fn rfl ?_
    walk_at "zz"
    exact q
  | pick x y z =>
    simp only [Xp.d, Xp.parts, List.map_cons, List.map_nil] at *
    refine wp_fn rfl ?_
    walk_at "zz"
    exact q
end
end K01
end
section
set_option Elab.async false
set_option linter.all false
set_option maxRecDepth 100000
set_option maxHeartbeats 2000000
open PySem PySem.Spec PyProof.Rows L2 Z
local macro_rules | `(tactic| fail "zs") => `(tactic| first
  | assumption
  | with_reducible exact at_last
  | (with_reducible apply at_set; fail "zs")
  | (with_reducible apply at_app; fail "zs")
  | (with_reducible apply at_setne; (first | assumption | (apply Ne.symm; assumption) | omega); fail "zs")
  | (with_reducible refine Gr.keep (by assumption) ?_; fail "zs")
  | (with_reducible refine Gx.keep (by assumption) ?_ ?_; (first | assumption | (apply Ne.symm; assumption) | omega); fail "zs"))
local macro_rules | `(tactic| fail "zg") => `(tactic| first
  | assumption
  | (with_reducible apply getL_of; fail "zs")
  | (with_reducible apply getW_of; fail "zs")
  | (with_reducible apply getI_of; fail "zs"))
local macro_rules | `(tactic| fail "za") => `(tactic| first | (with_reducible apply atI_int; (first | assumption | omega); (first | assumption | omega | (simp only [List.length_set]; omega))) | with_unfolding_all exact rfl | assumption)
local macro_rules | `(tactic| fail "y0") => `(tactic| first
  | (with_reducible refine' wp_var ?z1 ?z2; (case z1 => with_unfolding_all exact rfl))
  | with_reducible refine wp_c2 ?_
  | with_reducible refine wp_cons ?_
  | with_reducible refine wp_c ?_
  | with_reducible refine wp_nil ?_
  | with_reducible refine wp_call ?_
  | with_reducible refine wp_c1 ?_)
local macro_rules | `(tactic| fail "y1") => `(tactic| first
  | with_reducible refine wp_set ?_
  | with_reducible refine wp_if ?_
  | with_reducible refine wp_next ?_
  | with_reducible refine wp_ret ?_
  | with_reducible refine af_nx ?_
  | with_reducible refine bk_rt ?_
  | (with_reducible refine' wp_ixL ?z1 ?z2 ?z3; (case z1 => fail "zg"); (case z2 => fail "za"))
  | (with_reducible refine' wp_ixT ?z1 ?z2; (case z1 => fail "za")))
local macro_rules | `(tactic| fail "y2") => `(tactic| first
  | with_reducible refine af_rt ?_
  | with_reducible refine af_bk ?_
  | with_reducible refine bk_nx ?_
  | with_reducible refine turned_nx ?_
  | with_reducible refine turned_bk ?_
  | with_reducible refine turned_rt ?_
  | with_reducible refine wp_and ?_
  | with_reducible refine wp_or ?_)
local macro_rules | `(tactic| fail "y3") => `(tactic| first
  | with_reducible refine wp_not ?_
  | with_reducible refine wp_sub ?_
  | with_reducible refine wp_subA ?_
  | with_reducible refine wp_chain ?_
  | with_reducible refine wp_neAI ?_
  | with_reducible refine wp_neAS ?_
  | with_reducible refine wp_dic0 ?_
  | with_reducible refine wp_drop ?_)
local macro_rules | `(tactic| fail "y4") => `(tactic| first
  | with_reducible refine wp_vK ?_
  | with_reducible refine wp_nox ?_
  | with_reducible refine wp_break ?_
  | with_reducible refine wp_retN ?_
  | with_reducible refine wp_sfld ?_
  | with_reducible refine wp_yes ?_
  | with_reducible refine wp_addI ?_
  | with_reducible refine wp_subI ?_)
local macro_rules | `(tactic| fail "y5") => `(tactic| first
  | with_reducible refine wp_neg ?_
  | with_reducible refine wp_eqI ?_
  | with_reducible refine wp_neI ?_
  | with_reducible refine wp_ltI ?_
  | with_reducible refine wp_leI ?_
  | with_reducible refine wp_gtI ?_
  | with_reducible refine wp_geI ?_
  | with_reducible refine wp_eqS ?_)
local macro_rules | `(tactic| fail "y6") => `(tactic| first
  | with_reducible refine wp_neS ?_
  | with_reducible refine wp_eqB ?_
  | with_reducible refine wp_isN ?_
  | with_reducible refine wp_isNotN ?_
  | with_reducible refine wp_int ?_
  | with_reducible refine wp_max2 ?_
  | with_reducible refine wp_min2 ?_
  | with_reducible refine wp_tr_bl ?_)
local macro_rules | `(tactic| fail "y7") => `(tactic| first
  | with_reducible refine wp_tr_int ?_
  | with_reducible refine wp_tupT ?_
  | with_reducible refine wp_slT ?_
  | with_reducible refine wp_nopart ?_
  | with_reducible refine wp_lst ?_
  | with_reducible refine wp_tup ?_
  | with_reducible refine wp_slice ?_
  | with_reducible refine wp_callK ?_)
local macro_rules | `(tactic| fail "y8") => `(tactic| first
  | with_reducible refine wp_make ?_
  | with_reducible refine wp_meth ?_
  | with_reducible refine wp_is ?_
  | with_reducible refine wp_vand ?_
  | with_reducible refine wp_vor ?_
  | with_reducible refine wp_vnot ?_
  | with_reducible refine wp_asg ?_
  | with_reducible refine wp_part ?_)
local macro_rules | `(tactic| fail "y9") => `(tactic| first
  | with_reducible refine wp_forR1 ?_
  | with_reducible refine wp_forR2 ?_
  | with_reducible refine wp_compR1 ?_
  | with_reducible refine wp_compR2 ?_
  | (with_reducible refine' wp_ixAL ?z1 ?z2 ?z3; (case z1 => fail "zg"); (case z2 => fail "za"))
  | (with_reducible refine' wp_ixAT ?z1 ?z2; (case z1 => fail "za"))
  | (with_reducible refine' and_isL ?z1 ?z2; (case z1 => fail "zg"))
  | (with_reducible refine' wp_append ?z1 ?z2 ?z3; (case z1 => fail "zg"); (case z2 => first | omega | (simp only [List.length_map, List.length_append, List.length_cons, List.length_nil]; omega))))
local macro_rules | `(tactic| fail "y10") => `(tactic| first
  | (with_reducible refine' wp_lenL ?z1 ?z2; (case z1 => fail "zg"))
  | with_reducible refine wp_lenT ?_
  | (with_reducible refine' wp_lenAL ?z1 ?z2; (case z1 => fail "zg"))
  | with_reducible refine wp_lenAT ?_
  | (with_reducible refine' wp_listL ?z1 ?z2; (case z1 => fail "zg"))
  | with_reducible refine wp_listT ?_
  | with_reducible refine ex_bl ?_
  | (with_reducible refine' ex_ty ?z1 ?z2 ?z3; (case z1 => with_unfolding_all exact rfl); (case z2 => with_unfolding_all exact rfl)))
local macro_rules | `(tactic| fail "y11") => `(tactic| first
  | (with_reducible refine' wp_mulT ?z1 ?z2 ?z3; (case z1 => omega); (case z2 => omega))
  | (with_reducible refine' wp_setF ?z1 ?z2 ?z3; (case z1 => fail "zg"); (case z2 => with_unfolding_all exact Nat.le_of_ble_eq_true rfl))
  | (with_reducible refine' wp_setInt ?z1 ?z2 ?z3 ?z4; (case z1 => fail "zg"); (case z2 => first | assumption | omega); (case z3 => first | assumption | omega | (simp only [List.length_set]; omega)))
  | (with_reducible refine' wp_setIx ?z1 ?z2 ?z3; (case z1 => fail "zg"); (case z2 => first | (with_reducible apply ixN_of; (first | assumption | omega); (first | assumption | omega | (rw [List.length_map]; omega))) | with_unfolding_all exact rfl | assumption))
  | (with_reducible refine' wp_setAI ?z1 ?z2 ?z3 ?z4; (case z1 => fail "zg"); (case z2 => first | assumption | omega); (case z3 => first | assumption | omega | (simp only [List.length_set]; omega)))
  | (with_reducible refine' wp_setAX ?z1 ?z2 ?z3; (case z1 => fail "zg"); (case z2 => first | (with_reducible apply ixN_of; (first | assumption | omega); (first | assumption | omega | (rw [List.length_map]; omega))) | with_unfolding_all exact rfl | assumption))
  | (with_reducible refine' wp_modI ?z1 ?z2; (case z1 => omega))
  | (with_reducible refine' wp_divA0 ?z1 ?z2 ?z3; (case z1 => omega); (case z2 => omega)))
local macro_rules | `(tactic| fail "y12") => `(tactic| first
  | (with_reducible refine' wp_mulA ?z1 ?z2; (case z1 => omega))
  | (with_reducible refine' wp_divI ?z1 ?z2 ?z3; (case z1 => omega); (case z2 => omega))
  | (with_reducible refine' wp_mulI ?z1 ?z2; (case z1 => omega))
  | (with_reducible refine' wp_powI ?z1 ?z2; (case z1 => with_unfolding_all decide))
  | (with_reducible refine' wp_fld ?z1 ?z2 ?z3; (case z1 => fail "zg"); (case z2 => first | with_unfolding_all exact rfl | assumption))
  | (with_reducible refine' wp_prop ?z1 ?z2; (case z1 => fail "zg"))
  | (with_reducible refine' wp_tupL ?z1 ?z2; (case z1 => fail "zg"))
  | (with_reducible refine' And.intro ?z1 ?z2; (case z1 => first | with_unfolding_all exact Nat.le_of_ble_eq_true rfl | with_unfolding_all decide)))
local macro_rules | `(tactic| fail "z0") => `(tactic| first | fail "y0" | fail "y1" | fail "y2" | fail "y3" | fail "y4" | fail "y5" | fail "y6" | fail "y7" | fail "y8" | fail "y9" | fail "y10" | fail "y11" | fail "y12")
local macro_rules | `(tactic| fail "z1") => `(tactic| first | with_reducible refine wp_seq ?_ | fail "z0")
local macro_rules | `(tactic| walk_at "z") => `(tactic| (repeat fail "z1"))
local macro_rules | `(tactic| fail "zb") => `(tactic| (with_reducible refine And.intro ?_ ?_; (all_goals (intro hb; first | (simp at hb; done) | (simp at hb; skip) | skip))))
local macro_rules | `(tactic| walk_at "zz") => `(tactic| (repeat' (first | fail "z1" | fail "zb")))
local macro_rules | `(tactic| walk_at "zy") => `(tactic| (repeat' (first | fail "z0" | fail "zb")))
local macro_rules | `(tactic| walk_at "zn") => `(tactic| (with_reducible refine wp_seq ?_; walk_at "zy"))
local macro_rules | `(tactic| walk_at "zs") => `(tactic| fail "zs")
local macro_rules | `(tactic| walk_at "zg") => `(tactic| fail "zg")
local macro_rules | `(tactic| walk_at "za") => `(tactic| fail "za")
local macro_rules | `(tactic| walk_at "z0") => `(tactic| fail "z0")
local macro_rules | `(tactic| walk_at "z1") => `(tactic| fail "z1")
local macro_rules | `(tactic| walk_at "zb") => `(tactic| fail "zb")
namespace K01
open PySem PySem.Spec PyProof.Rows L2 Z
local macro_rules | `(tactic| fail "zb") => `(tactic| (with_reducible refine And.intro ?_ ?_; (all_goals (intro hb; first | (exact absurd hb (by decide)) | (simp at hb; done) | (simp only [decide_eq_true_eq, decide_eq_false_iff_not, Bool.not_eq_true', Bool.not_eq_false'] at hb; skip) | skip))))
section
variable {s st : S} {pn pa : Nat} {ws sh : List Str} {N : Str → Int} {A : Str → List Int} {Q QD : D → S → Prop} {es : Ev}
def ValR (R : List D → S → R D) (pn pa : Nat) (ws sh : List Str) (N : Str → Int) (A : Str → List Int) (x : Xp) : Prop := ∀ (s : S) (Q : D → S → Prop), EnvAt s pn pa ws sh N A → (∀ t, Gr s t → Q (.int (ev N A x)) t) → Wp (R [x.d, .loc pn, .loc pa] s) Q
theorem compX_wp {R : List D → S → R D} {x : Xp} {v3 v4 v5 : Option D} (hx : ∀ w, x ≠ .nm w) (hn : ∀ n, x ≠ .num n) (ih : ∀ p ∈ x.parts, ValR R pn pa ws sh N A p) (E : EnvAt st pn pa ws sh N A) (q : ∀ s, Gr st s → s[st.length]? = some (.lst ((x.parts.map (ev N A)).map D.int)) → QD (.loc st.length) s) : Wp (cComp (cCall (cCons (cVar 0) cNil) F_parts_within) (setN 5) [5] cYes (cCall (cCons (cVar 5) (cCons (cVar 1) (cCons (cVar 2) cNil))) R) [some x.d, some (.loc pn), some (.loc pa), v3, v4, v5] st) QD := by
  refine wp_comp_tup (xs := x.parts.map Xp.d) ?_
  walk_at "zy"
  refine partsT_wp hx hn ⟨rfl, ?_⟩
  refine wp_valsX Xp.d (ev N A) (by cases x <;> simp [Xp.parts]) ?_ ?_
  · intro p s hp g
    refine ⟨_, rfl, ?_⟩
    walk_at "zy"
    refine ih p hp s _ (E.gr g) ?_
    intro t gt
    exact ⟨gt, rfl⟩
  · exact fun s g e => q s g e
theorem value_ih (M : Mem ws sh N A) : ∀ (n : Nat) (x : Xp), x.dep ≤ n → x.ok ws sh → ValR (R_value_of n) pn pa ws sh N A x
  | 0, x, h, _ => by cases x <;> simp [Xp.dep] at h
  | n + 1, x, h, o => by
    intro s Q E q
    have ih : ∀ p ∈ x.parts, p.ok ws sh → ValR (R_value_of n) pn pa ws sh N A p := fun p hp po => value_ih M n p (by have := part_dep hp; omega) po
    show Wp (fnD 6 3 (b_value_of (R_value_of n)) [x.d, .loc pn, .loc pa] s) Q
    revert ih
    generalize R_value_of n = R1
    intro ih
    unfold b_value_of
    refine wp_fn rfl ?_
    cases x with
    | num a =>
      simp only [Xp.d]
      walk_at "zz"
      exact q s Gr.refl
    | nm w =>
      simp only [Xp.d]
      walk_at "zz"
      refine wp_nameA E o ?_
      walk_at "zz"
      exact q s Gr.refl
    | rd a x =>
      have ep : (Xp.rd a x).parts = [x] := rfl
      have ed : (Xp.rd a x).d = .tup [.str "read", .str a, x.d] := rfl
      rw [ed]
      walk_at "zz"
      rw [← ed]
      refine compX_wp (x := .rd a x) (fun w h => nomatch h) (fun w h => nomatch h) (fun p hp => ih p hp (by rw [ep] at hp; rw [List.mem_singleton.mp hp]; exact o.2)) E ?_
      intro s1 g1 e1
      rw [ep] at e1
      simp only [List.map_cons, List.map_nil] at e1
      rw [ed]
      walk_at "zz"
      refine wp_shelfA (E.gr g1) o.1 ?_
      intro d hd
      walk_at "zz"
      refine read_wp hd ?_
      walk_at "zz"
      exact q s1 g1
    | op a x y =>
      have ep : (Xp.op a x y).parts = [x, y] := rfl
      have ed : (Xp.op a x y).d = .tup [.str "op", .str a, x.d, y.d] := rfl
      have ox := ev_sm M x o.1
      have oy := ev_sm M y o.2
      rw [ed]
      walk_at "zz"
      rw [← ed]
      refine compX_wp (x := .op a x y) (fun w h => nomatch h) (fun w h => nomatch h) (fun p hp => ih p hp (by
        rw [ep] at hp
        rcases List.mem_cons.mp hp with rfl | hp
        · exact o.1
        · rw [List.mem_singleton.mp hp]
          exact o.2)) E ?_
      intro s1 g1 e1
      rw [ep] at e1
      simp only [List.map_cons, List.map_nil] at e1
      rw [ed]
      walk_at "zz"
      refine op_wp ox oy ?_
      walk_at "zz"
      exact q s1 g1
    | mn x y =>
      have ep : (Xp.mn x y).parts = [x, y] := rfl
      have ed : (Xp.mn x y).d = .tup [.str "call", .str "min", .tup [x.d, y.d]] := rfl
      rw [ed]
      walk_at "zz"
      rw [← ed]
      refine compX_wp (x := .mn x y) (fun w h => nomatch h) (fun w h => nomatch h) (fun p hp => ih p hp (by
        rw [ep] at hp
        rcases List.mem_cons.mp hp with rfl | hp
        · exact o.1
        · rw [List.mem_singleton.mp hp]
          exact o.2)) E ?_
      intro s1 g1 e1
      rw [ep] at e1
      simp only [List.map_cons, List.map_nil] at e1
      rw [ed]
      walk_at "zz"
      unfold F_value_of_call b_value_of_call
      refine wp_fn rfl ?_
      walk_at "zz"
      exact q s1 g1
    | mx x y =>
      have ep : (Xp.mx x y).parts = [x, y] := rfl
      have ed : (Xp.mx x y).d = .tup [.str "call", .str "max", .tup [x.d, y.d]] := rfl
      rw [ed]
      walk_at "zz"
      rw [← ed]
      refine compX_wp (x := .mx x y) (fun w h => nomatch h) (fun w h => nomatch h) (fun p hp => ih p hp (by
        rw [ep] at hp
        rcases List.mem_cons.mp hp with rfl | hp
        · exact o.1
        · rw [List.mem_singleton.mp hp]
          exact o.2)) E ?_
      intro s1 g1 e1
      rw [ep] at e1
      simp only [List.map_cons, List.map_nil] at e1
      rw [ed]
      walk_at "zz"
      unfold F_value_of_call b_value_of_call
      refine wp_fn rfl ?_
      walk_at "zz"
      exact q s1 g1
    | nth x =>
      have ep : (Xp.nth x).parts = [x] := rfl
      have ed : (Xp.nth x).d = .tup [.str "call", .str "nth", .tup [x.d]] := rfl
      rw [ed]
      walk_at "zz"
      rw [← ed]
      refine compX_wp (x := .nth x) (fun w h => nomatch h) (fun w h => nomatch h) (fun p hp => ih p hp (by
        rw [ep] at hp
        rw [List.mem_singleton.mp hp]
        exact o.2)) E ?_
      intro s1 g1 e1
      rw [ep] at e1
      simp only [List.map_cons, List.map_nil] at e1
      rw [ed]
      walk_at "zz"
      unfold F_value_of_call b_value_of_call
      refine wp_fn rfl ?_
      walk_at "zz"
      refine wp_shelfA (E.gr g1) o.1 ?_
      intro d hd
      walk_at "zz"
      refine zero_wp hd (M.a _ o.1).1 ?_
      intro s2 g2
      walk_at "zz"
      exact q s2 (g1.trans g2)
    | pick x y z =>
      have ep : (Xp.pick x y z).parts = [x, y, z] := rfl
      have ed : (Xp.pick x y z).d = .tup [.str "call", .str "pick", .tup [x.d, y.d, z.d]] := rfl
      rw [ed]
      walk_at "zz"
      rw [← ed]
      refine compX_wp (x := .pick x y z) (fun w h => nomatch h) (fun w h => nomatch h) (fun p hp => ih p hp (by
        rw [ep] at hp
        rcases List.mem_cons.mp hp with rfl | hp
        · exact o.1
        rcases List.mem_cons.mp hp with rfl | hp
        · exact o.2.1
        · rw [List.mem_singleton.mp hp]
          exact o.2.2)) E ?_
      intro s1 g1 e1
      rw [ep] at e1
      simp only [List.map_cons, List.map_nil] at e1
      have q := q s1 g1
      unfold ev at q
      rw [ed]
      walk_at "zz"
      unfold F_value_of_call b_value_of_call
      refine wp_fn rfl ?_
      walk_at "zz"
      · rename_i hb
        rw [if_pos hb] at q
        exact q
      · rename_i hb
        rw [if_neg (by omega)] at q
        exact q
end
end K01
end
section
set_option Elab.async false
set_option linter.all false
set_option maxRecDepth 100000
set_option maxHeartbeats 2000000
open PySem PySem.Spec PyProof.Rows L2 Z
local macro_rules | `(tactic| fail "zs") => `(tactic| first
  | assumption
  | with_reducible exact at_last
  | (with_reducible apply at_set; fail "zs")
  | (with_reducible apply at_app; fail "zs")
  | (with_reducible apply at_setne; (first | assumption | (apply Ne.symm; assumption) | omega); fail "zs")
  | (with_reducible refine Gr.keep (by assumption) ?_; fail "zs")
  | (with_reducible refine Gx.keep (by assumption) ?_ ?_; (first | assumption | (apply Ne.symm; assumption) | omega); fail "zs"))
local macro_rules | `(tactic| fail "zg") => `(tactic| first
  | assumption
  | (with_reducible apply getL_of; fail "zs")
  | (with_reducible apply getW_of; fail "zs")
  | (with_reducible apply getI_of; fail "zs"))
local macro_rules | `(tactic| fail "za") => `(tactic| first | (with_reducible apply atI_int; (first | assumption | omega); (first | assumption | omega | (simp only [List.length_set]; omega))) | with_unfolding_all exact rfl | assumption)
local macro_rules | `(tactic| fail "y0") => `(tactic| first
  | (with_reducible refine' wp_var ?z1 ?z2; (case z1 => with_unfolding_all exact rfl))
  | with_reducible refine wp_c2 ?_
  | with_reducible refine wp_cons ?_
  | with_reducible refine wp_c ?_
  | with_reducible refine wp_nil ?_
  | with_reducible refine wp_call ?_
  | with_reducible refine wp_c1 ?_)
local macro_rules | `(tactic| fail "y1") => `(tactic| first
  | with_reducible refine wp_set ?_
  | with_reducible refine wp_if ?_
  | with_reducible refine wp_next ?_
  | with_reducible refine wp_ret ?_
  | with_reducible refine af_nx ?_
  | with_reducible refine bk_rt ?_
  | (with_reducible refine' wp_ixL ?z1 ?z2 ?z3; (case z1 => fail "zg"); (case z2 => fail "za"))
  | (with_reducible refine' wp_ixT ?z1 ?z2; (case z1 => fail "za")))
local macro_rules | `(tactic| fail "y2") => `(tactic| first
  | with_reducible refine af_rt ?_
  | with_reducible refine af_bk ?_
  | with_reducible refine bk_nx ?_
  | with_reducible refine turned_nx ?_
  | with_reducible refine turned_bk ?_
  | with_reducible refine turned_rt ?_
  | with_reducible refine wp_and ?_
  | with_reducible refine wp_or ?_)
local macro_rules | `(tactic| fail "y3") => `(tactic| first
  | with_reducible refine wp_not ?_
  | with_reducible refine wp_sub ?_
  | with_reducible refine wp_subA ?_
  | with_reducible refine wp_chain ?_
  | with_reducible refine wp_neAI ?_
  | with_reducible refine wp_neAS ?_
  | with_reducible refine wp_dic0 ?_
  | with_reducible refine wp_drop ?_)
local macro_rules | `(tactic| fail "y4") => `(tactic| first
  | with_reducible refine wp_vK ?_
  | with_reducible refine wp_nox ?_
  | with_reducible refine wp_break ?_
  | with_reducible refine wp_retN ?_
  | with_reducible refine wp_sfld ?_
  | with_reducible refine wp_yes ?_
  | with_reducible refine wp_addI ?_
  | with_reducible refine wp_subI ?_)
local macro_rules | `(tactic| fail "y5") => `(tactic| first
  | with_reducible refine wp_neg ?_
  | with_reducible refine wp_eqI ?_
  | with_reducible refine wp_neI ?_
  | with_reducible refine wp_ltI ?_
  | with_reducible refine wp_leI ?_
  | with_reducible refine wp_gtI ?_
  | with_reducible refine wp_geI ?_
  | with_reducible refine wp_eqS ?_)
local macro_rules | `(tactic| fail "y6") => `(tactic| first
  | with_reducible refine wp_neS ?_
  | with_reducible refine wp_eqB ?_
  | with_reducible refine wp_isN ?_
  | with_reducible refine wp_isNotN ?_
  | with_reducible refine wp_int ?_
  | with_reducible refine wp_max2 ?_
  | with_reducible refine wp_min2 ?_
  | with_reducible refine wp_tr_bl ?_)
local macro_rules | `(tactic| fail "y7") => `(tactic| first
  | with_reducible refine wp_tr_int ?_
  | with_reducible refine wp_tupT ?_
  | with_reducible refine wp_slT ?_
  | with_reducible refine wp_nopart ?_
  | with_reducible refine wp_lst ?_
  | with_reducible refine wp_tup ?_
  | with_reducible refine wp_slice ?_
  | with_reducible refine wp_callK ?_)
local macro_rules | `(tactic| fail "y8") => `(tactic| first
  | with_reducible refine wp_make ?_
  | with_reducible refine wp_meth ?_
  | with_reducible refine wp_is ?_
  | with_reducible refine wp_vand ?_
  | with_reducible refine wp_vor ?_
  | with_reducible refine wp_vnot ?_
  | with_reducible refine wp_asg ?_
  | with_reducible refine wp_part ?_)
local macro_rules | `(tactic| fail "y9") => `(tactic| first
  | with_reducible refine wp_forR1 ?_
  | with_reducible refine wp_forR2 ?_
  | with_reducible refine wp_compR1 ?_
  | with_reducible refine wp_compR2 ?_
  | (with_reducible refine' wp_ixAL ?z1 ?z2 ?z3; (case z1 => fail "zg"); (case z2 => fail "za"))
  | (with_reducible refine' wp_ixAT ?z1 ?z2; (case z1 => fail "za"))
  | (with_reducible refine' and_isL ?z1 ?z2; (case z1 => fail "zg"))
  | (with_reducible refine' wp_append ?z1 ?z2 ?z3; (case z1 => fail "zg"); (case z2 => first | omega | (simp only [List.length_map, List.length_append, List.length_cons, List.length_nil]; omega))))
local macro_rules | `(tactic| fail "y10") => `(tactic| first
  | (with_reducible refine' wp_lenL ?z1 ?z2; (case z1 => fail "zg"))
  | with_reducible refine wp_lenT ?_
  | (with_reducible refine' wp_lenAL ?z1 ?z2; (case z1 => fail "zg"))
  | with_reducible refine wp_lenAT ?_
  | (with_reducible refine' wp_listL ?z1 ?z2; (case z1 => fail "zg"))
  | with_reducible refine wp_listT ?_
  | with_reducible refine ex_bl ?_
  | (with_reducible refine' ex_ty ?z1 ?z2 ?z3; (case z1 => with_unfolding_all exact rfl); (case z2 => with_unfolding_all exact rfl)))
local macro_rules | `(tactic| fail "y11") => `(tactic| first
  | (with_reducible refine' wp_mulT ?z1 ?z2 ?z3; (case z1 => omega); (case z2 => omega))
  | (with_reducible refine' wp_setF ?z1 ?z2 ?z3; (case z1 => fail "zg"); (case z2 => with_unfolding_all exact Nat.le_of_ble_eq_true rfl))
  | (with_reducible refine' wp_setInt ?z1 ?z2 ?z3 ?z4; (case z1 => fail "zg"); (case z2 => first | assumption | omega); (case z3 => first | assumption | omega | (simp only [List.length_set]; omega)))
  | (with_reducible refine' wp_setIx ?z1 ?z2 ?z3; (case z1 => fail "zg"); (case z2 => first | (with_reducible apply ixN_of; (first | assumption | omega); (first | assumption | omega | (rw [List.length_map]; omega))) | with_unfolding_all exact rfl | assumption))
  | (with_reducible refine' wp_setAI ?z1 ?z2 ?z3 ?z4; (case z1 => fail "zg"); (case z2 => first | assumption | omega); (case z3 => first | assumption | omega | (simp only [List.length_set]; omega)))
  | (with_reducible refine' wp_setAX ?z1 ?z2 ?z3; (case z1 => fail "zg"); (case z2 => first | (with_reducible apply ixN_of; (first | assumption | omega); (first | assumption | omega | (rw [List.length_map]; omega))) | with_unfolding_all exact rfl | assumption))
  | (with_reducible refine' wp_modI ?z1 ?z2; (case z1 => omega))
  | (with_reducible refine' wp_divA0 ?z1 ?z2 ?z3; (case z1 => omega); (case z2 => omega)))
local macro_rules | `(tactic| fail "y12") => `(tactic| first
  | (with_reducible refine' wp_mulA ?z1 ?z2; (case z1 => omega))
  | (with_reducible refine' wp_divI ?z1 ?z2 ?z3; (case z1 => omega); (case z2 => omega))
  | (with_reducible refine' wp_mulI ?z1 ?z2; (case z1 => omega))
  | (with_reducible refine' wp_powI ?z1 ?z2; (case z1 => with_unfolding_all decide))
  | (with_reducible refine' wp_fld ?z1 ?z2 ?z3; (case z1 => fail "zg"); (case z2 => first | with_unfolding_all exact rfl | assumption))
  | (with_reducible refine' wp_prop ?z1 ?z2; (case z1 => fail "zg"))
  | (with_reducible refine' wp_tupL ?z1 ?z2; (case z1 => fail "zg"))
  | (with_reducible refine' And.intro ?z1 ?z2; (case z1 => first | with_unfolding_all exact Nat.le_of_ble_eq_true rfl | with_unfolding_all decide)))
local macro_rules | `(tactic| fail "z0") => `(tactic| first | fail "y0" | fail "y1" | fail "y2" | fail "y3" | fail "y4" | fail "y5" | fail "y6" | fail "y7" | fail "y8" | fail "y9" | fail "y10" | fail "y11" | fail "y12")
local macro_rules | `(tactic| fail "z1") => `(tactic| first | with_reducible refine wp_seq ?_ | fail "z0")
local macro_rules | `(tactic| walk_at "z") => `(tactic| (repeat fail "z1"))
local macro_rules | `(tactic| fail "zb") => `(tactic| (with_reducible refine And.intro ?_ ?_; (all_goals (intro hb; first | (simp at hb; done) | (simp at hb; skip) | skip))))
local macro_rules | `(tactic| walk_at "zz") => `(tactic| (repeat' (first | fail "z1" | fail "zb")))
local macro_rules | `(tactic| walk_at "zy") => `(tactic| (repeat' (first | fail "z0" | fail "zb")))
local macro_rules | `(tactic| walk_at "zn") => `(tactic| (with_reducible refine wp_seq ?_; walk_at "zy"))
local macro_rules | `(tactic| walk_at "zs") => `(tactic| fail "zs")
local macro_rules | `(tactic| walk_at "zg") => `(tactic| fail "zg")
local macro_rules | `(tactic| walk_at "za") => `(tactic| fail "za")
local macro_rules | `(tactic| walk_at "z0") => `(tactic| fail "z0")
local macro_rules | `(tactic| walk_at "z1") => `(tactic| fail "z1")
local macro_rules | `(tactic| walk_at "zb") => `(tactic| fail "zb")
namespace K01
open PySem PySem.Spec PyProof.Rows L2 Z
local macro_rules | `(tactic| fail "zb") => `(tactic| (with_reducible refine And.intro ?_ ?_; (all_goals (intro hb; first | (exact absurd hb (by decide)) | (simp at hb; done) | (simp only [decide_eq_true_eq, decide_eq_false_iff_not, Bool.not_eq_true', Bool.not_eq_false'] at hb; skip) | skip))))
theorem p12 : (10 : Int) ^ (Int.toNat 12) = 1000000000000 := by decide
theorem p6 : (10 : Int) ^ (Int.toNat 6) = 1000000 := by decide
section
variable {s st : S} {pn pa : Nat} {ws sh : List Str} {N : Str → Int} {A : Str → List Int} {Q QD : D → S → Prop} {es : Ev} {l r n : Int}
theorem lclip_wp (q : Q (.int (clipI n)) st) : Wp (F_law_clip [.int n] st) Q := by
  unfold F_law_clip b_law_clip
  unfold clipI big at q
  refine wp_fn rfl ?_
  walk_at "zz"
  simp only [p12]
  have e : ∀ a b : Int, a = b → Q (.int a) st → Q (.int b) st := fun a b e h => e ▸ h
  refine e _ _ ?_ q
  by_cases h1 : n > 1000000000000
  · rw [if_pos h1, if_neg (show ¬ n < 1000000000000 by omega), if_pos (by omega)]
  · rw [if_neg h1]
    by_cases h2 : n < 1000000000000
    · rw [if_pos h2]
      by_cases h3 : n < -1000000000000
      · rw [if_pos h3, if_neg (by omega)]
        rfl
      · rw [if_neg h3]
        by_cases h4 : n > 0 - 1000000000000
        · rw [if_pos h4]
        · rw [if_neg h4]
          omega
    · rw [if_neg h2, if_neg (by omega), if_pos (by omega)]
      omega
theorem sign_wp {s : Str} (hl : Sm l) (hr : Sm r) (q : Q (.int (opv s l r)) st) : Wp (F_law_sign_value [.str s, .int l, .int r] st) Q := by
  have hl2 := hl
  have hr2 := hr
  unfold Sm big at hl2 hr2
  unfold F_law_sign_value b_law_sign_value
  unfold opv at q
  refine wp_fn rfl ?_
  walk_at "zz"
  · rename_i hb
    refine lclip_wp ?_
    walk_at "zz"
    rw [if_pos hb] at q
    exact q
  · rename_i h1 hb
    refine lclip_wp ?_
    walk_at "zz"
    rw [if_neg h1, if_pos hb] at q
    exact q
  · rename_i h1 h2 hb
    refine lclip_wp ?_
    walk_at "zz"
    rw [if_neg h1, if_neg h2, if_pos hb] at q
    exact q
  all_goals (first
    | (refine wp_divA (by omega) (by omega) ?_; walk_at "zz"; skip)
    | (refine int_bl ?_; walk_at "zz"; skip)
    | skip)
  all_goals ((repeat' (split at q)) <;> first | contradiction | exact q)
theorem lvalue_ih (M : Mem ws sh N A) : ∀ (n : Nat) (x : Xp), x.dep ≤ n → x.ok ws sh → ValR (R_law_value n) pn pa ws sh N A x
  | 0, x, h, _ => by cases x <;> simp [Xp.dep] at h
  | n + 1, x, h, o => by
    intro s Q E q
    have ih : ∀ p ∈ x.parts, p.ok ws sh → ValR (R_law_value n) pn pa ws sh N A p := fun p hp po => lvalue_ih M n p (by have := part_dep hp; omega) po
    show Wp (fnD 9 3 (b_law_value (R_law_value n)) [x.d, .loc pn, .loc pa] s) Q
    revert ih
    generalize R_law_value n = R1
    intro ih
    unfold b_law_value
    refine wp_fn rfl ?_
    cases x with
    | num a =>
      simp only [Xp.d]
      walk_at "zz"
      exact q s Gr.refl
    | nm w =>
      simp only [Xp.d]
      walk_at "zz"
      refine wp_nameA E o ?_
      walk_at "zz"
      exact q s Gr.refl
    | rd a x =>
      have ed : (Xp.rd a x).d = .tup [.str "read", .str a, x.d] := rfl
      rw [ed]
      have q := fun s g => q s g
      unfold ev at q
      unfold rdv at q
      walk_at "zz"
      refine ih x (List.mem_singleton.mpr rfl) o.2 _ _ E ?_
      intro s1 g1
      have q := q s1 g1
      walk_at "zz"
      refine wp_shelfA (E.gr g1) o.1 ?_
      intro d hd
      walk_at "zz"
      · refine wp_lenRow hd ?_
        walk_at "zz"
        · refine wp_ixRowA hd (by assumption) (by assumption) ?_
          walk_at "zz"
          rw [if_pos (by omega)] at q
          exact q
        · rw [if_neg (by omega)] at q
          exact q
      · rw [if_neg (by omega)] at q
        exact q
    | op a x y =>
      have ed : (Xp.op a x y).d = .tup [.str "op", .str a, x.d, y.d] := rfl
      have ox := ev_sm M x o.1
      have oy := ev_sm M y o.2
      rw [ed]
      walk_at "zz"
      refine ih x (List.mem_cons_self ..) o.1 _ _ E ?_
      intro s1 g1
      walk_at "zz"
      refine ih y (List.mem_cons_of_mem _ (List.mem_singleton.mpr rfl)) o.2 _ _ (E.gr g1) ?_
      intro s2 g2
      walk_at "zz"
      refine sign_wp ox oy ?_
      walk_at "zz"
      exact q s2 (g1.trans g2)
    | mn x y =>
      have ed : (Xp.mn x y).d = .tup [.str "call", .str "min", .tup ((Xp.mn x y).parts.map Xp.d)] := rfl
      have ep : (Xp.mn x y).parts = [x, y] := rfl
      rw [ed]
      walk_at "zz"
      refine wp_comp_tup (xs := (Xp.mn x y).parts.map Xp.d) ?_
      walk_at "zy"
      refine ⟨rfl, ?_⟩
      refine wp_valsX Xp.d (ev N A) (by rw [ep]; simp) ?_ ?_
      · intro p s2 hp g
        refine ⟨_, rfl, ?_⟩
        walk_at "zy"
        exact ih p hp (by
          rw [ep] at hp
          rcases List.mem_cons.mp hp with rfl | hp
          · exact o.1
          · rw [List.mem_singleton.mp hp]
            exact o.2) s2 _ (E.gr g) (fun t gt => ⟨gt, rfl⟩)
      intro s1 g1 e1
      rw [ep] at e1
      simp only [List.map_cons, List.map_nil] at e1
      walk_at "zz"
      exact q s1 g1
    | mx x y =>
      have ed : (Xp.mx x y).d = .tup [.str "call", .str "max", .tup ((Xp.mx x y).parts.map Xp.d)] := rfl
      have ep : (Xp.mx x y).parts = [x, y] := rfl
      rw [ed]
      walk_at "zz"
      refine wp_comp_tup (xs := (Xp.mx x y).parts.map Xp.d) ?_
      walk_at "zy"
      refine ⟨rfl, ?_⟩
      refine wp_valsX Xp.d (ev N A) (by rw [ep]; simp) ?_ ?_
      · intro p s2 hp g
        refine ⟨_, rfl, ?_⟩
        walk_at "zy"
        exact ih p hp (by
          rw [ep] at hp
          rcases List.mem_cons.mp hp with rfl | hp
          · exact o.1
          · rw [List.mem_singleton.mp hp]
            exact o.2) s2 _ (E.gr g) (fun t gt => ⟨gt, rfl⟩)
      intro s1 g1 e1
      rw [ep] at e1
      simp only [List.map_cons, List.map_nil] at e1
      walk_at "zz"
      exact q s1 g1
    | nth x =>
      have ed : (Xp.nth x).d = .tup [.str "call", .str "nth", .tup ((Xp.nth x).parts.map Xp.d)] := rfl
      have ep : (Xp.nth x).parts = [x] := rfl
      rw [ed]
      walk_at "zz"
      refine wp_comp_tup (xs := (Xp.nth x).parts.map Xp.d) ?_
      walk_at "zy"
      refine ⟨rfl, ?_⟩
      refine wp_valsX Xp.d (ev N A) (by rw [ep]; simp) ?_ ?_
      · intro p s2 hp g
        refine ⟨_, rfl, ?_⟩
        walk_at "zy"
        exact ih p hp (by
          rw [ep] at hp
          rw [List.mem_singleton.mp hp]
          exact o.2) s2 _ (E.gr g) (fun t gt => ⟨gt, rfl⟩)
      intro s1 g1 e1
      rw [ep] at e1
      simp only [List.map_cons, List.map_nil] at e1
      have lp := (M.a _ o.1).1
      have q := fun s g => q s g
      unfold ev at q
      unfold nthv at q
      walk_at "zz"
      refine wp_shelfA (E.gr g1) o.1 ?_
      intro d hd
      walk_at "zy"
      refine wp_lenRow hd ?_
      walk_at "zy"
      refine ⟨_, rfl, by omega, by omega, ?_⟩
      rw [Int.toNat_natCast]
      refine wp_siftR (fun k => decide (gI (A "place") k = 0)) lp ?_ ?_
      · intro j s2 j0 j1 g
        refine ⟨_, rfl, ?_, ?_⟩
        · walk_at "zy"
          refine wp_shelfA ((E.gr g1).gr g) o.1 ?_
          intro d hd
          refine wp_ixRowA hd j0 j1 ?_
          walk_at "zy"
          exact ⟨rfl, rfl⟩
        · walk_at "zy"
          exact ⟨rfl, rfl⟩
      intro s2 g2 e2
      have e2 : s2[s1.length]? = some (.lst ((zeros (A "place")).map D.int)) := e2
      have q := q s2 (g1.trans g2)
      have e3 := g2.keep e1
      revert q
      generalize zeros (A "place") = zs at e2
      intro q
      have lm : ((zs.map D.int).length : Int) = zs.length := by rw [List.length_map]
      walk_at "zz"
      all_goals (try rw [lm] at *)
      · rename_i a b
        rw [if_pos ⟨a, b⟩] at q
        exact q
      · rw [if_neg (by omega)] at q
        exact q
      · rw [if_neg (by omega)] at q
        exact q
    | pick x y z =>
      have ed : (Xp.pick x y z).d = .tup [.str "call", .str "pick", .tup ((Xp.pick x y z).parts.map Xp.d)] := rfl
      have ep : (Xp.pick x y z).parts = [x, y, z] := rfl
      rw [ed]
      walk_at "zz"
      refine wp_comp_tup (xs := (Xp.pick x y z).parts.map Xp.d) ?_
      walk_at "zy"
      refine ⟨rfl, ?_⟩
      refine wp_valsX Xp.d (ev N A) (by rw [ep]; simp) ?_ ?_
      · intro p s2 hp g
        refine ⟨_, rfl, ?_⟩
        walk_at "zy"
        exact ih p hp (by
          rw [ep] at hp
          rcases List.mem_cons.mp hp with rfl | hp
          · exact o.1
          rcases List.mem_cons.mp hp with rfl | hp
          · exact o.2.1
          · rw [List.mem_singleton.mp hp]
            exact o.2.2) s2 _ (E.gr g) (fun t gt => ⟨gt, rfl⟩)
      intro s1 g1 e1
      rw [ep] at e1
      simp only [List.map_cons, List.map_nil] at e1
      have q := fun s g => q s g
      unfold ev at q
      walk_at "zz"
      refine int_bl ?_
      have e : ∀ a b : Int, atI [D.int a, .int b] (bi (!decide (ev N A x = 0))) = some (.int (if ev N A x ≠ 0 then b else a)) := by
        intro a b
        by_cases h : ev N A x = 0
        · rw [if_neg (by omega)]
          simp only [h, decide_true]
          rfl
        · rw [if_pos h]
          simp only [h, decide_false]
          rfl
      refine wp_ixAL (getL_of at_last) (e _ _) ?_
      walk_at "zz"
      exact q _ (g1.trans Gr.app)
end
end K01
end
section
set_option Elab.async false
set_option linter.all false
set_option maxRecDepth 100000
set_option maxHeartbeats 2000000
open PySem PySem.Spec PyProof.Rows L2 Z
local macro_rules | `(tactic| fail "zs") => `(tactic| first
  | assumption
  | with_reducible exact at_last
  | (with_reducible apply at_set; fail "zs")
  | (with_reducible apply at_app; fail "zs")
  | (with_reducible apply at_setne; (first | assumption | (apply Ne.symm; assumption) | omega); fail "zs")
  | (with_reducible refine Gr.keep (by assumption) ?_; fail "zs")
  | (with_reducible refine Gx.keep (by assumption) ?_ ?_; (first | assumption | (apply Ne.symm; assumption) | omega); fail "zs"))
local macro_rules | `(tactic| fail "zg") => `(tactic| first
  | assumption
  | (with_reducible apply getL_of; fail "zs")
  | (with_reducible apply getW_of; fail "zs")
  | (with_reducible apply getI_of; fail "zs"))
local macro_rules | `(tactic| fail "za") => `(tactic| first | (with_reducible apply atI_int; (first | assumption | omega); (first | assumption | omega | (simp only [List.length_set]; omega))) | with_unfolding_all exact rfl | assumption)
local macro_rules | `(tactic| fail "y0") => `(tactic| first
  | (with_reducible refine' wp_var ?z1 ?z2; (case z1 => with_unfolding_all exact rfl))
  | with_reducible refine wp_c2 ?_
  | with_reducible refine wp_cons ?_
  | with_reducible refine wp_c ?_
  | with_reducible refine wp_nil ?_
  | with_reducible refine wp_call ?_
  | with_reducible refine wp_c1 ?_)
local macro_rules | `(tactic| fail "y1") => `(tactic| first
  | with_reducible refine wp_set ?_
  | with_reducible refine wp_if ?_
  | with_reducible refine wp_next ?_
  | with_reducible refine wp_ret ?_
  | with_reducible refine af_nx ?_
  | with_reducible refine bk_rt ?_
  | (with_reducible refine' wp_ixL ?z1 ?z2 ?z3; (case z1 => fail "zg"); (case z2 => fail "za"))
  | (with_reducible refine' wp_ixT ?z1 ?z2; (case z1 => fail "za")))
local macro_rules | `(tactic| fail "y2") => `(tactic| first
  | with_reducible refine af_rt ?_
  | with_reducible refine af_bk ?_
  | with_reducible refine bk_nx ?_
  | with_reducible refine turned_nx ?_
  | with_reducible refine turned_bk ?_
  | with_reducible refine turned_rt ?_
  | with_reducible refine wp_and ?_
  | with_reducible refine wp_or ?_)
local macro_rules | `(tactic| fail "y3") => `(tactic| first
  | with_reducible refine wp_not ?_
  | with_reducible refine wp_sub ?_
  | with_reducible refine wp_subA ?_
  | with_reducible refine wp_chain ?_
  | with_reducible refine wp_neAI ?_
  | with_reducible refine wp_neAS ?_
  | with_reducible refine wp_dic0 ?_
  | with_reducible refine wp_drop ?_)
local macro_rules | `(tactic| fail "y4") => `(tactic| first
  | with_reducible refine wp_vK ?_
  | with_reducible refine wp_nox ?_
  | with_reducible refine wp_break ?_
  | with_reducible refine wp_retN ?_
  | with_reducible refine wp_sfld ?_
  | with_reducible refine wp_yes ?_
  | with_reducible refine wp_addI ?_
  | with_reducible refine wp_subI ?_)
local macro_rules | `(tactic| fail "y5") => `(tactic| first
  | with_reducible refine wp_neg ?_
  | with_reducible refine wp_eqI ?_
  | with_reducible refine wp_neI ?_
  | with_reducible refine wp_ltI ?_
  | with_reducible refine wp_leI ?_
  | with_reducible refine wp_gtI ?_
  | with_reducible refine wp_geI ?_
  | with_reducible refine wp_eqS ?_)
local macro_rules | `(tactic| fail "y6") => `(tactic| first
  | with_reducible refine wp_neS ?_
  | with_reducible refine wp_eqB ?_
  | with_reducible refine wp_isN ?_
  | with_reducible refine wp_isNotN ?_
  | with_reducible refine wp_int ?_
  | with_reducible refine wp_max2 ?_
  | with_reducible refine wp_min2 ?_
  | with_reducible refine wp_tr_bl ?_)
local macro_rules | `(tactic| fail "y7") => `(tactic| first
  | with_reducible refine wp_tr_int ?_
  | with_reducible refine wp_tupT ?_
  | with_reducible refine wp_slT ?_
  | with_reducible refine wp_nopart ?_
  | with_reducible refine wp_lst ?_
  | with_reducible refine wp_tup ?_
  | with_reducible refine wp_slice ?_
  | with_reducible refine wp_callK ?_)
local macro_rules | `(tactic| fail "y8") => `(tactic| first
  | with_reducible refine wp_make ?_
  | with_reducible refine wp_meth ?_
  | with_reducible refine wp_is ?_
  | with_reducible refine wp_vand ?_
  | with_reducible refine wp_vor ?_
  | with_reducible refine wp_vnot ?_
  | with_reducible refine wp_asg ?_
  | with_reducible refine wp_part ?_)
local macro_rules | `(tactic| fail "y9") => `(tactic| first
  | with_reducible refine wp_forR1 ?_
  | with_reducible refine wp_forR2 ?_
  | with_reducible refine wp_compR1 ?_
  | with_reducible refine wp_compR2 ?_
  | (with_reducible refine' wp_ixAL ?z1 ?z2 ?z3; (case z1 => fail "zg"); (case z2 => fail "za"))
  | (with_reducible refine' wp_ixAT ?z1 ?z2; (case z1 => fail "za"))
  | (with_reducible refine' and_isL ?z1 ?z2; (case z1 => fail "zg"))
  | (with_reducible refine' wp_append ?z1 ?z2 ?z3; (case z1 => fail "zg"); (case z2 => first | omega | (simp only [List.length_map, List.length_append, List.length_cons, List.length_nil]; omega))))
local macro_rules | `(tactic| fail "y10") => `(tactic| first
  | (with_reducible refine' wp_lenL ?z1 ?z2; (case z1 => fail "zg"))
  | with_reducible refine wp_lenT ?_
  | (with_reducible refine' wp_lenAL ?z1 ?z2; (case z1 => fail "zg"))
  | with_reducible refine wp_lenAT ?_
  | (with_reducible refine' wp_listL ?z1 ?z2; (case z1 => fail "zg"))
  | with_reducible refine wp_listT ?_
  | with_reducible refine ex_bl ?_
  | (with_reducible refine' ex_ty ?z1 ?z2 ?z3; (case z1 => with_unfolding_all exact rfl); (case z2 => with_unfolding_all exact rfl)))
local macro_rules | `(tactic| fail "y11") => `(tactic| first
  | (with_reducible refine' wp_mulT ?z1 ?z2 ?z3; (case z1 => omega); (case z2 => omega))
  | (with_reducible refine' wp_setF ?z1 ?z2 ?z3; (case z1 => fail "zg"); (case z2 => with_unfolding_all exact Nat.le_of_ble_eq_true rfl))
  | (with_reducible refine' wp_setInt ?z1 ?z2 ?z3 ?z4; (case z1 => fail "zg"); (case z2 => first | assumption | omega); (case z3 => first | assumption | omega | (simp only [List.length_set]; omega)))
  | (with_reducible refine' wp_setIx ?z1 ?z2 ?z3; (case z1 => fail "zg"); (case z2 => first | (with_reducible apply ixN_of; (first | assumption | omega); (first | assumption | omega | (rw [List.length_map]; omega))) | with_unfolding_all exact rfl | assumption))
  | (with_reducible refine' wp_setAI ?z1 ?z2 ?z3 ?z4; (case z1 => fail "zg"); (case z2 => first | assumption | omega); (case z3 => first | assumption | omega | (simp only [List.length_set]; omega)))
  | (with_reducible refine' wp_setAX ?z1 ?z2 ?z3; (case z1 => fail "zg"); (case z2 => first | (with_reducible apply ixN_of; (first | assumption | omega); (first | assumption | omega | (rw [List.length_map]; omega))) | with_unfolding_all exact rfl | assumption))
  | (with_reducible refine' wp_modI ?z1 ?z2; (case z1 => omega))
  | (with_reducible refine' wp_divA0 ?z1 ?z2 ?z3; (case z1 => omega); (case z2 => omega)))
local macro_rules | `(tactic| fail "y12") => `(tactic| first
  | (with_reducible refine' wp_mulA ?z1 ?z2; (case z1 => omega))
  | (with_reducible refine' wp_divI ?z1 ?z2 ?z3; (case z1 => omega); (case z2 => omega))
  | (with_reducible refine' wp_mulI ?z1 ?z2; (case z1 => omega))
  | (with_reducible refine' wp_powI ?z1 ?z2; (case z1 => with_unfolding_all decide))
  | (with_reducible refine' wp_fld ?z1 ?z2 ?z3; (case z1 => fail "zg"); (case z2 => first | with_unfolding_all exact rfl | assumption))
  | (with_reducible refine' wp_prop ?z1 ?z2; (case z1 => fail "zg"))
  | (with_reducible refine' wp_tupL ?z1 ?z2; (case z1 => fail "zg"))
  | (with_reducible refine' And.intro ?z1 ?z2; (case z1 => first | with_unfolding_all exact Nat.le_of_ble_eq_true rfl | with_unfolding_all decide)))
local macro_rules | `(tactic| fail "z0") => `(tactic| first | fail "y0" | fail "y1" | fail "y2" | fail "y3" | fail "y4" | fail "y5" | fail "y6" | fail "y7" | fail "y8" | fail "y9" | fail "y10" | fail "y11" | fail "y12")
local macro_rules | `(tactic| fail "z1") => `(tactic| first | with_reducible refine wp_seq ?_ | fail "z0")
local macro_rules | `(tactic| walk_at "z") => `(tactic| (repeat fail "z1"))
local macro_rules | `(tactic| fail "zb") => `(tactic| (with_reducible refine And.intro ?_ ?_; (all_goals (intro hb; first | (simp at hb; done) | (simp at hb; skip) | skip))))
local macro_rules | `(tactic| walk_at "zz") => `(tactic| (repeat' (first | fail "z1" | fail "zb")))
local macro_rules | `(tactic| walk_at "zy") => `(tactic| (repeat' (first | fail "z0" | fail "zb")))
local macro_rules | `(tactic| walk_at "zn") => `(tactic| (with_reducible refine wp_seq ?_; walk_at "zy"))
local macro_rules | `(tactic| walk_at "zs") => `(tactic| fail "zs")
local macro_rules | `(tactic| walk_at "zg") => `(tactic| fail "zg")
local macro_rules | `(tactic| walk_at "za") => `(tactic| fail "za")
local macro_rules | `(tactic| walk_at "z0") => `(tactic| fail "z0")
local macro_rules | `(tactic| walk_at "z1") => `(tactic| fail "z1")
local macro_rules | `(tactic| walk_at "zb") => `(tactic| fail "zb")
namespace K01
open PySem PySem.Spec PyProof.Rows L2 Z
local macro_rules | `(tactic| fail "zb") => `(tactic| (with_reducible refine And.intro ?_ ?_; (all_goals (intro hb; first | (exact absurd hb (by decide)) | (simp at hb; done) | (simp only [decide_eq_true_eq, decide_eq_false_iff_not, Bool.not_eq_true', Bool.not_eq_false'] at hb; skip) | skip))))
section
variable {s st : S} {a : Nat} {Q QD : D → S → Prop} {QB : Bool → S → Prop} {l r n : Int}
theorem number_wp (hf : Feed st a) (q : ∀ (d : Int) (s : S), 0 ≤ d → d ≤ big → Gx a st s → Feed s a → Q (.int d) s) : Wp (F_law_number [.loc a] st) Q := by
  have eb : big = 1000000000000 := rfl
  rw [eb] at q
  unfold F_law_number b_law_number
  refine wp_fn rfl ?_
  walk_at "zn"
  refine take_wp hf (by omega) (by omega) ?_
  intro k s1 k0 k1 g1 f1 l1
  walk_at "zz"
  all_goals (try simp only [p12, p6])
  all_goals (refine take_wp f1 (by omega) (by omega) ?_; intro d s2 d0 d1 g2 f2 l2; walk_at "zz"; try simp only [p12, p6])
  all_goals first | exact q _ _ (by omega) (by omega) (g1.trans g2) f2 | skip
  refine take_wp f2 (by omega) (by omega) ?_
  intro e s3 e0 e1 g3 f3 l3
  walk_at "zz"
  exact q _ _ (by split <;> omega) (by split <;> omega) ((g1.trans g2).trans g3) f3
theorem datum_wp (hf : Feed st a) (q : ∀ (d : Int) (s : S), Sm d → Gx a st s → Feed s a → Q (.int d) s) : Wp (F_law_datum [.loc a] st) Q := by
  have eb : big = 1000000000000 := rfl
  unfold F_law_datum b_law_datum
  refine wp_fn rfl ?_
  walk_at "zn"
  refine number_wp hf ?_
  intro k s1 k0 k1 g1 f1
  walk_at "zz"
  refine take_wp f1 (by omega) (by omega) ?_
  intro d s2 d0 d1 g2 f2 l2
  walk_at "zz"
  · exact q _ _ ⟨by omega, by omega⟩ (g1.trans g2) f2
  · exact q _ _ ⟨by omega, by omega⟩ (g1.trans g2) f2
/-! words -/
def Wd (w : Str) : Prop := 1 ≤ w.length ∧ w.length ≤ 13
def LET : Str := "abcdefghijklmnopqrstuvwxyz0123456789_"
def STOP : List Str := ["div", "mod", "min", "max", "pick", "nth", "when"]
def MENU : List Str := ["a", "b", "me", "x_1", "place", "divs", "mode", "min2", "maxi", "pick_", "nth0", "whenever", "mo", "first", "sum", "end", "in", "do", "for", "step", "lanes", "most", "least", "array"]
theorem menu_wd : ∀ z ∈ MENU, Wd z := by
  unfold Wd
  decide +kernel
theorem stop_len : ∀ z ∈ STOP, z.length ≤ 4 := by decide +kernel
theorem let_len : LET.length = 37 := by decide +kernel
theorem wp_addS {x y : Str} (h : x.length + y.length ≤ 1000) (q : QD (.str (x ++ y)) s) : Wp (bAdd (.str x) (.str y) s) QD := by
  unfold bAdd
  dsimp only
  rw [if_pos (by omega)]
  exact q
theorem wp_slS {z : Str} {lo hi : Option Int} (h : z.length ≤ 1000) (q : QD (.str (cutS z lo hi)) s) : Wp (slD (.str z) lo hi s) QD := by
  unfold slD
  dsimp only
  rw [if_pos (by omega)]
  exact q
theorem at_of {α : Type} {xs : List α} {k : Int} {d : α} (h0 : 0 ≤ k) (h : xs[k.toNat]? = some d) : L2.atI xs k = some d := by
  have : k.toNat < xs.length := (List.getElem?_eq_some_iff.mp h).1
  unfold L2.atI
  rw [ixN_of h0 (by omega)]
  exact h
theorem letter_wp {m : Int} (h0 : 0 ≤ m) (h1 : m < 37) (q : ∀ z : Str, z.length = 1 → QD (.str z) s) : Wp (ixA (.str LET) (.int m) s) QD := by
  have l := let_len
  have e : LET.cps.toList.length = 37 := by rw [Array.length_toList]; exact l
  have lm : m.toNat < LET.cps.toList.length := by omega
  have g := List.getElem?_eq_getElem lm
  revert g
  generalize LET.cps.toList[m.toNat] = c
  intro g
  exact wp_ixAS (by omega) (at_of h0 g) (q _ rfl)
theorem wp_strIx {n : Nat} {zs : List Str} {m : Int} (h : getL s n = some (zs.map D.str)) (h0 : 0 ≤ m) (h1 : m < zs.length) (q : ∀ z ∈ zs, QD (.str z) s) : Wp (ixA (.loc n) (.int m) s) QD := by
  have l : m.toNat < zs.length := by omega
  refine wp_ixAL h (atI_of h0 ?_) (q (zs[m.toNat]'l) (List.getElem_mem l))
  rw [List.getElem?_map, List.getElem?_eq_getElem l]
  rfl
theorem cut_to {z : Str} {k : Int} (h0 : 0 ≤ k) : (cutS z none (some k)).length = min k.toNat z.length := by
  obtain ⟨k, rfl⟩ := Int.eq_ofNat_of_zero_le h0
  show (((z.cps.toList.drop 0).take (HT.sIx z.length z.length (some (k : Int)) - 0)).toArray).size = _
  rw [HT.sIx_nat]
  simp [Str.length]
theorem cut_from {z : Str} {k : Int} (h0 : 0 ≤ k) : (cutS z (some k) none).length = z.length - k.toNat := by
  obtain ⟨k, rfl⟩ := Int.eq_ofNat_of_zero_le h0
  show (((z.cps.toList.drop (HT.sIx z.length 0 (some (k : Int)))).take (z.length - HT.sIx z.length 0 (some (k : Int)))).toArray).size = _
  rw [HT.sIx_nat]
  simp [Str.length]
  omega
theorem stop_wp {w : Str} {n : Nat} (h : getL s n = some (STOP.map D.str)) (q : ∀ b, (b = true → w.length ≤ 4) → QB b s) : Wp (kInA (.str w) (.loc n) s) QB := by
  refine wp_inAL h (wp_inStr h (q _ ?_))
  intro e
  obtain ⟨z, hz, e⟩ := List.any_eq_true.mp e
  have e : z = w := by simpa using e
  exact e ▸ stop_len z hz
theorem s_len : ("s" : Str).length = 1 := by decide +kernel
theorem word_wp (hf : Feed st a) (q : ∀ (w : Str) (s : S), Wd w → Gx a st s → Feed s a → Q (.str w) s) : Wp (F_law_word [.loc a] st) Q := by
  have la := hf.lt
  unfold F_law_word b_law_word
  refine wp_fn rfl ?_
  walk_at "zn"
  refine wp_mid (fun e s => ∃ m, e = [some (.loc a), some (.loc m), none, none, none, none, none] ∧ Gr st s ∧ s[m]? = some (.lst (MENU.map D.str)) ∧ st.length ≤ m) ?_ ?_
  · walk_at "zy"
    refine wp_addL (getW_of (by walk_at "zs")) (getW_of (by walk_at "zs")) (by simp) ?_
    exact ⟨_, rfl, _, rfl, (Gr.app.trans Gr.app).trans Gr.app, at_last, by simp⟩
  rintro e s0 ⟨m, rfl, g0, em, lm⟩
  have f0 := hf.gr g0
  walk_at "zn"
  walk_at "zn"
  refine take_wp f0 (by omega) (by omega) ?_
  intro k s1 k0 k1 g1 f1 l1
  have em1 := g1.keep (by omega) em
  have G1 : Gx a st s1 := g0.gx.trans g1
  walk_at "zy"
  walk_at "zn"
  · refine take_wp f1 (by omega) (by omega) ?_
    intro j s2 j0 j1 g2 f2 l2
    refine wp_strIx (getL_of (g2.keep (by omega) em1)) j0 j1 ?_
    intro z hz
    walk_at "zz"
    exact q _ _ (menu_wd z hz) (G1.trans g2) f2
  rename_i hb
  refine wp_mid (fun e s => ∃ z : Int, e = [some (.loc a), some (.loc m), some (.str LET), some (.int k), some (.int z), none, none] ∧ Gx a st s ∧ Feed s a ∧ 1 ≤ z ∧ z ≤ 12) ?_ ?_
  · walk_at "zy"
    refine take_wp f1 (by omega) (by omega) ?_
    intro j s2 j0 j1 g2 f2 l2
    walk_at "zy"
    have h1 : (1 : Int) ≤ gI [1, 2, 12, 1 + j] (k - 1) ∧ gI [1, 2, 12, 1 + j] (k - 1) ≤ 12 := by
      have := gI_mem (ns := [1, 2, 12, 1 + j]) (k := k - 1) (by omega) (by simp; omega)
      revert this
      generalize gI [1, 2, 12, 1 + j] (k - 1) = y
      intro h
      simp only [List.mem_cons, List.not_mem_nil, or_false] at h
      omega
    refine wp_ixAL (getL_of at_last) (atI_int (ns := [1, 2, 12, 1 + j]) (by omega) (by simp; omega)) ?_
    exact ⟨_, rfl, _, rfl, (G1.trans g2).trans Gx.app, f2.gr Gr.app, h1.1, h1.2⟩
  clear em1 G1 f1 l1 g1 em f0
  rintro e s2 ⟨z, rfl, g2, f2, z1, z2⟩
  refine wp_mid (fun e s => ∃ (w : Str) (v : Option D), e = [some (.loc a), some (.loc m), some (.str LET), some (.int k), some (.int z), some (.str w), v] ∧ Gx a st s ∧ Feed s a ∧ w.length = 1) ?_ ?_
  · walk_at "zy"
    refine take_wp f2 (by omega) (by omega) ?_
    intro j s3 j0 j1 g3 f3 l3
    refine letter_wp j0 (by omega) ?_
    intro w hw
    exact ⟨_, rfl, w, _, rfl, g2.trans g3, f3, hw⟩
  clear g2 f2
  rintro e s2 ⟨w, v, rfl, g2, f2, lw⟩
  refine wp_mid (fun e s => ∃ (w : Str) (v : Option D), e = [some (.loc a), some (.loc m), some (.str LET), some (.int k), some (.int z), some (.str w), v] ∧ Gx a st s ∧ Feed s a ∧ w.length = z) ?_ ?_
  · walk_at "zy"
    refine ⟨_, rfl, by omega, by omega, ?_⟩
    refine wp_forT (fun i e s => ∃ (w : Str) (v : Option D), e = [some (.loc a), some (.loc m), some (.str LET), some (.int k), some (.int z), some (.str w), v] ∧ Gx a st s ∧ Feed s a ∧ w.length = 1 + i) ⟨w, v, rfl, g2, f2, by omega⟩ ?_ ?_
    · rintro i d es s hd ⟨w, v, rfl, g, f, l⟩
      obtain ⟨rfl, hi⟩ := get_range hd
      refine ⟨_, rfl, ?_⟩
      walk_at "zy"
      refine take_wp f (by omega) (by omega) ?_
      intro j s3 j0 j1 g3 f3 l3
      refine letter_wp j0 (by omega) ?_
      intro w2 hw2
      refine wp_addS (by omega) ?_
      walk_at "zy"
      exact ⟨_, _, rfl, g.trans g3, f3, by rw [Str.length_append]; omega⟩
    · rintro es s ⟨w, v, rfl, g, f, l⟩
      rw [len_range] at l
      exact ⟨_, rfl, w, v, rfl, g, f, by omega⟩
  clear g2 f2 lw w v
  rintro e s2 ⟨w, v, rfl, g2, f2, lw⟩
  have ls := s_len
  walk_at "zz"
  refine stop_wp (getL_of at_last) ?_
  intro b hb2
  walk_at "zz"
  · rename_i hb3
    have := hb2 hb3
    refine wp_addS (by omega) ?_
    walk_at "zz"
    exact q _ _ ⟨by rw [Str.length_append]; omega, by rw [Str.length_append]; omega⟩ (g2.trans Gx.app) (f2.gr Gr.app)
  · exact q _ _ ⟨by omega, by omega⟩ (g2.trans Gx.app) (f2.gr Gr.app)
theorem near_wp {w : Str} (hw : Wd w) (hf : Feed st a) (q : ∀ (w : Str) (s : S), Wd w → Gx a st s → Feed s a → Q (.str w) s) : Wp (F_law_near [.loc a, .str w] st) Q := by
  have la := hf.lt
  have ls := s_len
  obtain ⟨w1, w2⟩ := hw
  have c11 : (cutS w none (some 11)).length ≤ 11 := by
    rw [cut_to (by omega)]
    omega
  unfold F_law_near b_law_near
  refine wp_fn rfl ?_
  walk_at "zn"
  walk_at "zn"
  refine take_wp hf (by omega) (by omega) ?_
  intro k s1 k0 k1 g1 f1 l1
  walk_at "zy"
  refine wp_mid (fun e s => ∃ z : Str, e = [some (.loc a), some (.str w), some (.str LET), some (.int k), some (.str z), none] ∧ Gx a st s ∧ Feed s a ∧ Wd z) ?_ ?_
  · walk_at "zy"
    refine ⟨_, rfl, ?_⟩
    refine wp_slS (by omega) ?_
    walk_at "zy"
    refine take_wp f1 (by omega) (by omega) ?_
    intro j s2 j0 j1 g2 f2 l2
    refine letter_wp j0 (by omega) ?_
    intro z hz
    refine wp_addS (by omega) ?_
    walk_at "zy"
    exact ⟨_, rfl, _, rfl, g1.trans g2, f2, by rw [Str.length_append]; omega, by rw [Str.length_append]; omega⟩
  clear g1 f1 l1
  rintro e s1 ⟨z, rfl, g1, f1, hz⟩
  refine wp_mid (fun e s => ∃ z : Str, e = [some (.loc a), some (.str w), some (.str LET), some (.int k), some (.str z), none] ∧ Gx a st s ∧ Feed s a ∧ Wd z) ?_ ?_
  · walk_at "zy"
    · refine wp_lenAS (by omega) ?_
      walk_at "zy"
      · rename_i h1 h2
        refine wp_lenAS (by omega) ?_
        walk_at "zy"
        refine ⟨_, rfl, ?_⟩
        refine wp_slS (by omega) ?_
        walk_at "zy"
        have e : (cutS w none (some ((w.length : Int) - 1))).length = min ((w.length : Int) - 1).toNat w.length := cut_to (by omega)
        exact ⟨_, rfl, _, rfl, g1, f1, by omega, by omega⟩
      · exact ⟨_, rfl, _, rfl, g1, f1, hz⟩
    · exact ⟨_, rfl, _, rfl, g1, f1, hz⟩
  clear g1 f1 hz z
  rintro e s1 ⟨z, rfl, g1, f1, hz⟩
  refine wp_mid (fun e s => ∃ (z : Str) (v : Option D), e = [some (.loc a), some (.str w), some (.str LET), some (.int k), some (.str z), v] ∧ Gx a st s ∧ Feed s a ∧ Wd z) ?_ ?_
  · walk_at "zy"
    · refine wp_seq ?_
      walk_at "zy"
      refine wp_lenAS (by omega) ?_
      walk_at "zy"
      refine take_wp f1 (by omega) (by omega) ?_
      intro t s2 t0 t1 g2 f2 l2
      walk_at "zy"
      refine ⟨_, rfl, ?_⟩
      refine wp_slS (by omega) ?_
      walk_at "zy"
      refine take_wp f2 (by omega) (by omega) ?_
      intro j s3 j0 j1 g3 f3 l3
      refine letter_wp j0 (by omega) ?_
      intro y hy
      have e1 : (cutS w none (some t)).length = min t.toNat w.length := cut_to (by omega)
      refine wp_addS (by omega) ?_
      walk_at "zy"
      refine ⟨_, rfl, ?_⟩
      refine wp_slS (by omega) ?_
      have e2 : (cutS w (some (t + 1)) none).length = w.length - (t + 1).toNat := cut_from (by omega)
      refine wp_addS (by rw [Str.length_append]; omega) ?_
      walk_at "zy"
      exact ⟨_, rfl, _, _, rfl, (g1.trans g2).trans g3, f3, by rw [Str.length_append, Str.length_append]; omega, by rw [Str.length_append, Str.length_append]; omega⟩
    · exact ⟨_, rfl, _, _, rfl, g1, f1, hz⟩
  clear g1 f1 hz z
  rintro e s2 ⟨z, v, rfl, g2, f2, z1, z2⟩
  walk_at "zz"
  refine stop_wp (getL_of at_last) ?_
  intro b hb2
  walk_at "zz"
  · rename_i hb3
    have := hb2 hb3
    refine wp_addS (by omega) ?_
    walk_at "zz"
    exact q _ _ ⟨by rw [Str.length_append]; omega, by rw [Str.length_append]; omega⟩ (g2.trans Gx.app) (f2.gr Gr.app)
  · exact q _ _ ⟨by omega, by omega⟩ (g2.trans Gx.app) (f2.gr Gr.app)
end
end K01
end
section
set_option Elab.async false
set_option linter.all false
set_option maxRecDepth 100000
set_option maxHeartbeats 2000000
open PySem PySem.Spec PyProof.Rows L2 Z
local macro_rules | `(tactic| fail "zs") => `(tactic| first
  | assumption
  | with_reducible exact at_last
  | (with_reducible apply at_set; fail "zs")
  | (with_reducible apply at_app; fail "zs")
  | (with_reducible apply at_setne; (first | assumption | (apply Ne.symm; assumption) | omega); fail "zs")
  | (with_reducible refine Gr.keep (by assumption) ?_; fail "zs")
  | (with_reducible refine Gx.keep (by assumption) ?_ ?_; (first | assumption | (apply Ne.symm; assumption) | omega); fail "zs"))
local macro_rules | `(tactic| fail "zg") => `(tactic| first
  | assumption
  | (with_reducible apply getL_of; fail "zs")
  | (with_reducible apply getW_of; fail "zs")
  | (with_reducible apply getI_of; fail "zs"))
local macro_rules | `(tactic| fail "za") => `(tactic| first | (with_reducible apply atI_int; (first | assumption | omega); (first | assumption | omega | (simp only [List.length_set]; omega))) | with_unfolding_all exact rfl | assumption)
local macro_rules | `(tactic| fail "y0") => `(tactic| first
  | (with_reducible refine' wp_var ?z1 ?z2; (case z1 => with_unfolding_all exact rfl))
  | with_reducible refine wp_c2 ?_
  | with_reducible refine wp_cons ?_
  | with_reducible refine wp_c ?_
  | with_reducible refine wp_nil ?_
  | with_reducible refine wp_call ?_
  | with_reducible refine wp_c1 ?_)
local macro_rules | `(tactic| fail "y1") => `(tactic| first
  | with_reducible refine wp_set ?_
  | with_reducible refine wp_if ?_
  | with_reducible refine wp_next ?_
  | with_reducible refine wp_ret ?_
  | with_reducible refine af_nx ?_
  | with_reducible refine bk_rt ?_
  | (with_reducible refine' wp_ixL ?z1 ?z2 ?z3; (case z1 => fail "zg"); (case z2 => fail "za"))
  | (with_reducible refine' wp_ixT ?z1 ?z2; (case z1 => fail "za")))
local macro_rules | `(tactic| fail "y2") => `(tactic| first
  | with_reducible refine af_rt ?_
  | with_reducible refine af_bk ?_
  | with_reducible refine bk_nx ?_
  | with_reducible refine turned_nx ?_
  | with_reducible refine turned_bk ?_
  | with_reducible refine turned_rt ?_
  | with_reducible refine wp_and ?_
  | with_reducible refine wp_or ?_)
local macro_rules | `(tactic| fail "y3") => `(tactic| first
  | with_reducible refine wp_not ?_
  | with_reducible refine wp_sub ?_
  | with_reducible refine wp_subA ?_
  | with_reducible refine wp_chain ?_
  | with_reducible refine wp_neAI ?_
  | with_reducible refine wp_neAS ?_
  | with_reducible refine wp_dic0 ?_
  | with_reducible refine wp_drop ?_)
local macro_rules | `(tactic| fail "y4") => `(tactic| first
  | with_reducible refine wp_vK ?_
  | with_reducible refine wp_nox ?_
  | with_reducible refine wp_break ?_
  | with_reducible refine wp_retN ?_
  | with_reducible refine wp_sfld ?_
  | with_reducible refine wp_yes ?_
  | with_reducible refine wp_addI ?_
  | with_reducible refine wp_subI ?_)
local macro_rules | `(tactic| fail "y5") => `(tactic| first
  | with_reducible refine wp_neg ?_
  | with_reducible refine wp_eqI ?_
  | with_reducible refine wp_neI ?_
  | with_reducible refine wp_ltI ?_
  | with_reducible refine wp_leI ?_
  | with_reducible refine wp_gtI ?_
  | with_reducible refine wp_geI ?_
  | with_reducible refine wp_eqS ?_)
local macro_rules | `(tactic| fail "y6") => `(tactic| first
  | with_reducible refine wp_neS ?_
  | with_reducible refine wp_eqB ?_
  | with_reducible refine wp_isN ?_
  | with_reducible refine wp_isNotN ?_
  | with_reducible refine wp_int ?_
  | with_reducible refine wp_max2 ?_
  | with_reducible refine wp_min2 ?_
  | with_reducible refine wp_tr_bl ?_)
local macro_rules | `(tactic| fail "y7") => `(tactic| first
  | with_reducible refine wp_tr_int ?_
  | with_reducible refine wp_tupT ?_
  | with_reducible refine wp_slT ?_
  | with_reducible refine wp_nopart ?_
  | with_reducible refine wp_lst ?_
  | with_reducible refine wp_tup ?_
  | with_reducible refine wp_slice ?_
  | with_reducible refine wp_callK ?_)
local macro_rules | `(tactic| fail "y8") => `(tactic| first
  | with_reducible refine wp_make ?_
  | with_reducible refine wp_meth ?_
  | with_reducible refine wp_is ?_
  | with_reducible refine wp_vand ?_
  | with_reducible refine wp_vor ?_
  | with_reducible refine wp_vnot ?_
  | with_reducible refine wp_asg ?_
  | with_reducible refine wp_part ?_)
local macro_rules | `(tactic| fail "y9") => `(tactic| first
  | with_reducible refine wp_forR1 ?_
  | with_reducible refine wp_forR2 ?_
  | with_reducible refine wp_compR1 ?_
  | with_reducible refine wp_compR2 ?_
  | (with_reducible refine' wp_ixAL ?z1 ?z2 ?z3; (case z1 => fail "zg"); (case z2 => fail "za"))
  | (with_reducible refine' wp_ixAT ?z1 ?z2; (case z1 => fail "za"))
  | (with_reducible refine' and_isL ?z1 ?z2; (case z1 => fail "zg"))
  | (with_reducible refine' wp_append ?z1 ?z2 ?z3; (case z1 => fail "zg"); (case z2 => first | omega | (simp only [List.length_map, List.length_append, List.length_cons, List.length_nil]; omega))))
local macro_rules | `(tactic| fail "y10") => `(tactic| first
  | (with_reducible refine' wp_lenL ?z1 ?z2; (case z1 => fail "zg"))
  | with_reducible refine wp_lenT ?_
  | (with_reducible refine' wp_lenAL ?z1 ?z2; (case z1 => fail "zg"))
  | with_reducible refine wp_lenAT ?_
  | (with_reducible refine' wp_listL ?z1 ?z2; (case z1 => fail "zg"))
  | with_reducible refine wp_listT ?_
  | with_reducible refine ex_bl ?_
  | (with_reducible refine' ex_ty ?z1 ?z2 ?z3; (case z1 => with_unfolding_all exact rfl); (case z2 => with_unfolding_all exact rfl)))
local macro_rules | `(tactic| fail "y11") => `(tactic| first
  | (with_reducible refine' wp_mulT ?z1 ?z2 ?z3; (case z1 => omega); (case z2 => omega))
  | (with_reducible refine' wp_setF ?z1 ?z2 ?z3; (case z1 => fail "zg"); (case z2 => with_unfolding_all exact Nat.le_of_ble_eq_true rfl))
  | (with_reducible refine' wp_setInt ?z1 ?z2 ?z3 ?z4; (case z1 => fail "zg"); (case z2 => first | assumption | omega); (case z3 => first | assumption | omega | (simp only [List.length_set]; omega)))
  | (with_reducible refine' wp_setIx ?z1 ?z2 ?z3; (case z1 => fail "zg"); (case z2 => first | (with_reducible apply ixN_of; (first | assumption | omega); (first | assumption | omega | (rw [List.length_map]; omega))) | with_unfolding_all exact rfl | assumption))
  | (with_reducible refine' wp_setAI ?z1 ?z2 ?z3 ?z4; (case z1 => fail "zg"); (case z2 => first | assumption | omega); (case z3 => first | assumption | omega | (simp only [List.length_set]; omega)))
  | (with_reducible refine' wp_setAX ?z1 ?z2 ?z3; (case z1 => fail "zg"); (case z2 => first | (with_reducible apply ixN_of; (first | assumption | omega); (first | assumption | omega | (rw [List.length_map]; omega))) | with_unfolding_all exact rfl | assumption))
  | (with_reducible refine' wp_modI ?z1 ?z2; (case z1 => omega))
  | (with_reducible refine' wp_divA0 ?z1 ?z2 ?z3; (case z1 => omega); (case z2 => omega)))
local macro_rules | `(tactic| fail "y12") => `(tactic| first
  | (with_reducible refine' wp_mulA ?z1 ?z2; (case z1 => omega))
  | (with_reducible refine' wp_divI ?z1 ?z2 ?z3; (case z1 => omega); (case z2 => omega))
  | (with_reducible refine' wp_mulI ?z1 ?z2; (case z1 => omega))
  | (with_reducible refine' wp_powI ?z1 ?z2; (case z1 => with_unfolding_all decide))
  | (with_reducible refine' wp_fld ?z1 ?z2 ?z3; (case z1 => fail "zg"); (case z2 => first | with_unfolding_all exact rfl | assumption))
  | (with_reducible refine' wp_prop ?z1 ?z2; (case z1 => fail "zg"))
  | (with_reducible refine' wp_tupL ?z1 ?z2; (case z1 => fail "zg"))
  | (with_reducible refine' And.intro ?z1 ?z2; (case z1 => first | with_unfolding_all exact Nat.le_of_ble_eq_true rfl | with_unfolding_all decide)))
local macro_rules | `(tactic| fail "z0") => `(tactic| first | fail "y0" | fail "y1" | fail "y2" | fail "y3" | fail "y4" | fail "y5" | fail "y6" | fail "y7" | fail "y8" | fail "y9" | fail "y10" | fail "y11" | fail "y12")
local macro_rules | `(tactic| fail "z1") => `(tactic| first | with_reducible refine wp_seq ?_ | fail "z0")
local macro_rules | `(tactic| walk_at "z") => `(tactic| (repeat fail "z1"))
local macro_rules | `(tactic| fail "zb") => `(tactic| (with_reducible refine And.intro ?_ ?_; (all_goals (intro hb; first | (simp at hb; done) | (simp at hb; skip) | skip))))
local macro_rules | `(tactic| walk_at "zz") => `(tactic| (repeat' (first | fail "z1" | fail "zb")))
local macro_rules | `(tactic| walk_at "zy") => `(tactic| (repeat' (first | fail "z0" | fail "zb")))
local macro_rules | `(tactic| walk_at "zn") => `(tactic| (with_reducible refine wp_seq ?_; walk_at "zy"))
local macro_rules | `(tactic| walk_at "zs") => `(tactic| fail "zs")
local macro_rules | `(tactic| walk_at "zg") => `(tactic| fail "zg")
local macro_rules | `(tactic| walk_at "za") => `(tactic| fail "za")
local macro_rules | `(tactic| walk_at "z0") => `(tactic| fail "z0")
local macro_rules | `(tactic| walk_at "z1") => `(tactic| fail "z1")
local macro_rules | `(tactic| walk_at "zb") => `(tactic| fail "zb")
namespace K01
open PySem PySem.Spec PyProof.Rows L2 Z
local macro_rules | `(tactic| fail "zb") => `(tactic| (with_reducible refine And.intro ?_ ?_; (all_goals (intro hb; first | (exact absurd hb (by decide)) | (simp at hb; done) | (simp only [decide_eq_true_eq, decide_eq_false_iff_not, Bool.not_eq_true', Bool.not_eq_false'] at hb; skip) | skip))))
section
variable {s st : S} {a : Nat} {Q QD : D → S → Prop} {QB : Bool → S → Prop} {l r n : Int}
theorem wrow_wp {many : Int} (hf : Feed st a) (h0 : 0 ≤ many) (h1 : many ≤ 40) (q : ∀ (ws : List Str) (s : S), (∀ w ∈ ws, Wd w) → ws.length = many → s[st.length]? = some (.lst (ws.map D.str)) → Gx a st s → Feed s a → Q (.loc st.length) s) : Wp (F_law_word_row [.loc a, .int many] st) Q := by
  have la := hf.lt
  unfold F_law_word_row b_law_word_row
  refine wp_fn rfl ?_
  walk_at "zn"
  refine wp_mid (fun e s => ∃ (v w : Option D), e = [some (.loc a), some (.int many), some (.loc st.length), v, w] ∧ ∃ ws : List Str, (∀ w ∈ ws, Wd w) ∧ ws.length = many ∧ s[st.length]? = some (.lst (ws.map D.str)) ∧ Gx a st s ∧ Feed s a) ?_ ?_
  · walk_at "zy"
    refine ⟨_, rfl, by omega, by omega, ?_⟩
    refine wp_forT (fun i e s => ∃ (v w : Option D), e = [some (.loc a), some (.int many), some (.loc st.length), v, w] ∧ ∃ ws : List Str, (∀ w ∈ ws, Wd w) ∧ ws.length = i ∧ s[st.length]? = some (.lst (ws.map D.str)) ∧ Gx a st s ∧ Feed s a) ⟨none, none, rfl, [], (fun _ h => nomatch h), rfl, at_last, Gx.app, hf.gr Gr.app⟩ ?_ ?_
    · rintro i d es s hd ⟨v, w, rfl, ws, hw, lw, e, g, f⟩
      obtain ⟨rfl, hi⟩ := get_range hd
      refine ⟨_, rfl, ?_⟩
      walk_at "zn"
      refine word_wp f ?_
      intro w1 s1 hw1 g1 f1
      have e1 := g1.keep (by omega) e
      walk_at "zy"
      refine wp_mid (fun e s => ∃ (v : Option D) (w : Str), e = [some (.loc a), some (.int many), some (.loc st.length), v, some (.str w)] ∧ Wd w ∧ s[st.length]? = some (.lst (ws.map D.str)) ∧ Gx a st s ∧ Feed s a) ?_ ?_
      · walk_at "zy"
        · refine take_wp f1 (by omega) (by omega) ?_
          intro t s2 t0 t1 g2 f2 l2
          have e2 := g2.keep (by omega) e1
          walk_at "zy"
          · refine take_wp f2 (by omega) (by omega) ?_
            intro j s3 j0 j1 g3 f3 l3
            have e3 := g3.keep (by omega) e2
            refine wp_strIx (getL_of e3) j0 (by omega) ?_
            intro z hz
            walk_at "zy"
            refine near_wp (hw z hz) f3 ?_
            intro w2 s4 hw2 g4 f4
            exact ⟨_, rfl, _, _, rfl, hw2, g4.keep (by omega) e3, ((g.trans g1).trans (g2.trans g3)).trans g4, f4⟩
          · exact ⟨_, rfl, _, _, rfl, hw1, e2, (g.trans g1).trans g2, f2⟩
        · exact ⟨_, rfl, _, _, rfl, hw1, e1, g.trans g1, f1⟩
      rintro e s2 ⟨v, w, rfl, hw2, e2, g2, f2⟩
      walk_at "zy"
      refine ⟨_, _, rfl, ws ++ [w], ?_, by rw [List.length_append, lw]; rfl, ?_, g2.setNew (Nat.le_refl _), f2.set (by omega)⟩
      · intro x hx
        rcases List.mem_append.mp hx with hx | hx
        · exact hw x hx
        · rw [List.mem_singleton.mp hx]
          exact hw2
      · rw [List.map_append]
        exact at_set e2
    · rintro es s ⟨v, w, rfl, ws, hw, lw, e, g, f⟩
      rw [len_range] at lw
      exact ⟨_, rfl, v, w, rfl, ws, hw, by omega, e, g, f⟩
  rintro e s2 ⟨v, w, rfl, ws, hw, lw, e, g, f⟩
  walk_at "zz"
  exact q ws s2 hw lw e g f
/-- x stands for an expression of ok words, of depth at most n -/
def Xok (ws sh : List Str) (n : Nat) (x : Xp) : Prop := x.ok ws sh ∧ x.dep ≤ n
theorem leaf_wp {ws sh : List Str} {nm : Nat} (hf : Feed st a) (hn : st[nm]? = some (.lst (ws.map D.str))) (na : nm ≠ a) (h0 : ws ≠ []) (h1 : ws.length ≤ 40) (q : ∀ (x : Xp) (s : S), Xok ws sh 1 x → Gx a st s → Feed s a → Q x.d s) : Wp (F_law_leaf [.loc a, .loc nm] st) Q := by
  have l0 : ws.length ≠ 0 := fun h => h0 (List.length_eq_zero_iff.mp h)
  unfold F_law_leaf b_law_leaf
  refine wp_fn rfl ?_
  walk_at "zn"
  refine take_wp hf (by omega) (by omega) ?_
  intro k s1 k0 k1 g1 f1 l1
  walk_at "zz"
  · refine number_wp f1 ?_
    intro d s2 d0 d1 g2 f2
    walk_at "zz"
    exact q (.num d) s2 ⟨⟨d0, d1⟩, Nat.le_refl _⟩ (g1.trans g2) f2
  · refine take_wp f1 (by rw [List.length_map]; omega) (by rw [List.length_map]; omega) ?_
    intro j s2 j0 j1 g2 f2 l2
    rw [List.length_map] at j1
    refine wp_strIx (getL_of (g2.keep na (g1.keep na hn))) j0 j1 ?_
    intro z hz
    walk_at "zz"
    exact q (.nm z) s2 ⟨hz, Nat.le_refl _⟩ (g1.trans g2) f2
theorem deep_wp (hf : Feed st a) (q : ∀ (n : Nat) (s : S), 1 ≤ n → n ≤ 12 → Gx a st s → Feed s a → Q (.int n) s) : Wp (F_law_deep [.loc a] st) Q := by
  have q : ∀ (n : Int) (s : S), 1 ≤ n → n ≤ 12 → Gx a st s → Feed s a → Q (.int n) s := fun n s h0 h1 g f => by
    obtain ⟨n, rfl⟩ := Int.eq_ofNat_of_zero_le (show 0 ≤ n by omega)
    exact q n s (by omega) (by omega) g f
  unfold F_law_deep b_law_deep
  refine wp_fn rfl ?_
  walk_at "zn"
  refine take_wp hf (by omega) (by omega) ?_
  intro k s1 k0 k1 g1 f1 l1
  walk_at "zz"
  · exact q _ s1 (by omega) (by omega) g1 f1
  · refine take_wp f1 (by omega) (by omega) ?_
    intro j s2 j0 j1 g2 f2 l2
    walk_at "zz"
    exact q _ s2 (by omega) (by omega) (g1.trans g2) f2
  · refine take_wp f1 (by omega) (by omega) ?_
    intro j s2 j0 j1 g2 f2 l2
    walk_at "zz"
    exact q _ s2 (by omega) (by omega) (g1.trans g2) f2
end
end K01
end
section
set_option Elab.async false
set_option linter.all false
set_option maxRecDepth 100000
set_option maxHeartbeats 2000000
open PySem PySem.Spec PyProof.Rows L2 Z
local macro_rules | `(tactic| fail "zs") => `(tactic| first
  | assumption
  | with_reducible exact at_last
  | (with_reducible apply at_set; fail "zs")
  | (with_reducible apply at_app; fail "zs")
  | (with_reducible apply at_setne; (first | assumption | (apply Ne.symm; assumption) | omega); fail "zs")
  | (with_reducible refine Gr.keep (by assumption) ?_; fail "zs")
  | (with_reducible refine Gx.keep (by assumption) ?_ ?_; (first | assumption | (apply Ne.symm; assumption) | omega); fail "zs"))
local macro_rules | `(tactic| fail "zg") => `(tactic| first
  | assumption
  | (with_reducible apply getL_of; fail "zs")
  | (with_reducible apply getW_of; fail "zs")
  | (with_reducible apply getI_of; fail "zs"))
local macro_rules | `(tactic| fail "za") => `(tactic| first | (with_reducible apply atI_int; (first | assumption | omega); (first | assumption | omega | (simp only [List.length_set]; omega))) | with_unfolding_all exact rfl | assumption)
local macro_rules | `(tactic| fail "y0") => `(tactic| first
  | (with_reducible refine' wp_var ?z1 ?z2; (case z1 => with_unfolding_all exact rfl))
  | with_reducible refine wp_c2 ?_
  | with_reducible refine wp_cons ?_
  | with_reducible refine wp_c ?_
  | with_reducible refine wp_nil ?_
  | with_reducible refine wp_call ?_
  | with_reducible refine wp_c1 ?_)
local macro_rules | `(tactic| fail "y1") => `(tactic| first
  | with_reducible refine wp_set ?_
  | with_reducible refine wp_if ?_
  | with_reducible refine wp_next ?_
  | with_reducible refine wp_ret ?_
  | with_reducible refine af_nx ?_
  | with_reducible refine bk_rt ?_
  | (with_reducible refine' wp_ixL ?z1 ?z2 ?z3; (case z1 => fail "zg"); (case z2 => fail "za"))
  | (with_reducible refine' wp_ixT ?z1 ?z2; (case z1 => fail "za")))
local macro_rules | `(tactic| fail "y2") => `(tactic| first
  | with_reducible refine af_rt ?_
  | with_reducible refine af_bk ?_
  | with_reducible refine bk_nx ?_
  | with_reducible refine turned_nx ?_
  | with_reducible refine turned_bk ?_
  | with_reducible refine turned_rt ?_
  | with_reducible refine wp_and ?_
  | with_reducible refine wp_or ?_)
local macro_rules | `(tactic| fail "y3") => `(tactic| first
  | with_reducible refine wp_not ?_
  | with_reducible refine wp_sub ?_
  | with_reducible refine wp_subA ?_
  | with_reducible refine wp_chain ?_
  | with_reducible refine wp_neAI ?_
  | with_reducible refine wp_neAS ?_
  | with_reducible refine wp_dic0 ?_
  | with_reducible refine wp_drop ?_)
local macro_rules | `(tactic| fail "y4") => `(tactic| first
  | with_reducible refine wp_vK ?_
  | with_reducible refine wp_nox ?_
  | with_reducible refine wp_break ?_
  | with_reducible refine wp_retN ?_
  | with_reducible refine wp_sfld ?_
  | with_reducible refine wp_yes ?_
  | with_reducible refine wp_addI ?_
  | with_reducible refine wp_subI ?_)
local macro_rules | `(tactic| fail "y5") => `(tactic| first
  | with_reducible refine wp_neg ?_
  | with_reducible refine wp_eqI ?_
  | with_reducible refine wp_neI ?_
  | with_reducible refine wp_ltI ?_
  | with_reducible refine wp_leI ?_
  | with_reducible refine wp_gtI ?_
  | with_reducible refine wp_geI ?_
  | with_reducible refine wp_eqS ?_)
local macro_rules | `(tactic| fail "y6") => `(tactic| first
  | with_reducible refine wp_neS ?_
  | with_reducible refine wp_eqB ?_
  | with_reducible refine wp_isN ?_
  | with_reducible refine wp_isNotN ?_
  | with_reducible refine wp_int ?_
  | with_reducible refine wp_max2 ?_
  | with_reducible refine wp_min2 ?_
  | with_reducible refine wp_tr_bl ?_)
local macro_rules | `(tactic| fail "y7") => `(tactic| first
  | with_reducible refine wp_tr_int ?_
  | with_reducible refine wp_tupT ?_
  | with_reducible refine wp_slT ?_
  | with_reducible refine wp_nopart ?_
  | with_reducible refine wp_lst ?_
  | with_reducible refine wp_tup ?_
  | with_reducible refine wp_slice ?_
  | with_reducible refine wp_callK ?_)
local macro_rules | `(tactic| fail "y8") => `(tactic| first
  | with_reducible refine wp_make ?_
  | with_reducible refine wp_meth ?_
  | with_reducible refine wp_is ?_
  | with_reducible refine wp_vand ?_
  | with_reducible refine wp_vor ?_
  | with_reducible refine wp_vnot ?_
  | with_reducible refine wp_asg ?_
  | with_reducible refine wp_part ?_)
local macro_rules | `(tactic| fail "y9") => `(tactic| first
  | with_reducible refine wp_forR1 ?_
  | with_reducible refine wp_forR2 ?_
  | with_reducible refine wp_compR1 ?_
  | with_reducible refine wp_compR2 ?_
  | (with_reducible refine' wp_ixAL ?z1 ?z2 ?z3; (case z1 => fail "zg"); (case z2 => fail "za"))
  | (with_reducible refine' wp_ixAT ?z1 ?z2; (case z1 => fail "za"))
  | (with_reducible refine' and_isL ?z1 ?z2; (case z1 => fail "zg"))
  | (with_reducible refine' wp_append ?z1 ?z2 ?z3; (case z1 => fail "zg"); (case z2 => first | omega | (simp only [List.length_map, List.length_append, List.length_cons, List.length_nil]; omega))))
local macro_rules | `(tactic| fail "y10") => `(tactic| first
  | (with_reducible refine' wp_lenL ?z1 ?z2; (case z1 => fail "zg"))
  | with_reducible refine wp_lenT ?_
  | (with_reducible refine' wp_lenAL ?z1 ?z2; (case z1 => fail "zg"))
  | with_reducible refine wp_lenAT ?_
  | (with_reducible refine' wp_listL ?z1 ?z2; (case z1 => fail "zg"))
  | with_reducible refine wp_listT ?_
  | with_reducible refine ex_bl ?_
  | (with_reducible refine' ex_ty ?z1 ?z2 ?z3; (case z1 => with_unfolding_all exact rfl); (case z2 => with_unfolding_all exact rfl)))
local macro_rules | `(tactic| fail "y11") => `(tactic| first
  | (with_reducible refine' wp_mulT ?z1 ?z2 ?z3; (case z1 => omega); (case z2 => omega))
  | (with_reducible refine' wp_setF ?z1 ?z2 ?z3; (case z1 => fail "zg"); (case z2 => with_unfolding_all exact Nat.le_of_ble_eq_true rfl))
  | (with_reducible refine' wp_setInt ?z1 ?z2 ?z3 ?z4; (case z1 => fail "zg"); (case z2 => first | assumption | omega); (case z3 => first | assumption | omega | (simp only [List.length_set]; omega)))
  | (with_reducible refine' wp_setIx ?z1 ?z2 ?z3; (case z1 => fail "zg"); (case z2 => first | (with_reducible apply ixN_of; (first | assumption | omega); (first | assumption | omega | (rw [List.length_map]; omega))) | with_unfolding_all exact rfl | assumption))
  | (with_reducible refine' wp_setAI ?z1 ?z2 ?z3 ?z4; (case z1 => fail "zg"); (case z2 => first | assumption | omega); (case z3 => first | assumption | omega | (simp only [List.length_set]; omega)))
  | (with_reducible refine' wp_setAX ?z1 ?z2 ?z3; (case z1 => fail "zg"); (case z2 => first | (with_reducible apply ixN_of; (first | assumption | omega); (first | assumption | omega | (rw [List.length_map]; omega))) | with_unfolding_all exact rfl | assumption))
  | (with_reducible refine' wp_modI ?z1 ?z2; (case z1 => omega))
  | (with_reducible refine' wp_divA0 ?z1 ?z2 ?z3; (case z1 => omega); (case z2 => omega)))
local macro_rules | `(tactic| fail "y12") => `(tactic| first
  | (with_reducible refine' wp_mulA ?z1 ?z2; (case z1 => omega))
  | (with_reducible refine' wp_divI ?z1 ?z2 ?z3; (case z1 => omega); (case z2 => omega))
  | (with_reducible refine' wp_mulI ?z1 ?z2; (case z1 => omega))
  | (with_reducible refine' wp_powI ?z1 ?z2; (case z1 => with_unfolding_all decide))
  | (with_reducible refine' wp_fld ?z1 ?z2 ?z3; (case z1 => fail "zg"); (case z2 => first | with_unfolding_all exact rfl | assumption))
  | (with_reducible refine' wp_prop ?z1 ?z2; (case z1 => fail "zg"))
  | (with_reducible refine' wp_tupL ?z1 ?z2; (case z1 => fail "zg"))
  | (with_reducible refine' And.intro ?z1 ?z2; (case z1 => first | with_unfolding_all exact Nat.le_of_ble_eq_true rfl | with_unfolding_all decide)))
local macro_rules | `(tactic| fail "z0") => `(tactic| first | fail "y0" | fail "y1" | fail "y2" | fail "y3" | fail "y4" | fail "y5" | fail "y6" | fail "y7" | fail "y8" | fail "y9" | fail "y10" | fail "y11" | fail "y12")
local macro_rules | `(tactic| fail "z1") => `(tactic| first | with_reducible refine wp_seq ?_ | fail "z0")
local macro_rules | `(tactic| walk_at "z") => `(tactic| (repeat fail "z1"))
local macro_rules | `(tactic| fail "zb") => `(tactic| (with_reducible refine And.intro ?_ ?_; (all_goals (intro hb; first | (simp at hb; done) | (simp at hb; skip) | skip))))
local macro_rules | `(tactic| walk_at "zz") => `(tactic| (repeat' (first | fail "z1" | fail "zb")))
local macro_rules | `(tactic| walk_at "zy") => `(tactic| (repeat' (first | fail "z0" | fail "zb")))
local macro_rules | `(tactic| walk_at "zn") => `(tactic| (with_reducible refine wp_seq ?_; walk_at "zy"))
local macro_rules | `(tactic| walk_at "zs") => `(tactic| fail "zs")
local macro_rules | `(tactic| walk_at "zg") => `(tactic| fail "zg")
local macro_rules | `(tactic| walk_at "za") => `(tactic| fail "za")
local macro_rules | `(tactic| walk_at "z0") => `(tactic| fail "z0")
local macro_rules | `(tactic| walk_at "z1") => `(tactic| fail "z1")
local macro_rules | `(tactic| walk_at "zb") => `(tactic| fail "zb")
namespace K01
open PySem PySem.Spec PyProof.Rows L2 Z
local macro_rules | `(tactic| fail "zb") => `(tactic| (with_reducible refine And.intro ?_ ?_; (all_goals (intro hb; first | (exact absurd hb (by decide)) | (simp at hb; done) | (simp only [decide_eq_true_eq, decide_eq_false_iff_not, Bool.not_eq_true', Bool.not_eq_false'] at hb; skip) | skip))))
/-- all stands but a and r -/
structure Gy (a r : Nat) (s t : S) : Prop where
  len : s.length ≤ t.length
  at_ : ∀ n, n < s.length → n ≠ a → n ≠ r → t[n]? = s[n]?
theorem _root_.Z.Gx.gy {a r : Nat} {s t : S} (h : Gx a s t) : Gy a r s t := ⟨h.len, fun n l e _ => h.at_ n l e⟩
theorem _root_.Z.Gx.gyr {a r : Nat} {s t : S} (h : Gx r s t) : Gy a r s t := ⟨h.len, fun n l _ e => h.at_ n l e⟩
theorem Gy.trans {a r : Nat} {s t u : S} (h : Gy a r s t) (k : Gy a r t u) : Gy a r s u := ⟨Nat.le_trans h.len k.len, fun n l e f => (k.at_ n (Nat.lt_of_lt_of_le l h.len) e f).trans (h.at_ n l e f)⟩
theorem Gy.keep {a r n : Nat} {s t : S} {o : O} (h : Gy a r s t) (e : n ≠ a) (f : n ≠ r) (k : s[n]? = some o) : t[n]? = some o := (h.at_ n (at_lt k) e f).trans k
theorem Gy.setNew {a r n : Nat} {s t : S} {o : O} (h : Gy a r s t) (k : s.length ≤ n) : Gy a r s (t.set n o) := ⟨by rw [List.length_set]; exact h.len, fun m l e f => by rw [List.getElem?_set_ne (by omega)]; exact h.at_ m l e f⟩
def Room (s : S) (r : Nat) : Prop := ∃ v : Int, s[r]? = some (.lst [.int v])
/-- what a tree is made of -/
structure Tr (a r nm ar mu : Nat) (mn ws sa : List Str) (s : S) : Prop where
  f : Feed s a
  v : Room s r
  n : s[nm]? = some (.lst (ws.map D.str))
  h : s[ar]? = some (.lst (sa.map D.str))
  m : s[mu]? = some (.lst (mn.map D.str))
structure Nq (a r nm ar mu : Nat) (mn ws sa sh : List Str) : Prop where
  e0 : r ≠ a
  n1 : nm ≠ a
  n2 : nm ≠ r
  r1 : ar ≠ a
  r2 : ar ≠ r
  m1 : mu ≠ a
  m2 : mu ≠ r
  w0 : ws ≠ []
  w1 : ws.length ≤ 40
  s0 : sa ≠ []
  s1 : sa.length ≤ 40
  mn0 : 0 < mn.length
  mn1 : mn.length ≤ 100
  sub : ∀ w ∈ sa, w ∈ sh
  p : ("place" : Str) ∈ sh
theorem wp_midR {b b2 : M Out} {es : Ev} {st : S} {Q : Out → S → Prop} (P : Ev → S → Prop) (h : Wp (b es st) (fun o s => (∃ e, o = .nx e ∧ P e s) ∨ After b2 Q o s)) (k : ∀ e s, P e s → Wp (b2 e s) Q) : Wp (sSeq b b2 es st) Q := wp_seq (h.mono fun o s h => by
  rcases h with ⟨e, rfl, p⟩ | h
  · exact k e s p
  · exact h)
theorem len2 : ∀ {ys : List Xp}, ys.length = 2 → ∃ x y, ys = [x, y]
  | [x, y], _ => ⟨x, y, rfl⟩
theorem len3 : ∀ {ys : List Xp}, ys.length = 3 → ∃ x y z, ys = [x, y, z]
  | [x, y, z], _ => ⟨x, y, z, rfl⟩
def SIGNS : List Str := ["+", "-", "*", "div", "mod", "+", "-", "*", "div", "mod", "<", "<=", ">", ">=", "=", "!="]
section
variable {a r nm ar mu : Nat} {mn ws sa sh : List Str} {s t st : S} {Q : D → S → Prop}
theorem Tr.gx (T : Tr a r nm ar mu mn ws sa s) (N : Nq a r nm ar mu mn ws sa sh) (g : Gx a s t) (f : Feed t a) : Tr a r nm ar mu mn ws sa t := by
  obtain ⟨v, h⟩ := T.v
  exact ⟨f, ⟨v, g.keep N.e0 h⟩, g.keep N.n1 T.n, g.keep N.r1 T.h, g.keep N.m1 T.m⟩
theorem Tr.gr (T : Tr a r nm ar mu mn ws sa s) (g : Gr s t) : Tr a r nm ar mu mn ws sa t := by
  obtain ⟨v, h⟩ := T.v
  exact ⟨T.f.gr g, ⟨v, g.keep h⟩, g.keep T.n, g.keep T.h, g.keep T.m⟩
theorem Tr.gy (T : Tr a r nm ar mu mn ws sa s) (N : Nq a r nm ar mu mn ws sa sh) (g : Gy a r s t) (f : Feed t a) (v : Room t r) : Tr a r nm ar mu mn ws sa t := ⟨f, v, g.keep N.n1 N.n2 T.n, g.keep N.r1 N.r2 T.h, g.keep N.m1 N.m2 T.m⟩
theorem Tr.setNew {n : Nat} {o : O} (T : Tr a r nm ar mu mn ws sa s) (e1 : n ≠ a) (e2 : n ≠ r) (e3 : n ≠ nm) (e4 : n ≠ ar) (e5 : n ≠ mu) : Tr a r nm ar mu mn ws sa (s.set n o) := by
  obtain ⟨v, h⟩ := T.v
  exact ⟨T.f.set e1, ⟨v, at_setne e2 h⟩, at_setne e3 T.n, at_setne e4 T.h, at_setne e5 T.m⟩
/-- a kind: the sort, the word, how many parts -/
inductive Kd (sh : List Str) : Str → Str → Int → Prop
  | rd {w : Str} : w ∈ sh → Kd sh "read" w 1
  | mn : Kd sh "call" "min" 2
  | mx : Kd sh "call" "max" 2
  | pick : Kd sh "call" "pick" 3
  | nth : Kd sh "call" "nth" 1
  | op {z w : Str} : z ≠ "read" → z ≠ "call" → Kd sh z w 2
def CALLS : List Str := ["min", "max", "pick", "nth"]
theorem calls_kd : ∀ z ∈ CALLS, Kd sh "call" z (2 + bi (decide (z = ("pick" : Str))) - bi (decide (z = ("nth" : Str)))) := by
  intro z hz
  unfold CALLS at hz
  simp only [List.mem_cons, List.not_mem_nil, or_false] at hz
  rcases hz with rfl | rfl | rfl | rfl
  · exact .mn
  · exact .mx
  · exact .pick
  · exact .nth
theorem Kd.b {z w : Str} {m : Int} (h : Kd sa z w m) : 1 ≤ m ∧ m ≤ 3 := by cases h <;> omega
def TreeR (R : List D → S → R D) (a r nm ar mu : Nat) (mn ws sa sh : List Str) (deep : Nat) : Prop := ∀ (tight : Bool) (st : S) (Q : D → S → Prop), Tr a r nm ar mu mn ws sa st → (∀ (x : Xp) (s : S), Xok ws sh deep x → Gy a r st s → Tr a r nm ar mu mn ws sa s → Q x.d s) → Wp (R [.loc a, .loc r, .int deep, .bl tight, .loc nm, .loc ar, .loc mu] st) Q
theorem tree_ih (N : Nq a r nm ar mu mn ws sa sh) : ∀ (n deep : Nat), 1 ≤ deep → deep ≤ n → deep ≤ 12 → TreeR (R_law_tree n) a r nm ar mu mn ws sa sh deep
  | 0, deep, h0, h1, _ => by omega
  | n + 1, deep, h0, h1, h12 => by
    intro tight st Q T q
    have ih : ∀ d : Nat, 1 ≤ d → d < deep → TreeR (R_law_tree n) a r nm ar mu mn ws sa sh d := fun d a b => tree_ih N n d a (by omega) (by omega)
    show Wp (fnD 14 7 (b_law_tree (R_law_tree n)) [.loc a, .loc r, .int deep, .bl tight, .loc nm, .loc ar, .loc mu] st) Q
    revert ih
    generalize R_law_tree n = R1
    intro ih
    have lw : ws.length ≠ 0 := fun h => N.w0 (List.length_eq_zero_iff.mp h)
    have ls : sa.length ≠ 0 := fun h => N.s0 (List.length_eq_zero_iff.mp h)
    have hw6 := N.w1
    have hs6 := N.s1
    have a1 := T.f.lt
    have a3 := at_lt T.n
    have a4 := at_lt T.h
    have a5 := at_lt T.m
    have a2 : r < st.length := by
      obtain ⟨v, hv⟩ := T.v
      exact at_lt hv
    unfold b_law_tree
    refine wp_fn rfl ?_
    refine wp_mid (fun e s => e = [some (.loc a), some (.loc r), some (.int deep), some (.bl tight), some (.loc nm), some (.loc ar), some (.loc mu), none, none, none, none, none, none, none] ∧ Gy a r st s ∧ Tr a r nm ar mu mn ws sa s) ?_ ?_
    · obtain ⟨v, hv⟩ := T.v
      walk_at "zy"
      exact ⟨_, rfl, rfl, Gx.set.gyr, T.f.set N.e0, ⟨_, at_set hv⟩, at_setne N.n2.symm T.n, at_setne N.r2.symm T.h, at_setne N.m2.symm T.m⟩
    rintro e s1 ⟨rfl, g1, T1⟩
    clear T
    refine wp_mid (fun e s => ∃ z : Str, e = [some (.loc a), some (.loc r), some (.int deep), some (.bl tight), some (.loc nm), some (.loc ar), some (.loc mu), some (.str z), none, none, none, none, none, none] ∧ Gy a r st s ∧ Tr a r nm ar mu mn ws sa s) ?_ ?_
    · have hm := T1.m
      walk_at "zy"
      refine take_wp T1.f (by rw [List.length_map]; have := N.mn0; omega) (by rw [List.length_map]; have := N.mn1; omega) ?_
      intro j s2 j0 j1 g2 f2 l2
      rw [List.length_map] at j1
      have T2 := T1.gx N g2 f2
      refine wp_strIx (getL_of T2.m) j0 j1 ?_
      intro z hz
      exact ⟨_, rfl, z, rfl, g1.trans g2.gy, T2⟩
    clear g1 T1 s1
    rintro e s1 ⟨z, rfl, g1, T1⟩
    refine wp_midR (fun e s => e = [some (.loc a), some (.loc r), some (.int deep), some (.bl tight), some (.loc nm), some (.loc ar), some (.loc mu), some (.str z), none, none, none, none, none, none] ∧ s = s1 ∧ 2 ≤ deep) ?_ ?_
    · obtain ⟨v, hv⟩ := T1.v
      have L : ∀ {Q : D → S → Prop}, (∀ (x : Xp) (s : S), Xok ws sh deep x → Gy a r st s → Tr a r nm ar mu mn ws sa s → Q x.d s) → Wp (F_law_leaf [.loc a, .loc nm] s1) Q := fun q => leaf_wp T1.f T1.n N.n1 N.w0 N.w1 fun x s hx g f => q x s ⟨hx.1, Nat.le_trans hx.2 h0⟩ (g1.trans g.gy) (T1.gx N g f)
      have R : ∀ {b2}, ∀ (x : Xp) (s : S), Xok ws sh deep x → Gy a r st s → Tr a r nm ar mu mn ws sa s → After b2 (Z.Back Q) (.rt x.d) s := fun x s h1 h2 h3 => q x s h1 h2 h3
      walk_at "zy"
      · exact L fun x s a b c => Or.inr (R x s a b c)
      · exact L fun x s a b c => Or.inr (R x s a b c)
      · exact L fun x s a b c => Or.inr (R x s a b c)
      · exact Or.inl ⟨_, rfl, rfl, rfl, by omega⟩
      · exact Or.inl ⟨_, rfl, rfl, rfl, by omega⟩
    rintro e _ ⟨rfl, rfl, d2⟩
    refine wp_mid (fun e s => ∃ m8, e = [some (.loc a), some (.loc r), some (.int deep), some (.bl tight), some (.loc nm), some (.loc ar), some (.loc mu), some (.str z), some (.loc m8), none, none, none, none, none] ∧ Gy a r st s ∧ Tr a r nm ar mu mn ws sa s ∧ s[m8]? = some (.lst (SIGNS.map D.str)) ∧ st.length ≤ m8) ?_ ?_
    · walk_at "zy"
      exact ⟨_, rfl, _, rfl, g1.trans Gx.app.gy, T1.gr Gr.app, at_last, g1.len⟩
    clear T1 g1
    rintro e s1 ⟨m8, rfl, g1, T1, e8, l8⟩
    refine wp_mid (fun e s => ∃ v8 w, e = [some (.loc a), some (.loc r), some (.int deep), some (.bl tight), some (.loc nm), some (.loc ar), some (.loc mu), some (.str z), v8, some (.str w), none, none, none, none] ∧ Gy a r st s ∧ Tr a r nm ar mu mn ws sa s) ?_ ?_
    · walk_at "zy"
      refine take_wp T1.f (by omega) (by omega) ?_
      intro j s2 j0 j1 g2 f2 l2
      refine wp_strIx (getL_of (g2.keep (by omega) e8)) j0 j1 ?_
      intro w hw
      exact ⟨_, rfl, _, w, rfl, g1.trans g2.gy, T1.gx N g2 f2⟩
    clear T1 g1 e8 l8 s1
    rintro e s1 ⟨v8, w, rfl, g1, T1⟩
    walk_at "zn"
    refine wp_mid (fun e s => ∃ w m, e = [some (.loc a), some (.loc r), some (.int deep), some (.bl tight), some (.loc nm), some (.loc ar), some (.loc mu), some (.str z), v8, some (.str w), some (.int m), none, none, none] ∧ Gy a r st s ∧ Tr a r nm ar mu mn ws sa s ∧ ((z = "read" ∧ w ∈ sa ∧ m = 1) ∨ (z ≠ "read" ∧ m = 2))) ?_ ?_
    · have hr := T1.h
      walk_at "zy"
      · rename_i hb
        refine wp_seq ?_
        walk_at "zy"
        refine take_wp T1.f (by rw [List.length_map]; omega) (by rw [List.length_map]; omega) ?_
        intro j s2 j0 j1 g2 f2 l2
        rw [List.length_map] at j1
        have T2 := T1.gx N g2 f2
        refine wp_strIx (getL_of T2.h) j0 j1 ?_
        intro w hw
        walk_at "zy"
        exact ⟨_, rfl, w, _, rfl, g1.trans g2.gy, T2, Or.inl ⟨hb, hw, rfl⟩⟩
      · rename_i hb
        exact ⟨_, rfl, w, _, rfl, g1, T1, Or.inr ⟨hb, rfl⟩⟩
    clear T1 g1 s1 w
    rintro e s1 ⟨w, m, rfl, g1, T1, hk⟩
    refine wp_mid (fun e s => ∃ w m, e = [some (.loc a), some (.loc r), some (.int deep), some (.bl tight), some (.loc nm), some (.loc ar), some (.loc mu), some (.str z), v8, some (.str w), some (.int m), none, none, none] ∧ Gy a r st s ∧ Tr a r nm ar mu mn ws sa s ∧ Kd sa z w m) ?_ ?_
    · walk_at "zy"
      · rename_i hb
        subst hb
        refine wp_seq ?_
        walk_at "zy"
        refine take_wp (T1.f.gr Gr.app) (by omega) (by omega) ?_
        intro j s2 j0 j1 g2 f2 l2
        have e9 : s2[s1.length]? = some (.lst (CALLS.map D.str)) := g2.keep (by have := g1.len; omega) at_last
        refine wp_strIx (getL_of e9) j0 j1 ?_
        intro w hw
        walk_at "zy"
        refine int_bl ?_
        walk_at "zy"
        refine int_bl ?_
        walk_at "zy"
        exact ⟨_, rfl, w, _, rfl, (g1.trans Gx.app.gy).trans g2.gy, (T1.gr Gr.app).gx N g2 f2, calls_kd w hw⟩
      · rename_i hb
        refine ⟨_, rfl, w, m, rfl, g1, T1, ?_⟩
        rcases hk with ⟨rfl, h, rfl⟩ | ⟨h, rfl⟩
        · exact .rd h
        · exact .op h hb
    clear T1 g1 s1 w m hk
    rintro e s1 ⟨w, m, rfl, g1, T1, hk⟩
    obtain ⟨b1, b3⟩ := hk.b
    walk_at "zn"
    refine take_wp T1.f (by omega) (by omega) ?_
    intro sp s2 p0 p1 g2 f2 l2
    walk_at "zy"
    have T2 := T1.gx N g2 f2
    have G2 := g1.trans g2.gy
    have sl := G2.len
    clear T1 g1 g2 f2 l2
    walk_at "zn"
    refine wp_mid (fun e s => ∃ (v : Option D) (xs : List Xp), e = [some (.loc a), some (.loc r), some (.int deep), some (.bl tight), some (.loc nm), some (.loc ar), some (.loc mu), some (.str z), v8, some (.str w), some (.int m), some (.int sp), some (.loc s2.length), v] ∧ Gy a r st s ∧ Tr a r nm ar mu mn ws sa s ∧ s[s2.length]? = some (.lst (xs.map Xp.d)) ∧ (∀ x ∈ xs, Xok ws sh (deep - 1) x) ∧ xs.length = m) ?_ ?_
    · walk_at "zy"
      refine ⟨_, rfl, by omega, by omega, ?_⟩
      refine wp_forT (fun i e s => ∃ (v : Option D) (xs : List Xp), e = [some (.loc a), some (.loc r), some (.int deep), some (.bl tight), some (.loc nm), some (.loc ar), some (.loc mu), some (.str z), v8, some (.str w), some (.int m), some (.int sp), some (.loc s2.length), v] ∧ Gy a r st s ∧ Tr a r nm ar mu mn ws sa s ∧ s[s2.length]? = some (.lst (xs.map Xp.d)) ∧ (∀ x ∈ xs, Xok ws sh (deep - 1) x) ∧ xs.length = i) ⟨none, [], rfl, G2.trans Gx.app.gy, T2.gr Gr.app, at_last, (fun _ h => nomatch h), rfl⟩ ?_ ?_
      · rintro i d es s hd ⟨v, xs, rfl, g, T, e, hx, lx⟩
        obtain ⟨rfl, hi⟩ := get_range hd
        refine ⟨_, rfl, ?_⟩
        have fin : ∀ (x : Xp) (t : S) (k : D), Xok ws sh (deep - 1) x → Gy a r s t → Tr a r nm ar mu mn ws sa t → ∃ (v : Option D) (ys : List Xp), [some (.loc a), some (.loc r), some (.int deep), some (.bl tight), some (.loc nm), some (.loc ar), some (.loc mu), some (.str z), v8, some (.str w), some (.int m), some (.int sp), some (.loc s2.length), some k] = [some (.loc a), some (.loc r), some (.int deep), some (.bl tight), some (.loc nm), some (.loc ar), some (.loc mu), some (.str z), v8, some (.str w), some (.int m), some (.int sp), some (.loc s2.length), v] ∧ Gy a r st (t.set s2.length (.lst (xs.map Xp.d ++ [x.d]))) ∧ Tr a r nm ar mu mn ws sa (t.set s2.length (.lst (xs.map Xp.d ++ [x.d]))) ∧ (t.set s2.length (.lst (xs.map Xp.d ++ [x.d])))[s2.length]? = some (.lst (ys.map Xp.d)) ∧ (∀ x ∈ ys, Xok ws sh (deep - 1) x) ∧ ys.length = i + 1 := by
          intro x t k hk gt Tt
          refine ⟨_, xs ++ [x], rfl, (g.trans gt).setNew (by omega), Tt.setNew (by omega) (by omega) (by omega) (by omega) (by omega), ?_, ?_, by rw [List.length_append, lx]; rfl⟩
          · rw [List.map_append]
            exact at_set (gt.keep (by omega) (by omega) e)
          · intro y hy
            rcases List.mem_append.mp hy with hy | hy
            · exact hx y hy
            · rw [List.mem_singleton.mp hy]
              exact hk
        have one : (deep : Int) - 1 = ((deep - 1 : Nat) : Int) := by omega
        have lm : (xs.map Xp.d).length < 1000000 := by rw [List.length_map]; omega
        have free : ∀ (u : S) (b : Bool) (Q : D → S → Prop), Gy a r s u → Tr a r nm ar mu mn ws sa u → (∀ (x : Xp) (t : S), Xok ws sh (deep - 1) x → Gy a r s t → Tr a r nm ar mu mn ws sa t → Q x.d t) → Wp (F_law_take [.loc a, .int ((deep : Int) - 1)] u) fun j s => Wp (bAdd (.int 1) j s) fun y s => Wp (R1 [.loc a, .loc r, y, .bl b, .loc nm, .loc ar, .loc mu] s) Q := by
          intro u b Q gu Tu q
          refine take_wp Tu.f (by omega) (by omega) ?_
          intro j s3 j0 j1 g3 f3 l3
          refine wp_addI ?_
          rw [show (1 : Int) + j = ((1 + j.toNat : Nat) : Int) by omega]
          refine ih _ (by omega) (by omega) b s3 Q (Tu.gx N g3 f3) ?_
          intro x t hx gx Tx
          exact q x t ⟨hx.1, by have := hx.2; omega⟩ ((gu.trans g3.gy).trans gx) Tx
        walk_at "zy"
        · rw [one]
          refine ih _ (by omega) (by omega) true s _ T ?_
          intro x t hk gt Tt
          have et := gt.keep (by omega) (by omega) e
          walk_at "zy"
          exact fin x t _ hk gt Tt
        · refine free s false _ ⟨Nat.le_refl _, fun _ _ _ _ => rfl⟩ T ?_
          intro x t hk gt Tt
          have et := gt.keep (by omega) (by omega) e
          walk_at "zy"
          exact fin x t _ hk gt Tt
        · refine free s false _ ⟨Nat.le_refl _, fun _ _ _ _ => rfl⟩ T ?_
          intro x t hk gt Tt
          have et := gt.keep (by omega) (by omega) e
          walk_at "zy"
          exact fin x t _ hk gt Tt
      · rintro es s ⟨v, xs, rfl, g, T, e, hx, lx⟩
        rw [len_range] at lx
        exact ⟨_, rfl, v, xs, rfl, g, T, e, hx, by omega⟩
    rintro e s3 ⟨v, xs, rfl, g, T, e, hx, lx⟩
    have one : ∀ {ys : List Xp}, (ys.length : Int) = 1 → ∃ x, ys = [x] := fun h => List.length_eq_one_iff.mp (by omega)
    have two : ∀ {ys : List Xp}, (ys.length : Int) = 2 → ∃ x y, ys = [x, y] := fun h => len2 (by omega)
    have three : ∀ {ys : List Xp}, (ys.length : Int) = 3 → ∃ x y z, ys = [x, y, z] := fun h => len3 (by omega)
    cases hk with
    | rd hw =>
      obtain ⟨x, rfl⟩ := one lx
      have h1 := hx x (List.mem_cons_self ..)
      have h2 := h1.2
      simp only [List.map_cons, List.map_nil] at e
      walk_at "zz"
      exact q (.rd w x) s3 ⟨⟨N.sub _ hw, h1.1⟩, by show x.dep + 1 ≤ deep; omega⟩ g T
    | mn =>
      obtain ⟨x, y, rfl⟩ := two lx
      have h1 := hx x (List.mem_cons_self ..)
      have k1 := hx y (List.mem_cons_of_mem _ (List.mem_cons_self ..))
      have h2 := h1.2
      have k2 := k1.2
      simp only [List.map_cons, List.map_nil] at e
      walk_at "zz"
      exact q (.mn x y) s3 ⟨⟨h1.1, k1.1⟩, by show max x.dep y.dep + 1 ≤ deep; omega⟩ g T
    | mx =>
      obtain ⟨x, y, rfl⟩ := two lx
      have h1 := hx x (List.mem_cons_self ..)
      have k1 := hx y (List.mem_cons_of_mem _ (List.mem_cons_self ..))
      have h2 := h1.2
      have k2 := k1.2
      simp only [List.map_cons, List.map_nil] at e
      walk_at "zz"
      exact q (.mx x y) s3 ⟨⟨h1.1, k1.1⟩, by show max x.dep y.dep + 1 ≤ deep; omega⟩ g T
    | pick =>
      obtain ⟨x, y, z, rfl⟩ := three lx
      have h1 := hx x (List.mem_cons_self ..)
      have k1 := hx y (List.mem_cons_of_mem _ (List.mem_cons_self ..))
      have m1 := hx z (List.mem_cons_of_mem _ (List.mem_cons_of_mem _ (List.mem_cons_self ..)))
      have h2 := h1.2
      have k2 := k1.2
      have m2 := m1.2
      simp only [List.map_cons, List.map_nil] at e
      walk_at "zz"
      exact q (.pick x y z) s3 ⟨⟨h1.1, k1.1, m1.1⟩, by show max x.dep (max y.dep z.dep) + 1 ≤ deep; omega⟩ g T
    | nth =>
      obtain ⟨x, rfl⟩ := one lx
      have h1 := hx x (List.mem_cons_self ..)
      have h2 := h1.2
      simp only [List.map_cons, List.map_nil] at e
      walk_at "zz"
      exact q (.nth x) s3 ⟨⟨N.p, h1.1⟩, by show x.dep + 1 ≤ deep; omega⟩ g T
    | op z1 z2 =>
      obtain ⟨x, y, rfl⟩ := two lx
      have h1 := hx x (List.mem_cons_self ..)
      have k1 := hx y (List.mem_cons_of_mem _ (List.mem_cons_self ..))
      have h2 := h1.2
      have k2 := k1.2
      simp only [List.map_cons, List.map_nil] at e
      walk_at "zz"
      · exact absurd (by assumption) z1
      · exact absurd (by assumption) z2
      · exact q (.op w x y) s3 ⟨⟨h1.1, k1.1⟩, by show max x.dep y.dep + 1 ≤ deep; omega⟩ g T
end
end K01
end
section
set_option Elab.async false
set_option linter.all false
set_option maxRecDepth 100000
set_option maxHeartbeats 2000000
open PySem PySem.Spec PyProof.Rows L2 Z
local macro_rules | `(tactic| fail "zs") => `(tactic| first
  | assumption
  | with_reducible exact at_last
  | (with_reducible apply at_set; fail "zs")
  | (with_reducible apply at_app; fail "zs")
  | (with_reducible apply at_setne; (first | assumption | (apply Ne.symm; assumption) | omega); fail "zs")
  | (with_reducible refine Gr.keep (by assumption) ?_; fail "zs")
  | (with_reducible refine Gx.keep (by assumption) ?_ ?_; (first | assumption | (apply Ne.symm; assumption) | omega); fail "zs"))
local macro_rules | `(tactic| fail "zg") => `(tactic| first
  | assumption
  | (with_reducible apply getL_of; fail "zs")
  | (with_reducible apply getW_of; fail "zs")
  | (with_reducible apply getI_of; fail "zs"))
local macro_rules | `(tactic| fail "za") => `(tactic| first | (with_reducible apply atI_int; (first | assumption | omega); (first | assumption | omega | (simp only [List.length_set]; omega))) | with_unfolding_all exact rfl | assumption)
local macro_rules | `(tactic| fail "y0") => `(tactic| first
  | (with_reducible refine' wp_var ?z1 ?z2; (case z1 => with_unfolding_all exact rfl))
  | with_reducible refine wp_c2 ?_
  | with_reducible refine wp_cons ?_
  | with_reducible refine wp_c ?_
  | with_reducible refine wp_nil ?_
  | with_reducible refine wp_call ?_
  | with_reducible refine wp_c1 ?_)
local macro_rules | `(tactic| fail "y1") => `(tactic| first
  | with_reducible refine wp_set ?_
  | with_reducible refine wp_if ?_
  | with_reducible refine wp_next ?_
  | with_reducible refine wp_ret ?_
  | with_reducible refine af_nx ?_
  | with_reducible refine bk_rt ?_
  | (with_reducible refine' wp_ixL ?z1 ?z2 ?z3; (case z1 => fail "zg"); (case z2 => fail "za"))
  | (with_reducible refine' wp_ixT ?z1 ?z2; (case z1 => fail "za")))
local macro_rules | `(tactic| fail "y2") => `(tactic| first
  | with_reducible refine af_rt ?_
  | with_reducible refine af_bk ?_
  | with_reducible refine bk_nx ?_
  | with_reducible refine turned_nx ?_
  | with_reducible refine turned_bk ?_
  | with_reducible refine turned_rt ?_
  | with_reducible refine wp_and ?_
  | with_reducible refine wp_or ?_)
local macro_rules | `(tactic| fail "y3") => `(tactic| first
  | with_reducible refine wp_not ?_
  | with_reducible refine wp_sub ?_
  | with_reducible refine wp_subA ?_
  | with_reducible refine wp_chain ?_
  | with_reducible refine wp_neAI ?_
  | with_reducible refine wp_neAS ?_
  | with_reducible refine wp_dic0 ?_
  | with_reducible refine wp_drop ?_)
local macro_rules | `(tactic| fail "y4") => `(tactic| first
  | with_reducible refine wp_vK ?_
  | with_reducible refine wp_nox ?_
  | with_reducible refine wp_break ?_
  | with_reducible refine wp_retN ?_
  | with_reducible refine wp_sfld ?_
  | with_reducible refine wp_yes ?_
  | with_reducible refine wp_addI ?_
  | with_reducible refine wp_subI ?_)
local macro_rules | `(tactic| fail "y5") => `(tactic| first
  | with_reducible refine wp_neg ?_
  | with_reducible refine wp_eqI ?_
  | with_reducible refine wp_neI ?_
  | with_reducible refine wp_ltI ?_
  | with_reducible refine wp_leI ?_
  | with_reducible refine wp_gtI ?_
  | with_reducible refine wp_geI ?_
  | with_reducible refine wp_eqS ?_)
local macro_rules | `(tactic| fail "y6") => `(tactic| first
  | with_reducible refine wp_neS ?_
  | with_reducible refine wp_eqB ?_
  | with_reducible refine wp_isN ?_
  | with_reducible refine wp_isNotN ?_
  | with_reducible refine wp_int ?_
  | with_reducible refine wp_max2 ?_
  | with_reducible refine wp_min2 ?_
  | with_reducible refine wp_tr_bl ?_)
local macro_rules | `(tactic| fail "y7") => `(tactic| first
  | with_reducible refine wp_tr_int ?_
  | with_reducible refine wp_tupT ?_
  | with_reducible refine wp_slT ?_
  | with_reducible refine wp_nopart ?_
  | with_reducible refine wp_lst ?_
  | with_reducible refine wp_tup ?_
  | with_reducible refine wp_slice ?_
  | with_reducible refine wp_callK ?_)
local macro_rules | `(tactic| fail "y8") => `(tactic| first
  | with_reducible refine wp_make ?_
  | with_reducible refine wp_meth ?_
  | with_reducible refine wp_is ?_
  | with_reducible refine wp_vand ?_
  | with_reducible refine wp_vor ?_
  | with_reducible refine wp_vnot ?_
  | with_reducible refine wp_asg ?_
  | with_reducible refine wp_part ?_)
local macro_rules | `(tactic| fail "y9") => `(tactic| first
  | with_reducible refine wp_forR1 ?_
  | with_reducible refine wp_forR2 ?_
  | with_reducible refine wp_compR1 ?_
  | with_reducible refine wp_compR2 ?_
  | (with_reducible refine' wp_ixAL ?z1 ?z2 ?z3; (case z1 => fail "zg"); (case z2 => fail "za"))
  | (with_reducible refine' wp_ixAT ?z1 ?z2; (case z1 => fail "za"))
  | (with_reducible refine' and_isL ?z1 ?z2; (case z1 => fail "zg"))
  | (with_reducible refine' wp_append ?z1 ?z2 ?z3; (case z1 => fail "zg"); (case z2 => first | omega | (simp only [List.length_map, List.length_append, List.length_cons, List.length_nil]; omega))))
local macro_rules | `(tactic| fail "y10") => `(tactic| first
  | (with_reducible refine' wp_lenL ?z1 ?z2; (case z1 => fail "zg"))
  | with_reducible refine wp_lenT ?_
  | (with_reducible refine' wp_lenAL ?z1 ?z2; (case z1 => fail "zg"))
  | with_reducible refine wp_lenAT ?_
  | (with_reducible refine' wp_listL ?z1 ?z2; (case z1 => fail "zg"))
  | with_reducible refine wp_listT ?_
  | with_reducible refine ex_bl ?_
  | (with_reducible refine' ex_ty ?z1 ?z2 ?z3; (case z1 => with_unfolding_all exact rfl); (case z2 => with_unfolding_all exact rfl)))
local macro_rules | `(tactic| fail "y11") => `(tactic| first
  | (with_reducible refine' wp_mulT ?z1 ?z2 ?z3; (case z1 => omega); (case z2 => omega))
  | (with_reducible refine' wp_setF ?z1 ?z2 ?z3; (case z1 => fail "zg"); (case z2 => with_unfolding_all exact Nat.le_of_ble_eq_true rfl))
  | (with_reducible refine' wp_setInt ?z1 ?z2 ?z3 ?z4; (case z1 => fail "zg"); (case z2 => first | assumption | omega); (case z3 => first | assumption | omega | (simp only [List.length_set]; omega)))
  | (with_reducible refine' wp_setIx ?z1 ?z2 ?z3; (case z1 => fail "zg"); (case z2 => first | (with_reducible apply ixN_of; (first | assumption | omega); (first | assumption | omega | (rw [List.length_map]; omega))) | with_unfolding_all exact rfl | assumption))
  | (with_reducible refine' wp_setAI ?z1 ?z2 ?z3 ?z4; (case z1 => fail "zg"); (case z2 => first | assumption | omega); (case z3 => first | assumption | omega | (simp only [List.length_set]; omega)))
  | (with_reducible refine' wp_setAX ?z1 ?z2 ?z3; (case z1 => fail "zg"); (case z2 => first | (with_reducible apply ixN_of; (first | assumption | omega); (first | assumption | omega | (rw [List.length_map]; omega))) | with_unfolding_all exact rfl | assumption))
  | (with_reducible refine' wp_modI ?z1 ?z2; (case z1 => omega))
  | (with_reducible refine' wp_divA0 ?z1 ?z2 ?z3; (case z1 => omega); (case z2 => omega)))
local macro_rules | `(tactic| fail "y12") => `(tactic| first
  | (with_reducible refine' wp_mulA ?z1 ?z2; (case z1 => omega))
  | (with_reducible refine' wp_divI ?z1 ?z2 ?z3; (case z1 => omega); (case z2 => omega))
  | (with_reducible refine' wp_mulI ?z1 ?z2; (case z1 => omega))
  | (with_reducible refine' wp_powI ?z1 ?z2; (case z1 => with_unfolding_all decide))
  | (with_reducible refine' wp_fld ?z1 ?z2 ?z3; (case z1 => fail "zg"); (case z2 => first | with_unfolding_all exact rfl | assumption))
  | (with_reducible refine' wp_prop ?z1 ?z2; (case z1 => fail "zg"))
  | (with_reducible refine' wp_tupL ?z1 ?z2; (case z1 => fail "zg"))
  | (with_reducible refine' And.intro ?z1 ?z2; (case z1 => first | with_unfolding_all exact Nat.le_of_ble_eq_true rfl | with_unfolding_all decide)))
local macro_rules | `(tactic| fail "z0") => `(tactic| first | fail "y0" | fail "y1" | fail "y2" | fail "y3" | fail "y4" | fail "y5" | fail "y6" | fail "y7" | fail "y8" | fail "y9" | fail "y10" | fail "y11" | fail "y12")
local macro_rules | `(tactic| fail "z1") => `(tactic| first | with_reducible refine wp_seq ?_ | fail "z0")
local macro_rules | `(tactic| walk_at "z") => `(tactic| (repeat fail "z1"))
local macro_rules | `(tactic| fail "zb") => `(tactic| (with_reducible refine And.intro ?_ ?_; (all_goals (intro hb; first | (simp at hb; done) | (simp at hb; skip) | skip))))
local macro_rules | `(tactic| walk_at "zz") => `(tactic| (repeat' (first | fail "z1" | fail "zb")))
local macro_rules | `(tactic| walk_at "zy") => `(tactic| (repeat' (first | fail "z0" | fail "zb")))
local macro_rules | `(tactic| walk_at "zn") => `(tactic| (with_reducible refine wp_seq ?_; walk_at "zy"))
local macro_rules | `(tactic| walk_at "zs") => `(tactic| fail "zs")
local macro_rules | `(tactic| walk_at "zg") => `(tactic| fail "zg")
local macro_rules | `(tactic| walk_at "za") => `(tactic| fail "za")
local macro_rules | `(tactic| walk_at "z0") => `(tactic| fail "z0")
local macro_rules | `(tactic| walk_at "z1") => `(tactic| fail "z1")
local macro_rules | `(tactic| walk_at "zb") => `(tactic| fail "zb")
namespace K01
open PySem PySem.Spec PyProof.Rows L2 Z
local macro_rules | `(tactic| fail "zb") => `(tactic| (with_reducible refine And.intro ?_ ?_; (all_goals (intro hb; first | (exact absurd hb (by decide)) | (simp at hb; done) | (simp only [decide_eq_true_eq, decide_eq_false_iff_not, Bool.not_eq_true', Bool.not_eq_false'] at hb; skip) | skip))))
/-! parts, subs -/
def sz : Nat → Nat
  | 0 => 0
  | n + 1 => 1 + 3 * sz n
theorem sz_mono : ∀ {m n : Nat}, m ≤ n → sz m ≤ sz n
  | 0, n, _ => Nat.zero_le _
  | m + 1, 0, h => by omega
  | m + 1, n + 1, h => by
    have := sz_mono (m := m) (n := n) (by omega)
    show 1 + 3 * sz m ≤ 1 + 3 * sz n
    omega
theorem sz12 : sz 12 = 265720 := rfl
theorem parts3 (x : Xp) : x.parts.length ≤ 3 := by cases x <;> simp [Xp.parts]
theorem parts_ok {ws sh : List Str} : ∀ {x p : Xp}, x.ok ws sh → p ∈ x.parts → p.ok ws sh
  | .num _, p, _, h => nomatch h
  | .nm _, p, _, h => nomatch h
  | .rd _ x, p, o, h => by
    rw [List.mem_singleton.mp h]
    exact o.2
  | .nth x, p, o, h => by
    rw [List.mem_singleton.mp h]
    exact o.2
  | .op _ l r, p, o, h => by
    rcases List.mem_cons.mp h with rfl | h
    · exact o.1
    · rw [List.mem_singleton.mp h]
      exact o.2
  | .mn l r, p, o, h => by
    rcases List.mem_cons.mp h with rfl | h
    · exact o.1
    · rw [List.mem_singleton.mp h]
      exact o.2
  | .mx l r, p, o, h => by
    rcases List.mem_cons.mp h with rfl | h
    · exact o.1
    · rw [List.mem_singleton.mp h]
      exact o.2
  | .pick x y z, p, o, h => by
    rcases List.mem_cons.mp h with rfl | h
    · exact o.1
    rcases List.mem_cons.mp h with rfl | h
    · exact o.2.1
    rw [List.mem_singleton.mp h]
    exact o.2.2
section
variable {ws sh : List Str} {s t st : S} {Q : D → S → Prop}
theorem lparts_wp {x : Xp} (q : ∀ s, Gr st s → s[st.length]? = some (.lst (x.parts.map Xp.d)) → Q (.loc st.length) s) : Wp (F_law_parts [x.d] st) Q := by
  unfold F_law_parts b_law_parts
  cases x with
  | num n =>
    simp only [Xp.d, Xp.parts, List.map_cons, List.map_nil] at *
    refine wp_fn rfl ?_
    walk_at "zz"
    exact q _ Gr.app at_last
  | nm n =>
    simp only [Xp.d, Xp.parts, List.map_cons, List.map_nil] at *
    refine wp_fn rfl ?_
    walk_at "zz"
    exact q _ Gr.app at_last
  | rd a x =>
    simp only [Xp.d, Xp.parts, List.map_cons, List.map_nil] at *
    refine wp_fn rfl ?_
    walk_at "zz"
    exact q _ Gr.app at_last
  | op a x y =>
    simp only [Xp.d, Xp.parts, List.map_cons, List.map_nil] at *
    refine wp_fn rfl ?_
    walk_at "zz"
    exact q _ Gr.app at_last
  | mn x y =>
    simp only [Xp.d, Xp.parts, List.map_cons, List.map_nil] at *
    refine wp_fn rfl ?_
    walk_at "zz"
    exact q _ Gr.app at_last
  | mx x y =>
    simp only [Xp.d, Xp.parts, List.map_cons, List.map_nil] at *
    refine wp_fn rfl ?_
    walk_at "zz"
    exact q _ Gr.app at_last
  | nth x =>
    simp only [Xp.d, Xp.parts, List.map_cons, List.map_nil] at *
    refine wp_fn rfl ?_
    walk_at "zz"
    exact q _ Gr.app at_last
  | pick x y z =>
    simp only [Xp.d, Xp.parts, List.map_cons, List.map_nil] at *
    refine wp_fn rfl ?_
    walk_at "zz"
    exact q _ Gr.app at_last
/-- an expression and all its parts, from the left -/
def subs : Xp → List Xp
  | .num n => [.num n]
  | .nm w => [.nm w]
  | .rd a x => .rd a x :: subs x
  | .op s l r => .op s l r :: (subs l ++ subs r)
  | .mn x y => .mn x y :: (subs x ++ subs y)
  | .mx x y => .mx x y :: (subs x ++ subs y)
  | .nth x => .nth x :: subs x
  | .pick x y z => .pick x y z :: (subs x ++ (subs y ++ subs z))
theorem subs_eq (x : Xp) : subs x = x :: x.parts.flatMap subs := by cases x <;> simp [subs, Xp.parts]
theorem flat_take {i : Nat} {p : Xp} {ps : List Xp} (h : ps[i]? = some p) : (ps.take (i + 1)).flatMap subs = (ps.take i).flatMap subs ++ subs p := by
  rw [List.take_succ, h, List.flatMap_append]
  simp
def SubR (R : List D → S → R D) (ws sh : List Str) (k : Nat) (x : Xp) : Prop := ∀ (s : S) (Q : D → S → Prop), (∀ (l : Nat) (xs : List Xp) (t : S), Gr s t → t[l]? = some (.lst (xs.map Xp.d)) → s.length ≤ l → (∀ y ∈ xs, Xok ws sh 12 y) → xs.length ≤ sz k → xs = subs x → Q (.loc l) t) → Wp (R [x.d] s) Q
theorem subs_ih : ∀ (n k : Nat) (x : Xp), Xok ws sh k x → k ≤ n → k ≤ 12 → SubR (R_law_subs n) ws sh k x
  | 0, k, x, h, h2, _ => by
    have := h.2
    cases x <;> simp [Xp.dep] at this <;> omega
  | n + 1, k, x, h, h2, h3 => by
    intro s Q q
    have ih : ∀ p ∈ x.parts, SubR (R_law_subs n) ws sh (k - 1) p := fun p hp => subs_ih n (k - 1) p ⟨parts_ok h.1 hp, by have := part_dep hp; have := h.2; omega⟩ (by omega) (by omega)
    have k1 : 1 ≤ k := by
      have := h.2
      cases x <;> simp [Xp.dep] at this <;> omega
    have szk : sz k = 1 + 3 * sz (k - 1) := by
      rw [show k = (k - 1) + 1 by omega]
      rfl
    have szb : sz k ≤ 265720 := sz12 ▸ sz_mono h3
    have p3 := parts3 x
    show Wp (fnD 3 1 (b_law_subs (R_law_subs n)) [x.d] s) Q
    revert ih
    generalize R_law_subs n = R1
    intro ih
    unfold b_law_subs
    refine wp_fn rfl ?_
    walk_at "zn"
    refine wp_mid (fun e t => ∃ (m : Nat) (v : Option D) (xs : List Xp), e = [some x.d, some (.loc m), v] ∧ Gr s t ∧ t[m]? = some (.lst (xs.map Xp.d)) ∧ s.length ≤ m ∧ (∀ y ∈ xs, Xok ws sh 12 y) ∧ xs.length ≤ sz k ∧ xs = subs x) ?_ ?_
    · refine wp_for_loc ?_
      walk_at "zy"
      refine lparts_wp ?_
      intro s1 g1 e1
      refine ⟨_, rfl, ?_⟩
      refine wp_forL (xs := x.parts.map Xp.d) (fun i e t => ∃ (m : Nat) (v : Option D) (xs : List Xp), e = [some x.d, some (.loc m), v] ∧ Gr s1 t ∧ t[m]? = some (.lst (xs.map Xp.d)) ∧ s.length ≤ m ∧ (∀ y ∈ xs, Xok ws sh 12 y) ∧ xs.length ≤ 1 + i * sz (k - 1) ∧ xs = x :: (x.parts.take i).flatMap subs) ⟨_, none, [x], rfl, Gr.refl, g1.keep at_last, Nat.le_refl _, ?_, by simp, by simp⟩ ?_ (by rw [List.length_map]; omega) ?_ ?_
      · intro y hy
        rw [List.mem_singleton.mp hy]
        exact ⟨h.1, Nat.le_trans h.2 h3⟩
      · rintro i es t - ⟨m, v, xs, rfl, g, e, l, hx, lx, ex⟩
        exact getL_of (g.keep e1)
      · rintro i d es t hd ⟨m, v, xs, rfl, g, e, l, hx, lx, ex⟩
        rw [List.getElem?_map] at hd
        cases ep : x.parts[i]? with
        | none => rw [ep] at hd; cases hd
        | some p =>
          rw [ep] at hd
          cases hd
          have hi := (List.getElem?_eq_some_iff.mp ep).1
          refine ⟨_, rfl, ?_⟩
          walk_at "zy"
          refine ih p (List.mem_of_getElem? ep) t _ ?_
          intro l2 ys t2 g2 e2 ll hy ly ey
          have lt : xs.length + ys.length ≤ 1 + (i + 1) * sz (k - 1) := by
            rw [Nat.add_mul, Nat.one_mul]
            omega
          have lb : (i + 1) * sz (k - 1) ≤ 3 * sz (k - 1) := Nat.mul_le_mul_right _ (by omega)
          refine wp_addL (getW_of (g2.keep e)) (getW_of e2) (by rw [List.length_map, List.length_map]; omega) ?_
          walk_at "zy"
          have l3 : s.length ≤ t2.length := by
            have := (Gr.app (s := s) (t := [O.lst [x.d]])).len
            have a1 := g1.len
            have a2 := g.len
            have a3 := g2.len
            omega
          refine ⟨_, _, xs ++ ys, rfl, (g.trans g2).trans Gr.app, ?_, l3, ?_, by rw [List.length_append]; exact lt, by rw [flat_take ep, ex, ey]; rfl⟩
          · rw [List.map_append]
            exact at_last
          · intro y hy2
            rcases List.mem_append.mp hy2 with hy2 | hy2
            · exact hx y hy2
            · exact hy y hy2
      · rintro es t ⟨m, v, xs, rfl, g, e, l, hx, lx, ex⟩
        rw [List.length_map] at lx
        have lb : x.parts.length * sz (k - 1) ≤ 3 * sz (k - 1) := Nat.mul_le_mul_right _ (by omega)
        refine ⟨_, rfl, m, v, xs, rfl, (Gr.app.trans g1).trans g, e, l, hx, by omega, ?_⟩
        rw [List.length_map, List.take_length] at ex
        rw [subs_eq]
        exact ex
    rintro es t ⟨m, v, xs, rfl, g, e, l, hx, lx, ex⟩
    walk_at "zz"
    exact q m xs t g e l hx lx ex
/-! valued -/
theorem whole_wp {n : Int} (q : Q (.bl true) st) : Wp (F_law_whole [.int n] st) Q := by
  unfold F_law_whole b_law_whole
  refine wp_fn rfl ?_
  walk_at "zz"
  refine ⟨_, true, rfl, rfl, true, rfl, fun _ => ?_, fun h => nomatch h⟩
  walk_at "zz"
  exact ⟨_, false, rfl, rfl, false, rfl, q⟩
theorem valued_wp {x : Xp} {g pn pa qn qa : Nat} {N : Str → Int} {A : Str → List Int} (hx : Xok ws sh 12 x) (M : Mem ws sh N A) (hg : st[g]? = some (.lst [.loc pn, .loc pa])) (E1 : EnvAt st pn pa ws sh N A) (E2 : EnvAt st qn qa ws sh N A) (q : ∀ s, Gr st s → Q (.bl true) s) : Wp (F_law_valued [x.d, .loc g, .loc qn, .loc qa] st) Q := by
  unfold F_law_valued b_law_valued
  refine wp_fn rfl ?_
  walk_at "zn"
  refine value_ih M 16 x (by have := hx.2; omega) hx.1 _ _ E1 ?_
  intro s1 g1
  walk_at "zz"
  refine whole_wp ?_
  refine ⟨true, rfl, fun _ => ?_, fun h => nomatch h⟩
  walk_at "zz"
  refine lvalue_ih M 16 x (by have := hx.2; omega) hx.1 _ _ (E2.gr g1) ?_
  intro s2 g2
  walk_at "zz"
  rw [decide_eq_true rfl]
  exact q s2 (g1.trans g2)
end
end K01
end
section
set_option Elab.async false
set_option linter.all false
set_option maxRecDepth 100000
set_option maxHeartbeats 2000000
open PySem PySem.Spec PyProof.Rows L2 Z
local macro_rules | `(tactic| fail "zs") => `(tactic| first
  | assumption
  | with_reducible exact at_last
  | (with_reducible apply at_set; fail "zs")
  | (with_reducible apply at_app; fail "zs")
  | (with_reducible apply at_setne; (first | assumption | (apply Ne.symm; assumption) | omega); fail "zs")
  | (with_reducible refine Gr.keep (by assumption) ?_; fail "zs")
  | (with_reducible refine Gx.keep (by assumption) ?_ ?_; (first | assumption | (apply Ne.symm; assumption) | omega); fail "zs"))
local macro_rules | `(tactic| fail "zg") => `(tactic| first
  | assumption
  | (with_reducible apply getL_of; fail "zs")
  | (with_reducible apply getW_of; fail "zs")
  | (with_reducible apply getI_of; fail "zs"))
local macro_rules | `(tactic| fail "za") => `(tactic| first | (with_reducible apply atI_int; (first | assumption | omega); (first | assumption | omega | (simp only [List.length_set]; omega))) | with_unfolding_all exact rfl | assumption)
local macro_rules | `(tactic| fail "y0") => `(tactic| first
  | (with_reducible refine' wp_var ?z1 ?z2; (case z1 => with_unfolding_all exact rfl))
  | with_reducible refine wp_c2 ?_
  | with_reducible refine wp_cons ?_
  | with_reducible refine wp_c ?_
  | with_reducible refine wp_nil ?_
  | with_reducible refine wp_call ?_
  | with_reducible refine wp_c1 ?_)
local macro_rules | `(tactic| fail "y1") => `(tactic| first
  | with_reducible refine wp_set ?_
  | with_reducible refine wp_if ?_
  | with_reducible refine wp_next ?_
  | with_reducible refine wp_ret ?_
  | with_reducible refine af_nx ?_
  | with_reducible refine bk_rt ?_
  | (with_reducible refine' wp_ixL ?z1 ?z2 ?z3; (case z1 => fail "zg"); (case z2 => fail "za"))
  | (with_reducible refine' wp_ixT ?z1 ?z2; (case z1 => fail "za")))
local macro_rules | `(tactic| fail "y2") => `(tactic| first
  | with_reducible refine af_rt ?_
  | with_reducible refine af_bk ?_
  | with_reducible refine bk_nx ?_
  | with_reducible refine turned_nx ?_
  | with_reducible refine turned_bk ?_
  | with_reducible refine turned_rt ?_
  | with_reducible refine wp_and ?_
  | with_reducible refine wp_or ?_)
local macro_rules | `(tactic| fail "y3") => `(tactic| first
  | with_reducible refine wp_not ?_
  | with_reducible refine wp_sub ?_
  | with_reducible refine wp_subA ?_
  | with_reducible refine wp_chain ?_
  | with_reducible refine wp_neAI ?_
  | with_reducible refine wp_neAS ?_
  | with_reducible refine wp_dic0 ?_
  | with_reducible refine wp_drop ?_)
local macro_rules | `(tactic| fail "y4") => `(tactic| first
  | with_reducible refine wp_vK ?_
  | with_reducible refine wp_nox ?_
  | with_reducible refine wp_break ?_
  | with_reducible refine wp_retN ?_
  | with_reducible refine wp_sfld ?_
  | with_reducible refine wp_yes ?_
  | with_reducible refine wp_addI ?_
  | with_reducible refine wp_subI ?_)
local macro_rules | `(tactic| fail "y5") => `(tactic| first
  | with_reducible refine wp_neg ?_
  | with_reducible refine wp_eqI ?_
  | with_reducible refine wp_neI ?_
  | with_reducible refine wp_ltI ?_
  | with_reducible refine wp_leI ?_
  | with_reducible refine wp_gtI ?_
  | with_reducible refine wp_geI ?_
  | with_reducible refine wp_eqS ?_)
local macro_rules | `(tactic| fail "y6") => `(tactic| first
  | with_reducible refine wp_neS ?_
  | with_reducible refine wp_eqB ?_
  | with_reducible refine wp_isN ?_
  | with_reducible refine wp_isNotN ?_
  | with_reducible refine wp_int ?_
  | with_reducible refine wp_max2 ?_
  | with_reducible refine wp_min2 ?_
  | with_reducible refine wp_tr_bl ?_)
local macro_rules | `(tactic| fail "y7") => `(tactic| first
  | with_reducible refine wp_tr_int ?_
  | with_reducible refine wp_tupT ?_
  | with_reducible refine wp_slT ?_
  | with_reducible refine wp_nopart ?_
  | with_reducible refine wp_lst ?_
  | with_reducible refine wp_tup ?_
  | with_reducible refine wp_slice ?_
  | with_reducible refine wp_callK ?_)
local macro_rules | `(tactic| fail "y8") => `(tactic| first
  | with_reducible refine wp_make ?_
  | with_reducible refine wp_meth ?_
  | with_reducible refine wp_is ?_
  | with_reducible refine wp_vand ?_
  | with_reducible refine wp_vor ?_
  | with_reducible refine wp_vnot ?_
  | with_reducible refine wp_asg ?_
  | with_reducible refine wp_part ?_)
local macro_rules | `(tactic| fail "y9") => `(tactic| first
  | with_reducible refine wp_forR1 ?_
  | with_reducible refine wp_forR2 ?_
  | with_reducible refine wp_compR1 ?_
  | with_reducible refine wp_compR2 ?_
  | (with_reducible refine' wp_ixAL ?z1 ?z2 ?z3; (case z1 => fail "zg"); (case z2 => fail "za"))
  | (with_reducible refine' wp_ixAT ?z1 ?z2; (case z1 => fail "za"))
  | (with_reducible refine' and_isL ?z1 ?z2; (case z1 => fail "zg"))
  | (with_reducible refine' wp_append ?z1 ?z2 ?z3; (case z1 => fail "zg"); (case z2 => first | omega | (simp only [List.length_map, List.length_append, List.length_cons, List.length_nil]; omega))))
local macro_rules | `(tactic| fail "y10") => `(tactic| first
  | (with_reducible refine' wp_lenL ?z1 ?z2; (case z1 => fail "zg"))
  | with_reducible refine wp_lenT ?_
  | (with_reducible refine' wp_lenAL ?z1 ?z2; (case z1 => fail "zg"))
  | with_reducible refine wp_lenAT ?_
  | (with_reducible refine' wp_listL ?z1 ?z2; (case z1 => fail "zg"))
  | with_reducible refine wp_listT ?_
  | with_reducible refine ex_bl ?_
  | (with_reducible refine' ex_ty ?z1 ?z2 ?z3; (case z1 => with_unfolding_all exact rfl); (case z2 => with_unfolding_all exact rfl)))
local macro_rules | `(tactic| fail "y11") => `(tactic| first
  | (with_reducible refine' wp_mulT ?z1 ?z2 ?z3; (case z1 => omega); (case z2 => omega))
  | (with_reducible refine' wp_setF ?z1 ?z2 ?z3; (case z1 => fail "zg"); (case z2 => with_unfolding_all exact Nat.le_of_ble_eq_true rfl))
  | (with_reducible refine' wp_setInt ?z1 ?z2 ?z3 ?z4; (case z1 => fail "zg"); (case z2 => first | assumption | omega); (case z3 => first | assumption | omega | (simp only [List.length_set]; omega)))
  | (with_reducible refine' wp_setIx ?z1 ?z2 ?z3; (case z1 => fail "zg"); (case z2 => first | (with_reducible apply ixN_of; (first | assumption | omega); (first | assumption | omega | (rw [List.length_map]; omega))) | with_unfolding_all exact rfl | assumption))
  | (with_reducible refine' wp_setAI ?z1 ?z2 ?z3 ?z4; (case z1 => fail "zg"); (case z2 => first | assumption | omega); (case z3 => first | assumption | omega | (simp only [List.length_set]; omega)))
  | (with_reducible refine' wp_setAX ?z1 ?z2 ?z3; (case z1 => fail "zg"); (case z2 => first | (with_reducible apply ixN_of; (first | assumption | omega); (first | assumption | omega | (rw [List.length_map]; omega))) | with_unfolding_all exact rfl | assumption))
  | (with_reducible refine' wp_modI ?z1 ?z2; (case z1 => omega))
  | (with_reducible refine' wp_divA0 ?z1 ?z2 ?z3; (case z1 => omega); (case z2 => omega)))
local macro_rules | `(tactic| fail "y12") => `(tactic| first
  | (with_reducible refine' wp_mulA ?z1 ?z2; (case z1 => omega))
  | (with_reducible refine' wp_divI ?z1 ?z2 ?z3; (case z1 => omega); (case z2 => omega))
  | (with_reducible refine' wp_mulI ?z1 ?z2; (case z1 => omega))
  | (with_reducible refine' wp_powI ?z1 ?z2; (case z1 => with_unfolding_all decide))
  | (with_reducible refine' wp_fld ?z1 ?z2 ?z3; (case z1 => fail "zg"); (case z2 => first | with_unfolding_all exact rfl | assumption))
  | (with_reducible refine' wp_prop ?z1 ?z2; (case z1 => fail "zg"))
  | (with_reducible refine' wp_tupL ?z1 ?z2; (case z1 => fail "zg"))
  | (with_reducible refine' And.intro ?z1 ?z2; (case z1 => first | with_unfolding_all exact Nat.le_of_ble_eq_true rfl | with_unfolding_all decide)))
local macro_rules | `(tactic| fail "z0") => `(tactic| first | fail "y0" | fail "y1" | fail "y2" | fail "y3" | fail "y4" | fail "y5" | fail "y6" | fail "y7" | fail "y8" | fail "y9" | fail "y10" | fail "y11" | fail "y12")
local macro_rules | `(tactic| fail "z1") => `(tactic| first | with_reducible refine wp_seq ?_ | fail "z0")
local macro_rules | `(tactic| walk_at "z") => `(tactic| (repeat fail "z1"))
local macro_rules | `(tactic| fail "zb") => `(tactic| (with_reducible refine And.intro ?_ ?_; (all_goals (intro hb; first | (simp at hb; done) | (simp at hb; skip) | skip))))
local macro_rules | `(tactic| walk_at "zz") => `(tactic| (repeat' (first | fail "z1" | fail "zb")))
local macro_rules | `(tactic| walk_at "zy") => `(tactic| (repeat' (first | fail "z0" | fail "zb")))
local macro_rules | `(tactic| walk_at "zn") => `(tactic| (with_reducible refine wp_seq ?_; walk_at "zy"))
local macro_rules | `(tactic| walk_at "zs") => `(tactic| fail "zs")
local macro_rules | `(tactic| walk_at "zg") => `(tactic| fail "zg")
local macro_rules | `(tactic| walk_at "za") => `(tactic| fail "za")
local macro_rules | `(tactic| walk_at "z0") => `(tactic| fail "z0")
local macro_rules | `(tactic| walk_at "z1") => `(tactic| fail "z1")
local macro_rules | `(tactic| walk_at "zb") => `(tactic| fail "zb")
namespace K01
open PySem PySem.Spec PyProof.Rows L2 Z
local macro_rules | `(tactic| fail "zb") => `(tactic| (with_reducible refine And.intro ?_ ?_; (all_goals (intro hb; first | (exact absurd hb (by decide)) | (simp at hb; done) | (simp only [decide_eq_true_eq, decide_eq_false_iff_not, Bool.not_eq_true', Bool.not_eq_false'] at hb; skip) | skip))))
/-- a dict of words, by its keys and values -/
def dk (ks : List Str) (F : Str → D) : List (Key × D) := ks.map fun w => (.inr w, F w)
def upd {α : Type} (F : Str → α) (w : Str) (d : α) : Str → α := fun v => if v = w then d else F v
def addK (ks : List Str) (w : Str) : List Str := if w ∈ ks then ks else ks ++ [w]
theorem upd_at {α : Type} {F : Str → α} {w : Str} {d : α} : upd F w d w = d := if_pos rfl
theorem upd_ne {α : Type} {F : Str → α} {w v : Str} {d : α} (h : v ≠ w) : upd F w d v = F v := if_neg h
theorem len_dk {ks : List Str} {F : Str → D} : (dk ks F).length = ks.length := List.length_map ..
theorem val_dk {F : Str → D} {w : Str} : ∀ {ks : List Str}, w ∈ ks → valD (dk ks F) (.inr w) = some (F w)
  | [], h => nomatch h
  | v :: ks, h => by
    show (List.find? (fun kv => decide (kv.1 = Sum.inr w)) ((Sum.inr v, F v) :: dk ks F)).map (·.2) = _
    rw [List.find?_cons]
    by_cases e : v = w
    · subst e
      simp
    · have e2 : decide ((Sum.inr v : Key) = Sum.inr w) = false := decide_eq_false (fun h => e (Sum.inr.inj h))
      rw [e2]
      exact val_dk ((List.mem_cons.mp h).resolve_left fun h => e h.symm)
theorem no_dk {F : Str → D} {w : Str} : ∀ {ks : List Str}, w ∉ ks → ((dk ks F).any fun kv => decide (kv.1 = Sum.inr w)) = false
  | [], h => rfl
  | v :: ks, h => by
    show (decide ((Sum.inr v : Key) = Sum.inr w) || (dk ks F).any fun kv => decide (kv.1 = Sum.inr w)) = false
    rw [no_dk (fun k => h (List.mem_cons_of_mem _ k)), decide_eq_false (fun k => h (by rw [Sum.inr.inj k]; exact List.mem_cons_self ..))]
    rfl
theorem yes_dk {F : Str → D} {w : Str} : ∀ {ks : List Str}, w ∈ ks → ((dk ks F).any fun kv => decide (kv.1 = Sum.inr w)) = true
  | [], h => nomatch h
  | v :: ks, h => by
    show (decide ((Sum.inr v : Key) = Sum.inr w) || (dk ks F).any fun kv => decide (kv.1 = Sum.inr w)) = true
    rcases List.mem_cons.mp h with e | e
    · rw [decide_eq_true (congrArg Sum.inr e.symm)]
      rfl
    · rw [yes_dk e, Bool.or_true]
theorem put_dk {F : Str → D} {w : Str} {d : D} {ks : List Str} : putDk (dk ks F) (.inr w) d = dk (addK ks w) (upd F w d) := by
  unfold putDk addK
  by_cases h : w ∈ ks
  · rw [if_pos (yes_dk h), if_pos h]
    unfold dk
    rw [List.map_map]
    apply List.map_congr_left
    intro v hv
    show (if (Sum.inr v : Key) = Sum.inr w then (Sum.inr v, d) else (Sum.inr v, F v)) = (Sum.inr v, upd F w d v)
    by_cases e : v = w
    · rw [if_pos (congrArg Sum.inr e), e, upd_at]
    · rw [if_neg (fun h => e (Sum.inr.inj h)), upd_ne e]
  · rw [if_neg (by rw [no_dk h]; exact Bool.false_ne_true), if_neg h]
    unfold dk
    rw [List.map_append]
    congr 1
    · apply List.map_congr_left
      intro v hv
      rw [upd_ne (show v ≠ w from fun e => h (e ▸ hv))]
    · show [(Sum.inr w, d)] = [(Sum.inr w, upd F w d w)]
      rw [upd_at]
theorem same_dk {ks : List Str} {N : Str → Int} : sameK (dk ks fun w => .int (N w)) (dk ks fun w => .int (N w)) = true := by
  unfold sameK
  rw [decide_eq_true rfl, Bool.true_and, List.all_eq_true]
  intro p hp
  obtain ⟨w, hw, rfl⟩ := List.mem_map.mp hp
  dsimp only
  rw [val_dk hw]
  exact decide_eq_true rfl
theorem keys_dk {ks : List Str} {F : Str → D} : ((dk ks F).map fun kv => kD kv.1) = ks.map D.str := by
  unfold dk
  rw [List.map_map]
  rfl
theorem upd_int {N : Str → Int} {w : Str} {n : Int} : upd (fun v => D.int (N v)) w (.int n) = fun v => .int (upd N w n v) := by
  funext v
  unfold upd
  split <;> rfl
theorem mem_addK {ks : List Str} {v w : Str} : v ∈ addK ks w ↔ v ∈ ks ∨ v = w := by
  unfold addK
  split
  · constructor
    · exact Or.inl
    · rintro (h | rfl)
      · exact h
      · assumption
  · rw [List.mem_append, List.mem_singleton]
theorem addK_le {ks : List Str} {w : Str} : (addK ks w).length ≤ ks.length + 1 := by
  unfold addK
  split
  · omega
  · rw [List.length_append]
    exact Nat.le_refl _
theorem addK_nodup {ks : List Str} {w : Str} (h : ks.Nodup) : (addK ks w).Nodup := by
  unfold addK
  split
  · exact h
  · rename_i e
    refine List.nodup_append.mpr ⟨h, by simp, ?_⟩
    intro x hx y hy e2
    have e3 : x = w := e2.trans (List.mem_singleton.mp hy)
    subst e3
    exact e hx
theorem addK_in {ks : List Str} {w : Str} (h : w ∈ ks) : addK ks w = ks := if_pos h
/-- a memory: names at pn, arrays at pa -/
structure Me (s : S) (pn pa : Nat) (ks js : List Str) (N : Str → Int) (A : Str → List Int) (F : Str → D) : Prop where
  n : s[pn]? = some (.dic (dk ks fun w => .int (N w)))
  a : s[pa]? = some (.dic (dk js F))
  r : ∀ w ∈ js, IsRow s (F w) (A w)
structure Off (a pn pa : Nat) (js : List Str) (F : Str → D) : Prop where
  n : pn ≠ a
  e : pa ≠ a
  r : ∀ w ∈ js, F w ≠ .loc a
def Lists (js : List Str) (F : Str → D) : Prop := ∀ w ∈ js, ∃ l, F w = .loc l
theorem Me.env {s : S} {pn pa : Nat} {ks js ws sh : List Str} {N : Str → Int} {A : Str → List Int} {F : Str → D} (h : Me s pn pa ks js N A F) (hw : ∀ w ∈ ws, w ∈ ks) (hs : ∀ w ∈ sh, w ∈ js) : EnvAt s pn pa ws sh N A := ⟨⟨_, h.n, fun w k => val_dk (hw w k)⟩, _, h.a, fun w k => ⟨_, val_dk (hs w k), h.r w (hs w k)⟩⟩
theorem Me.gr {s t : S} {pn pa : Nat} {ks js : List Str} {N : Str → Int} {A : Str → List Int} {F : Str → D} (h : Me s pn pa ks js N A F) (g : Gr s t) : Me t pn pa ks js N A F := ⟨g.keep h.n, g.keep h.a, fun w k => (h.r w k).gr g⟩
theorem row_gx {a : Nat} {s t : S} {d : D} {ns : List Int} (h : IsRow s d ns) (g : Gx a s t) (e : d ≠ .loc a) : IsRow t d ns := by
  rcases h with h | ⟨n, rfl, h⟩
  · exact Or.inl h
  · exact Or.inr ⟨n, rfl, g.keep (fun k => e (by rw [k])) h⟩
theorem Me.gx {a : Nat} {s t : S} {pn pa : Nat} {ks js : List Str} {N : Str → Int} {A : Str → List Int} {F : Str → D} (h : Me s pn pa ks js N A F) (o : Off a pn pa js F) (g : Gx a s t) : Me t pn pa ks js N A F := ⟨g.keep o.n h.n, g.keep o.e h.a, fun w k => row_gx (h.r w k) g (o.r w k)⟩
theorem row_lt {s : S} {l : Nat} {ns : List Int} (h : IsRow s (.loc l) ns) : l < s.length := by
  rcases h with h | ⟨n, e, h⟩
  · cases h
  · cases e
    exact at_lt h
theorem Me.off {a : Nat} {s : S} {pn pa : Nat} {ks js : List Str} {N : Str → Int} {A : Str → List Int} {F : Str → D} (h : Me s pn pa ks js N A F) (k : s.length ≤ a) : Off a pn pa js F := ⟨by have := at_lt h.n; omega, by have := at_lt h.a; omega, fun w hw e => by
  have := h.r w hw
  rw [e] at this
  have := row_lt this
  omega⟩
section
variable {s st : S} {a : Nat} {Q QD : D → S → Prop} {d : D} {ns : List Int}
theorem wp_listRow (h : IsRow s d ns) (q : QD (.loc s.length) (s ++ [.lst (ns.map D.int)])) : Wp (fList [d] s) QD := by
  rcases h with rfl | ⟨n, rfl, h⟩
  · exact wp_listT q
  · exact wp_listL (getL_of h) q
theorem wp_tupRow (h : IsRow s d ns) (q : QD (.tup (ns.map D.int)) s) : Wp (fTuple [d] s) QD := by
  rcases h with rfl | ⟨n, rfl, h⟩
  · exact wp_tupT q
  · exact wp_tupL (getL_of h) q
end
end K01
end
section
set_option Elab.async false
set_option linter.all false
set_option maxRecDepth 100000
set_option maxHeartbeats 2000000
open PySem PySem.Spec PyProof.Rows L2 Z
local macro_rules | `(tactic| fail "zs") => `(tactic| first
  | assumption
  | with_reducible exact at_last
  | (with_reducible apply at_set; fail "zs")
  | (with_reducible apply at_app; fail "zs")
  | (with_reducible apply at_setne; (first | assumption | (apply Ne.symm; assumption) | omega); fail "zs")
  | (with_reducible refine Gr.keep (by assumption) ?_; fail "zs")
  | (with_reducible refine Gx.keep (by assumption) ?_ ?_; (first | assumption | (apply Ne.symm; assumption) | omega); fail "zs"))
local macro_rules | `(tactic| fail "zg") => `(tactic| first
  | assumption
  | (with_reducible apply getL_of; fail "zs")
  | (with_reducible apply getW_of; fail "zs")
  | (with_reducible apply getI_of; fail "zs"))
local macro_rules | `(tactic| fail "za") => `(tactic| first | (with_reducible apply atI_int; (first | assumption | omega); (first | assumption | omega | (simp only [List.length_set]; omega))) | with_unfolding_all exact rfl | assumption)
local macro_rules | `(tactic| fail "y0") => `(tactic| first
  | (with_reducible refine' wp_var ?z1 ?z2; (case z1 => with_unfolding_all exact rfl))
  | with_reducible refine wp_c2 ?_
  | with_reducible refine wp_cons ?_
  | with_reducible refine wp_c ?_
  | with_reducible refine wp_nil ?_
  | with_reducible refine wp_call ?_
  | with_reducible refine wp_c1 ?_)
local macro_rules | `(tactic| fail "y1") => `(tactic| first
  | with_reducible refine wp_set ?_
  | with_reducible refine wp_if ?_
  | with_reducible refine wp_next ?_
  | with_reducible refine wp_ret ?_
  | with_reducible refine af_nx ?_
  | with_reducible refine bk_rt ?_
  | (with_reducible refine' wp_ixL ?z1 ?z2 ?z3; (case z1 => fail "zg"); (case z2 => fail "za"))
  | (with_reducible refine' wp_ixT ?z1 ?z2; (case z1 => fail "za")))
local macro_rules | `(tactic| fail "y2") => `(tactic| first
  | with_reducible refine af_rt ?_
  | with_reducible refine af_bk ?_
  | with_reducible refine bk_nx ?_
  | with_reducible refine turned_nx ?_
  | with_reducible refine turned_bk ?_
  | with_reducible refine turned_rt ?_
  | with_reducible refine wp_and ?_
  | with_reducible refine wp_or ?_)
local macro_rules | `(tactic| fail "y3") => `(tactic| first
  | with_reducible refine wp_not ?_
  | with_reducible refine wp_sub ?_
  | with_reducible refine wp_subA ?_
  | with_reducible refine wp_chain ?_
  | with_reducible refine wp_neAI ?_
  | with_reducible refine wp_neAS ?_
  | with_reducible refine wp_dic0 ?_
  | with_reducible refine wp_drop ?_)
local macro_rules | `(tactic| fail "y4") => `(tactic| first
  | with_reducible refine wp_vK ?_
  | with_reducible refine wp_nox ?_
  | with_reducible refine wp_break ?_
  | with_reducible refine wp_retN ?_
  | with_reducible refine wp_sfld ?_
  | with_reducible refine wp_yes ?_
  | with_reducible refine wp_addI ?_
  | with_reducible refine wp_subI ?_)
local macro_rules | `(tactic| fail "y5") => `(tactic| first
  | with_reducible refine wp_neg ?_
  | with_reducible refine wp_eqI ?_
  | with_reducible refine wp_neI ?_
  | with_reducible refine wp_ltI ?_
  | with_reducible refine wp_leI ?_
  | with_reducible refine wp_gtI ?_
  | with_reducible refine wp_geI ?_
  | with_reducible refine wp_eqS ?_)
local macro_rules | `(tactic| fail "y6") => `(tactic| first
  | with_reducible refine wp_neS ?_
  | with_reducible refine wp_eqB ?_
  | with_reducible refine wp_isN ?_
  | with_reducible refine wp_isNotN ?_
  | with_reducible refine wp_int ?_
  | with_reducible refine wp_max2 ?_
  | with_reducible refine wp_min2 ?_
  | with_reducible refine wp_tr_bl ?_)
local macro_rules | `(tactic| fail "y7") => `(tactic| first
  | with_reducible refine wp_tr_int ?_
  | with_reducible refine wp_tupT ?_
  | with_reducible refine wp_slT ?_
  | with_reducible refine wp_nopart ?_
  | with_reducible refine wp_lst ?_
  | with_reducible refine wp_tup ?_
  | with_reducible refine wp_slice ?_
  | with_reducible refine wp_callK ?_)
local macro_rules | `(tactic| fail "y8") => `(tactic| first
  | with_reducible refine wp_make ?_
  | with_reducible refine wp_meth ?_
  | with_reducible refine wp_is ?_
  | with_reducible refine wp_vand ?_
  | with_reducible refine wp_vor ?_
  | with_reducible refine wp_vnot ?_
  | with_reducible refine wp_asg ?_
  | with_reducible refine wp_part ?_)
local macro_rules | `(tactic| fail "y9") => `(tactic| first
  | with_reducible refine wp_forR1 ?_
  | with_reducible refine wp_forR2 ?_
  | with_reducible refine wp_compR1 ?_
  | with_reducible refine wp_compR2 ?_
  | (with_reducible refine' wp_ixAL ?z1 ?z2 ?z3; (case z1 => fail "zg"); (case z2 => fail "za"))
  | (with_reducible refine' wp_ixAT ?z1 ?z2; (case z1 => fail "za"))
  | (with_reducible refine' and_isL ?z1 ?z2; (case z1 => fail "zg"))
  | (with_reducible refine' wp_append ?z1 ?z2 ?z3; (case z1 => fail "zg"); (case z2 => first | omega | (simp only [List.length_map, List.length_append, List.length_cons, List.length_nil]; omega))))
local macro_rules | `(tactic| fail "y10") => `(tactic| first
  | (with_reducible refine' wp_lenL ?z1 ?z2; (case z1 => fail "zg"))
  | with_reducible refine wp_lenT ?_
  | (with_reducible refine' wp_lenAL ?z1 ?z2; (case z1 => fail "zg"))
  | with_reducible refine wp_lenAT ?_
  | (with_reducible refine' wp_listL ?z1 ?z2; (case z1 => fail "zg"))
  | with_reducible refine wp_listT ?_
  | with_reducible refine ex_bl ?_
  | (with_reducible refine' ex_ty ?z1 ?z2 ?z3; (case z1 => with_unfolding_all exact rfl); (case z2 => with_unfolding_all exact rfl)))
local macro_rules | `(tactic| fail "y11") => `(tactic| first
  | (with_reducible refine' wp_mulT ?z1 ?z2 ?z3; (case z1 => omega); (case z2 => omega))
  | (with_reducible refine' wp_setF ?z1 ?z2 ?z3; (case z1 => fail "zg"); (case z2 => with_unfolding_all exact Nat.le_of_ble_eq_true rfl))
  | (with_reducible refine' wp_setInt ?z1 ?z2 ?z3 ?z4; (case z1 => fail "zg"); (case z2 => first | assumption | omega); (case z3 => first | assumption | omega | (simp only [List.length_set]; omega)))
  | (with_reducible refine' wp_setIx ?z1 ?z2 ?z3; (case z1 => fail "zg"); (case z2 => first | (with_reducible apply ixN_of; (first | assumption | omega); (first | assumption | omega | (rw [List.length_map]; omega))) | with_unfolding_all exact rfl | assumption))
  | (with_reducible refine' wp_setAI ?z1 ?z2 ?z3 ?z4; (case z1 => fail "zg"); (case z2 => first | assumption | omega); (case z3 => first | assumption | omega | (simp only [List.length_set]; omega)))
  | (with_reducible refine' wp_setAX ?z1 ?z2 ?z3; (case z1 => fail "zg"); (case z2 => first | (with_reducible apply ixN_of; (first | assumption | omega); (first | assumption | omega | (rw [List.length_map]; omega))) | with_unfolding_all exact rfl | assumption))
  | (with_reducible refine' wp_modI ?z1 ?z2; (case z1 => omega))
  | (with_reducible refine' wp_divA0 ?z1 ?z2 ?z3; (case z1 => omega); (case z2 => omega)))
local macro_rules | `(tactic| fail "y12") => `(tactic| first
  | (with_reducible refine' wp_mulA ?z1 ?z2; (case z1 => omega))
  | (with_reducible refine' wp_divI ?z1 ?z2 ?z3; (case z1 => omega); (case z2 => omega))
  | (with_reducible refine' wp_mulI ?z1 ?z2; (case z1 => omega))
  | (with_reducible refine' wp_powI ?z1 ?z2; (case z1 => with_unfolding_all decide))
  | (with_reducible refine' wp_fld ?z1 ?z2 ?z3; (case z1 => fail "zg"); (case z2 => first | with_unfolding_all exact rfl | assumption))
  | (with_reducible refine' wp_prop ?z1 ?z2; (case z1 => fail "zg"))
  | (with_reducible refine' wp_tupL ?z1 ?z2; (case z1 => fail "zg"))
  | (with_reducible refine' And.intro ?z1 ?z2; (case z1 => first | with_unfolding_all exact Nat.le_of_ble_eq_true rfl | with_unfolding_all decide)))
local macro_rules | `(tactic| fail "z0") => `(tactic| first | fail "y0" | fail "y1" | fail "y2" | fail "y3" | fail "y4" | fail "y5" | fail "y6" | fail "y7" | fail "y8" | fail "y9" | fail "y10" | fail "y11" | fail "y12")
local macro_rules | `(tactic| fail "z1") => `(tactic| first | with_reducible refine wp_seq ?_ | fail "z0")
local macro_rules | `(tactic| walk_at "z") => `(tactic| (repeat fail "z1"))
local macro_rules | `(tactic| fail "zb") => `(tactic| (with_reducible refine And.intro ?_ ?_; (all_goals (intro hb; first | (simp at hb; done) | (simp at hb; skip) | skip))))
local macro_rules | `(tactic| walk_at "zz") => `(tactic| (repeat' (first | fail "z1" | fail "zb")))
local macro_rules | `(tactic| walk_at "zy") => `(tactic| (repeat' (first | fail "z0" | fail "zb")))
local macro_rules | `(tactic| walk_at "zn") => `(tactic| (with_reducible refine wp_seq ?_; walk_at "zy"))
local macro_rules | `(tactic| walk_at "zs") => `(tactic| fail "zs")
local macro_rules | `(tactic| walk_at "zg") => `(tactic| fail "zg")
local macro_rules | `(tactic| walk_at "za") => `(tactic| fail "za")
local macro_rules | `(tactic| walk_at "z0") => `(tactic| fail "z0")
local macro_rules | `(tactic| walk_at "z1") => `(tactic| fail "z1")
local macro_rules | `(tactic| walk_at "zb") => `(tactic| fail "zb")
namespace K01
open PySem PySem.Spec PyProof.Rows L2 Z
local macro_rules | `(tactic| fail "zb") => `(tactic| (with_reducible refine And.intro ?_ ?_; (all_goals (intro hb; first | (exact absurd hb (by decide)) | (simp at hb; done) | (simp only [decide_eq_true_eq, decide_eq_false_iff_not, Bool.not_eq_true', Bool.not_eq_false'] at hb; skip) | skip))))
section
variable {set : Ev → D → Option Ev} {es : Ev} {st : S} {QD : D → S → Prop} {vs : List Nat} {mt : M Bool} {me : M D}
end
section
variable {s st : S} {a : Nat} {Q QD : D → S → Prop}
theorem row_wp (hf : Feed st a) (q : ∀ (l : Nat) (ns : List Int) (s : S), Gx a st s → Feed s a → st.length ≤ l → s[l]? = some (.lst (ns.map D.int)) → ns.length ≤ 64 → (∀ n ∈ ns, Sm n) → Q (.loc l) s) : Wp (F_law_row [.loc a] st) Q := by
  have la := hf.lt
  unfold F_law_row b_law_row
  refine wp_fn rfl ?_
  refine wp_mid (fun e s => ∃ k : Int, 0 ≤ k ∧ e = [some (.loc a), some (.int k), none, none, none, none, none] ∧ Gx a st s ∧ Feed s a) ?_ ?_
  · walk_at "zy"
    refine take_wp hf (by omega) (by omega) ?_
    intro k s k0 k1 g f _
    exact ⟨_, rfl, k, k0, rfl, g, f⟩
  rintro e s1 ⟨k, k0, rfl, g1, f1⟩
  refine wp_mid (fun e s => ∃ z : Int, 0 ≤ z ∧ z ≤ 64 ∧ e = [some (.loc a), some (.int k), some (.int z), none, none, none, none] ∧ Gx a st s ∧ Feed s a) ?_ ?_
  · walk_at "zy"
    refine take_wp f1 (by omega) (by omega) ?_
    intro z s k0 k1 g f _
    walk_at "zy"
    exact ⟨_, rfl, _, by omega, by omega, rfl, g1.trans g, f⟩
  rintro e s2 ⟨z, z0, z1, rfl, g2, f2⟩
  refine wp_mid (fun e s => ∃ z : Int, 0 ≤ z ∧ z ≤ 64 ∧ e = [some (.loc a), some (.int k), some (.int z), none, none, none, none] ∧ Gx a st s ∧ Feed s a) ?_ ?_
  · walk_at "zy"
    · refine take_wp f2 (by omega) (by omega) ?_
      intro x s x0 x1 g f _
      walk_at "zy"
      refine wp_ixAL (getL_of at_last) (atI_int (ns := [0, 1, 10 + x]) k0 (by show k < 3; omega)) ?_
      have hm := gI_mem (ns := [0, 1, 10 + x]) (k := k) k0 (by show k < 3; omega)
      revert hm
      generalize gI [0, 1, 10 + x] k = w
      intro hm
      simp only [List.mem_cons, List.not_mem_nil, or_false] at hm
      exact ⟨_, rfl, w, by omega, by omega, rfl, (g2.trans g).trans Gx.app, f.gr Gr.app⟩
    · exact ⟨_, rfl, z, z0, z1, rfl, g2, f2⟩
  clear z0 z1 g2 f2 s2 z
  rintro e s2 ⟨z, z0, z1, rfl, g2, f2⟩
  refine wp_mid (fun e s => ∃ y : Int, e = [some (.loc a), some (.int k), some (.int z), some (.int y), none, none, none] ∧ Gx a st s ∧ Feed s a) ?_ ?_
  · walk_at "zy"
    refine take_wp f2 (by omega) (by omega) ?_
    intro y s k0 k1 g f _
    exact ⟨_, rfl, y, rfl, g2.trans g, f⟩
  rintro e s3 ⟨y, rfl, g3, f3⟩
  walk_at "zn"
  have l3 := f3.lt
  have gl := g3.len
  refine wp_seq (wp_forR1 (wp_cons (wp_var rfl (wp_nil ⟨_, rfl, by omega, by omega, ?_⟩))))
  refine wp_forT (fun i e s => ∃ (u v : Option D) (ns : List Int), e = [some (.loc a), some (.int k), some (.int z), some (.int y), some (.loc s3.length), u, v] ∧ Gx a st s ∧ Feed s a ∧ s[s3.length]? = some (.lst (ns.map D.int)) ∧ ns.length = i ∧ ∀ n ∈ ns, Sm n) ?_ ?_ ?_
  · exact ⟨none, none, [], rfl, g3.trans Gx.app, f3.gr Gr.app, at_last, rfl, fun n h => (nomatch h)⟩
  · rintro i d e s hd ⟨u, v, ns, rfl, g, f, hr, hl, hb⟩
    have hi := (get_range hd).2
    refine ⟨_, rfl, ?_⟩
    refine wp_mid (fun e s => ∃ (u : Option D) (x : Int), e = [some (.loc a), some (.int k), some (.int z), some (.int y), some (.loc s3.length), u, some (.int x)] ∧ Sm x ∧ Gx a st s ∧ Feed s a ∧ s[s3.length]? = some (.lst (ns.map D.int))) ?_ ?_
    · walk_at "zy"
      refine datum_wp f ?_
      intro x s4 hx g4 f4
      exact ⟨_, rfl, _, x, rfl, hx, g.trans g4, f4, g4.keep (by omega) hr⟩
    rintro e s4 ⟨u, x, rfl, hx, g4, f4, hr4⟩
    have s1 : Sm 1 := by unfold Sm big; omega
    have s0 : Sm 0 := by unfold Sm big; omega
    refine wp_mid (fun e s => ∃ (u : Option D) (x : Int), e = [some (.loc a), some (.int k), some (.int z), some (.int y), some (.loc s3.length), u, some (.int x)] ∧ Sm x ∧ Gx a st s ∧ Feed s a ∧ s[s3.length]? = some (.lst (ns.map D.int))) ?_ ?_
    · walk_at "zy"
      · exact ⟨_, rfl, _, 1, rfl, s1, g4, f4, hr4⟩
      · exact ⟨_, rfl, _, x, rfl, hx, g4, f4, hr4⟩
    clear hx g4 f4 hr4 x s4
    rintro e s4 ⟨u, x, rfl, hx, g4, f4, hr4⟩
    refine wp_mid (fun e s => ∃ (u : Option D) (x : Int), e = [some (.loc a), some (.int k), some (.int z), some (.int y), some (.loc s3.length), u, some (.int x)] ∧ Sm x ∧ Gx a st s ∧ Feed s a ∧ s[s3.length]? = some (.lst (ns.map D.int))) ?_ ?_
    · walk_at "zy"
      · exact ⟨_, rfl, _, 0, rfl, s0, g4, f4, hr4⟩
      · refine take_wp f4 (by omega) (by omega) ?_
        intro w s5 w0 w1 g5 f5 _
        walk_at "zy"
        · exact ⟨_, rfl, _, 0, rfl, s0, g4.trans g5, f5, g5.keep (by omega) hr4⟩
        · exact ⟨_, rfl, _, x, rfl, hx, g4.trans g5, f5, g5.keep (by omega) hr4⟩
      · exact ⟨_, rfl, _, x, rfl, hx, g4, f4, hr4⟩
    clear hx g4 f4 hr4 x s4
    rintro e s4 ⟨u, x, rfl, hx, g4, f4, hr4⟩
    walk_at "zy"
    refine ⟨_, _, ns ++ [x], rfl, g4.setNew (by omega), f4.set (by omega), ?_, by rw [List.length_append, hl]; rfl, ?_⟩
    · rw [List.map_append]
      exact at_set hr4
    · intro n hn
      rcases List.mem_append.mp hn with hn | hn
      · exact hb n hn
      · rw [List.mem_singleton.mp hn]
        exact hx
  · rintro e s ⟨u, v, ns, rfl, g, f, hr, hl, hb⟩
    rw [len_range] at hl
    walk_at "zy"
    exact q _ ns _ g f (by omega) hr (by omega) hb
theorem memory_wp {c : Int} {wl sl : Nat} {ws sh : List Str} (hw : st[wl]? = some (.lst (ws.map D.str))) (hs : st[sl]? = some (.lst (sh.map D.str))) (lw : ws.length ≤ 1000) (ls : sh.length ≤ 1000) (q : ∀ (h pn pa : Nat) (ks js : List Str) (N : Str → Int) (A : Str → List Int) (F : Str → D) (s : S), Gr st s → s[h]? = some (.lst [.loc pn, .loc pa]) → Me s pn pa ks js N A F → st.length ≤ pn → st.length ≤ pa → (∀ w, w ∈ ks ↔ w ∈ ws) → (∀ w, w ∈ js ↔ w ∈ sh) → js.Nodup → ks.length ≤ 1000 → js.length ≤ 1000 → Lists js F → Mem ws sh N A → Q (.loc h) s) : Wp (F_law_memory [.int c, .loc wl, .loc sl] st) Q := by
  unfold F_law_memory b_law_memory
  refine wp_fn rfl ?_
  walk_at "zn"
  refine feed_wp ?_
  intro s1 g1 f1 l1
  walk_at "zy"
  walk_at "zn"
  have hw1 := at_app (t := [O.dic []]) (g1.keep hw)
  have hs1 := at_app (t := [O.dic []]) (g1.keep hs)
  have w0 := at_lt hw
  have s0 := at_lt hs
  have f1 : Feed (s1 ++ [O.dic []]) st.length := f1.gr Gr.app
  have e1 : (s1 ++ [O.dic []])[s1.length]? = some (.dic []) := at_last
  have g1 : Gr st (s1 ++ [O.dic []]) := g1.trans Gr.app
  have l2 : (s1 ++ [O.dic []]).length = st.length + 2 := by simp [l1]
  rw [l1] at *
  revert hw1 hs1 f1 e1 g1 l2
  generalize s1 ++ [O.dic []] = s2
  intro hw1 hs1 f1 e1 g1 l2
  refine wp_mid (fun e s => ∃ (v5 : Option D) (ks : List Str) (N : Str → Int), e = [some (.int c), some (.loc wl), some (.loc sl), some (.loc st.length), some (.loc (st.length + 1)), v5, none] ∧ Gx st.length st s ∧ Feed s st.length ∧ s[st.length + 1]? = some (.dic (dk ks fun w => .int (N w))) ∧ (∀ w, w ∈ ks ↔ w ∈ ws) ∧ (∀ w ∈ ks, Sm (N w)) ∧ ks.length ≤ 1000) ?_ ?_
  · refine wp_forAL rfl (getL_of hw1) ?_
    refine wp_forL (xs := ws.map D.str) (fun i e s => ∃ (v5 : Option D) (ks : List Str) (N : Str → Int), e = [some (.int c), some (.loc wl), some (.loc sl), some (.loc st.length), some (.loc (st.length + 1)), v5, none] ∧ Gx st.length st s ∧ Feed s st.length ∧ s[st.length + 1]? = some (.dic (dk ks fun w => .int (N w))) ∧ (∀ w, w ∈ ks ↔ w ∈ ws.take i) ∧ (∀ w ∈ ks, Sm (N w)) ∧ ks.length ≤ i) ⟨none, [], fun _ => 0, rfl, g1.gx, f1, e1, fun w => by simp, (fun w h => nomatch h), Nat.le_refl _⟩ ?_ (by rw [List.length_map]; omega) ?_ ?_
    · rintro i es s - ⟨v5, ks, N, rfl, g, -⟩
      exact getL_of (g.keep (by omega) hw)
    · rintro i d es s hd ⟨v5, ks, N, rfl, g, f, e, hk, hN, lk⟩
      rw [List.getElem?_map] at hd
      cases ew : ws[i]? with
      | none => rw [ew] at hd; cases hd
      | some w =>
        rw [ew] at hd
        cases hd
        have hi := (List.getElem?_eq_some_iff.mp ew).1
        refine ⟨_, rfl, ?_⟩
        walk_at "zy"
        refine datum_wp f ?_
        intro n s3 hn g3 f3
        walk_at "zy"
        refine wp_setAD (g3.keep (by omega) e) rfl (by rw [len_dk]; omega) ?_
        walk_at "zy"
        rw [put_dk, upd_int]
        refine ⟨_, addK ks w, upd N w n, rfl, (g.trans g3).setNew (by omega), f3.set (by omega), at_set (g3.keep (by omega) e), ?_, ?_, Nat.le_trans addK_le (by omega)⟩
        · intro v
          rw [mem_addK, hk, List.take_add_one, ew, List.mem_append]
          simp
        · intro v hv
          unfold upd
          split
          · exact hn
          · rename_i ne
            exact hN v ((mem_addK.mp hv).resolve_right ne)
    · rintro es s ⟨v5, ks, N, rfl, g, f, e, hk, hN, lk⟩
      rw [List.length_map] at *
      rw [List.take_length] at hk
      exact ⟨_, rfl, v5, ks, N, rfl, g, f, e, hk, hN, by omega⟩
  clear e1 g1 f1 hw1 hs1 l2 s2
  rintro e s2 ⟨v5, ks, N, rfl, g2, f2, e2, hk, hN, lk⟩
  walk_at "zn"
  have p1 := at_lt e2
  have e3 : (s2 ++ [O.dic []])[s2.length]? = some (.dic []) := at_last
  have e2 := at_app (t := [O.dic []]) e2
  have f2 : Feed (s2 ++ [O.dic []]) st.length := f2.gr Gr.app
  have g2 : Gx st.length st (s2 ++ [O.dic []]) := g2.trans Gx.app
  have l3 : (s2 ++ [O.dic []]).length = s2.length + 1 := by simp
  revert e3 e2 f2 g2 l3
  generalize s2.length = m at *
  generalize s2 ++ [O.dic []] = s3
  intro e3 e2 f2 g2 l3
  refine wp_mid (fun e s => ∃ (v5 : Option D) (js : List Str) (A : Str → List Int) (F : Str → D), e = [some (.int c), some (.loc wl), some (.loc sl), some (.loc st.length), some (.loc (st.length + 1)), v5, some (.loc m)] ∧ Gx st.length st s ∧ Feed s st.length ∧ s[st.length + 1]? = some (.dic (dk ks fun w => .int (N w))) ∧ s[m]? = some (.dic (dk js F)) ∧ (∀ w, w ∈ js ↔ w ∈ sh) ∧ (∀ w ∈ js, (A w).length ≤ 1000 ∧ ∀ x ∈ A w, Sm x) ∧ (∀ w ∈ js, ∃ l, F w = .loc l ∧ m < l ∧ s[l]? = some (.lst ((A w).map D.int))) ∧ js.length ≤ 1000 ∧ js.Nodup) ?_ ?_
  · refine wp_forAL rfl (getL_of (g2.keep (by omega) hs)) ?_
    refine wp_forL (xs := sh.map D.str) (fun i e s => ∃ (v5 : Option D) (js : List Str) (A : Str → List Int) (F : Str → D), e = [some (.int c), some (.loc wl), some (.loc sl), some (.loc st.length), some (.loc (st.length + 1)), v5, some (.loc m)] ∧ Gx st.length st s ∧ Feed s st.length ∧ s[st.length + 1]? = some (.dic (dk ks fun w => .int (N w))) ∧ s[m]? = some (.dic (dk js F)) ∧ (∀ w, w ∈ js ↔ w ∈ sh.take i) ∧ (∀ w ∈ js, (A w).length ≤ 1000 ∧ ∀ x ∈ A w, Sm x) ∧ (∀ w ∈ js, ∃ l, F w = .loc l ∧ m < l ∧ s[l]? = some (.lst ((A w).map D.int))) ∧ js.length ≤ i ∧ js.Nodup) ⟨_, [], fun _ => [], fun _ => .non, rfl, g2, f2, e2, e3, fun w => by simp, (fun w h => nomatch h), (fun w h => nomatch h), Nat.le_refl _, List.nodup_nil⟩ ?_ (by rw [List.length_map]; omega) ?_ ?_
    · rintro i es s - ⟨v5, js, A, F, rfl, g, -⟩
      exact getL_of (g.keep (by omega) hs)
    · rintro i d es s hd ⟨v5, js, A, F, rfl, g, f, en, e, hj, hA, hF, lj, nd⟩
      rw [List.getElem?_map] at hd
      cases ew : sh[i]? with
      | none => rw [ew] at hd; cases hd
      | some w =>
        rw [ew] at hd
        cases hd
        have hi := (List.getElem?_eq_some_iff.mp ew).1
        have lm := at_lt e
        refine ⟨_, rfl, ?_⟩
        walk_at "zy"
        refine row_wp f ?_
        intro l ns s4 g4 f4 ml e4 l4 b4
        have l4 : ns.length ≤ 1000 := by omega
        have ml : m < l := by omega
        walk_at "zy"
        refine wp_setAD (g4.keep (by omega) e) rfl (by rw [len_dk]; omega) ?_
        walk_at "zy"
        rw [put_dk]
        refine ⟨_, addK js w, upd A w ns, upd F w (.loc l), rfl, (g.trans g4).setNew (by omega), f4.set (by omega), at_setne (by omega) (g4.keep (by omega) en), at_set (g4.keep (by omega) e), ?_, ?_, ?_, Nat.le_trans addK_le (by omega), addK_nodup nd⟩
        · intro v
          rw [mem_addK, hj, List.take_add_one, ew, List.mem_append]
          simp
        · intro v hv
          unfold upd
          split
          · exact ⟨l4, b4⟩
          · rename_i ne
            exact hA v ((mem_addK.mp hv).resolve_right ne)
        · intro v hv
          unfold upd
          split
          · exact ⟨l, rfl, ml, at_setne (by omega) e4⟩
          · rename_i ne
            obtain ⟨l', h1, h2, h3⟩ := hF v ((mem_addK.mp hv).resolve_right ne)
            exact ⟨l', h1, h2, at_setne (by omega) (g4.keep (by omega) h3)⟩
    · rintro es s ⟨v5, js, A, F, rfl, g, f, en, e, hj, hA, hF, lj, nd⟩
      rw [List.length_map] at *
      rw [List.take_length] at hj
      exact ⟨_, rfl, v5, js, A, F, rfl, g, f, en, e, hj, hA, hF, by omega, nd⟩
  rintro e s4 ⟨v5, js, A, F, rfl, g, f, en, e, hj, hA, hF, lj, nd⟩
  walk_at "zz"
  have G : Gr st s4 := Gx.new Gr.refl g (Nat.le_refl _)
  refine q _ _ _ ks js N A F _ (G.trans Gr.app) at_last (Me.gr ⟨en, e, ?_⟩ Gr.app) (by omega) (by omega) hk hj nd lk lj ?_ ⟨fun w h => hN w ((hk w).mpr h), fun w h => hA w ((hj w).mpr h)⟩
  · intro w hw
    obtain ⟨l, h1, h2, h3⟩ := hF w hw
    exact Or.inr ⟨l, h1, h3⟩
  · intro w hw
    obtain ⟨l, h1, h2, h3⟩ := hF w hw
    exact ⟨l, h1⟩
end
end K01
end
section
set_option Elab.async false
set_option linter.all false
set_option maxRecDepth 100000
set_option maxHeartbeats 2000000
open PySem PySem.Spec PyProof.Rows L2 Z
local macro_rules | `(tactic| fail "zs") => `(tactic| first
  | assumption
  | with_reducible exact at_last
  | (with_reducible apply at_set; fail "zs")
  | (with_reducible apply at_app; fail "zs")
  | (with_reducible apply at_setne; (first | assumption | (apply Ne.symm; assumption) | omega); fail "zs")
  | (with_reducible refine Gr.keep (by assumption) ?_; fail "zs")
  | (with_reducible refine Gx.keep (by assumption) ?_ ?_; (first | assumption | (apply Ne.symm; assumption) | omega); fail "zs"))
local macro_rules | `(tactic| fail "zg") => `(tactic| first
  | assumption
  | (with_reducible apply getL_of; fail "zs")
  | (with_reducible apply getW_of; fail "zs")
  | (with_reducible apply getI_of; fail "zs"))
local macro_rules | `(tactic| fail "za") => `(tactic| first | (with_reducible apply atI_int; (first | assumption | omega); (first | assumption | omega | (simp only [List.length_set]; omega))) | with_unfolding_all exact rfl | assumption)
local macro_rules | `(tactic| fail "y0") => `(tactic| first
  | (with_reducible refine' wp_var ?z1 ?z2; (case z1 => with_unfolding_all exact rfl))
  | with_reducible refine wp_c2 ?_
  | with_reducible refine wp_cons ?_
  | with_reducible refine wp_c ?_
  | with_reducible refine wp_nil ?_
  | with_reducible refine wp_call ?_
  | with_reducible refine wp_c1 ?_)
local macro_rules | `(tactic| fail "y1") => `(tactic| first
  | with_reducible refine wp_set ?_
  | with_reducible refine wp_if ?_
  | with_reducible refine wp_next ?_
  | with_reducible refine wp_ret ?_
  | with_reducible refine af_nx ?_
  | with_reducible refine bk_rt ?_
  | (with_reducible refine' wp_ixL ?z1 ?z2 ?z3; (case z1 => fail "zg"); (case z2 => fail "za"))
  | (with_reducible refine' wp_ixT ?z1 ?z2; (case z1 => fail "za")))
local macro_rules | `(tactic| fail "y2") => `(tactic| first
  | with_reducible refine af_rt ?_
  | with_reducible refine af_bk ?_
  | with_reducible refine bk_nx ?_
  | with_reducible refine turned_nx ?_
  | with_reducible refine turned_bk ?_
  | with_reducible refine turned_rt ?_
  | with_reducible refine wp_and ?_
  | with_reducible refine wp_or ?_)
local macro_rules | `(tactic| fail "y3") => `(tactic| first
  | with_reducible refine wp_not ?_
  | with_reducible refine wp_sub ?_
  | with_reducible refine wp_subA ?_
  | with_reducible refine wp_chain ?_
  | with_reducible refine wp_neAI ?_
  | with_reducible refine wp_neAS ?_
  | with_reducible refine wp_dic0 ?_
  | with_reducible refine wp_drop ?_)
local macro_rules | `(tactic| fail "y4") => `(tactic| first
  | with_reducible refine wp_vK ?_
  | with_reducible refine wp_nox ?_
  | with_reducible refine wp_break ?_
  | with_reducible refine wp_retN ?_
  | with_reducible refine wp_sfld ?_
  | with_reducible refine wp_yes ?_
  | with_reducible refine wp_addI ?_
  | with_reducible refine wp_subI ?_)
local macro_rules | `(tactic| fail "y5") => `(tactic| first
  | with_reducible refine wp_neg ?_
  | with_reducible refine wp_eqI ?_
  | with_reducible refine wp_neI ?_
  | with_reducible refine wp_ltI ?_
  | with_reducible refine wp_leI ?_
  | with_reducible refine wp_gtI ?_
  | with_reducible refine wp_geI ?_
  | with_reducible refine wp_eqS ?_)
local macro_rules | `(tactic| fail "y6") => `(tactic| first
  | with_reducible refine wp_neS ?_
  | with_reducible refine wp_eqB ?_
  | with_reducible refine wp_isN ?_
  | with_reducible refine wp_isNotN ?_
  | with_reducible refine wp_int ?_
  | with_reducible refine wp_max2 ?_
  | with_reducible refine wp_min2 ?_
  | with_reducible refine wp_tr_bl ?_)
local macro_rules | `(tactic| fail "y7") => `(tactic| first
  | with_reducible refine wp_tr_int ?_
  | with_reducible refine wp_tupT ?_
  | with_reducible refine wp_slT ?_
  | with_reducible refine wp_nopart ?_
  | with_reducible refine wp_lst ?_
  | with_reducible refine wp_tup ?_
  | with_reducible refine wp_slice ?_
  | with_reducible refine wp_callK ?_)
local macro_rules | `(tactic| fail "y8") => `(tactic| first
  | with_reducible refine wp_make ?_
  | with_reducible refine wp_meth ?_
  | with_reducible refine wp_is ?_
  | with_reducible refine wp_vand ?_
  | with_reducible refine wp_vor ?_
  | with_reducible refine wp_vnot ?_
  | with_reducible refine wp_asg ?_
  | with_reducible refine wp_part ?_)
local macro_rules | `(tactic| fail "y9") => `(tactic| first
  | with_reducible refine wp_forR1 ?_
  | with_reducible refine wp_forR2 ?_
  | with_reducible refine wp_compR1 ?_
  | with_reducible refine wp_compR2 ?_
  | (with_reducible refine' wp_ixAL ?z1 ?z2 ?z3; (case z1 => fail "zg"); (case z2 => fail "za"))
  | (with_reducible refine' wp_ixAT ?z1 ?z2; (case z1 => fail "za"))
  | (with_reducible refine' and_isL ?z1 ?z2; (case z1 => fail "zg"))
  | (with_reducible refine' wp_append ?z1 ?z2 ?z3; (case z1 => fail "zg"); (case z2 => first | omega | (simp only [List.length_map, List.length_append, List.length_cons, List.length_nil]; omega))))
local macro_rules | `(tactic| fail "y10") => `(tactic| first
  | (with_reducible refine' wp_lenL ?z1 ?z2; (case z1 => fail "zg"))
  | with_reducible refine wp_lenT ?_
  | (with_reducible refine' wp_lenAL ?z1 ?z2; (case z1 => fail "zg"))
  | with_reducible refine wp_lenAT ?_
  | (with_reducible refine' wp_listL ?z1 ?z2; (case z1 => fail "zg"))
  | with_reducible refine wp_listT ?_
  | with_reducible refine ex_bl ?_
  | (with_reducible refine' ex_ty ?z1 ?z2 ?z3; (case z1 => with_unfolding_all exact rfl); (case z2 => with_unfolding_all exact rfl)))
local macro_rules | `(tactic| fail "y11") => `(tactic| first
  | (with_reducible refine' wp_mulT ?z1 ?z2 ?z3; (case z1 => omega); (case z2 => omega))
  | (with_reducible refine' wp_setF ?z1 ?z2 ?z3; (case z1 => fail "zg"); (case z2 => with_unfolding_all exact Nat.le_of_ble_eq_true rfl))
  | (with_reducible refine' wp_setInt ?z1 ?z2 ?z3 ?z4; (case z1 => fail "zg"); (case z2 => first | assumption | omega); (case z3 => first | assumption | omega | (simp only [List.length_set]; omega)))
  | (with_reducible refine' wp_setIx ?z1 ?z2 ?z3; (case z1 => fail "zg"); (case z2 => first | (with_reducible apply ixN_of; (first | assumption | omega); (first | assumption | omega | (rw [List.length_map]; omega))) | with_unfolding_all exact rfl | assumption))
  | (with_reducible refine' wp_setAI ?z1 ?z2 ?z3 ?z4; (case z1 => fail "zg"); (case z2 => first | assumption | omega); (case z3 => first | assumption | omega | (simp only [List.length_set]; omega)))
  | (with_reducible refine' wp_setAX ?z1 ?z2 ?z3; (case z1 => fail "zg"); (case z2 => first | (with_reducible apply ixN_of; (first | assumption | omega); (first | assumption | omega | (rw [List.length_map]; omega))) | with_unfolding_all exact rfl | assumption))
  | (with_reducible refine' wp_modI ?z1 ?z2; (case z1 => omega))
  | (with_reducible refine' wp_divA0 ?z1 ?z2 ?z3; (case z1 => omega); (case z2 => omega)))
local macro_rules | `(tactic| fail "y12") => `(tactic| first
  | (with_reducible refine' wp_mulA ?z1 ?z2; (case z1 => omega))
  | (with_reducible refine' wp_divI ?z1 ?z2 ?z3; (case z1 => omega); (case z2 => omega))
  | (with_reducible refine' wp_mulI ?z1 ?z2; (case z1 => omega))
  | (with_reducible refine' wp_powI ?z1 ?z2; (case z1 => with_unfolding_all decide))
  | (with_reducible refine' wp_fld ?z1 ?z2 ?z3; (case z1 => fail "zg"); (case z2 => first | with_unfolding_all exact rfl | assumption))
  | (with_reducible refine' wp_prop ?z1 ?z2; (case z1 => fail "zg"))
  | (with_reducible refine' wp_tupL ?z1 ?z2; (case z1 => fail "zg"))
  | (with_reducible refine' And.intro ?z1 ?z2; (case z1 => first | with_unfolding_all exact Nat.le_of_ble_eq_true rfl | with_unfolding_all decide)))
local macro_rules | `(tactic| fail "z0") => `(tactic| first | fail "y0" | fail "y1" | fail "y2" | fail "y3" | fail "y4" | fail "y5" | fail "y6" | fail "y7" | fail "y8" | fail "y9" | fail "y10" | fail "y11" | fail "y12")
local macro_rules | `(tactic| fail "z1") => `(tactic| first | with_reducible refine wp_seq ?_ | fail "z0")
local macro_rules | `(tactic| walk_at "z") => `(tactic| (repeat fail "z1"))
local macro_rules | `(tactic| fail "zb") => `(tactic| (with_reducible refine And.intro ?_ ?_; (all_goals (intro hb; first | (simp at hb; done) | (simp at hb; skip) | skip))))
local macro_rules | `(tactic| walk_at "zz") => `(tactic| (repeat' (first | fail "z1" | fail "zb")))
local macro_rules | `(tactic| walk_at "zy") => `(tactic| (repeat' (first | fail "z0" | fail "zb")))
local macro_rules | `(tactic| walk_at "zn") => `(tactic| (with_reducible refine wp_seq ?_; walk_at "zy"))
local macro_rules | `(tactic| walk_at "zs") => `(tactic| fail "zs")
local macro_rules | `(tactic| walk_at "zg") => `(tactic| fail "zg")
local macro_rules | `(tactic| walk_at "za") => `(tactic| fail "za")
local macro_rules | `(tactic| walk_at "z0") => `(tactic| fail "z0")
local macro_rules | `(tactic| walk_at "z1") => `(tactic| fail "z1")
local macro_rules | `(tactic| walk_at "zb") => `(tactic| fail "zb")
namespace K01
open PySem PySem.Spec PyProof.Rows L2 Z
local macro_rules | `(tactic| fail "zb") => `(tactic| (with_reducible refine And.intro ?_ ?_; (all_goals (intro hb; first | (exact absurd hb (by decide)) | (simp at hb; done) | (simp only [decide_eq_true_eq, decide_eq_false_iff_not, Bool.not_eq_true', Bool.not_eq_false'] at hb; skip) | skip))))
theorem take_new {js : List Str} {i : Nat} {w : Str} (h : js[i]? = some w) (nd : js.Nodup) : addK (js.take i) w = js.take (i + 1) := by
  have e : js.take (i + 1) = js.take i ++ [w] := by
    rw [List.take_add_one, h]
    rfl
  have n2 : (js.take i ++ [w]).Nodup := e ▸ nd.sublist (List.take_sublist _ _)
  have n3 := (List.nodup_append.mp n2).2.2
  unfold addK
  rw [if_neg (fun k => n3 w k w (List.mem_singleton.mpr rfl) rfl), e]
theorem lock_gx {a pa : Nat} {st s : S} {kvs : List (Key × D)} (h : st[pa]? = some (.dic kvs)) (g : Gx a (st.set pa (.dro kvs)) s) : Gx a st (s.set pa (.dic kvs)) := by
  have l := g.len
  rw [List.length_set] at l
  refine ⟨by rw [List.length_set]; exact l, fun n hn e => ?_⟩
  by_cases c : n = pa
  · subst c
    rw [h]
    exact List.getElem?_set_self (by omega)
  · rw [List.getElem?_set_ne (Ne.symm c), g.at_ n (by rw [List.length_set]; exact hn) e, List.getElem?_set_ne (Ne.symm c)]
theorem lock_gr {pa : Nat} {st s : S} {kvs : List (Key × D)} (h : st[pa]? = some (.dic kvs)) (g : Gr (st.set pa (.dro kvs)) s) : Gr st (s.set pa (.dic kvs)) := by
  have l := g.len
  rw [List.length_set] at l
  refine ⟨by rw [List.length_set]; exact l, fun n hn => ?_⟩
  by_cases c : n = pa
  · subst c
    rw [h]
    exact List.getElem?_set_self (by omega)
  · rw [List.getElem?_set_ne (Ne.symm c), g.at_ n (by rw [List.length_set]; exact hn), List.getElem?_set_ne (Ne.symm c)]
theorem row_set {s : S} {n : Nat} {o : O} {kvs : List (Key × D)} {d : D} {ns : List Int} (h : IsRow s d ns) (k : s[n]? = some (.dic kvs) ∨ s[n]? = some (.dro kvs)) : IsRow (s.set n o) d ns := by
  rcases h with h | ⟨m, rfl, h⟩
  · exact Or.inl h
  · refine Or.inr ⟨m, rfl, at_setne ?_ h⟩
    rintro rfl
    rw [h] at k
    rcases k with k | k <;> cases k
section
variable {s st : S} {a : Nat} {Q QD : D → S → Prop}
theorem handed_wp {pn pa : Nat} {ks js : List Str} {N : Str → Int} {A : Str → List Int} {F : Str → D} (hf : Feed st a) (h : Me st pn pa ks js N A F) (o : Off a pn pa js F) (nd : js.Nodup) (lj : js.length ≤ 1000) (q : ∀ (h gn ga : Nat) (G : Str → D) (s : S), Gx a st s → Feed s a → s[h]? = some (.lst [.loc gn, .loc ga]) → Me s gn ga ks js N A G → st.length ≤ gn → st.length ≤ ga → st.length ≤ h → gn ≠ ga → (∀ w ∈ js, ∀ l, G w = .loc l → st.length ≤ l) → Q (.loc h) s) : Wp (F_law_handed [.loc a, .loc pn, .loc pa] st) Q := by
  have la := hf.lt
  have lpa := at_lt h.a
  have lpn := at_lt h.n
  have na := o.e
  have nn := o.n
  have hd := h.a
  unfold F_law_handed b_law_handed
  refine wp_fn rfl ?_
  walk_at "zn"
  refine wp_mid (fun e s => ∃ (v4 : Option D) (G : Str → D), e = [some (.loc a), some (.loc pn), some (.loc pa), some (.loc st.length), v4] ∧ Gx a st s ∧ Feed s a ∧ s[st.length]? = some (.dic (dk js G)) ∧ (∀ w ∈ js, IsRow s (G w) (A w)) ∧ (∀ w ∈ js, ∀ l, G w = .loc l → st.length ≤ l)) ?_ ?_
  · refine wp_forAD rfl (at_app hd) ?_
    rw [keys_dk, List.set_append_left _ _ lpa]
    have bd : (st.set pa (.dro (dk js F)))[pa]? = some (.dro (dk js F)) := at_set hd
    have bl : (st.set pa (.dro (dk js F))).length = st.length := List.length_set ..
    have bf : Feed (st.set pa (.dro (dk js F))) a := hf.set na
    have br : ∀ w ∈ js, IsRow (st.set pa (.dro (dk js F))) (F w) (A w) := fun w hw => row_set (h.r w hw) (Or.inl hd)
    have un := fun s => lock_gx (a := a) (s := s) hd
    revert bd bl bf br un
    generalize st.set pa (.dro (dk js F)) = b
    intro bd bl bf br un
    refine wp_forT (fun i e s => ∃ (v4 : Option D) (G : Str → D), e = [some (.loc a), some (.loc pn), some (.loc pa), some (.loc st.length), v4] ∧ Gx a b s ∧ Feed s a ∧ s[st.length]? = some (.dic (dk (js.take i) G)) ∧ (∀ w ∈ js.take i, IsRow s (G w) (A w)) ∧ (∀ w ∈ js.take i, ∀ l, G w = .loc l → st.length ≤ l)) ⟨none, fun _ => .non, rfl, Gx.app, bf.gr Gr.app, by rw [← bl]; exact at_last, (fun w h => nomatch h), (fun w h => nomatch h)⟩ ?_ ?_
    · rintro i d es s hd2 ⟨v4, G, rfl, g, f, e, hG, hl⟩
      rw [List.getElem?_map] at hd2
      cases ew : js[i]? with
      | none => rw [ew] at hd2; cases hd2
      | some w =>
        rw [ew] at hd2
        cases hd2
        have hi := (List.getElem?_eq_some_iff.mp ew).1
        have hw := List.mem_of_getElem? ew
        have hb := g.keep na bd
        have rw_ := row_gx (br w hw) g (o.r w hw)
        have ls : st.length < s.length := at_lt e
        have lt : (js.take i).length ≤ 1000 := by rw [List.length_take]; omega
        refine ⟨_, rfl, ?_⟩
        refine wp_mid (fun e' s' => e' = [some (.loc a), some (.loc pn), some (.loc pa), some (.loc st.length), some (.str w)] ∧ Gx a b s' ∧ Feed s' a ∧ s'[st.length]? = some (.dic (dk (js.take (i + 1)) (upd G w (.loc s.length)))) ∧ (∀ v ∈ js.take (i + 1), IsRow s' (upd G w (.loc s.length) v) (A v)) ∧ (∀ v ∈ js.take (i + 1), ∀ l, upd G w (.loc s.length) v = .loc l → st.length ≤ l)) ?_ ?_
        · walk_at "zy"
          refine wp_ixAD (getK_r hb) rfl (val_dk hw) ?_
          walk_at "zy"
          refine wp_listRow rw_ ?_
          walk_at "zy"
          refine wp_setAD (at_app e) rfl (by rw [len_dk]; omega) ?_
          walk_at "zy"
          rw [put_dk, take_new ew nd]
          refine ⟨_, rfl, rfl, (g.trans Gx.app).setNew (by omega), (f.gr Gr.app).set (by omega), at_set (at_app e), ?_, ?_⟩
          · intro v hv
            unfold upd
            split
            · rename_i ev
              subst ev
              exact Or.inr ⟨_, rfl, at_setne (by omega) at_last⟩
            · rename_i ne
              have hv2 : v ∈ js.take i := by
                rw [← take_new ew nd] at hv
                exact (mem_addK.mp hv).resolve_right ne
              exact row_set ((hG v hv2).gr Gr.app) (Or.inl (at_app e))
          · intro v hv l
            unfold upd
            split
            · intro h
              cases h
              omega
            · rename_i ne
              have hv2 : v ∈ js.take i := by
                rw [← take_new ew nd] at hv
                exact (mem_addK.mp hv).resolve_right ne
              exact hl v hv2 l
        rintro e' s2 ⟨rfl, g2, f2, e2, hG2, hl2⟩
        have hb2 := g2.keep na bd
        have rw2 := row_gx (br w hw) g2 (o.r w hw)
        have lt2 : (js.take (i + 1)).length ≤ 1000 := by rw [List.length_take]; omega
        have wi : w ∈ js.take (i + 1) := by
          rw [← take_new ew nd]
          exact mem_addK.mpr (Or.inr rfl)
        walk_at "zy"
        refine take_wp f2 (by omega) (by omega) ?_
        intro j s3 j0 j1 g3 f3 l3
        have hb3 := g3.keep na hb2
        have e3 := g3.keep (by omega) e2
        have hG3 : ∀ v ∈ js.take (i + 1), IsRow s3 (upd G w (.loc s.length) v) (A v) := fun v hv => row_gx (hG2 v hv) g3 (by
          intro h
          have := hl2 v hv a h
          omega)
        have rw3 := row_gx rw2 g3 (o.r w hw)
        walk_at "zy"
        · refine wp_ixAD (getK_r hb3) rfl (val_dk hw) ?_
          walk_at "zy"
          refine wp_tupRow rw3 ?_
          walk_at "zy"
          refine wp_setAD e3 rfl (by rw [len_dk]; omega) ?_
          walk_at "zy"
          rw [put_dk, addK_in wi]
          refine ⟨_, _, rfl, (g2.trans g3).setNew (by omega), f3.set (by omega), at_set e3, ?_, ?_⟩
          · intro v hv
            by_cases ev : v = w
            · subst ev
              rw [upd_at]
              exact Or.inl rfl
            · rw [upd_ne ev]
              exact row_set (hG3 v hv) (Or.inl e3)
          · intro v hv l
            by_cases ev : v = w
            · subst ev
              rw [upd_at]
              intro h
              cases h
            · rw [upd_ne ev]
              exact hl2 v hv l
        · exact ⟨_, _, rfl, g2.trans g3, f3, e3, hG3, hl2⟩
    · rintro es s ⟨v4, G, rfl, g, f, e, hG, hl⟩
      rw [List.length_map, List.take_length] at *
      have eb := g.keep na bd
      refine ⟨eb, _, rfl, v4, G, rfl, un s g, f.set na, at_setne (by omega) e, fun w hw => row_set (hG w hw) (Or.inr eb), hl⟩
  rintro e s ⟨v4, G, rfl, g, f, e, hG, hl⟩
  have en := g.keep nn h.n
  have ls := at_lt e
  walk_at "zz"
  refine wp_dict (getK_d en) ?_
  walk_at "zz"
  refine q _ _ _ G _ ((g.trans Gx.app).trans Gx.app) ((f.gr Gr.app).gr Gr.app) at_last ⟨at_app at_last, at_app (at_app e), fun w hw => ((hG w hw).gr Gr.app).gr Gr.app⟩ (by omega) (by omega) (by simp; omega) (by omega) hl
theorem stayed_wp {g gn ga pn pa : Nat} {ks js : List Str} {N : Str → Int} {A : Str → List Int} {F G : Str → D} (hg : st[g]? = some (.lst [.loc gn, .loc ga])) (H : Me st gn ga ks js N A G) (h : Me st pn pa ks js N A F) (lf : Lists js F) (ne : ga ≠ pa) (lj : js.length ≤ 1000) (q : ∀ s, Gr st s → Q (.bl true) s) : Wp (F_law_stayed [.loc g, .loc pn, .loc pa] st) Q := by
  have hd := h.a
  have Hd := H.a
  have lpa := at_lt hd
  have gp : g ≠ pa := by
    rintro rfl
    rw [hg] at hd
    cases hd
  unfold F_law_stayed b_law_stayed
  refine wp_fn rfl ?_
  walk_at "zn"
  refine wp_neAD H.n h.n same_dk ?_
  walk_at "zy"
  refine wp_lenAD H.a ?_
  walk_at "zy"
  refine wp_lenAD h.a ?_
  rw [len_dk, len_dk]
  walk_at "zy"
  refine wp_seq ?_
  refine wp_forAD rfl hd ?_
  rw [keys_dk]
  have bd : (st.set pa (.dro (dk js F)))[pa]? = some (.dro (dk js F)) := at_set hd
  have bg : (st.set pa (.dro (dk js F)))[g]? = some (.lst [.loc gn, .loc ga]) := at_setne gp.symm hg
  have ba : (st.set pa (.dro (dk js F)))[ga]? = some (.dic (dk js G)) := at_setne ne.symm Hd
  have br : ∀ w ∈ js, IsRow (st.set pa (.dro (dk js F))) (F w) (A w) := fun w hw => row_set (h.r w hw) (Or.inl hd)
  have bG : ∀ w ∈ js, IsRow (st.set pa (.dro (dk js F))) (G w) (A w) := fun w hw => row_set (H.r w hw) (Or.inl hd)
  have un := fun s => lock_gr (s := s) hd
  revert bd bg ba br bG un
  generalize st.set pa (.dro (dk js F)) = b
  intro bd bg ba br bG un
  refine wp_forT (fun i e s => ∃ (v3 : Option D), e = [some (.loc g), some (.loc pn), some (.loc pa), v3] ∧ Gr b s) ⟨none, rfl, Gr.refl⟩ ?_ ?_
  · rintro i d es s hd2 ⟨v3, rfl, gr⟩
    rw [List.getElem?_map] at hd2
    cases ew : js[i]? with
    | none => rw [ew] at hd2; cases hd2
    | some w =>
      rw [ew] at hd2
      cases hd2
      have hw := List.mem_of_getElem? ew
      have sg := gr.keep bg
      have sa := gr.keep ba
      refine ⟨_, rfl, ?_⟩
      walk_at "zy"
      refine wp_notInAD (getK_d sa) rfl ?_
      rw [val_dk hw]
      walk_at "zy"
      refine wp_ixAD (getK_d sa) rfl (val_dk hw) ?_
      walk_at "zy"
      refine wp_listRow ((bG w hw).gr gr) ?_
      walk_at "zy"
      refine wp_ixAD (getK_r (at_app (gr.keep bd))) rfl (val_dk hw) ?_
      obtain ⟨l, el⟩ := lf w hw
      have rl := ((br w hw).gr gr).gr (t := s ++ [.lst ((A w).map D.int)]) Gr.app
      rw [el] at rl ⊢
      rcases rl with h | ⟨l2, h, rl⟩
      · cases h
      cases h
      refine wp_neAR (getL_of at_last) (getL_of rl) ?_
      rw [decide_eq_true rfl]
      walk_at "zy"
      exact ⟨_, rfl, gr.trans Gr.app⟩
  · rintro es s ⟨v3, rfl, gr⟩
    refine ⟨gr.keep bd, ?_⟩
    walk_at "zz"
    exact q _ (un s gr)
end
end K01
end
section
set_option Elab.async false
set_option linter.all false
set_option maxRecDepth 100000
set_option maxHeartbeats 2000000
open PySem PySem.Spec PyProof.Rows L2 Z
local macro_rules | `(tactic| fail "zs") => `(tactic| first
  | assumption
  | with_reducible exact at_last
  | (with_reducible apply at_set; fail "zs")
  | (with_reducible apply at_app; fail "zs")
  | (with_reducible apply at_setne; (first | assumption | (apply Ne.symm; assumption) | omega); fail "zs")
  | (with_reducible refine Gr.keep (by assumption) ?_; fail "zs")
  | (with_reducible refine Gx.keep (by assumption) ?_ ?_; (first | assumption | (apply Ne.symm; assumption) | omega); fail "zs"))
local macro_rules | `(tactic| fail "zg") => `(tactic| first
  | assumption
  | (with_reducible apply getL_of; fail "zs")
  | (with_reducible apply getW_of; fail "zs")
  | (with_reducible apply getI_of; fail "zs"))
local macro_rules | `(tactic| fail "za") => `(tactic| first | (with_reducible apply atI_int; (first | assumption | omega); (first | assumption | omega | (simp only [List.length_set]; omega))) | with_unfolding_all exact rfl | assumption)
local macro_rules | `(tactic| fail "y0") => `(tactic| first
  | (with_reducible refine' wp_var ?z1 ?z2; (case z1 => with_unfolding_all exact rfl))
  | with_reducible refine wp_c2 ?_
  | with_reducible refine wp_cons ?_
  | with_reducible refine wp_c ?_
  | with_reducible refine wp_nil ?_
  | with_reducible refine wp_call ?_
  | with_reducible refine wp_c1 ?_)
local macro_rules | `(tactic| fail "y1") => `(tactic| first
  | with_reducible refine wp_set ?_
  | with_reducible refine wp_if ?_
  | with_reducible refine wp_next ?_
  | with_reducible refine wp_ret ?_
  | with_reducible refine af_nx ?_
  | with_reducible refine bk_rt ?_
  | (with_reducible refine' wp_ixL ?z1 ?z2 ?z3; (case z1 => fail "zg"); (case z2 => fail "za"))
  | (with_reducible refine' wp_ixT ?z1 ?z2; (case z1 => fail "za")))
local macro_rules | `(tactic| fail "y2") => `(tactic| first
  | with_reducible refine af_rt ?_
  | with_reducible refine af_bk ?_
  | with_reducible refine bk_nx ?_
  | with_reducible refine turned_nx ?_
  | with_reducible refine turned_bk ?_
  | with_reducible refine turned_rt ?_
  | with_reducible refine wp_and ?_
  | with_reducible refine wp_or ?_)
local macro_rules | `(tactic| fail "y3") => `(tactic| first
  | with_reducible refine wp_not ?_
  | with_reducible refine wp_sub ?_
  | with_reducible refine wp_subA ?_
  | with_reducible refine wp_chain ?_
  | with_reducible refine wp_neAI ?_
  | with_reducible refine wp_neAS ?_
  | with_reducible refine wp_dic0 ?_
  | with_reducible refine wp_drop ?_)
local macro_rules | `(tactic| fail "y4") => `(tactic| first
  | with_reducible refine wp_vK ?_
  | with_reducible refine wp_nox ?_
  | with_reducible refine wp_break ?_
  | with_reducible refine wp_retN ?_
  | with_reducible refine wp_sfld ?_
  | with_reducible refine wp_yes ?_
  | with_reducible refine wp_addI ?_
  | with_reducible refine wp_subI ?_)
local macro_rules | `(tactic| fail "y5") => `(tactic| first
  | with_reducible refine wp_neg ?_
  | with_reducible refine wp_eqI ?_
  | with_reducible refine wp_neI ?_
  | with_reducible refine wp_ltI ?_
  | with_reducible refine wp_leI ?_
  | with_reducible refine wp_gtI ?_
  | with_reducible refine wp_geI ?_
  | with_reducible refine wp_eqS ?_)
local macro_rules | `(tactic| fail "y6") => `(tactic| first
  | with_reducible refine wp_neS ?_
  | with_reducible refine wp_eqB ?_
  | with_reducible refine wp_isN ?_
  | with_reducible refine wp_isNotN ?_
  | with_reducible refine wp_int ?_
  | with_reducible refine wp_max2 ?_
  | with_reducible refine wp_min2 ?_
  | with_reducible refine wp_tr_bl ?_)
local macro_rules | `(tactic| fail "y7") => `(tactic| first
  | with_reducible refine wp_tr_int ?_
  | with_reducible refine wp_tupT ?_
  | with_reducible refine wp_slT ?_
  | with_reducible refine wp_nopart ?_
  | with_reducible refine wp_lst ?_
  | with_reducible refine wp_tup ?_
  | with_reducible refine wp_slice ?_
  | with_reducible refine wp_callK ?_)
local macro_rules | `(tactic| fail "y8") => `(tactic| first
  | with_reducible refine wp_make ?_
  | with_reducible refine wp_meth ?_
  | with_reducible refine wp_is ?_
  | with_reducible refine wp_vand ?_
  | with_reducible refine wp_vor ?_
  | with_reducible refine wp_vnot ?_
  | with_reducible refine wp_asg ?_
  | with_reducible refine wp_part ?_)
local macro_rules | `(tactic| fail "y9") => `(tactic| first
  | with_reducible refine wp_forR1 ?_
  | with_reducible refine wp_forR2 ?_
  | with_reducible refine wp_compR1 ?_
  | with_reducible refine wp_compR2 ?_
  | (with_reducible refine' wp_ixAL ?z1 ?z2 ?z3; (case z1 => fail "zg"); (case z2 => fail "za"))
  | (with_reducible refine' wp_ixAT ?z1 ?z2; (case z1 => fail "za"))
  | (with_reducible refine' and_isL ?z1 ?z2; (case z1 => fail "zg"))
  | (with_reducible refine' wp_append ?z1 ?z2 ?z3; (case z1 => fail "zg"); (case z2 => first | omega | (simp only [List.length_map, List.length_append, List.length_cons, List.length_nil]; omega))))
local macro_rules | `(tactic| fail "y10") => `(tactic| first
  | (with_reducible refine' wp_lenL ?z1 ?z2; (case z1 => fail "zg"))
  | with_reducible refine wp_lenT ?_
  | (with_reducible refine' wp_lenAL ?z1 ?z2; (case z1 => fail "zg"))
  | with_reducible refine wp_lenAT ?_
  | (with_reducible refine' wp_listL ?z1 ?z2; (case z1 => fail "zg"))
  | with_reducible refine wp_listT ?_
  | with_reducible refine ex_bl ?_
  | (with_reducible refine' ex_ty ?z1 ?z2 ?z3; (case z1 => with_unfolding_all exact rfl); (case z2 => with_unfolding_all exact rfl)))
local macro_rules | `(tactic| fail "y11") => `(tactic| first
  | (with_reducible refine' wp_mulT ?z1 ?z2 ?z3; (case z1 => omega); (case z2 => omega))
  | (with_reducible refine' wp_setF ?z1 ?z2 ?z3; (case z1 => fail "zg"); (case z2 => with_unfolding_all exact Nat.le_of_ble_eq_true rfl))
  | (with_reducible refine' wp_setInt ?z1 ?z2 ?z3 ?z4; (case z1 => fail "zg"); (case z2 => first | assumption | omega); (case z3 => first | assumption | omega | (simp only [List.length_set]; omega)))
  | (with_reducible refine' wp_setIx ?z1 ?z2 ?z3; (case z1 => fail "zg"); (case z2 => first | (with_reducible apply ixN_of; (first | assumption | omega); (first | assumption | omega | (rw [List.length_map]; omega))) | with_unfolding_all exact rfl | assumption))
  | (with_reducible refine' wp_setAI ?z1 ?z2 ?z3 ?z4; (case z1 => fail "zg"); (case z2 => first | assumption | omega); (case z3 => first | assumption | omega | (simp only [List.length_set]; omega)))
  | (with_reducible refine' wp_setAX ?z1 ?z2 ?z3; (case z1 => fail "zg"); (case z2 => first | (with_reducible apply ixN_of; (first | assumption | omega); (first | assumption | omega | (rw [List.length_map]; omega))) | with_unfolding_all exact rfl | assumption))
  | (with_reducible refine' wp_modI ?z1 ?z2; (case z1 => omega))
  | (with_reducible refine' wp_divA0 ?z1 ?z2 ?z3; (case z1 => omega); (case z2 => omega)))
local macro_rules | `(tactic| fail "y12") => `(tactic| first
  | (with_reducible refine' wp_mulA ?z1 ?z2; (case z1 => omega))
  | (with_reducible refine' wp_divI ?z1 ?z2 ?z3; (case z1 => omega); (case z2 => omega))
  | (with_reducible refine' wp_mulI ?z1 ?z2; (case z1 => omega))
  | (with_reducible refine' wp_powI ?z1 ?z2; (case z1 => with_unfolding_all decide))
  | (with_reducible refine' wp_fld ?z1 ?z2 ?z3; (case z1 => fail "zg"); (case z2 => first | with_unfolding_all exact rfl | assumption))
  | (with_reducible refine' wp_prop ?z1 ?z2; (case z1 => fail "zg"))
  | (with_reducible refine' wp_tupL ?z1 ?z2; (case z1 => fail "zg"))
  | (with_reducible refine' And.intro ?z1 ?z2; (case z1 => first | with_unfolding_all exact Nat.le_of_ble_eq_true rfl | with_unfolding_all decide)))
local macro_rules | `(tactic| fail "z0") => `(tactic| first | fail "y0" | fail "y1" | fail "y2" | fail "y3" | fail "y4" | fail "y5" | fail "y6" | fail "y7" | fail "y8" | fail "y9" | fail "y10" | fail "y11" | fail "y12")
local macro_rules | `(tactic| fail "z1") => `(tactic| first | with_reducible refine wp_seq ?_ | fail "z0")
local macro_rules | `(tactic| walk_at "z") => `(tactic| (repeat fail "z1"))
local macro_rules | `(tactic| fail "zb") => `(tactic| (with_reducible refine And.intro ?_ ?_; (all_goals (intro hb; first | (simp at hb; done) | (simp at hb; skip) | skip))))
local macro_rules | `(tactic| walk_at "zz") => `(tactic| (repeat' (first | fail "z1" | fail "zb")))
local macro_rules | `(tactic| walk_at "zy") => `(tactic| (repeat' (first | fail "z0" | fail "zb")))
local macro_rules | `(tactic| walk_at "zn") => `(tactic| (with_reducible refine wp_seq ?_; walk_at "zy"))
local macro_rules | `(tactic| walk_at "zs") => `(tactic| fail "zs")
local macro_rules | `(tactic| walk_at "zg") => `(tactic| fail "zg")
local macro_rules | `(tactic| walk_at "za") => `(tactic| fail "za")
local macro_rules | `(tactic| walk_at "z0") => `(tactic| fail "z0")
local macro_rules | `(tactic| walk_at "z1") => `(tactic| fail "z1")
local macro_rules | `(tactic| walk_at "zb") => `(tactic| fail "zb")
namespace K01
open PySem PySem.Spec PyProof.Rows L2 Z
local macro_rules | `(tactic| fail "zb") => `(tactic| (with_reducible refine And.intro ?_ ?_; (all_goals (intro hb; first | (exact absurd hb (by decide)) | (simp at hb; done) | (simp only [decide_eq_true_eq, decide_eq_false_iff_not, Bool.not_eq_true', Bool.not_eq_false'] at hb; skip) | skip))))
section
variable {s st : S} {a : Nat} {Q QD : D → S → Prop}
/-! two numbers -/
/-! the table -/
theorem memD {ws : List Str} {N : Str → Int} (h : ∀ w ∈ ws, Sm (N w)) : Mem ws [] N (fun _ => []) := ⟨h, fun _ h => nomatch h⟩
theorem envD {s : S} {pn pa : Nat} {ks ws : List Str} {N : Str → Int} {A : Str → List Int} (h1 : s[pn]? = some (.dic (dk ks fun w => .int (N w)))) (h2 : s[pa]? = some (.dic [])) (hw : ∀ w ∈ ws, w ∈ ks) : EnvAt s pn pa ws [] N A := ⟨⟨_, h1, fun w k => val_dk (hw w k)⟩, _, h2, fun _ h => nomatch h⟩
end
end K01
end
section
set_option Elab.async false
set_option linter.all false
set_option maxRecDepth 100000
set_option maxHeartbeats 2000000
open PySem PySem.Spec PyProof.Rows L2 Z
local macro_rules | `(tactic| fail "zs") => `(tactic| first
  | assumption
  | with_reducible exact at_last
  | (with_reducible apply at_set; fail "zs")
  | (with_reducible apply at_app; fail "zs")
  | (with_reducible apply at_setne; (first | assumption | (apply Ne.symm; assumption) | omega); fail "zs")
  | (with_reducible refine Gr.keep (by assumption) ?_; fail "zs")
  | (with_reducible refine Gx.keep (by assumption) ?_ ?_; (first | assumption | (apply Ne.symm; assumption) | omega); fail "zs"))
local macro_rules | `(tactic| fail "zg") => `(tactic| first
  | assumption
  | (with_reducible apply getL_of; fail "zs")
  | (with_reducible apply getW_of; fail "zs")
  | (with_reducible apply getI_of; fail "zs"))
local macro_rules | `(tactic| fail "za") => `(tactic| first | (with_reducible apply atI_int; (first | assumption | omega); (first | assumption | omega | (simp only [List.length_set]; omega))) | with_unfolding_all exact rfl | assumption)
local macro_rules | `(tactic| fail "y0") => `(tactic| first
  | (with_reducible refine' wp_var ?z1 ?z2; (case z1 => with_unfolding_all exact rfl))
  | with_reducible refine wp_c2 ?_
  | with_reducible refine wp_cons ?_
  | with_reducible refine wp_c ?_
  | with_reducible refine wp_nil ?_
  | with_reducible refine wp_call ?_
  | with_reducible refine wp_c1 ?_)
local macro_rules | `(tactic| fail "y1") => `(tactic| first
  | with_reducible refine wp_set ?_
  | with_reducible refine wp_if ?_
  | with_reducible refine wp_next ?_
  | with_reducible refine wp_ret ?_
  | with_reducible refine af_nx ?_
  | with_reducible refine bk_rt ?_
  | (with_reducible refine' wp_ixL ?z1 ?z2 ?z3; (case z1 => fail "zg"); (case z2 => fail "za"))
  | (with_reducible refine' wp_ixT ?z1 ?z2; (case z1 => fail "za")))
local macro_rules | `(tactic| fail "y2") => `(tactic| first
  | with_reducible refine af_rt ?_
  | with_reducible refine af_bk ?_
  | with_reducible refine bk_nx ?_
  | with_reducible refine turned_nx ?_
  | with_reducible refine turned_bk ?_
  | with_reducible refine turned_rt ?_
  | with_reducible refine wp_and ?_
  | with_reducible refine wp_or ?_)
local macro_rules | `(tactic| fail "y3") => `(tactic| first
  | with_reducible refine wp_not ?_
  | with_reducible refine wp_sub ?_
  | with_reducible refine wp_subA ?_
  | with_reducible refine wp_chain ?_
  | with_reducible refine wp_neAI ?_
  | with_reducible refine wp_neAS ?_
  | with_reducible refine wp_dic0 ?_
  | with_reducible refine wp_drop ?_)
local macro_rules | `(tactic| fail "y4") => `(tactic| first
  | with_reducible refine wp_vK ?_
  | with_reducible refine wp_nox ?_
  | with_reducible refine wp_break ?_
  | with_reducible refine wp_retN ?_
  | with_reducible refine wp_sfld ?_
  | with_reducible refine wp_yes ?_
  | with_reducible refine wp_addI ?_
  | with_reducible refine wp_subI ?_)
local macro_rules | `(tactic| fail "y5") => `(tactic| first
  | with_reducible refine wp_neg ?_
  | with_reducible refine wp_eqI ?_
  | with_reducible refine wp_neI ?_
  | with_reducible refine wp_ltI ?_
  | with_reducible refine wp_leI ?_
  | with_reducible refine wp_gtI ?_
  | with_reducible refine wp_geI ?_
  | with_reducible refine wp_eqS ?_)
local macro_rules | `(tactic| fail "y6") => `(tactic| first
  | with_reducible refine wp_neS ?_
  | with_reducible refine wp_eqB ?_
  | with_reducible refine wp_isN ?_
  | with_reducible refine wp_isNotN ?_
  | with_reducible refine wp_int ?_
  | with_reducible refine wp_max2 ?_
  | with_reducible refine wp_min2 ?_
  | with_reducible refine wp_tr_bl ?_)
local macro_rules | `(tactic| fail "y7") => `(tactic| first
  | with_reducible refine wp_tr_int ?_
  | with_reducible refine wp_tupT ?_
  | with_reducible refine wp_slT ?_
  | with_reducible refine wp_nopart ?_
  | with_reducible refine wp_lst ?_
  | with_reducible refine wp_tup ?_
  | with_reducible refine wp_slice ?_
  | with_reducible refine wp_callK ?_)
local macro_rules | `(tactic| fail "y8") => `(tactic| first
  | with_reducible refine wp_make ?_
  | with_reducible refine wp_meth ?_
  | with_reducible refine wp_is ?_
  | with_reducible refine wp_vand ?_
  | with_reducible refine wp_vor ?_
  | with_reducible refine wp_vnot ?_
  | with_reducible refine wp_asg ?_
  | with_reducible refine wp_part ?_)
local macro_rules | `(tactic| fail "y9") => `(tactic| first
  | with_reducible refine wp_forR1 ?_
  | with_reducible refine wp_forR2 ?_
  | with_reducible refine wp_compR1 ?_
  | with_reducible refine wp_compR2 ?_
  | (with_reducible refine' wp_ixAL ?z1 ?z2 ?z3; (case z1 => fail "zg"); (case z2 => fail "za"))
  | (with_reducible refine' wp_ixAT ?z1 ?z2; (case z1 => fail "za"))
  | (with_reducible refine' and_isL ?z1 ?z2; (case z1 => fail "zg"))
  | (with_reducible refine' wp_append ?z1 ?z2 ?z3; (case z1 => fail "zg"); (case z2 => first | omega | (simp only [List.length_map, List.length_append, List.length_cons, List.length_nil]; omega))))
local macro_rules | `(tactic| fail "y10") => `(tactic| first
  | (with_reducible refine' wp_lenL ?z1 ?z2; (case z1 => fail "zg"))
  | with_reducible refine wp_lenT ?_
  | (with_reducible refine' wp_lenAL ?z1 ?z2; (case z1 => fail "zg"))
  | with_reducible refine wp_lenAT ?_
  | (with_reducible refine' wp_listL ?z1 ?z2; (case z1 => fail "zg"))
  | with_reducible refine wp_listT ?_
  | with_reducible refine ex_bl ?_
  | (with_reducible refine' ex_ty ?z1 ?z2 ?z3; (case z1 => with_unfolding_all exact rfl); (case z2 => with_unfolding_all exact rfl)))
local macro_rules | `(tactic| fail "y11") => `(tactic| first
  | (with_reducible refine' wp_mulT ?z1 ?z2 ?z3; (case z1 => omega); (case z2 => omega))
  | (with_reducible refine' wp_setF ?z1 ?z2 ?z3; (case z1 => fail "zg"); (case z2 => with_unfolding_all exact Nat.le_of_ble_eq_true rfl))
  | (with_reducible refine' wp_setInt ?z1 ?z2 ?z3 ?z4; (case z1 => fail "zg"); (case z2 => first | assumption | omega); (case z3 => first | assumption | omega | (simp only [List.length_set]; omega)))
  | (with_reducible refine' wp_setIx ?z1 ?z2 ?z3; (case z1 => fail "zg"); (case z2 => first | (with_reducible apply ixN_of; (first | assumption | omega); (first | assumption | omega | (rw [List.length_map]; omega))) | with_unfolding_all exact rfl | assumption))
  | (with_reducible refine' wp_setAI ?z1 ?z2 ?z3 ?z4; (case z1 => fail "zg"); (case z2 => first | assumption | omega); (case z3 => first | assumption | omega | (simp only [List.length_set]; omega)))
  | (with_reducible refine' wp_setAX ?z1 ?z2 ?z3; (case z1 => fail "zg"); (case z2 => first | (with_reducible apply ixN_of; (first | assumption | omega); (first | assumption | omega | (rw [List.length_map]; omega))) | with_unfolding_all exact rfl | assumption))
  | (with_reducible refine' wp_modI ?z1 ?z2; (case z1 => omega))
  | (with_reducible refine' wp_divA0 ?z1 ?z2 ?z3; (case z1 => omega); (case z2 => omega)))
local macro_rules | `(tactic| fail "y12") => `(tactic| first
  | (with_reducible refine' wp_mulA ?z1 ?z2; (case z1 => omega))
  | (with_reducible refine' wp_divI ?z1 ?z2 ?z3; (case z1 => omega); (case z2 => omega))
  | (with_reducible refine' wp_mulI ?z1 ?z2; (case z1 => omega))
  | (with_reducible refine' wp_powI ?z1 ?z2; (case z1 => with_unfolding_all decide))
  | (with_reducible refine' wp_fld ?z1 ?z2 ?z3; (case z1 => fail "zg"); (case z2 => first | with_unfolding_all exact rfl | assumption))
  | (with_reducible refine' wp_prop ?z1 ?z2; (case z1 => fail "zg"))
  | (with_reducible refine' wp_tupL ?z1 ?z2; (case z1 => fail "zg"))
  | (with_reducible refine' And.intro ?z1 ?z2; (case z1 => first | with_unfolding_all exact Nat.le_of_ble_eq_true rfl | with_unfolding_all decide)))
local macro_rules | `(tactic| fail "z0") => `(tactic| first | fail "y0" | fail "y1" | fail "y2" | fail "y3" | fail "y4" | fail "y5" | fail "y6" | fail "y7" | fail "y8" | fail "y9" | fail "y10" | fail "y11" | fail "y12")
local macro_rules | `(tactic| fail "z1") => `(tactic| first | with_reducible refine wp_seq ?_ | fail "z0")
local macro_rules | `(tactic| walk_at "z") => `(tactic| (repeat fail "z1"))
local macro_rules | `(tactic| fail "zb") => `(tactic| (with_reducible refine And.intro ?_ ?_; (all_goals (intro hb; first | (simp at hb; done) | (simp at hb; skip) | skip))))
local macro_rules | `(tactic| walk_at "zz") => `(tactic| (repeat' (first | fail "z1" | fail "zb")))
local macro_rules | `(tactic| walk_at "zy") => `(tactic| (repeat' (first | fail "z0" | fail "zb")))
local macro_rules | `(tactic| walk_at "zn") => `(tactic| (with_reducible refine wp_seq ?_; walk_at "zy"))
local macro_rules | `(tactic| walk_at "zs") => `(tactic| fail "zs")
local macro_rules | `(tactic| walk_at "zg") => `(tactic| fail "zg")
local macro_rules | `(tactic| walk_at "za") => `(tactic| fail "za")
local macro_rules | `(tactic| walk_at "z0") => `(tactic| fail "z0")
local macro_rules | `(tactic| walk_at "z1") => `(tactic| fail "z1")
local macro_rules | `(tactic| walk_at "zb") => `(tactic| fail "zb")
namespace K01
open PySem PySem.Spec PyProof.Rows L2 Z
local macro_rules | `(tactic| fail "zb") => `(tactic| (with_reducible refine And.intro ?_ ?_; (all_goals (intro hb; first | (exact absurd hb (by decide)) | (simp at hb; done) | (simp only [decide_eq_true_eq, decide_eq_false_iff_not, Bool.not_eq_true', Bool.not_eq_false'] at hb; skip) | skip))))
/-- arrays that a feed leaves as they are -/
structure Ar (a : Nat) (s : S) (pa : Nat) (sh : List Str) (A : Str → List Int) : Prop where
  e : pa ≠ a
  k : ∃ ka, s[pa]? = some (.dic ka) ∧ ∀ w ∈ sh, ∃ d, valD ka (.inr w) = some d ∧ IsRow s d (A w) ∧ d ≠ .loc a
section
variable {a pa n : Nat} {s t st : S} {sh ws ks : List Str} {N : Str → Int} {A : Str → List Int} {Q : D → S → Prop}
theorem Ar.gx (h : Ar a s pa sh A) (g : Gx a s t) : Ar a t pa sh A := by
  obtain ⟨e, ka, h1, h2⟩ := h
  refine ⟨e, ka, g.keep e h1, fun w hw => ?_⟩
  obtain ⟨d, k1, k2, k3⟩ := h2 w hw
  exact ⟨d, k1, row_gx k2 g k3, k3⟩
theorem Ar.env (h : Ar a s pa sh A) (hd : s[n]? = some (.dic (dk ks fun w => .int (N w)))) (hw : ∀ w ∈ ws, w ∈ ks) : EnvAt s n pa ws sh N A := by
  obtain ⟨e, ka, h1, h2⟩ := h
  exact ⟨⟨_, hd, fun w k => val_dk (hw w k)⟩, ka, h1, fun w hw => by
    obtain ⟨d, k1, k2, -⟩ := h2 w hw
    exact ⟨d, k1, k2⟩⟩
theorem spots_wp {z : Int} (hf : Feed st a) (h0 : 0 ≤ z) (h1 : z ≤ 1000) (q : ∀ (l : Nat) (zs : List Int) (t : S), Gx a st t → Feed t a → t[l]? = some (.lst (zs.map D.int)) → st.length ≤ l → zs.length ≤ 20 → (∀ x ∈ zs, Sm x) → Q (.loc l) t) : Wp (F_law_spots [.loc a, .int z] st) Q := by
  have la := hf.lt
  unfold F_law_spots b_law_spots
  refine wp_fn rfl ?_
  refine wp_mid (fun e s => e = [some (.loc a), some (.int z), some (.loc st.length)] ∧ Gx a st s ∧ Feed s a ∧ s[st.length]? = some (.lst (([-1, 0, z - 1, z, z + 1, 0 - z, 1000000000000, 0 - 1000000000000] : List Int).map D.int))) ?_ ?_
  · walk_at "zy"
    simp only [p12]
    exact ⟨_, rfl, rfl, Gx.app, hf.gr Gr.app, at_last⟩
  rintro e s ⟨rfl, g, f, hm⟩
  walk_at "zy"
  refine take_wp f (by omega) (by omega) ?_
  intro d1 t1 a1 b1 g1 f1 _
  walk_at "zy"
  refine take_wp f1 (by omega) (by omega) ?_
  intro d2 t2 a2 b2 g2 f2 _
  walk_at "zy"
  refine datum_wp f2 ?_
  intro d3 t3 h3 g3 f3
  walk_at "zy"
  refine wp_addL (ys := [d1, d2, d3].map D.int) (getW_of (at_app (g3.keep (by omega) (g2.keep (by omega) (g1.keep (by omega) hm))))) (getW_of at_last) (by simp) ?_
  walk_at "zy"
  have G := ((g.trans g1).trans g2).trans g3
  rw [← List.map_append]
  refine q _ _ _ ((G.trans Gx.app).trans Gx.app) ((f3.gr Gr.app).gr Gr.app) at_last ?_ (by simp) ?_
  · have := G.len
    rw [List.length_append]
    omega
  · intro x hx
    unfold Sm big at *
    simp only [List.mem_append, List.mem_cons, List.not_mem_nil, or_false] at hx
    rcases hx with (rfl | rfl | rfl | rfl | rfl | rfl | rfl | rfl) | rfl | rfl | rfl <;> omega
end
end K01
end
section
set_option Elab.async false
set_option linter.all false
set_option maxRecDepth 100000
set_option maxHeartbeats 2000000
open PySem PySem.Spec PyProof.Rows L2 Z
local macro_rules | `(tactic| fail "zs") => `(tactic| first
  | assumption
  | with_reducible exact at_last
  | (with_reducible apply at_set; fail "zs")
  | (with_reducible apply at_app; fail "zs")
  | (with_reducible apply at_setne; (first | assumption | (apply Ne.symm; assumption) | omega); fail "zs")
  | (with_reducible refine Gr.keep (by assumption) ?_; fail "zs")
  | (with_reducible refine Gx.keep (by assumption) ?_ ?_; (first | assumption | (apply Ne.symm; assumption) | omega); fail "zs"))
local macro_rules | `(tactic| fail "zg") => `(tactic| first
  | assumption
  | (with_reducible apply getL_of; fail "zs")
  | (with_reducible apply getW_of; fail "zs")
  | (with_reducible apply getI_of; fail "zs"))
local macro_rules | `(tactic| fail "za") => `(tactic| first | (with_reducible apply atI_int; (first | assumption | omega); (first | assumption | omega | (simp only [List.length_set]; omega))) | with_unfolding_all exact rfl | assumption)
local macro_rules | `(tactic| fail "y0") => `(tactic| first
  | (with_reducible refine' wp_var ?z1 ?z2; (case z1 => with_unfolding_all exact rfl))
  | with_reducible refine wp_c2 ?_
  | with_reducible refine wp_cons ?_
  | with_reducible refine wp_c ?_
  | with_reducible refine wp_nil ?_
  | with_reducible refine wp_call ?_
  | with_reducible refine wp_c1 ?_)
local macro_rules | `(tactic| fail "y1") => `(tactic| first
  | with_reducible refine wp_set ?_
  | with_reducible refine wp_if ?_
  | with_reducible refine wp_next ?_
  | with_reducible refine wp_ret ?_
  | with_reducible refine af_nx ?_
  | with_reducible refine bk_rt ?_
  | (with_reducible refine' wp_ixL ?z1 ?z2 ?z3; (case z1 => fail "zg"); (case z2 => fail "za"))
  | (with_reducible refine' wp_ixT ?z1 ?z2; (case z1 => fail "za")))
local macro_rules | `(tactic| fail "y2") => `(tactic| first
  | with_reducible refine af_rt ?_
  | with_reducible refine af_bk ?_
  | with_reducible refine bk_nx ?_
  | with_reducible refine turned_nx ?_
  | with_reducible refine turned_bk ?_
  | with_reducible refine turned_rt ?_
  | with_reducible refine wp_and ?_
  | with_reducible refine wp_or ?_)
local macro_rules | `(tactic| fail "y3") => `(tactic| first
  | with_reducible refine wp_not ?_
  | with_reducible refine wp_sub ?_
  | with_reducible refine wp_subA ?_
  | with_reducible refine wp_chain ?_
  | with_reducible refine wp_neAI ?_
  | with_reducible refine wp_neAS ?_
  | with_reducible refine wp_dic0 ?_
  | with_reducible refine wp_drop ?_)
local macro_rules | `(tactic| fail "y4") => `(tactic| first
  | with_reducible refine wp_vK ?_
  | with_reducible refine wp_nox ?_
  | with_reducible refine wp_break ?_
  | with_reducible refine wp_retN ?_
  | with_reducible refine wp_sfld ?_
  | with_reducible refine wp_yes ?_
  | with_reducible refine wp_addI ?_
  | with_reducible refine wp_subI ?_)
local macro_rules | `(tactic| fail "y5") => `(tactic| first
  | with_reducible refine wp_neg ?_
  | with_reducible refine wp_eqI ?_
  | with_reducible refine wp_neI ?_
  | with_reducible refine wp_ltI ?_
  | with_reducible refine wp_leI ?_
  | with_reducible refine wp_gtI ?_
  | with_reducible refine wp_geI ?_
  | with_reducible refine wp_eqS ?_)
local macro_rules | `(tactic| fail "y6") => `(tactic| first
  | with_reducible refine wp_neS ?_
  | with_reducible refine wp_eqB ?_
  | with_reducible refine wp_isN ?_
  | with_reducible refine wp_isNotN ?_
  | with_reducible refine wp_int ?_
  | with_reducible refine wp_max2 ?_
  | with_reducible refine wp_min2 ?_
  | with_reducible refine wp_tr_bl ?_)
local macro_rules | `(tactic| fail "y7") => `(tactic| first
  | with_reducible refine wp_tr_int ?_
  | with_reducible refine wp_tupT ?_
  | with_reducible refine wp_slT ?_
  | with_reducible refine wp_nopart ?_
  | with_reducible refine wp_lst ?_
  | with_reducible refine wp_tup ?_
  | with_reducible refine wp_slice ?_
  | with_reducible refine wp_callK ?_)
local macro_rules | `(tactic| fail "y8") => `(tactic| first
  | with_reducible refine wp_make ?_
  | with_reducible refine wp_meth ?_
  | with_reducible refine wp_is ?_
  | with_reducible refine wp_vand ?_
  | with_reducible refine wp_vor ?_
  | with_reducible refine wp_vnot ?_
  | with_reducible refine wp_asg ?_
  | with_reducible refine wp_part ?_)
local macro_rules | `(tactic| fail "y9") => `(tactic| first
  | with_reducible refine wp_forR1 ?_
  | with_reducible refine wp_forR2 ?_
  | with_reducible refine wp_compR1 ?_
  | with_reducible refine wp_compR2 ?_
  | (with_reducible refine' wp_ixAL ?z1 ?z2 ?z3; (case z1 => fail "zg"); (case z2 => fail "za"))
  | (with_reducible refine' wp_ixAT ?z1 ?z2; (case z1 => fail "za"))
  | (with_reducible refine' and_isL ?z1 ?z2; (case z1 => fail "zg"))
  | (with_reducible refine' wp_append ?z1 ?z2 ?z3; (case z1 => fail "zg"); (case z2 => first | omega | (simp only [List.length_map, List.length_append, List.length_cons, List.length_nil]; omega))))
local macro_rules | `(tactic| fail "y10") => `(tactic| first
  | (with_reducible refine' wp_lenL ?z1 ?z2; (case z1 => fail "zg"))
  | with_reducible refine wp_lenT ?_
  | (with_reducible refine' wp_lenAL ?z1 ?z2; (case z1 => fail "zg"))
  | with_reducible refine wp_lenAT ?_
  | (with_reducible refine' wp_listL ?z1 ?z2; (case z1 => fail "zg"))
  | with_reducible refine wp_listT ?_
  | with_reducible refine ex_bl ?_
  | (with_reducible refine' ex_ty ?z1 ?z2 ?z3; (case z1 => with_unfolding_all exact rfl); (case z2 => with_unfolding_all exact rfl)))
local macro_rules | `(tactic| fail "y11") => `(tactic| first
  | (with_reducible refine' wp_mulT ?z1 ?z2 ?z3; (case z1 => omega); (case z2 => omega))
  | (with_reducible refine' wp_setF ?z1 ?z2 ?z3; (case z1 => fail "zg"); (case z2 => with_unfolding_all exact Nat.le_of_ble_eq_true rfl))
  | (with_reducible refine' wp_setInt ?z1 ?z2 ?z3 ?z4; (case z1 => fail "zg"); (case z2 => first | assumption | omega); (case z3 => first | assumption | omega | (simp only [List.length_set]; omega)))
  | (with_reducible refine' wp_setIx ?z1 ?z2 ?z3; (case z1 => fail "zg"); (case z2 => first | (with_reducible apply ixN_of; (first | assumption | omega); (first | assumption | omega | (rw [List.length_map]; omega))) | with_unfolding_all exact rfl | assumption))
  | (with_reducible refine' wp_setAI ?z1 ?z2 ?z3 ?z4; (case z1 => fail "zg"); (case z2 => first | assumption | omega); (case z3 => first | assumption | omega | (simp only [List.length_set]; omega)))
  | (with_reducible refine' wp_setAX ?z1 ?z2 ?z3; (case z1 => fail "zg"); (case z2 => first | (with_reducible apply ixN_of; (first | assumption | omega); (first | assumption | omega | (rw [List.length_map]; omega))) | with_unfolding_all exact rfl | assumption))
  | (with_reducible refine' wp_modI ?z1 ?z2; (case z1 => omega))
  | (with_reducible refine' wp_divA0 ?z1 ?z2 ?z3; (case z1 => omega); (case z2 => omega)))
local macro_rules | `(tactic| fail "y12") => `(tactic| first
  | (with_reducible refine' wp_mulA ?z1 ?z2; (case z1 => omega))
  | (with_reducible refine' wp_divI ?z1 ?z2 ?z3; (case z1 => omega); (case z2 => omega))
  | (with_reducible refine' wp_mulI ?z1 ?z2; (case z1 => omega))
  | (with_reducible refine' wp_powI ?z1 ?z2; (case z1 => with_unfolding_all decide))
  | (with_reducible refine' wp_fld ?z1 ?z2 ?z3; (case z1 => fail "zg"); (case z2 => first | with_unfolding_all exact rfl | assumption))
  | (with_reducible refine' wp_prop ?z1 ?z2; (case z1 => fail "zg"))
  | (with_reducible refine' wp_tupL ?z1 ?z2; (case z1 => fail "zg"))
  | (with_reducible refine' And.intro ?z1 ?z2; (case z1 => first | with_unfolding_all exact Nat.le_of_ble_eq_true rfl | with_unfolding_all decide)))
local macro_rules | `(tactic| fail "z0") => `(tactic| first | fail "y0" | fail "y1" | fail "y2" | fail "y3" | fail "y4" | fail "y5" | fail "y6" | fail "y7" | fail "y8" | fail "y9" | fail "y10" | fail "y11" | fail "y12")
local macro_rules | `(tactic| fail "z1") => `(tactic| first | with_reducible refine wp_seq ?_ | fail "z0")
local macro_rules | `(tactic| walk_at "z") => `(tactic| (repeat fail "z1"))
local macro_rules | `(tactic| fail "zb") => `(tactic| (with_reducible refine And.intro ?_ ?_; (all_goals (intro hb; first | (simp at hb; done) | (simp at hb; skip) | skip))))
local macro_rules | `(tactic| walk_at "zz") => `(tactic| (repeat' (first | fail "z1" | fail "zb")))
local macro_rules | `(tactic| walk_at "zy") => `(tactic| (repeat' (first | fail "z0" | fail "zb")))
local macro_rules | `(tactic| walk_at "zn") => `(tactic| (with_reducible refine wp_seq ?_; walk_at "zy"))
local macro_rules | `(tactic| walk_at "zs") => `(tactic| fail "zs")
local macro_rules | `(tactic| walk_at "zg") => `(tactic| fail "zg")
local macro_rules | `(tactic| walk_at "za") => `(tactic| fail "za")
local macro_rules | `(tactic| walk_at "z0") => `(tactic| fail "z0")
local macro_rules | `(tactic| walk_at "z1") => `(tactic| fail "z1")
local macro_rules | `(tactic| walk_at "zb") => `(tactic| fail "zb")
namespace K01
open PySem PySem.Spec PyProof.Rows L2 Z
local macro_rules | `(tactic| fail "zb") => `(tactic| (with_reducible refine And.intro ?_ ?_; (all_goals (intro hb; first | (exact absurd hb (by decide)) | (simp at hb; done) | (simp only [decide_eq_true_eq, decide_eq_false_iff_not, Bool.not_eq_true', Bool.not_eq_false'] at hb; skip) | skip))))
section
variable {a pa n g gn ga : Nat} {s t st : S} {sh ws ks : List Str} {N : Str → Int} {A : Str → List Int} {Q : D → S → Prop} {w hd : Str}
theorem spotted_wp {z : Int} (hf : Feed st a) (hg : st[g]? = some (.lst [.loc gn, .loc ga])) (ng : g ≠ a) (G1 : Ar a st ga sh A) (G2 : Ar a st pa sh A) (MA : ∀ w ∈ sh, (A w).length ≤ 1000 ∧ ∀ x ∈ A w, Sm x) (hp : ("place" : Str) ∈ sh) (hh : hd ∈ sh ∨ hd = ("nth" : Str)) (h0 : 0 ≤ z) (h1 : z ≤ 1000) (q : ∀ s, Gx a st s → Feed s a → Q (.bl true) s) : Wp (F_law_spotted [.loc a, .loc g, .loc pa, .str hd, .str w, .int z] st) Q := by
  have la := hf.lt
  unfold F_law_spotted b_law_spotted
  refine wp_fn rfl ?_
  refine wp_mid (fun e s => Gx a st s ∧ Feed s a) ?_ (fun e s ⟨g, f⟩ => by
    walk_at "zz"
    exact q s g f)
  refine wp_for_loc ?_
  walk_at "zy"
  refine spots_wp hf h0 h1 ?_
  intro l zs t0 g0 f0 e0 l0 lz hz
  refine ⟨_, rfl, ?_⟩
  refine wp_forL (xs := zs.map D.int) (fun i e s => ∃ v6 v7 v8 v9 v10 : Option D, e = [some (.loc a), some (.loc g), some (.loc pa), some (.str hd), some (.str w), some (.int z), v6, v7, v8, v9, v10] ∧ Gx a st s ∧ Feed s a ∧ s[l]? = some (.lst (zs.map D.int))) ⟨_, _, _, _, _, rfl, g0, f0, e0⟩ ?_ (by rw [List.length_map]; omega) ?_ ?_
  · rintro i es s - ⟨v6, v7, v8, v9, v10, rfl, g, f, e⟩
    exact getL_of e
  · rintro i d es s hd2 ⟨v6, v7, v8, v9, v10, rfl, gs, fs, es⟩
    obtain ⟨x, rfl, hx, -⟩ := get_map_int hd2
    have hx := hz x hx
    have sl := gs.len
    refine ⟨_, rfl, ?_⟩
    refine wp_mid (fun e t => e = [some (.loc a), some (.loc g), some (.loc pa), some (.str hd), some (.str w), some (.int z), some (.int x), some (.loc s.length), v8, v9, v10] ∧ Gr s t ∧ t[s.length]? = some (.dic [])) ?_ ?_
    · walk_at "zy"
      exact ⟨_, rfl, rfl, Gr.app, at_last⟩
    rintro e s1 ⟨rfl, g1, d1⟩
    refine wp_mid (fun e t => e = [some (.loc a), some (.loc g), some (.loc pa), some (.str hd), some (.str w), some (.int z), some (.int x), some (.loc s.length), v8, v9, v10] ∧ Gr s t ∧ t[s.length]? = some (.dic (dk [w] fun _ => .int x))) ?_ ?_
    · walk_at "zy"
      refine wp_setAD d1 rfl (by show 0 < _; decide) ?_
      walk_at "zy"
      exact ⟨_, rfl, rfl, g1.setNew (Nat.le_refl _), at_set d1⟩
    clear g1 d1 s1
    rintro e s1 ⟨rfl, g1, d1⟩
    refine wp_mid (fun e t => e = [some (.loc a), some (.loc g), some (.loc pa), some (.str hd), some (.str w), some (.int z), some (.int x), some (.loc s.length), some (.loc s1.length), v9, v10] ∧ Gr s t ∧ t[s.length]? = some (.dic (dk [w] fun _ => .int x)) ∧ t[s1.length]? = some (.lst ([Xp.nm w].map Xp.d))) ?_ ?_
    · walk_at "zy"
      exact ⟨_, rfl, rfl, g1.trans Gr.app, at_app d1, at_last⟩
    rintro e s2 ⟨rfl, g2, d2, e2⟩
    have l1 := g1.len
    have l2 := g2.len
    refine wp_mid (fun e t => ∃ ps : List Xp, e = [some (.loc a), some (.loc g), some (.loc pa), some (.str hd), some (.str w), some (.int z), some (.int x), some (.loc s.length), some (.loc s1.length), v9, v10] ∧ Gr s t ∧ t[s.length]? = some (.dic (dk [w] fun _ => .int x)) ∧ t[s1.length]? = some (.lst (ps.map Xp.d)) ∧ ps.length ≤ 2 ∧ ∀ p ∈ ps, p.ok [w] sh ∧ p.dep = 1) ?_ ?_
    · have d1l := at_lt d1
      walk_at "zy"
      · rename_i hb
        refine ⟨_, rfl, [.nm w, .num x], rfl, g2.setNew l1, at_setne (by omega) d2, at_set e2, (by show 2 ≤ 2; decide), ?_⟩
        intro p hp
        simp only [List.mem_cons, List.not_mem_nil, or_false] at hp
        rcases hp with rfl | rfl
        · exact ⟨List.mem_cons_self .., rfl⟩
        · exact ⟨⟨hb, hx.2⟩, rfl⟩
      · refine ⟨_, rfl, [.nm w], rfl, g2, d2, e2, (by show 1 ≤ 2; decide), ?_⟩
        intro p hp
        rw [List.mem_singleton.mp hp]
        exact ⟨List.mem_cons_self .., rfl⟩
    clear g2 d2 e2 l2 s2
    rintro e s2 ⟨ps, rfl, g2, d2, e2, lp, hps⟩
    refine wp_forAL rfl (getL_of e2) ?_
    refine wp_forL (xs := ps.map Xp.d) (fun i e t => ∃ v9 v10 : Option D, e = [some (.loc a), some (.loc g), some (.loc pa), some (.str hd), some (.str w), some (.int z), some (.int x), some (.loc s.length), some (.loc s1.length), v9, v10] ∧ Gr s2 t) ⟨_, _, rfl, Gr.refl⟩ ?_ (by rw [List.length_map]; omega) ?_ ?_
    · rintro i es t - ⟨v9, v10, rfl, g⟩
      exact getL_of (g.keep e2)
    · rintro i d es t hd3 ⟨v9, v10, rfl, g3⟩
      obtain ⟨p, hp2, rfl⟩ := List.mem_map.mp (List.mem_of_getElem? hd3)
      obtain ⟨pk, pd⟩ := hps p hp2
      refine ⟨_, rfl, ?_⟩
      refine wp_mid (fun e u => e = [some (.loc a), some (.loc g), some (.loc pa), some (.str hd), some (.str w), some (.int z), some (.int x), some (.loc s.length), some (.loc s1.length), some p.d, some (Xp.rd hd p).d] ∧ t = u) ?_ ?_
      · walk_at "zy"
        exact ⟨_, rfl, rfl, rfl⟩
      rintro e _ ⟨rfl, rfl⟩
      refine wp_mid (fun e u => ∃ X : Xp, e = [some (.loc a), some (.loc g), some (.loc pa), some (.str hd), some (.str w), some (.int z), some (.int x), some (.loc s.length), some (.loc s1.length), some p.d, some X.d] ∧ t = u ∧ Xok [w] sh 12 X) ?_ ?_
      · walk_at "zy"
        · exact ⟨_, rfl, .nth p, rfl, rfl, ⟨hp, pk⟩, by show p.dep + 1 ≤ 12; omega⟩
        · rename_i hb
          exact ⟨_, rfl, .rd hd p, rfl, rfl, ⟨hh.resolve_right hb, pk⟩, by show p.dep + 1 ≤ 12; omega⟩
      rintro e _ ⟨X, rfl, rfl, hX⟩
      have G : Gx a st t := gs.trans (g2.trans g3).gx
      have hg2 := G.keep ng hg
      have d3 := g3.keep d2
      walk_at "zy"
      refine wp_dict (getK_d d3) ?_
      walk_at "zy"
      have U : Gr t (t ++ [O.dic (dk [w] fun _ => .int x)] ++ [.lst [.loc t.length, .loc ga]]) := Gr.app.trans Gr.app
      refine valued_wp (ws := [w]) (sh := sh) (N := fun _ => x) (A := A) hX ⟨fun v _ => hx, MA⟩ at_last (((G1.gx G).gx U.gx).env (at_app at_last) (fun v h => h)) (((G2.gx G).gx U.gx).env (at_app (at_app d3)) (fun v h => h)) ?_
      intro s5 g5
      walk_at "zy"
      exact ⟨_, _, rfl, (g3.trans U).trans g5⟩
    · rintro es t ⟨v9, v10, rfl, g3⟩
      have G := g2.trans g3
      have ll : l < s.length := at_lt (by assumption)
      exact ⟨_, _, _, _, _, rfl, gs.trans G.gx, fs.gr G, G.keep (by assumption)⟩
  · rintro es s ⟨v6, v7, v8, v9, v10, rfl, g, f, e⟩
    exact ⟨_, rfl, g, f⟩
end
end K01
end
section
set_option Elab.async false
set_option linter.all false
set_option maxRecDepth 100000
set_option maxHeartbeats 2000000
open PySem PySem.Spec PyProof.Rows L2 Z
local macro_rules | `(tactic| fail "zs") => `(tactic| first
  | assumption
  | with_reducible exact at_last
  | (with_reducible apply at_set; fail "zs")
  | (with_reducible apply at_app; fail "zs")
  | (with_reducible apply at_setne; (first | assumption | (apply Ne.symm; assumption) | omega); fail "zs")
  | (with_reducible refine Gr.keep (by assumption) ?_; fail "zs")
  | (with_reducible refine Gx.keep (by assumption) ?_ ?_; (first | assumption | (apply Ne.symm; assumption) | omega); fail "zs"))
local macro_rules | `(tactic| fail "zg") => `(tactic| first
  | assumption
  | (with_reducible apply getL_of; fail "zs")
  | (with_reducible apply getW_of; fail "zs")
  | (with_reducible apply getI_of; fail "zs"))
local macro_rules | `(tactic| fail "za") => `(tactic| first | (with_reducible apply atI_int; (first | assumption | omega); (first | assumption | omega | (simp only [List.length_set]; omega))) | with_unfolding_all exact rfl | assumption)
local macro_rules | `(tactic| fail "y0") => `(tactic| first
  | (with_reducible refine' wp_var ?z1 ?z2; (case z1 => with_unfolding_all exact rfl))
  | with_reducible refine wp_c2 ?_
  | with_reducible refine wp_cons ?_
  | with_reducible refine wp_c ?_
  | with_reducible refine wp_nil ?_
  | with_reducible refine wp_call ?_
  | with_reducible refine wp_c1 ?_)
local macro_rules | `(tactic| fail "y1") => `(tactic| first
  | with_reducible refine wp_set ?_
  | with_reducible refine wp_if ?_
  | with_reducible refine wp_next ?_
  | with_reducible refine wp_ret ?_
  | with_reducible refine af_nx ?_
  | with_reducible refine bk_rt ?_
  | (with_reducible refine' wp_ixL ?z1 ?z2 ?z3; (case z1 => fail "zg"); (case z2 => fail "za"))
  | (with_reducible refine' wp_ixT ?z1 ?z2; (case z1 => fail "za")))
local macro_rules | `(tactic| fail "y2") => `(tactic| first
  | with_reducible refine af_rt ?_
  | with_reducible refine af_bk ?_
  | with_reducible refine bk_nx ?_
  | with_reducible refine turned_nx ?_
  | with_reducible refine turned_bk ?_
  | with_reducible refine turned_rt ?_
  | with_reducible refine wp_and ?_
  | with_reducible refine wp_or ?_)
local macro_rules | `(tactic| fail "y3") => `(tactic| first
  | with_reducible refine wp_not ?_
  | with_reducible refine wp_sub ?_
  | with_reducible refine wp_subA ?_
  | with_reducible refine wp_chain ?_
  | with_reducible refine wp_neAI ?_
  | with_reducible refine wp_neAS ?_
  | with_reducible refine wp_dic0 ?_
  | with_reducible refine wp_drop ?_)
local macro_rules | `(tactic| fail "y4") => `(tactic| first
  | with_reducible refine wp_vK ?_
  | with_reducible refine wp_nox ?_
  | with_reducible refine wp_break ?_
  | with_reducible refine wp_retN ?_
  | with_reducible refine wp_sfld ?_
  | with_reducible refine wp_yes ?_
  | with_reducible refine wp_addI ?_
  | with_reducible refine wp_subI ?_)
local macro_rules | `(tactic| fail "y5") => `(tactic| first
  | with_reducible refine wp_neg ?_
  | with_reducible refine wp_eqI ?_
  | with_reducible refine wp_neI ?_
  | with_reducible refine wp_ltI ?_
  | with_reducible refine wp_leI ?_
  | with_reducible refine wp_gtI ?_
  | with_reducible refine wp_geI ?_
  | with_reducible refine wp_eqS ?_)
local macro_rules | `(tactic| fail "y6") => `(tactic| first
  | with_reducible refine wp_neS ?_
  | with_reducible refine wp_eqB ?_
  | with_reducible refine wp_isN ?_
  | with_reducible refine wp_isNotN ?_
  | with_reducible refine wp_int ?_
  | with_reducible refine wp_max2 ?_
  | with_reducible refine wp_min2 ?_
  | with_reducible refine wp_tr_bl ?_)
local macro_rules | `(tactic| fail "y7") => `(tactic| first
  | with_reducible refine wp_tr_int ?_
  | with_reducible refine wp_tupT ?_
  | with_reducible refine wp_slT ?_
  | with_reducible refine wp_nopart ?_
  | with_reducible refine wp_lst ?_
  | with_reducible refine wp_tup ?_
  | with_reducible refine wp_slice ?_
  | with_reducible refine wp_callK ?_)
local macro_rules | `(tactic| fail "y8") => `(tactic| first
  | with_reducible refine wp_make ?_
  | with_reducible refine wp_meth ?_
  | with_reducible refine wp_is ?_
  | with_reducible refine wp_vand ?_
  | with_reducible refine wp_vor ?_
  | with_reducible refine wp_vnot ?_
  | with_reducible refine wp_asg ?_
  | with_reducible refine wp_part ?_)
local macro_rules | `(tactic| fail "y9") => `(tactic| first
  | with_reducible refine wp_forR1 ?_
  | with_reducible refine wp_forR2 ?_
  | with_reducible refine wp_compR1 ?_
  | with_reducible refine wp_compR2 ?_
  | (with_reducible refine' wp_ixAL ?z1 ?z2 ?z3; (case z1 => fail "zg"); (case z2 => fail "za"))
  | (with_reducible refine' wp_ixAT ?z1 ?z2; (case z1 => fail "za"))
  | (with_reducible refine' and_isL ?z1 ?z2; (case z1 => fail "zg"))
  | (with_reducible refine' wp_append ?z1 ?z2 ?z3; (case z1 => fail "zg"); (case z2 => first | omega | (simp only [List.length_map, List.length_append, List.length_cons, List.length_nil]; omega))))
local macro_rules | `(tactic| fail "y10") => `(tactic| first
  | (with_reducible refine' wp_lenL ?z1 ?z2; (case z1 => fail "zg"))
  | with_reducible refine wp_lenT ?_
  | (with_reducible refine' wp_lenAL ?z1 ?z2; (case z1 => fail "zg"))
  | with_reducible refine wp_lenAT ?_
  | (with_reducible refine' wp_listL ?z1 ?z2; (case z1 => fail "zg"))
  | with_reducible refine wp_listT ?_
  | with_reducible refine ex_bl ?_
  | (with_reducible refine' ex_ty ?z1 ?z2 ?z3; (case z1 => with_unfolding_all exact rfl); (case z2 => with_unfolding_all exact rfl)))
local macro_rules | `(tactic| fail "y11") => `(tactic| first
  | (with_reducible refine' wp_mulT ?z1 ?z2 ?z3; (case z1 => omega); (case z2 => omega))
  | (with_reducible refine' wp_setF ?z1 ?z2 ?z3; (case z1 => fail "zg"); (case z2 => with_unfolding_all exact Nat.le_of_ble_eq_true rfl))
  | (with_reducible refine' wp_setInt ?z1 ?z2 ?z3 ?z4; (case z1 => fail "zg"); (case z2 => first | assumption | omega); (case z3 => first | assumption | omega | (simp only [List.length_set]; omega)))
  | (with_reducible refine' wp_setIx ?z1 ?z2 ?z3; (case z1 => fail "zg"); (case z2 => first | (with_reducible apply ixN_of; (first | assumption | omega); (first | assumption | omega | (rw [List.length_map]; omega))) | with_unfolding_all exact rfl | assumption))
  | (with_reducible refine' wp_setAI ?z1 ?z2 ?z3 ?z4; (case z1 => fail "zg"); (case z2 => first | assumption | omega); (case z3 => first | assumption | omega | (simp only [List.length_set]; omega)))
  | (with_reducible refine' wp_setAX ?z1 ?z2 ?z3; (case z1 => fail "zg"); (case z2 => first | (with_reducible apply ixN_of; (first | assumption | omega); (first | assumption | omega | (rw [List.length_map]; omega))) | with_unfolding_all exact rfl | assumption))
  | (with_reducible refine' wp_modI ?z1 ?z2; (case z1 => omega))
  | (with_reducible refine' wp_divA0 ?z1 ?z2 ?z3; (case z1 => omega); (case z2 => omega)))
local macro_rules | `(tactic| fail "y12") => `(tactic| first
  | (with_reducible refine' wp_mulA ?z1 ?z2; (case z1 => omega))
  | (with_reducible refine' wp_divI ?z1 ?z2 ?z3; (case z1 => omega); (case z2 => omega))
  | (with_reducible refine' wp_mulI ?z1 ?z2; (case z1 => omega))
  | (with_reducible refine' wp_powI ?z1 ?z2; (case z1 => with_unfolding_all decide))
  | (with_reducible refine' wp_fld ?z1 ?z2 ?z3; (case z1 => fail "zg"); (case z2 => first | with_unfolding_all exact rfl | assumption))
  | (with_reducible refine' wp_prop ?z1 ?z2; (case z1 => fail "zg"))
  | (with_reducible refine' wp_tupL ?z1 ?z2; (case z1 => fail "zg"))
  | (with_reducible refine' And.intro ?z1 ?z2; (case z1 => first | with_unfolding_all exact Nat.le_of_ble_eq_true rfl | with_unfolding_all decide)))
local macro_rules | `(tactic| fail "z0") => `(tactic| first | fail "y0" | fail "y1" | fail "y2" | fail "y3" | fail "y4" | fail "y5" | fail "y6" | fail "y7" | fail "y8" | fail "y9" | fail "y10" | fail "y11" | fail "y12")
local macro_rules | `(tactic| fail "z1") => `(tactic| first | with_reducible refine wp_seq ?_ | fail "z0")
local macro_rules | `(tactic| walk_at "z") => `(tactic| (repeat fail "z1"))
local macro_rules | `(tactic| fail "zb") => `(tactic| (with_reducible refine And.intro ?_ ?_; (all_goals (intro hb; first | (simp at hb; done) | (simp at hb; skip) | skip))))
local macro_rules | `(tactic| walk_at "zz") => `(tactic| (repeat' (first | fail "z1" | fail "zb")))
local macro_rules | `(tactic| walk_at "zy") => `(tactic| (repeat' (first | fail "z0" | fail "zb")))
local macro_rules | `(tactic| walk_at "zn") => `(tactic| (with_reducible refine wp_seq ?_; walk_at "zy"))
local macro_rules | `(tactic| walk_at "zs") => `(tactic| fail "zs")
local macro_rules | `(tactic| walk_at "zg") => `(tactic| fail "zg")
local macro_rules | `(tactic| walk_at "za") => `(tactic| fail "za")
local macro_rules | `(tactic| walk_at "z0") => `(tactic| fail "z0")
local macro_rules | `(tactic| walk_at "z1") => `(tactic| fail "z1")
local macro_rules | `(tactic| walk_at "zb") => `(tactic| fail "zb")
namespace K01
open PySem PySem.Spec PyProof.Rows L2 Z
local macro_rules | `(tactic| fail "zb") => `(tactic| (with_reducible refine And.intro ?_ ?_; (all_goals (intro hb; first | (exact absurd hb (by decide)) | (simp at hb; done) | (simp only [decide_eq_true_eq, decide_eq_false_iff_not, Bool.not_eq_true', Bool.not_eq_false'] at hb; skip) | skip))))
section
variable {a : Nat} {s t st : S} {ws ks : List Str} {N : Str → Int} {Q : D → S → Prop} {w : Str}
theorem put_int {ks : List Str} {N : Str → Int} {w : Str} {x : Int} : putDk (dk ks fun w => D.int (N w)) (.inr w) (.int x) = dk (addK ks w) fun v => .int (upd N w x v) := by
  rw [put_dk, upd_int]
theorem upd_sm {ws : List Str} {N : Str → Int} {w : Str} {x : Int} (h : ∀ v ∈ ws, Sm (N v)) (hx : Sm x) : ∀ v ∈ w :: ws, Sm (upd N w x v) := fun v hv => by
  unfold upd
  split
  · exact hx
  · rename_i ne
    exact h v ((List.mem_cons.mp hv).resolve_left ne)
theorem one_len : ("0" : Str).length = 1 ∧ ("1" : Str).length = 1 ∧ ("2" : Str).length = 1 := by decide +kernel
theorem gI3 {x y z : Int} {i : Nat} (hx : Sm x) (hy : Sm y) (hz : Sm z) (hi : i < 3) : Sm (gI [x, y, z] (i : Int)) := by
  have := gI_mem (ns := [x, y, z]) (k := (i : Int)) (by omega) (by show (i : Int) < 3; omega)
  simp only [List.mem_cons, List.not_mem_nil, or_false] at this
  rcases this with h | h | h <;> (rw [h]; assumption)
theorem picked_wp (hf : Feed st a) (hw : Wd w) (q : ∀ s, Gx a st s → Feed s a → Q (.bl true) s) : Wp (F_law_picked [.loc a, .str w] st) Q := by
  have la := hf.lt
  obtain ⟨o0, o1, o2⟩ := one_len
  obtain ⟨w1, w2⟩ := hw
  have c10 : (cutS w none (some 10)).length ≤ 10 := by
    rw [cut_to (by omega)]
    omega
  unfold F_law_picked b_law_picked
  refine wp_fn rfl ?_
  refine wp_mid (fun e s => ∃ v0 v1 v2 : Str, e = [some (.loc a), some (.str w), some (.loc st.length), none, none, none, none, none, none, none] ∧ Gx a st s ∧ Feed s a ∧ s[st.length]? = some (.lst [.str v0, .str v1, .str v2])) ?_ ?_
  · walk_at "zy"
    refine ⟨_, rfl, ?_⟩
    refine wp_slS (by omega) ?_
    refine wp_addS (by omega) ?_
    walk_at "zy"
    refine ⟨_, rfl, ?_⟩
    refine wp_slS (by omega) ?_
    refine wp_addS (by omega) ?_
    walk_at "zy"
    refine ⟨_, rfl, ?_⟩
    refine wp_slS (by omega) ?_
    refine wp_addS (by omega) ?_
    walk_at "zy"
    exact ⟨_, rfl, _, _, _, rfl, Gx.app, hf.gr Gr.app, at_last⟩
  rintro e s1 ⟨v0, v1, v2, rfl, g1, f1, e1⟩
  refine wp_mid (fun e s => e = [some (.loc a), some (.str w), some (.loc st.length), some (.tup [(Xp.nm v0).d, (Xp.nm v1).d, (Xp.nm v2).d]), none, none, none, none, none, none] ∧ s1 = s) ?_ ?_
  · walk_at "zy"
    exact ⟨_, rfl, rfl, rfl⟩
  rintro e _ ⟨rfl, rfl⟩
  refine wp_mid (fun e s => ∃ x : Int, Sm x ∧ e = [some (.loc a), some (.str w), some (.loc st.length), some (.tup [(Xp.nm v0).d, (Xp.nm v1).d, (Xp.nm v2).d]), some (.int x), none, none, none, none, none] ∧ Gx a st s ∧ Feed s a ∧ s[st.length]? = some (.lst [.str v0, .str v1, .str v2])) ?_ ?_
  · walk_at "zy"
    refine datum_wp f1 ?_
    intro x s hx g f
    exact ⟨_, rfl, x, hx, rfl, g1.trans g, f, g.keep (by omega) e1⟩
  clear g1 f1 e1 s1
  rintro e s1 ⟨x, hx, rfl, g1, f1, e1⟩
  refine wp_mid (fun e s => ∃ y : Int, Sm y ∧ e = [some (.loc a), some (.str w), some (.loc st.length), some (.tup [(Xp.nm v0).d, (Xp.nm v1).d, (Xp.nm v2).d]), some (.int x), some (.int y), none, none, none, none] ∧ Gx a st s ∧ Feed s a ∧ s[st.length]? = some (.lst [.str v0, .str v1, .str v2])) ?_ ?_
  · walk_at "zy"
    refine datum_wp f1 ?_
    intro y s hy g f
    exact ⟨_, rfl, y, hy, rfl, g1.trans g, f, g.keep (by omega) e1⟩
  clear g1 f1 e1 s1
  rintro e s1 ⟨y, hy, rfl, g1, f1, e1⟩
  refine wp_mid (fun e s => ∃ y : Int, Sm y ∧ e = [some (.loc a), some (.str w), some (.loc st.length), some (.tup [(Xp.nm v0).d, (Xp.nm v1).d, (Xp.nm v2).d]), some (.int x), some (.int y), none, none, none, none] ∧ Gx a st s ∧ Feed s a ∧ s[st.length]? = some (.lst [.str v0, .str v1, .str v2])) ?_ ?_
  · walk_at "zy"
    refine take_wp f1 (by omega) (by omega) ?_
    intro j s j0 j1 g f _
    walk_at "zy"
    · refine take_wp f (by omega) (by omega) ?_
      intro k s2 k0 k1 g2 f2 _
      walk_at "zy"
      refine lclip_wp ?_
      exact ⟨_, rfl, _, clip_sm, rfl, (g1.trans g).trans g2, f2, g2.keep (by omega) (g.keep (by omega) e1)⟩
    · exact ⟨_, rfl, y, hy, rfl, g1.trans g, f, g.keep (by omega) e1⟩
  clear g1 f1 e1 s1 hy y
  rintro e s1 ⟨y, hy, rfl, g1, f1, e1⟩
  refine wp_mid (fun e s => Gx a st s ∧ Feed s a) ?_ (fun e s ⟨g, f⟩ => by
    walk_at "zz"
    exact q s g f)
  walk_at "zy"
  refine ⟨_, rfl, by omega, by omega, ?_⟩
  refine wp_forT (fun i e s => ∃ v6 v7 v8 v9 : Option D, e = [some (.loc a), some (.str w), some (.loc st.length), some (.tup [(Xp.nm v0).d, (Xp.nm v1).d, (Xp.nm v2).d]), some (.int x), some (.int y), v6, v7, v8, v9] ∧ Gx a st s ∧ Feed s a ∧ s[st.length]? = some (.lst [.str v0, .str v1, .str v2])) ⟨_, _, _, _, rfl, g1, f1, e1⟩ ?_ ?_
  · clear g1 f1 e1 s1
    rintro i d es s hd ⟨v6, v7, v8, v9, rfl, gs, fs, es⟩
    obtain ⟨rfl, hi⟩ := get_range hd
    have hi : i < 3 := hi
    have e0 : (0 : Int) + (i : Nat) = (i : Nat) := by omega
    rw [e0]
    have sl := gs.len
    have sl2 := at_lt es
    refine ⟨_, rfl, ?_⟩
    refine wp_mid (fun e t => e = [some (.loc a), some (.str w), some (.loc st.length), some (.tup [(Xp.nm v0).d, (Xp.nm v1).d, (Xp.nm v2).d]), some (.int x), some (.int y), some (.int (i : Nat)), some (.loc s.length), v8, v9] ∧ Gr s t ∧ t[s.length]? = some (.dic (dk [] fun w => .int ((fun _ => 0) w)))) ?_ ?_
    · walk_at "zy"
      exact ⟨_, rfl, rfl, Gr.app, at_last⟩
    rintro e s1 ⟨rfl, g1, d1⟩
    refine wp_mid (fun e t => ∃ (ks : List Str) (N : Str → Int), e = [some (.loc a), some (.str w), some (.loc st.length), some (.tup [(Xp.nm v0).d, (Xp.nm v1).d, (Xp.nm v2).d]), some (.int x), some (.int y), some (.int (i : Nat)), some (.loc s.length), v8, v9] ∧ Gr s t ∧ t[s.length]? = some (.dic (dk ks fun w => .int (N w))) ∧ ks.length ≤ 1 ∧ (∀ v ∈ [v1], v ∈ ks) ∧ ∀ v ∈ [v1], Sm (N v)) ?_ ?_
    · have es1 := g1.keep es
      walk_at "zy"
      refine wp_ixAL (getL_of at_last) (atI_int (ns := [x, y, x]) (by omega) (by show (i : Int) < 3; omega)) ?_
      walk_at "zy"
      refine wp_setAD (at_app d1) rfl (by show 0 < _; decide) ?_
      walk_at "zy"
      rw [put_int]
      refine ⟨_, rfl, _, _, rfl, (g1.trans Gr.app).setNew (Nat.le_refl _), at_set (at_app d1), addK_le, ?_, upd_sm (fun v h => (nomatch h)) (gI3 hx hy hx hi)⟩
      intro v hv
      exact mem_addK.mpr (.inr (List.mem_singleton.mp hv))
    clear g1 d1 s1
    rintro e s1 ⟨ks, N, rfl, g1, d1, lk, hk, hN⟩
    refine wp_mid (fun e t => ∃ (ks : List Str) (N : Str → Int), e = [some (.loc a), some (.str w), some (.loc st.length), some (.tup [(Xp.nm v0).d, (Xp.nm v1).d, (Xp.nm v2).d]), some (.int x), some (.int y), some (.int (i : Nat)), some (.loc s.length), v8, v9] ∧ Gr s t ∧ t[s.length]? = some (.dic (dk ks fun w => .int (N w))) ∧ ks.length ≤ 2 ∧ (∀ v ∈ [v2, v1], v ∈ ks) ∧ ∀ v ∈ [v2, v1], Sm (N v)) ?_ ?_
    · have es1 := g1.keep es
      walk_at "zy"
      refine wp_ixAL (getL_of at_last) (atI_int (ns := [y, x, x]) (by omega) (by show (i : Int) < 3; omega)) ?_
      walk_at "zy"
      refine wp_setAD (at_app d1) rfl (by rw [len_dk]; omega) ?_
      walk_at "zy"
      rw [put_int]
      refine ⟨_, rfl, _, _, rfl, (g1.trans Gr.app).setNew (Nat.le_refl _), at_set (at_app d1), Nat.le_trans addK_le (by omega), ?_, upd_sm hN (gI3 hy hx hx hi)⟩
      intro v hv
      rcases List.mem_cons.mp hv with rfl | hv
      · exact mem_addK.mpr (.inr rfl)
      · exact mem_addK.mpr (.inl (hk v hv))
    clear g1 d1 lk hk hN ks N s1
    rintro e s1 ⟨ks, N, rfl, g1, d1, lk, hk, hN⟩
    refine wp_mid (fun e t => ∃ v8 v9 : Option D, e = [some (.loc a), some (.str w), some (.loc st.length), some (.tup [(Xp.nm v0).d, (Xp.nm v1).d, (Xp.nm v2).d]), some (.int x), some (.int y), some (.int (i : Nat)), some (.loc s.length), v8, v9] ∧ Gr s1 t) ?_ ?_
    · refine wp_for_loc ?_
      walk_at "zy"
      refine ⟨_, rfl, ?_⟩
      have e0 : (s1 ++ [O.lst ((["min", "max"] : List Str).map D.str)])[s1.length]? = some (.lst ((["min", "max"] : List Str).map D.str)) := at_last
      have g0 : Gr s1 (s1 ++ [O.lst ((["min", "max"] : List Str).map D.str)]) := Gr.app
      show Wp (forL _ _ s1.length 1000000 0 _ (s1 ++ [O.lst ((["min", "max"] : List Str).map D.str)])) _
      revert e0 g0
      generalize s1 ++ [O.lst ((["min", "max"] : List Str).map D.str)] = s2
      intro e0 g0
      refine wp_forL (xs := (["min", "max"] : List Str).map D.str) (fun i2 e t => ∃ v8 v9 : Option D, e = [some (.loc a), some (.str w), some (.loc st.length), some (.tup [(Xp.nm v0).d, (Xp.nm v1).d, (Xp.nm v2).d]), some (.int x), some (.int y), some (.int (i : Nat)), some (.loc s.length), v8, v9] ∧ Gr s2 t) ⟨_, _, rfl, Gr.refl⟩ ?_ (by decide) ?_ ?_
      · rintro i es t - ⟨v8, v9, rfl, g⟩
        exact getL_of (g.keep e0)
      · rintro j d es2 t hd3 ⟨v8, v9, rfl, g3⟩
        obtain ⟨c, hc, rfl⟩ := List.mem_map.mp (List.mem_of_getElem? hd3)
        refine ⟨_, rfl, ?_⟩
        have d3 := g3.keep (g0.keep d1)
        walk_at "zy"
        refine wp_dict (getK_d d3) ?_
        walk_at "zy"
        have main : ∀ (X : Xp) (Q : D → S → Prop), Xok [v2, v1] [] 12 X → (∀ t2, Gr t t2 → Q (.bl true) t2) → Wp (F_law_valued [X.d, .loc ((t ++ [O.dic (dk ks fun w => .int (N w))] ++ [O.dic []]).length), .loc s.length, .loc ((t ++ [O.dic (dk ks fun w => .int (N w))] ++ [O.dic []] ++ [O.lst [.loc t.length, .loc (t ++ [O.dic (dk ks fun w => .int (N w))]).length]]).length)] (t ++ [O.dic (dk ks fun w => .int (N w))] ++ [O.dic []] ++ [O.lst [.loc t.length, .loc (t ++ [O.dic (dk ks fun w => .int (N w))]).length]] ++ [O.dic []])) Q := fun X Q hX q =>
          valued_wp hX (memD hN) (at_app at_last) (envD (ks := ks) (at_app (at_app (at_app at_last))) (at_app (at_app at_last)) hk) (envD (ks := ks) (at_app (at_app (at_app (at_app d3)))) at_last hk) fun t2 g2 => q t2 ((((Gr.app.trans Gr.app).trans Gr.app).trans Gr.app).trans g2)
        simp only [List.mem_cons, List.not_mem_nil, or_false] at hc
        rcases hc with rfl | rfl
        · refine main (.mn (.nm v1) (.nm v2)) _ ⟨⟨List.mem_cons_of_mem _ (List.mem_cons_self ..), List.mem_cons_self ..⟩, by show max 1 1 + 1 ≤ 12; decide⟩ ?_
          intro t2 g2
          walk_at "zy"
          exact ⟨_, _, rfl, g3.trans g2⟩
        · refine main (.mx (.nm v1) (.nm v2)) _ ⟨⟨List.mem_cons_of_mem _ (List.mem_cons_self ..), List.mem_cons_self ..⟩, by show max 1 1 + 1 ≤ 12; decide⟩ ?_
          intro t2 g2
          walk_at "zy"
          exact ⟨_, _, rfl, g3.trans g2⟩
      · rintro es t ⟨v8, v9, rfl, g⟩
        exact ⟨_, rfl, _, _, rfl, g0.trans g⟩
    clear v8 v9
    rintro e s2 ⟨v8, v9, rfl, g2⟩
    have es2 := g2.keep (g1.keep es)
    have fs2 := fs.gr (g1.trans g2)
    have G2 : Gr s s2 := g1.trans g2
    have d2 := g2.keep d1
    have la2 := fs.lt
    refine wp_for_loc ?_
    walk_at "zy"
    refine datum_wp fs2 ?_
    intro z s3 hz g3 f3
    walk_at "zy"
    simp only [p12]
    refine ⟨_, rfl, ?_⟩
    have d3 := at_app (t := [O.lst (([0, 1, -1, z, 1000000000000, 0 - 1000000000000] : List Int).map D.int)]) (g3.keep (by omega) d2)
    have G3 : Gx a s (s3 ++ [O.lst (([0, 1, -1, z, 1000000000000, 0 - 1000000000000] : List Int).map D.int)]) := (G2.gx.trans g3).trans Gx.app
    have f3 : Feed (s3 ++ [O.lst (([0, 1, -1, z, 1000000000000, 0 - 1000000000000] : List Int).map D.int)]) a := f3.gr Gr.app
    have e3 := at_last (s := s3) (o := O.lst (([0, 1, -1, z, 1000000000000, 0 - 1000000000000] : List Int).map D.int))
    have l3 : s.length < s3.length := by
      have := at_lt d2
      have := g3.len
      omega
    have hzs : ∀ v ∈ ([0, 1, -1, z, 1000000000000, 0 - 1000000000000] : List Int), Sm v := by
      intro v hv
      unfold Sm big at *
      simp only [List.mem_cons, List.not_mem_nil, or_false] at hv
      rcases hv with rfl | rfl | rfl | rfl | rfl | rfl <;> omega
    show Wp (forL _ _ s3.length 1000000 0 _ (s3 ++ [O.lst (([0, 1, -1, z, 1000000000000, 0 - 1000000000000] : List Int).map D.int)])) _
    revert d3 G3 f3 e3 l3 hzs
    generalize s3 ++ [O.lst (([0, 1, -1, z, 1000000000000, 0 - 1000000000000] : List Int).map D.int)] = s4
    have lz : ([0, 1, -1, z, 1000000000000, 0 - 1000000000000] : List Int).length = 6 := rfl
    revert lz
    generalize ([0, 1, -1, z, 1000000000000, 0 - 1000000000000] : List Int) = zs
    generalize s3.length = l
    intro lz d3 G3 f3 e3 l3 hzs
    refine wp_forL (xs := zs.map D.int) (fun j e t => ∃ (v9 : Option D) (ks : List Str) (N : Str → Int), e = [some (.loc a), some (.str w), some (.loc st.length), some (.tup [(Xp.nm v0).d, (Xp.nm v1).d, (Xp.nm v2).d]), some (.int x), some (.int y), some (.int (i : Nat)), some (.loc s.length), v8, v9] ∧ Gx a s t ∧ Feed t a ∧ t[l]? = some (.lst (zs.map D.int)) ∧ t[s.length]? = some (.dic (dk ks fun w => .int (N w))) ∧ ks.length ≤ 2 + j ∧ (∀ v ∈ [v2, v1], v ∈ ks) ∧ ∀ v ∈ [v2, v1], Sm (N v)) ⟨_, ks, N, rfl, G3, f3, e3, d3, lk, hk, hN⟩ ?_ (by rw [List.length_map]; omega) ?_ ?_
    · rintro j es t - ⟨v9, ks, N, rfl, g, f, e, -⟩
      exact getL_of e
    · clear d3 G3 f3 e3 d2 hk hN lk d1
      rintro j d es2 t hd3 ⟨v9, ks, N, rfl, G, f, e, d1, lk, hk, hN⟩
      obtain ⟨c, rfl, hc, -⟩ := get_map_int hd3
      have hc := hzs c hc
      have hj := (List.getElem?_eq_some_iff.mp hd3).1
      rw [List.length_map, lz] at hj
      have ll := at_lt e
      refine ⟨_, rfl, ?_⟩
      refine wp_mid (fun e t => ∃ (ks : List Str) (N : Str → Int), e = [some (.loc a), some (.str w), some (.loc st.length), some (.tup [(Xp.nm v0).d, (Xp.nm v1).d, (Xp.nm v2).d]), some (.int x), some (.int y), some (.int (i : Nat)), some (.loc s.length), v8, some (.int c)] ∧ Gx a s t ∧ Feed t a ∧ t[l]? = some (.lst (zs.map D.int)) ∧ t[s.length]? = some (.dic (dk ks fun w => .int (N w))) ∧ ks.length ≤ 2 + (j + 1) ∧ (∀ v ∈ [v0, v2, v1], v ∈ ks) ∧ ∀ v ∈ [v0, v2, v1], Sm (N v)) ?_ ?_
      · have ew := G.keep (by omega) es
        walk_at "zy"
        refine wp_setAD d1 rfl (by rw [len_dk]; omega) ?_
        walk_at "zy"
        rw [put_int]
        refine ⟨_, rfl, _, _, rfl, G.setNew (Nat.le_refl _), f.set (by omega), at_setne (by omega) e, at_set d1, Nat.le_trans addK_le (by omega), ?_, upd_sm hN hc⟩
        intro v hv
        rcases List.mem_cons.mp hv with rfl | hv
        · exact mem_addK.mpr (.inr rfl)
        · exact mem_addK.mpr (.inl (hk v hv))
      clear G f e d1 lk hk hN ks N ll t
      rintro e t ⟨ks, N, rfl, G, f, e, d1, lk, hk, hN⟩
      walk_at "zy"
      refine wp_dict (getK_d d1) ?_
      walk_at "zy"
      refine valued_wp (x := .pick (.nm v0) (.nm v1) (.nm v2)) (ws := [v0, v2, v1]) (sh := []) (N := N) (A := fun _ => []) ⟨⟨List.mem_cons_self .., List.mem_cons_of_mem _ (List.mem_cons_of_mem _ (List.mem_cons_self ..)), List.mem_cons_of_mem _ (List.mem_cons_self ..)⟩, by show max 1 (max 1 1) + 1 ≤ 12; decide⟩ (memD hN) (at_app at_last) (envD (ks := ks) (at_app (at_app (at_app at_last))) (at_app (at_app at_last)) hk) (envD (ks := ks) (at_app (at_app (at_app (at_app d1)))) at_last hk) ?_
      intro t2 g2
      walk_at "zy"
      have U := (((Gr.app (s := t) (t := [O.dic (dk ks fun w => .int (N w))])).trans (Gr.app (t := [O.dic []]))).trans (Gr.app (t := [O.lst [.loc t.length, .loc (t ++ [O.dic (dk ks fun w => .int (N w))]).length]]))).trans (Gr.app (t := [O.dic []]))
      have U := U.trans g2
      exact ⟨_, ks, N, rfl, G.trans U.gx, f.gr U, U.keep e, U.keep d1, lk, fun v h => hk v (List.mem_cons_of_mem _ h), fun v h => hN v (List.mem_cons_of_mem _ h)⟩
    · rintro es2 t ⟨v9, ks, N, rfl, G, f, e, d1, lk, hk, hN⟩
      exact ⟨_, _, _, _, rfl, gs.trans G, f, G.keep (by omega) es⟩
  · rintro es s ⟨v6, v7, v8, v9, rfl, g, f, e⟩
    exact ⟨_, rfl, g, f⟩
end
end K01
end
section
set_option Elab.async false
set_option linter.all false
set_option maxRecDepth 100000
set_option maxHeartbeats 2000000
open PySem PySem.Spec PyProof.Rows L2 Z
local macro_rules | `(tactic| fail "zs") => `(tactic| first
  | assumption
  | with_reducible exact at_last
  | (with_reducible apply at_set; fail "zs")
  | (with_reducible apply at_app; fail "zs")
  | (with_reducible apply at_setne; (first | assumption | (apply Ne.symm; assumption) | omega); fail "zs")
  | (with_reducible refine Gr.keep (by assumption) ?_; fail "zs")
  | (with_reducible refine Gx.keep (by assumption) ?_ ?_; (first | assumption | (apply Ne.symm; assumption) | omega); fail "zs"))
local macro_rules | `(tactic| fail "zg") => `(tactic| first
  | assumption
  | (with_reducible apply getL_of; fail "zs")
  | (with_reducible apply getW_of; fail "zs")
  | (with_reducible apply getI_of; fail "zs"))
local macro_rules | `(tactic| fail "za") => `(tactic| first | (with_reducible apply atI_int; (first | assumption | omega); (first | assumption | omega | (simp only [List.length_set]; omega))) | with_unfolding_all exact rfl | assumption)
local macro_rules | `(tactic| fail "y0") => `(tactic| first
  | (with_reducible refine' wp_var ?z1 ?z2; (case z1 => with_unfolding_all exact rfl))
  | with_reducible refine wp_c2 ?_
  | with_reducible refine wp_cons ?_
  | with_reducible refine wp_c ?_
  | with_reducible refine wp_nil ?_
  | with_reducible refine wp_call ?_
  | with_reducible refine wp_c1 ?_)
local macro_rules | `(tactic| fail "y1") => `(tactic| first
  | with_reducible refine wp_set ?_
  | with_reducible refine wp_if ?_
  | with_reducible refine wp_next ?_
  | with_reducible refine wp_ret ?_
  | with_reducible refine af_nx ?_
  | with_reducible refine bk_rt ?_
  | (with_reducible refine' wp_ixL ?z1 ?z2 ?z3; (case z1 => fail "zg"); (case z2 => fail "za"))
  | (with_reducible refine' wp_ixT ?z1 ?z2; (case z1 => fail "za")))
local macro_rules | `(tactic| fail "y2") => `(tactic| first
  | with_reducible refine af_rt ?_
  | with_reducible refine af_bk ?_
  | with_reducible refine bk_nx ?_
  | with_reducible refine turned_nx ?_
  | with_reducible refine turned_bk ?_
  | with_reducible refine turned_rt ?_
  | with_reducible refine wp_and ?_
  | with_reducible refine wp_or ?_)
local macro_rules | `(tactic| fail "y3") => `(tactic| first
  | with_reducible refine wp_not ?_
  | with_reducible refine wp_sub ?_
  | with_reducible refine wp_subA ?_
  | with_reducible refine wp_chain ?_
  | with_reducible refine wp_neAI ?_
  | with_reducible refine wp_neAS ?_
  | with_reducible refine wp_dic0 ?_
  | with_reducible refine wp_drop ?_)
local macro_rules | `(tactic| fail "y4") => `(tactic| first
  | with_reducible refine wp_vK ?_
  | with_reducible refine wp_nox ?_
  | with_reducible refine wp_break ?_
  | with_reducible refine wp_retN ?_
  | with_reducible refine wp_sfld ?_
  | with_reducible refine wp_yes ?_
  | with_reducible refine wp_addI ?_
  | with_reducible refine wp_subI ?_)
local macro_rules | `(tactic| fail "y5") => `(tactic| first
  | with_reducible refine wp_neg ?_
  | with_reducible refine wp_eqI ?_
  | with_reducible refine wp_neI ?_
  | with_reducible refine wp_ltI ?_
  | with_reducible refine wp_leI ?_
  | with_reducible refine wp_gtI ?_
  | with_reducible refine wp_geI ?_
  | with_reducible refine wp_eqS ?_)
local macro_rules | `(tactic| fail "y6") => `(tactic| first
  | with_reducible refine wp_neS ?_
  | with_reducible refine wp_eqB ?_
  | with_reducible refine wp_isN ?_
  | with_reducible refine wp_isNotN ?_
  | with_reducible refine wp_int ?_
  | with_reducible refine wp_max2 ?_
  | with_reducible refine wp_min2 ?_
  | with_reducible refine wp_tr_bl ?_)
local macro_rules | `(tactic| fail "y7") => `(tactic| first
  | with_reducible refine wp_tr_int ?_
  | with_reducible refine wp_tupT ?_
  | with_reducible refine wp_slT ?_
  | with_reducible refine wp_nopart ?_
  | with_reducible refine wp_lst ?_
  | with_reducible refine wp_tup ?_
  | with_reducible refine wp_slice ?_
  | with_reducible refine wp_callK ?_)
local macro_rules | `(tactic| fail "y8") => `(tactic| first
  | with_reducible refine wp_make ?_
  | with_reducible refine wp_meth ?_
  | with_reducible refine wp_is ?_
  | with_reducible refine wp_vand ?_
  | with_reducible refine wp_vor ?_
  | with_reducible refine wp_vnot ?_
  | with_reducible refine wp_asg ?_
  | with_reducible refine wp_part ?_)
local macro_rules | `(tactic| fail "y9") => `(tactic| first
  | with_reducible refine wp_forR1 ?_
  | with_reducible refine wp_forR2 ?_
  | with_reducible refine wp_compR1 ?_
  | with_reducible refine wp_compR2 ?_
  | (with_reducible refine' wp_ixAL ?z1 ?z2 ?z3; (case z1 => fail "zg"); (case z2 => fail "za"))
  | (with_reducible refine' wp_ixAT ?z1 ?z2; (case z1 => fail "za"))
  | (with_reducible refine' and_isL ?z1 ?z2; (case z1 => fail "zg"))
  | (with_reducible refine' wp_append ?z1 ?z2 ?z3; (case z1 => fail "zg"); (case z2 => first | omega | (simp only [List.length_map, List.length_append, List.length_cons, List.length_nil]; omega))))
local macro_rules | `(tactic| fail "y10") => `(tactic| first
  | (with_reducible refine' wp_lenL ?z1 ?z2; (case z1 => fail "zg"))
  | with_reducible refine wp_lenT ?_
  | (with_reducible refine' wp_lenAL ?z1 ?z2; (case z1 => fail "zg"))
  | with_reducible refine wp_lenAT ?_
  | (with_reducible refine' wp_listL ?z1 ?z2; (case z1 => fail "zg"))
  | with_reducible refine wp_listT ?_
  | with_reducible refine ex_bl ?_
  | (with_reducible refine' ex_ty ?z1 ?z2 ?z3; (case z1 => with_unfolding_all exact rfl); (case z2 => with_unfolding_all exact rfl)))
local macro_rules | `(tactic| fail "y11") => `(tactic| first
  | (with_reducible refine' wp_mulT ?z1 ?z2 ?z3; (case z1 => omega); (case z2 => omega))
  | (with_reducible refine' wp_setF ?z1 ?z2 ?z3; (case z1 => fail "zg"); (case z2 => with_unfolding_all exact Nat.le_of_ble_eq_true rfl))
  | (with_reducible refine' wp_setInt ?z1 ?z2 ?z3 ?z4; (case z1 => fail "zg"); (case z2 => first | assumption | omega); (case z3 => first | assumption | omega | (simp only [List.length_set]; omega)))
  | (with_reducible refine' wp_setIx ?z1 ?z2 ?z3; (case z1 => fail "zg"); (case z2 => first | (with_reducible apply ixN_of; (first | assumption | omega); (first | assumption | omega | (rw [List.length_map]; omega))) | with_unfolding_all exact rfl | assumption))
  | (with_reducible refine' wp_setAI ?z1 ?z2 ?z3 ?z4; (case z1 => fail "zg"); (case z2 => first | assumption | omega); (case z3 => first | assumption | omega | (simp only [List.length_set]; omega)))
  | (with_reducible refine' wp_setAX ?z1 ?z2 ?z3; (case z1 => fail "zg"); (case z2 => first | (with_reducible apply ixN_of; (first | assumption | omega); (first | assumption | omega | (rw [List.length_map]; omega))) | with_unfolding_all exact rfl | assumption))
  | (with_reducible refine' wp_modI ?z1 ?z2; (case z1 => omega))
  | (with_reducible refine' wp_divA0 ?z1 ?z2 ?z3; (case z1 => omega); (case z2 => omega)))
local macro_rules | `(tactic| fail "y12") => `(tactic| first
  | (with_reducible refine' wp_mulA ?z1 ?z2; (case z1 => omega))
  | (with_reducible refine' wp_divI ?z1 ?z2 ?z3; (case z1 => omega); (case z2 => omega))
  | (with_reducible refine' wp_mulI ?z1 ?z2; (case z1 => omega))
  | (with_reducible refine' wp_powI ?z1 ?z2; (case z1 => with_unfolding_all decide))
  | (with_reducible refine' wp_fld ?z1 ?z2 ?z3; (case z1 => fail "zg"); (case z2 => first | with_unfolding_all exact rfl | assumption))
  | (with_reducible refine' wp_prop ?z1 ?z2; (case z1 => fail "zg"))
  | (with_reducible refine' wp_tupL ?z1 ?z2; (case z1 => fail "zg"))
  | (with_reducible refine' And.intro ?z1 ?z2; (case z1 => first | with_unfolding_all exact Nat.le_of_ble_eq_true rfl | with_unfolding_all decide)))
local macro_rules | `(tactic| fail "z0") => `(tactic| first | fail "y0" | fail "y1" | fail "y2" | fail "y3" | fail "y4" | fail "y5" | fail "y6" | fail "y7" | fail "y8" | fail "y9" | fail "y10" | fail "y11" | fail "y12")
local macro_rules | `(tactic| fail "z1") => `(tactic| first | with_reducible refine wp_seq ?_ | fail "z0")
local macro_rules | `(tactic| walk_at "z") => `(tactic| (repeat fail "z1"))
local macro_rules | `(tactic| fail "zb") => `(tactic| (with_reducible refine And.intro ?_ ?_; (all_goals (intro hb; first | (simp at hb; done) | (simp at hb; skip) | skip))))
local macro_rules | `(tactic| walk_at "zz") => `(tactic| (repeat' (first | fail "z1" | fail "zb")))
local macro_rules | `(tactic| walk_at "zy") => `(tactic| (repeat' (first | fail "z0" | fail "zb")))
local macro_rules | `(tactic| walk_at "zn") => `(tactic| (with_reducible refine wp_seq ?_; walk_at "zy"))
local macro_rules | `(tactic| walk_at "zs") => `(tactic| fail "zs")
local macro_rules | `(tactic| walk_at "zg") => `(tactic| fail "zg")
local macro_rules | `(tactic| walk_at "za") => `(tactic| fail "za")
local macro_rules | `(tactic| walk_at "z0") => `(tactic| fail "z0")
local macro_rules | `(tactic| walk_at "z1") => `(tactic| fail "z1")
local macro_rules | `(tactic| walk_at "zb") => `(tactic| fail "zb")
namespace K01
open PySem PySem.Spec PyProof.Rows L2 Z
local macro_rules | `(tactic| fail "zb") => `(tactic| (with_reducible refine And.intro ?_ ?_; (all_goals (intro hb; first | (exact absurd hb (by decide)) | (simp at hb; done) | (simp only [decide_eq_true_eq, decide_eq_false_iff_not, Bool.not_eq_true', Bool.not_eq_false'] at hb; skip) | skip))))
theorem Gy.new {a r : Nat} {s t u : S} (h : Gr s t) (k : Gy a r t u) (e : s.length ≤ a) (f : s.length ≤ r) : Gr s u := ⟨Nat.le_trans h.len k.len, fun n l => (k.at_ n (Nat.lt_of_lt_of_le l h.len) (by omega) (by omega)).trans (h.at_ n l)⟩
section
variable {nm ar mu : Nat} {mn ws sa sh : List Str} {s t st : S} {Q : D → S → Prop}
theorem drawn_wp {c : Int} (hn : st[nm]? = some (.lst (ws.map D.str))) (ha : st[ar]? = some (.lst (sa.map D.str))) (hm : st[mu]? = some (.lst (mn.map D.str))) (w0 : 1 ≤ ws.length) (w1 : ws.length ≤ 40) (s0 : 1 ≤ sa.length) (s1 : sa.length ≤ 40) (m0 : 0 < mn.length) (m1 : mn.length ≤ 100) (sub : ∀ w ∈ sa, w ∈ sh) (hp : ("place" : Str) ∈ sh) (q : ∀ (x : Xp) (t : S), Gr st t → Xok ws sh 12 x → Q x.d t) : Wp (F_law_drawn [.int c, .loc nm, .loc ar, .loc mu] st) Q := by
  have l1 := at_lt hn
  have l2 := at_lt ha
  have l3 := at_lt hm
  unfold F_law_drawn b_law_drawn
  refine wp_fn rfl ?_
  refine wp_mid (fun e s => e = [some (.int c), some (.loc nm), some (.loc ar), some (.loc mu), some (.loc st.length), none] ∧ Gr st s ∧ Feed s st.length) ?_ ?_
  · walk_at "zy"
    refine feed_wp ?_
    intro s g f l
    exact ⟨_, rfl, rfl, g, f⟩
  rintro e s1 ⟨rfl, g1, f1⟩
  refine wp_mid (fun e s => ∃ r, e = [some (.int c), some (.loc nm), some (.loc ar), some (.loc mu), some (.loc st.length), some (.loc r)] ∧ Gr st s ∧ Feed s st.length ∧ Room s r ∧ st.length < r) ?_ ?_
  · have l1 := f1.lt
    walk_at "zy"
    refine take_wp (f1.gr Gr.app) (by omega) (by omega) ?_
    intro j s2 j0 j1 g2 f2 l2
    have e3 := g2.keep (by omega) at_last
    refine wp_ixAL (getL_of e3) (atI_int (ns := [16, 10, 40, 120]) j0 (by simp; omega)) ?_
    walk_at "zy"
    exact ⟨_, rfl, _, rfl, (Gx.new (g1.trans Gr.app) g2 (Nat.le_refl _)).trans Gr.app, f2.gr Gr.app, ⟨_, at_last⟩, f2.lt⟩
  clear g1 f1 s1
  rintro e s1 ⟨r, rfl, g1, f1, v1, r1⟩
  have nq : Nq st.length r nm ar mu mn ws sa sh := ⟨by omega, by omega, by omega, by omega, by omega, by omega, by omega, (by rintro rfl; simp at w0), w1, (by rintro rfl; simp at s0), by assumption, m0, m1, sub, hp⟩
  have T : Tr st.length r nm ar mu mn ws sa s1 := ⟨f1, v1, g1.keep hn, g1.keep ha, g1.keep hm⟩
  walk_at "zy"
  refine deep_wp f1 ?_
  intro n s2 n1 n12 g2 f2
  walk_at "zy"
  refine tree_ih nq 16 n n1 (by omega) n12 true s2 _ (T.gx nq g2 f2) ?_
  intro x s3 hx g3 T3
  exact q x s3 (Gy.new g1 (g2.gy.trans g3) (Nat.le_refl _) (by omega)) ⟨hx.1, Nat.le_trans hx.2 n12⟩
theorem named_wp {x : Xp} {g pn pa qn qa : Nat} {N : Str → Int} {A : Str → List Int} (hx : Xok ws sh 12 x) (M : Mem ws sh N A) (hg : st[g]? = some (.lst [.loc pn, .loc pa])) (E1 : EnvAt st pn pa ws sh N A) (E2 : EnvAt st qn qa ws sh N A) (q : ∀ s, Gr st s → Q (.bl true) s) : Wp (F_law_named [x.d, .loc g, .loc qn, .loc qa] st) Q := by
  unfold F_law_named b_law_named
  refine wp_fn rfl ?_
  walk_at "zn"
  refine value_ih M 16 x (by have := hx.2; omega) hx.1 _ _ E1 ?_
  intro s1 g1
  walk_at "zz"
  refine whole_wp ?_
  refine ⟨true, rfl, fun _ => ?_, fun h => nomatch h⟩
  walk_at "zz"
  refine lvalue_ih M 16 x (by have := hx.2; omega) hx.1 _ _ (E2.gr g1) ?_
  intro s2 g2
  walk_at "zz"
  rw [decide_eq_true rfl]
  exact q s2 (g1.trans g2)
end
end K01
end
section
set_option Elab.async false
set_option linter.all false
set_option maxRecDepth 100000
set_option maxHeartbeats 2000000
open PySem PySem.Spec PyProof.Rows L2 Z
local macro_rules | `(tactic| fail "zs") => `(tactic| first
  | assumption
  | with_reducible exact at_last
  | (with_reducible apply at_set; fail "zs")
  | (with_reducible apply at_app; fail "zs")
  | (with_reducible apply at_setne; (first | assumption | (apply Ne.symm; assumption) | omega); fail "zs")
  | (with_reducible refine Gr.keep (by assumption) ?_; fail "zs")
  | (with_reducible refine Gx.keep (by assumption) ?_ ?_; (first | assumption | (apply Ne.symm; assumption) | omega); fail "zs"))
local macro_rules | `(tactic| fail "zg") => `(tactic| first
  | assumption
  | (with_reducible apply getL_of; fail "zs")
  | (with_reducible apply getW_of; fail "zs")
  | (with_reducible apply getI_of; fail "zs"))
local macro_rules | `(tactic| fail "za") => `(tactic| first | (with_reducible apply atI_int; (first | assumption | omega); (first | assumption | omega | (simp only [List.length_set]; omega))) | with_unfolding_all exact rfl | assumption)
local macro_rules | `(tactic| fail "y0") => `(tactic| first
  | (with_reducible refine' wp_var ?z1 ?z2; (case z1 => with_unfolding_all exact rfl))
  | with_reducible refine wp_c2 ?_
  | with_reducible refine wp_cons ?_
  | with_reducible refine wp_c ?_
  | with_reducible refine wp_nil ?_
  | with_reducible refine wp_call ?_
  | with_reducible refine wp_c1 ?_)
local macro_rules | `(tactic| fail "y1") => `(tactic| first
  | with_reducible refine wp_set ?_
  | with_reducible refine wp_if ?_
  | with_reducible refine wp_next ?_
  | with_reducible refine wp_ret ?_
  | with_reducible refine af_nx ?_
  | with_reducible refine bk_rt ?_
  | (with_reducible refine' wp_ixL ?z1 ?z2 ?z3; (case z1 => fail "zg"); (case z2 => fail "za"))
  | (with_reducible refine' wp_ixT ?z1 ?z2; (case z1 => fail "za")))
local macro_rules | `(tactic| fail "y2") => `(tactic| first
  | with_reducible refine af_rt ?_
  | with_reducible refine af_bk ?_
  | with_reducible refine bk_nx ?_
  | with_reducible refine turned_nx ?_
  | with_reducible refine turned_bk ?_
  | with_reducible refine turned_rt ?_
  | with_reducible refine wp_and ?_
  | with_reducible refine wp_or ?_)
local macro_rules | `(tactic| fail "y3") => `(tactic| first
  | with_reducible refine wp_not ?_
  | with_reducible refine wp_sub ?_
  | with_reducible refine wp_subA ?_
  | with_reducible refine wp_chain ?_
  | with_reducible refine wp_neAI ?_
  | with_reducible refine wp_neAS ?_
  | with_reducible refine wp_dic0 ?_
  | with_reducible refine wp_drop ?_)
local macro_rules | `(tactic| fail "y4") => `(tactic| first
  | with_reducible refine wp_vK ?_
  | with_reducible refine wp_nox ?_
  | with_reducible refine wp_break ?_
  | with_reducible refine wp_retN ?_
  | with_reducible refine wp_sfld ?_
  | with_reducible refine wp_yes ?_
  | with_reducible refine wp_addI ?_
  | with_reducible refine wp_subI ?_)
local macro_rules | `(tactic| fail "y5") => `(tactic| first
  | with_reducible refine wp_neg ?_
  | with_reducible refine wp_eqI ?_
  | with_reducible refine wp_neI ?_
  | with_reducible refine wp_ltI ?_
  | with_reducible refine wp_leI ?_
  | with_reducible refine wp_gtI ?_
  | with_reducible refine wp_geI ?_
  | with_reducible refine wp_eqS ?_)
local macro_rules | `(tactic| fail "y6") => `(tactic| first
  | with_reducible refine wp_neS ?_
  | with_reducible refine wp_eqB ?_
  | with_reducible refine wp_isN ?_
  | with_reducible refine wp_isNotN ?_
  | with_reducible refine wp_int ?_
  | with_reducible refine wp_max2 ?_
  | with_reducible refine wp_min2 ?_
  | with_reducible refine wp_tr_bl ?_)
local macro_rules | `(tactic| fail "y7") => `(tactic| first
  | with_reducible refine wp_tr_int ?_
  | with_reducible refine wp_tupT ?_
  | with_reducible refine wp_slT ?_
  | with_reducible refine wp_nopart ?_
  | with_reducible refine wp_lst ?_
  | with_reducible refine wp_tup ?_
  | with_reducible refine wp_slice ?_
  | with_reducible refine wp_callK ?_)
local macro_rules | `(tactic| fail "y8") => `(tactic| first
  | with_reducible refine wp_make ?_
  | with_reducible refine wp_meth ?_
  | with_reducible refine wp_is ?_
  | with_reducible refine wp_vand ?_
  | with_reducible refine wp_vor ?_
  | with_reducible refine wp_vnot ?_
  | with_reducible refine wp_asg ?_
  | with_reducible refine wp_part ?_)
local macro_rules | `(tactic| fail "y9") => `(tactic| first
  | with_reducible refine wp_forR1 ?_
  | with_reducible refine wp_forR2 ?_
  | with_reducible refine wp_compR1 ?_
  | with_reducible refine wp_compR2 ?_
  | (with_reducible refine' wp_ixAL ?z1 ?z2 ?z3; (case z1 => fail "zg"); (case z2 => fail "za"))
  | (with_reducible refine' wp_ixAT ?z1 ?z2; (case z1 => fail "za"))
  | (with_reducible refine' and_isL ?z1 ?z2; (case z1 => fail "zg"))
  | (with_reducible refine' wp_append ?z1 ?z2 ?z3; (case z1 => fail "zg"); (case z2 => first | omega | (simp only [List.length_map, List.length_append, List.length_cons, List.length_nil]; omega))))
local macro_rules | `(tactic| fail "y10") => `(tactic| first
  | (with_reducible refine' wp_lenL ?z1 ?z2; (case z1 => fail "zg"))
  | with_reducible refine wp_lenT ?_
  | (with_reducible refine' wp_lenAL ?z1 ?z2; (case z1 => fail "zg"))
  | with_reducible refine wp_lenAT ?_
  | (with_reducible refine' wp_listL ?z1 ?z2; (case z1 => fail "zg"))
  | with_reducible refine wp_listT ?_
  | with_reducible refine ex_bl ?_
  | (with_reducible refine' ex_ty ?z1 ?z2 ?z3; (case z1 => with_unfolding_all exact rfl); (case z2 => with_unfolding_all exact rfl)))
local macro_rules | `(tactic| fail "y11") => `(tactic| first
  | (with_reducible refine' wp_mulT ?z1 ?z2 ?z3; (case z1 => omega); (case z2 => omega))
  | (with_reducible refine' wp_setF ?z1 ?z2 ?z3; (case z1 => fail "zg"); (case z2 => with_unfolding_all exact Nat.le_of_ble_eq_true rfl))
  | (with_reducible refine' wp_setInt ?z1 ?z2 ?z3 ?z4; (case z1 => fail "zg"); (case z2 => first | assumption | omega); (case z3 => first | assumption | omega | (simp only [List.length_set]; omega)))
  | (with_reducible refine' wp_setIx ?z1 ?z2 ?z3; (case z1 => fail "zg"); (case z2 => first | (with_reducible apply ixN_of; (first | assumption | omega); (first | assumption | omega | (rw [List.length_map]; omega))) | with_unfolding_all exact rfl | assumption))
  | (with_reducible refine' wp_setAI ?z1 ?z2 ?z3 ?z4; (case z1 => fail "zg"); (case z2 => first | assumption | omega); (case z3 => first | assumption | omega | (simp only [List.length_set]; omega)))
  | (with_reducible refine' wp_setAX ?z1 ?z2 ?z3; (case z1 => fail "zg"); (case z2 => first | (with_reducible apply ixN_of; (first | assumption | omega); (first | assumption | omega | (rw [List.length_map]; omega))) | with_unfolding_all exact rfl | assumption))
  | (with_reducible refine' wp_modI ?z1 ?z2; (case z1 => omega))
  | (with_reducible refine' wp_divA0 ?z1 ?z2 ?z3; (case z1 => omega); (case z2 => omega)))
local macro_rules | `(tactic| fail "y12") => `(tactic| first
  | (with_reducible refine' wp_mulA ?z1 ?z2; (case z1 => omega))
  | (with_reducible refine' wp_divI ?z1 ?z2 ?z3; (case z1 => omega); (case z2 => omega))
  | (with_reducible refine' wp_mulI ?z1 ?z2; (case z1 => omega))
  | (with_reducible refine' wp_powI ?z1 ?z2; (case z1 => with_unfolding_all decide))
  | (with_reducible refine' wp_fld ?z1 ?z2 ?z3; (case z1 => fail "zg"); (case z2 => first | with_unfolding_all exact rfl | assumption))
  | (with_reducible refine' wp_prop ?z1 ?z2; (case z1 => fail "zg"))
  | (with_reducible refine' wp_tupL ?z1 ?z2; (case z1 => fail "zg"))
  | (with_reducible refine' And.intro ?z1 ?z2; (case z1 => first | with_unfolding_all exact Nat.le_of_ble_eq_true rfl | with_unfolding_all decide)))
local macro_rules | `(tactic| fail "z0") => `(tactic| first | fail "y0" | fail "y1" | fail "y2" | fail "y3" | fail "y4" | fail "y5" | fail "y6" | fail "y7" | fail "y8" | fail "y9" | fail "y10" | fail "y11" | fail "y12")
local macro_rules | `(tactic| fail "z1") => `(tactic| first | with_reducible refine wp_seq ?_ | fail "z0")
local macro_rules | `(tactic| walk_at "z") => `(tactic| (repeat fail "z1"))
local macro_rules | `(tactic| fail "zb") => `(tactic| (with_reducible refine And.intro ?_ ?_; (all_goals (intro hb; first | (simp at hb; done) | (simp at hb; skip) | skip))))
local macro_rules | `(tactic| walk_at "zz") => `(tactic| (repeat' (first | fail "z1" | fail "zb")))
local macro_rules | `(tactic| walk_at "zy") => `(tactic| (repeat' (first | fail "z0" | fail "zb")))
local macro_rules | `(tactic| walk_at "zn") => `(tactic| (with_reducible refine wp_seq ?_; walk_at "zy"))
local macro_rules | `(tactic| walk_at "zs") => `(tactic| fail "zs")
local macro_rules | `(tactic| walk_at "zg") => `(tactic| fail "zg")
local macro_rules | `(tactic| walk_at "za") => `(tactic| fail "za")
local macro_rules | `(tactic| walk_at "z0") => `(tactic| fail "z0")
local macro_rules | `(tactic| walk_at "z1") => `(tactic| fail "z1")
local macro_rules | `(tactic| walk_at "zb") => `(tactic| fail "zb")
namespace K01
open PySem PySem.Spec PyProof.Rows L2 Z
local macro_rules | `(tactic| fail "zb") => `(tactic| (with_reducible refine And.intro ?_ ?_; (all_goals (intro hb; first | (exact absurd hb (by decide)) | (simp at hb; done) | (simp only [decide_eq_true_eq, decide_eq_false_iff_not, Bool.not_eq_true', Bool.not_eq_false'] at hb; skip) | skip))))
/-! the words of an expression -/
def own : Xp → Option (Str × Str)
  | .num _ => none
  | .nm w => some ("name", w)
  | .rd a _ => some ("read", a)
  | .op _ _ _ => none
  | .mn _ _ => some ("call", "min")
  | .mx _ _ => some ("call", "max")
  | .nth _ => some ("call", "nth")
  | .pick _ _ _ => some ("call", "pick")
def pD (p : Str × Str) : D := .tup [.str p.1, .str p.2]
def prs (x : Xp) : List (Str × Str) := (subs x).filterMap own
theorem prs_eq (x : Xp) : prs x = (own x).toList ++ x.parts.flatMap prs := by
  have key : ∀ ps : List Xp, (ps.flatMap subs).filterMap own = ps.flatMap prs := by
    intro ps
    induction ps with
    | nil => rfl
    | cons p r ih => rw [List.flatMap_cons, List.flatMap_cons, List.filterMap_append, ih]; rfl
  show (subs x).filterMap own = _
  rw [subs_eq, List.filterMap_cons, key]
  cases own x <;> rfl
theorem pairsT_map : ∀ ps : List (Str × Str), pairsT (ps.map pD) = some ps
  | [] => rfl
  | p :: r => by
    show (pairsT (r.map pD)).map ((p.1, p.2) :: ·) = _
    rw [pairsT_map r]
    rfl
theorem foldT_nd {c : Str} : ∀ (ps : List (Str × Str)) {S : List Str}, S.Nodup → (foldT c ps S).Nodup
  | [], S, h => h
  | p :: r, S, h => by
    unfold foldT
    refine foldT_nd r ?_
    split
    · unfold addS
      split
      · exact h
      · rename_i hn
        exact List.nodup_append.mpr ⟨h, by simp, fun x hx y hy e => hn (by rw [List.mem_singleton.mp hy] at e; exact e ▸ hx)⟩
    · exact h
theorem foldT_mem {c v : Str} : ∀ (ps : List (Str × Str)) {S : List Str}, v ∈ foldT c ps S → v ∈ S ∨ (c, v) ∈ ps
  | [], S, h => .inl h
  | p :: r, S, h => by
    unfold foldT at h
    rcases foldT_mem r h with h | h
    · split at h
      · rename_i hc
        unfold addS at h
        split at h
        · exact .inl h
        · rcases List.mem_append.mp h with h | h
          · exact .inl h
          · refine .inr ?_
            rw [List.mem_singleton.mp h, ← hc]
            exact List.mem_cons_self ..
      · exact .inl h
    · exact .inr (List.mem_cons_of_mem _ h)
theorem len_sub : ∀ {l m : List Str}, l.Nodup → (∀ x ∈ l, x ∈ m) → l.length ≤ m.length
  | [], m, _, _ => Nat.zero_le _
  | a :: r, m, nd, h => by
    obtain ⟨n1, n2⟩ := List.nodup_cons.mp nd
    have ha := h a (List.mem_cons_self ..)
    have := len_sub (l := r) (m := m.erase a) n2 fun x hx => (List.mem_erase_of_ne (fun e => n1 (by rw [← e]; exact hx))).mpr (h x (List.mem_cons_of_mem _ hx))
    rw [List.length_erase_of_mem ha] at this
    have := List.length_pos_of_mem ha
    rw [List.length_cons]
    omega
theorem subs_ok {ws sh : List Str} : ∀ {x y : Xp}, x.ok ws sh → y ∈ subs x → y.ok ws sh := by
  intro x
  induction x with
  | num n => intro y o h; rw [show subs (.num n) = [.num n] from rfl, List.mem_singleton] at h; rw [h]; exact o
  | nm n => intro y o h; rw [show subs (.nm n) = [.nm n] from rfl, List.mem_singleton] at h; rw [h]; exact o
  | rd a x ih =>
    intro y o h
    rcases List.mem_cons.mp h with rfl | h
    · exact o
    · exact ih o.2 h
  | nth x ih =>
    intro y o h
    rcases List.mem_cons.mp h with rfl | h
    · exact o
    · exact ih o.2 h
  | op a x z i1 i2 =>
    intro y o h
    rcases List.mem_cons.mp h with rfl | h
    · exact o
    · rcases List.mem_append.mp h with h | h
      · exact i1 o.1 h
      · exact i2 o.2 h
  | mn x z i1 i2 =>
    intro y o h
    rcases List.mem_cons.mp h with rfl | h
    · exact o
    · rcases List.mem_append.mp h with h | h
      · exact i1 o.1 h
      · exact i2 o.2 h
  | mx x z i1 i2 =>
    intro y o h
    rcases List.mem_cons.mp h with rfl | h
    · exact o
    · rcases List.mem_append.mp h with h | h
      · exact i1 o.1 h
      · exact i2 o.2 h
  | pick x z u i1 i2 i3 =>
    intro y o h
    rcases List.mem_cons.mp h with rfl | h
    · exact o
    · rcases List.mem_append.mp h with h | h
      · exact i1 o.1 h
      · rcases List.mem_append.mp h with h | h
        · exact i2 o.2.1 h
        · exact i3 o.2.2 h
theorem own_in {ws sh : List Str} {y : Xp} {c v : Str} (o : y.ok ws sh) (h : own y = some (c, v)) : v ∈ ws ++ (sh ++ CALLS) := by
  unfold CALLS
  simp only [List.mem_append, List.mem_cons, List.not_mem_nil, or_false]
  cases y with
  | num n => cases h
  | nm w => cases h; exact .inl o
  | rd a x => cases h; exact .inr (.inl o.1)
  | op a x z => cases h
  | mn x z => cases h; exact .inr (.inr (.inl rfl))
  | mx x z => cases h; exact .inr (.inr (.inr (.inl rfl)))
  | nth x => cases h; exact .inr (.inr (.inr (.inr (.inr rfl))))
  | pick x z u => cases h; exact .inr (.inr (.inr (.inr (.inl rfl))))
/-- the words of a sort -/
def W (c : Str) (x : Xp) : List Str := foldT c (prs x) []
theorem W_len {ws sh : List Str} {x : Xp} {c : Str} (o : x.ok ws sh) (h : ws.length + sh.length < 60) : (W c x).length < 64 := by
  have := len_sub (l := W c x) (m := ws ++ (sh ++ CALLS)) (foldT_nd _ List.nodup_nil) fun v hv => by
    rcases foldT_mem _ hv with k | k
    · exact nomatch k
    · obtain ⟨y, hy, e⟩ := List.mem_filterMap.mp k
      exact own_in (subs_ok o hy) e
  rw [List.length_append, List.length_append] at this
  have e4 : CALLS.length = 4 := rfl
  omega
section
variable {s st : S} {Q QD : D → S → Prop} {QB : Bool → S → Prop} {es : Ev}
theorem wp_extend {n m : Nat} {xs ys : List D} (h1 : getW s n = some xs) (h2 : getW s m = some ys) (hl : xs.length + ys.length ≤ 1000000) (q : QD .non (s.set n (.lst (xs ++ ys)))) : Wp (mExtend (.loc n) [.loc m] s) QD := by
  unfold mExtend
  simp only [h1, h2]
  rw [if_pos hl]
  exact q
theorem wp_inTS {x : Str} {ns : List Str} (q : QB (ns.any fun z => z == x) s) : Wp (kInA (.str x) (.tup (ns.map D.str)) s) QB := by
  show Wp (kIn (.str x) (.tup (ns.map D.str)) s) QB
  unfold kIn
  rw [show seqOf (.tup (ns.map D.str)) s = some (ns.map D.str) from rfl]
  dsimp only
  have h1 : (ns.map D.str).all flatD = true := by
    rw [List.all_map]
    exact List.all_eq_true.mpr fun _ _ => rfl
  rw [if_pos ⟨rfl, h1⟩]
  have h2 : ((ns.map D.str).any fun z => eqF z (.str x)) = ns.any fun z => z == x := by
    rw [List.any_map]
    rfl
  rw [h2]
  exact q
theorem wp_sortP {j i1 i2 l : Nat} {c : Str} {ps : List (Str × Str)} (he : es[j]? = some (some (.loc l))) (hl : getL st l = some (ps.map pD)) (hz : (foldT c ps []).length < 64) (h1 : i1 < es.length) (h2 : i2 < es.length) (q : QD (.loc st.length) (st ++ [.lst ((sortT (foldT c ps [])).map D.str)])) : Wp (cSortP j i1 i2 c es st) QD := by
  unfold cSortP
  rw [he]
  dsimp only
  rw [hl]
  dsimp only
  rw [pairsT_map]
  dsimp only
  rw [if_pos ⟨hz, h1, h2⟩]
  exact q
theorem wp_sortS {l : Nat} {ys : List Str} (hl : getL s l = some (ys.map D.str)) (hz : ys.length < 64) (q : QD (.loc s.length) (s ++ [.lst ((sortT ys).map D.str)])) : Wp (fSortS [.loc l] s) QD := by
  unfold fSortS
  dsimp only
  rw [hl]
  dsimp only
  rw [textsD_map]
  dsimp only
  rw [if_pos hz]
  exact q
theorem partsA_wp (x : Xp) (q : Q (.tup (x.parts.map Xp.d)) st) : Wp (F_parts_within [x.d] st) Q := by
  cases x with
  | num n =>
    unfold F_parts_within b_parts_within
    simp only [Xp.d, Xp.parts, List.map_nil] at *
    refine wp_fn rfl ?_
    walk_at "zz"
    exact q
  | nm n =>
    unfold F_parts_within b_parts_within
    simp only [Xp.d, Xp.parts, List.map_nil] at *
    refine wp_fn rfl ?_
    walk_at "zz"
    exact q
  | _ => exact partsT_wp (fun _ h => (nomatch h)) (fun _ h => (nomatch h)) q
def SORTS : List Str := ["name", "read", "call"]
def PairR (R : List D → S → R D) (k : Nat) (x : Xp) : Prop := ∀ (s : S) (Q : D → S → Prop), (∀ (l : Nat) (t : S), Gr s t → t[l]? = some (.lst ((prs x).map pD)) → s.length ≤ l → (prs x).length ≤ sz k → Q (.loc l) t) → Wp (R [x.d] s) Q
end
end K01
end
section
set_option Elab.async false
set_option linter.all false
set_option maxRecDepth 100000
set_option maxHeartbeats 2000000
open PySem PySem.Spec PyProof.Rows L2 Z
local macro_rules | `(tactic| fail "zs") => `(tactic| first
  | assumption
  | with_reducible exact at_last
  | (with_reducible apply at_set; fail "zs")
  | (with_reducible apply at_app; fail "zs")
  | (with_reducible apply at_setne; (first | assumption | (apply Ne.symm; assumption) | omega); fail "zs")
  | (with_reducible refine Gr.keep (by assumption) ?_; fail "zs")
  | (with_reducible refine Gx.keep (by assumption) ?_ ?_; (first | assumption | (apply Ne.symm; assumption) | omega); fail "zs"))
local macro_rules | `(tactic| fail "zg") => `(tactic| first
  | assumption
  | (with_reducible apply getL_of; fail "zs")
  | (with_reducible apply getW_of; fail "zs")
  | (with_reducible apply getI_of; fail "zs"))
local macro_rules | `(tactic| fail "za") => `(tactic| first | (with_reducible apply atI_int; (first | assumption | omega); (first | assumption | omega | (simp only [List.length_set]; omega))) | with_unfolding_all exact rfl | assumption)
local macro_rules | `(tactic| fail "y0") => `(tactic| first
  | (with_reducible refine' wp_var ?z1 ?z2; (case z1 => with_unfolding_all exact rfl))
  | with_reducible refine wp_c2 ?_
  | with_reducible refine wp_cons ?_
  | with_reducible refine wp_c ?_
  | with_reducible refine wp_nil ?_
  | with_reducible refine wp_call ?_
  | with_reducible refine wp_c1 ?_)
local macro_rules | `(tactic| fail "y1") => `(tactic| first
  | with_reducible refine wp_set ?_
  | with_reducible refine wp_if ?_
  | with_reducible refine wp_next ?_
  | with_reducible refine wp_ret ?_
  | with_reducible refine af_nx ?_
  | with_reducible refine bk_rt ?_
  | (with_reducible refine' wp_ixL ?z1 ?z2 ?z3; (case z1 => fail "zg"); (case z2 => fail "za"))
  | (with_reducible refine' wp_ixT ?z1 ?z2; (case z1 => fail "za")))
local macro_rules | `(tactic| fail "y2") => `(tactic| first
  | with_reducible refine af_rt ?_
  | with_reducible refine af_bk ?_
  | with_reducible refine bk_nx ?_
  | with_reducible refine turned_nx ?_
  | with_reducible refine turned_bk ?_
  | with_reducible refine turned_rt ?_
  | with_reducible refine wp_and ?_
  | with_reducible refine wp_or ?_)
local macro_rules | `(tactic| fail "y3") => `(tactic| first
  | with_reducible refine wp_not ?_
  | with_reducible refine wp_sub ?_
  | with_reducible refine wp_subA ?_
  | with_reducible refine wp_chain ?_
  | with_reducible refine wp_neAI ?_
  | with_reducible refine wp_neAS ?_
  | with_reducible refine wp_dic0 ?_
  | with_reducible refine wp_drop ?_)
local macro_rules | `(tactic| fail "y4") => `(tactic| first
  | with_reducible refine wp_vK ?_
  | with_reducible refine wp_nox ?_
  | with_reducible refine wp_break ?_
  | with_reducible refine wp_retN ?_
  | with_reducible refine wp_sfld ?_
  | with_reducible refine wp_yes ?_
  | with_reducible refine wp_addI ?_
  | with_reducible refine wp_subI ?_)
local macro_rules | `(tactic| fail "y5") => `(tactic| first
  | with_reducible refine wp_neg ?_
  | with_reducible refine wp_eqI ?_
  | with_reducible refine wp_neI ?_
  | with_reducible refine wp_ltI ?_
  | with_reducible refine wp_leI ?_
  | with_reducible refine wp_gtI ?_
  | with_reducible refine wp_geI ?_
  | with_reducible refine wp_eqS ?_)
local macro_rules | `(tactic| fail "y6") => `(tactic| first
  | with_reducible refine wp_neS ?_
  | with_reducible refine wp_eqB ?_
  | with_reducible refine wp_isN ?_
  | with_reducible refine wp_isNotN ?_
  | with_reducible refine wp_int ?_
  | with_reducible refine wp_max2 ?_
  | with_reducible refine wp_min2 ?_
  | with_reducible refine wp_tr_bl ?_)
local macro_rules | `(tactic| fail "y7") => `(tactic| first
  | with_reducible refine wp_tr_int ?_
  | with_reducible refine wp_tupT ?_
  | with_reducible refine wp_slT ?_
  | with_reducible refine wp_nopart ?_
  | with_reducible refine wp_lst ?_
  | with_reducible refine wp_tup ?_
  | with_reducible refine wp_slice ?_
  | with_reducible refine wp_callK ?_)
local macro_rules | `(tactic| fail "y8") => `(tactic| first
  | with_reducible refine wp_make ?_
  | with_reducible refine wp_meth ?_
  | with_reducible refine wp_is ?_
  | with_reducible refine wp_vand ?_
  | with_reducible refine wp_vor ?_
  | with_reducible refine wp_vnot ?_
  | with_reducible refine wp_asg ?_
  | with_reducible refine wp_part ?_)
local macro_rules | `(tactic| fail "y9") => `(tactic| first
  | with_reducible refine wp_forR1 ?_
  | with_reducible refine wp_forR2 ?_
  | with_reducible refine wp_compR1 ?_
  | with_reducible refine wp_compR2 ?_
  | (with_reducible refine' wp_ixAL ?z1 ?z2 ?z3; (case z1 => fail "zg"); (case z2 => fail "za"))
  | (with_reducible refine' wp_ixAT ?z1 ?z2; (case z1 => fail "za"))
  | (with_reducible refine' and_isL ?z1 ?z2; (case z1 => fail "zg"))
  | (with_reducible refine' wp_append ?z1 ?z2 ?z3; (case z1 => fail "zg"); (case z2 => first | omega | (simp only [List.length_map, List.length_append, List.length_cons, List.length_nil]; omega))))
local macro_rules | `(tactic| fail "y10") => `(tactic| first
  | (with_reducible refine' wp_lenL ?z1 ?z2; (case z1 => fail "zg"))
  | with_reducible refine wp_lenT ?_
  | (with_reducible refine' wp_lenAL ?z1 ?z2; (case z1 => fail "zg"))
  | with_reducible refine wp_lenAT ?_
  | (with_reducible refine' wp_listL ?z1 ?z2; (case z1 => fail "zg"))
  | with_reducible refine wp_listT ?_
  | with_reducible refine ex_bl ?_
  | (with_reducible refine' ex_ty ?z1 ?z2 ?z3; (case z1 => with_unfolding_all exact rfl); (case z2 => with_unfolding_all exact rfl)))
local macro_rules | `(tactic| fail "y11") => `(tactic| first
  | (with_reducible refine' wp_mulT ?z1 ?z2 ?z3; (case z1 => omega); (case z2 => omega))
  | (with_reducible refine' wp_setF ?z1 ?z2 ?z3; (case z1 => fail "zg"); (case z2 => with_unfolding_all exact Nat.le_of_ble_eq_true rfl))
  | (with_reducible refine' wp_setInt ?z1 ?z2 ?z3 ?z4; (case z1 => fail "zg"); (case z2 => first | assumption | omega); (case z3 => first | assumption | omega | (simp only [List.length_set]; omega)))
  | (with_reducible refine' wp_setIx ?z1 ?z2 ?z3; (case z1 => fail "zg"); (case z2 => first | (with_reducible apply ixN_of; (first | assumption | omega); (first | assumption | omega | (rw [List.length_map]; omega))) | with_unfolding_all exact rfl | assumption))
  | (with_reducible refine' wp_setAI ?z1 ?z2 ?z3 ?z4; (case z1 => fail "zg"); (case z2 => first | assumption | omega); (case z3 => first | assumption | omega | (simp only [List.length_set]; omega)))
  | (with_reducible refine' wp_setAX ?z1 ?z2 ?z3; (case z1 => fail "zg"); (case z2 => first | (with_reducible apply ixN_of; (first | assumption | omega); (first | assumption | omega | (rw [List.length_map]; omega))) | with_unfolding_all exact rfl | assumption))
  | (with_reducible refine' wp_modI ?z1 ?z2; (case z1 => omega))
  | (with_reducible refine' wp_divA0 ?z1 ?z2 ?z3; (case z1 => omega); (case z2 => omega)))
local macro_rules | `(tactic| fail "y12") => `(tactic| first
  | (with_reducible refine' wp_mulA ?z1 ?z2; (case z1 => omega))
  | (with_reducible refine' wp_divI ?z1 ?z2 ?z3; (case z1 => omega); (case z2 => omega))
  | (with_reducible refine' wp_mulI ?z1 ?z2; (case z1 => omega))
  | (with_reducible refine' wp_powI ?z1 ?z2; (case z1 => with_unfolding_all decide))
  | (with_reducible refine' wp_fld ?z1 ?z2 ?z3; (case z1 => fail "zg"); (case z2 => first | with_unfolding_all exact rfl | assumption))
  | (with_reducible refine' wp_prop ?z1 ?z2; (case z1 => fail "zg"))
  | (with_reducible refine' wp_tupL ?z1 ?z2; (case z1 => fail "zg"))
  | (with_reducible refine' And.intro ?z1 ?z2; (case z1 => first | with_unfolding_all exact Nat.le_of_ble_eq_true rfl | with_unfolding_all decide)))
local macro_rules | `(tactic| fail "z0") => `(tactic| first | fail "y0" | fail "y1" | fail "y2" | fail "y3" | fail "y4" | fail "y5" | fail "y6" | fail "y7" | fail "y8" | fail "y9" | fail "y10" | fail "y11" | fail "y12")
local macro_rules | `(tactic| fail "z1") => `(tactic| first | with_reducible refine wp_seq ?_ | fail "z0")
local macro_rules | `(tactic| walk_at "z") => `(tactic| (repeat fail "z1"))
local macro_rules | `(tactic| fail "zb") => `(tactic| (with_reducible refine And.intro ?_ ?_; (all_goals (intro hb; first | (simp at hb; done) | (simp at hb; skip) | skip))))
local macro_rules | `(tactic| walk_at "zz") => `(tactic| (repeat' (first | fail "z1" | fail "zb")))
local macro_rules | `(tactic| walk_at "zy") => `(tactic| (repeat' (first | fail "z0" | fail "zb")))
local macro_rules | `(tactic| walk_at "zn") => `(tactic| (with_reducible refine wp_seq ?_; walk_at "zy"))
local macro_rules | `(tactic| walk_at "zs") => `(tactic| fail "zs")
local macro_rules | `(tactic| walk_at "zg") => `(tactic| fail "zg")
local macro_rules | `(tactic| walk_at "za") => `(tactic| fail "za")
local macro_rules | `(tactic| walk_at "z0") => `(tactic| fail "z0")
local macro_rules | `(tactic| walk_at "z1") => `(tactic| fail "z1")
local macro_rules | `(tactic| walk_at "zb") => `(tactic| fail "zb")
namespace K01
open PySem PySem.Spec PyProof.Rows L2 Z
local macro_rules | `(tactic| fail "zb") => `(tactic| (with_reducible refine And.intro ?_ ?_; (all_goals (intro hb; first | (exact absurd hb (by decide)) | (simp at hb; done) | (simp only [decide_eq_true_eq, decide_eq_false_iff_not, Bool.not_eq_true', Bool.not_eq_false'] at hb; skip) | skip))))
section
variable {s st : S} {Q QD : D → S → Prop} {QB : Bool → S → Prop} {es : Ev} {ws sh : List Str}
theorem flat_takeP {i : Nat} {p : Xp} {ps : List Xp} (h : ps[i]? = some p) : (ps.take (i + 1)).flatMap prs = (ps.take i).flatMap prs ++ prs p := by
  rw [List.take_succ, h, List.flatMap_append]
  simp
theorem own_len (x : Xp) : (own x).toList.length ≤ 1 := by cases x <;> simp [own]
theorem pairs_ih : ∀ (n k : Nat) (x : Xp), x.dep ≤ k → k ≤ n → k ≤ 12 → PairR (R_pairs_within n) k x
  | 0, k, x, h, h2, _ => by cases x <;> simp [Xp.dep] at h <;> omega
  | n + 1, k, x, h, h2, h3 => by
    intro s Q q
    have ih : ∀ p ∈ x.parts, PairR (R_pairs_within n) (k - 1) p := fun p hp => pairs_ih n (k - 1) p (by have := part_dep hp; omega) (by omega) (by omega)
    have k1 : 1 ≤ k := by cases x <;> simp [Xp.dep] at h <;> omega
    have szk : sz k = 1 + 3 * sz (k - 1) := by
      rw [show k = (k - 1) + 1 by omega]
      rfl
    have szb : sz k ≤ 265720 := sz12 ▸ sz_mono h3
    have p3 := parts3 x
    have ol := own_len x
    show Wp (fnD 3 1 (b_pairs_within (R_pairs_within n)) [x.d] s) Q
    revert ih
    generalize R_pairs_within n = R1
    intro ih
    unfold b_pairs_within
    refine wp_fn rfl ?_
    refine wp_mid (fun e t => e = [some x.d, some (.loc s.length), none] ∧ Gr s t ∧ t[s.length]? = some (.lst (([] : List (Str × Str)).map pD))) ?_ ?_
    · walk_at "zy"
      exact ⟨_, rfl, rfl, Gr.app, at_last⟩
    rintro e s1 ⟨rfl, g1, e1⟩
    refine wp_mid (fun e t => e = [some x.d, some (.loc s.length), none] ∧ Gr s t ∧ t[s.length]? = some (.lst ((own x).toList.map pD))) ?_ ?_
    · cases x with
      | _ =>
        simp only [Xp.d, own, Option.toList_some, Option.toList_none, List.map_cons, List.map_nil, pD] at *
        walk_at "zy"
        refine wp_inTS (ns := SORTS) ?_
        walk_at "zy"
        all_goals first
          | exact ⟨_, rfl, rfl, g1, e1⟩
          | exact ⟨_, rfl, rfl, g1.setNew (Nat.le_refl _), at_set e1⟩
          | (exfalso; revert hb; decide)
          | skip
    clear g1 e1 s1
    rintro e s1 ⟨rfl, g1, e1⟩
    refine wp_mid (fun e t => ∃ v : Option D, e = [some x.d, some (.loc s.length), v] ∧ Gr s t ∧ t[s.length]? = some (.lst ((prs x).map pD)) ∧ (prs x).length ≤ sz k) ?_ ?_
    · refine wp_for_tup (xs := x.parts.map Xp.d) ?_
      walk_at "zy"
      refine partsA_wp x ?_
      refine ⟨rfl, ?_⟩
      refine wp_forT (fun i e t => ∃ (v : Option D) (ys : List (Str × Str)), e = [some x.d, some (.loc s.length), v] ∧ Gr s t ∧ t[s.length]? = some (.lst (ys.map pD)) ∧ ys = (own x).toList ++ (x.parts.take i).flatMap prs ∧ ys.length ≤ 1 + i * sz (k - 1)) ⟨none, (own x).toList, rfl, g1, e1, by simp, by omega⟩ ?_ ?_
      · rintro i d es t hd ⟨v, ys, rfl, g, e, ey, ly⟩
        rw [List.getElem?_map] at hd
        cases ep : x.parts[i]? with
        | none => rw [ep] at hd; cases hd
        | some p =>
          rw [ep] at hd
          cases hd
          have hi := (List.getElem?_eq_some_iff.mp ep).1
          have lb : (i + 1) * sz (k - 1) ≤ 3 * sz (k - 1) := Nat.mul_le_mul_right _ (by omega)
          refine ⟨_, rfl, ?_⟩
          walk_at "zy"
          refine ih p (List.mem_of_getElem? ep) t _ ?_
          intro l2 t2 g2 e2 ll lp
          have lt : ys.length + (prs p).length ≤ 1 + (i + 1) * sz (k - 1) := by
            rw [Nat.add_mul, Nat.one_mul]
            omega
          walk_at "zy"
          refine wp_extend (getW_of (g2.keep e)) (getW_of e2) (by rw [List.length_map, List.length_map]; omega) ?_
          walk_at "zy"
          refine ⟨_, ys ++ prs p, rfl, (g.trans g2).setNew (Nat.le_refl _), ?_, by rw [flat_takeP ep, ey, List.append_assoc], by rw [List.length_append]; exact lt⟩
          rw [List.map_append]
          exact at_set (g2.keep e)
      · rintro es t ⟨v, ys, rfl, g, e, ey, ly⟩
        rw [List.length_map] at ey ly
        rw [List.take_length, ← prs_eq] at ey
        subst ey
        have lb : x.parts.length * sz (k - 1) ≤ 3 * sz (k - 1) := Nat.mul_le_mul_right _ (by omega)
        exact ⟨_, rfl, v, rfl, g, e, by omega⟩
    rintro e t ⟨v, rfl, g, e, l⟩
    walk_at "zz"
    exact q _ _ g e (Nat.le_refl _) l
end
end K01
end
section
set_option Elab.async false
set_option linter.all false
set_option maxRecDepth 100000
set_option maxHeartbeats 2000000
open PySem PySem.Spec PyProof.Rows L2 Z
local macro_rules | `(tactic| fail "zs") => `(tactic| first
  | assumption
  | with_reducible exact at_last
  | (with_reducible apply at_set; fail "zs")
  | (with_reducible apply at_app; fail "zs")
  | (with_reducible apply at_setne; (first | assumption | (apply Ne.symm; assumption) | omega); fail "zs")
  | (with_reducible refine Gr.keep (by assumption) ?_; fail "zs")
  | (with_reducible refine Gx.keep (by assumption) ?_ ?_; (first | assumption | (apply Ne.symm; assumption) | omega); fail "zs"))
local macro_rules | `(tactic| fail "zg") => `(tactic| first
  | assumption
  | (with_reducible apply getL_of; fail "zs")
  | (with_reducible apply getW_of; fail "zs")
  | (with_reducible apply getI_of; fail "zs"))
local macro_rules | `(tactic| fail "za") => `(tactic| first | (with_reducible apply atI_int; (first | assumption | omega); (first | assumption | omega | (simp only [List.length_set]; omega))) | with_unfolding_all exact rfl | assumption)
local macro_rules | `(tactic| fail "y0") => `(tactic| first
  | (with_reducible refine' wp_var ?z1 ?z2; (case z1 => with_unfolding_all exact rfl))
  | with_reducible refine wp_c2 ?_
  | with_reducible refine wp_cons ?_
  | with_reducible refine wp_c ?_
  | with_reducible refine wp_nil ?_
  | with_reducible refine wp_call ?_
  | with_reducible refine wp_c1 ?_)
local macro_rules | `(tactic| fail "y1") => `(tactic| first
  | with_reducible refine wp_set ?_
  | with_reducible refine wp_if ?_
  | with_reducible refine wp_next ?_
  | with_reducible refine wp_ret ?_
  | with_reducible refine af_nx ?_
  | with_reducible refine bk_rt ?_
  | (with_reducible refine' wp_ixL ?z1 ?z2 ?z3; (case z1 => fail "zg"); (case z2 => fail "za"))
  | (with_reducible refine' wp_ixT ?z1 ?z2; (case z1 => fail "za")))
local macro_rules | `(tactic| fail "y2") => `(tactic| first
  | with_reducible refine af_rt ?_
  | with_reducible refine af_bk ?_
  | with_reducible refine bk_nx ?_
  | with_reducible refine turned_nx ?_
  | with_reducible refine turned_bk ?_
  | with_reducible refine turned_rt ?_
  | with_reducible refine wp_and ?_
  | with_reducible refine wp_or ?_)
local macro_rules | `(tactic| fail "y3") => `(tactic| first
  | with_reducible refine wp_not ?_
  | with_reducible refine wp_sub ?_
  | with_reducible refine wp_subA ?_
  | with_reducible refine wp_chain ?_
  | with_reducible refine wp_neAI ?_
  | with_reducible refine wp_neAS ?_
  | with_reducible refine wp_dic0 ?_
  | with_reducible refine wp_drop ?_)
local macro_rules | `(tactic| fail "y4") => `(tactic| first
  | with_reducible refine wp_vK ?_
  | with_reducible refine wp_nox ?_
  | with_reducible refine wp_break ?_
  | with_reducible refine wp_retN ?_
  | with_reducible refine wp_sfld ?_
  | with_reducible refine wp_yes ?_
  | with_reducible refine wp_addI ?_
  | with_reducible refine wp_subI ?_)
local macro_rules | `(tactic| fail "y5") => `(tactic| first
  | with_reducible refine wp_neg ?_
  | with_reducible refine wp_eqI ?_
  | with_reducible refine wp_neI ?_
  | with_reducible refine wp_ltI ?_
  | with_reducible refine wp_leI ?_
  | with_reducible refine wp_gtI ?_
  | with_reducible refine wp_geI ?_
  | with_reducible refine wp_eqS ?_)
local macro_rules | `(tactic| fail "y6") => `(tactic| first
  | with_reducible refine wp_neS ?_
  | with_reducible refine wp_eqB ?_
  | with_reducible refine wp_isN ?_
  | with_reducible refine wp_isNotN ?_
  | with_reducible refine wp_int ?_
  | with_reducible refine wp_max2 ?_
  | with_reducible refine wp_min2 ?_
  | with_reducible refine wp_tr_bl ?_)
local macro_rules | `(tactic| fail "y7") => `(tactic| first
  | with_reducible refine wp_tr_int ?_
  | with_reducible refine wp_tupT ?_
  | with_reducible refine wp_slT ?_
  | with_reducible refine wp_nopart ?_
  | with_reducible refine wp_lst ?_
  | with_reducible refine wp_tup ?_
  | with_reducible refine wp_slice ?_
  | with_reducible refine wp_callK ?_)
local macro_rules | `(tactic| fail "y8") => `(tactic| first
  | with_reducible refine wp_make ?_
  | with_reducible refine wp_meth ?_
  | with_reducible refine wp_is ?_
  | with_reducible refine wp_vand ?_
  | with_reducible refine wp_vor ?_
  | with_reducible refine wp_vnot ?_
  | with_reducible refine wp_asg ?_
  | with_reducible refine wp_part ?_)
local macro_rules | `(tactic| fail "y9") => `(tactic| first
  | with_reducible refine wp_forR1 ?_
  | with_reducible refine wp_forR2 ?_
  | with_reducible refine wp_compR1 ?_
  | with_reducible refine wp_compR2 ?_
  | (with_reducible refine' wp_ixAL ?z1 ?z2 ?z3; (case z1 => fail "zg"); (case z2 => fail "za"))
  | (with_reducible refine' wp_ixAT ?z1 ?z2; (case z1 => fail "za"))
  | (with_reducible refine' and_isL ?z1 ?z2; (case z1 => fail "zg"))
  | (with_reducible refine' wp_append ?z1 ?z2 ?z3; (case z1 => fail "zg"); (case z2 => first | omega | (simp only [List.length_map, List.length_append, List.length_cons, List.length_nil]; omega))))
local macro_rules | `(tactic| fail "y10") => `(tactic| first
  | (with_reducible refine' wp_lenL ?z1 ?z2; (case z1 => fail "zg"))
  | with_reducible refine wp_lenT ?_
  | (with_reducible refine' wp_lenAL ?z1 ?z2; (case z1 => fail "zg"))
  | with_reducible refine wp_lenAT ?_
  | (with_reducible refine' wp_listL ?z1 ?z2; (case z1 => fail "zg"))
  | with_reducible refine wp_listT ?_
  | with_reducible refine ex_bl ?_
  | (with_reducible refine' ex_ty ?z1 ?z2 ?z3; (case z1 => with_unfolding_all exact rfl); (case z2 => with_unfolding_all exact rfl)))
local macro_rules | `(tactic| fail "y11") => `(tactic| first
  | (with_reducible refine' wp_mulT ?z1 ?z2 ?z3; (case z1 => omega); (case z2 => omega))
  | (with_reducible refine' wp_setF ?z1 ?z2 ?z3; (case z1 => fail "zg"); (case z2 => with_unfolding_all exact Nat.le_of_ble_eq_true rfl))
  | (with_reducible refine' wp_setInt ?z1 ?z2 ?z3 ?z4; (case z1 => fail "zg"); (case z2 => first | assumption | omega); (case z3 => first | assumption | omega | (simp only [List.length_set]; omega)))
  | (with_reducible refine' wp_setIx ?z1 ?z2 ?z3; (case z1 => fail "zg"); (case z2 => first | (with_reducible apply ixN_of; (first | assumption | omega); (first | assumption | omega | (rw [List.length_map]; omega))) | with_unfolding_all exact rfl | assumption))
  | (with_reducible refine' wp_setAI ?z1 ?z2 ?z3 ?z4; (case z1 => fail "zg"); (case z2 => first | assumption | omega); (case z3 => first | assumption | omega | (simp only [List.length_set]; omega)))
  | (with_reducible refine' wp_setAX ?z1 ?z2 ?z3; (case z1 => fail "zg"); (case z2 => first | (with_reducible apply ixN_of; (first | assumption | omega); (first | assumption | omega | (rw [List.length_map]; omega))) | with_unfolding_all exact rfl | assumption))
  | (with_reducible refine' wp_modI ?z1 ?z2; (case z1 => omega))
  | (with_reducible refine' wp_divA0 ?z1 ?z2 ?z3; (case z1 => omega); (case z2 => omega)))
local macro_rules | `(tactic| fail "y12") => `(tactic| first
  | (with_reducible refine' wp_mulA ?z1 ?z2; (case z1 => omega))
  | (with_reducible refine' wp_divI ?z1 ?z2 ?z3; (case z1 => omega); (case z2 => omega))
  | (with_reducible refine' wp_mulI ?z1 ?z2; (case z1 => omega))
  | (with_reducible refine' wp_powI ?z1 ?z2; (case z1 => with_unfolding_all decide))
  | (with_reducible refine' wp_fld ?z1 ?z2 ?z3; (case z1 => fail "zg"); (case z2 => first | with_unfolding_all exact rfl | assumption))
  | (with_reducible refine' wp_prop ?z1 ?z2; (case z1 => fail "zg"))
  | (with_reducible refine' wp_tupL ?z1 ?z2; (case z1 => fail "zg"))
  | (with_reducible refine' And.intro ?z1 ?z2; (case z1 => first | with_unfolding_all exact Nat.le_of_ble_eq_true rfl | with_unfolding_all decide)))
local macro_rules | `(tactic| fail "z0") => `(tactic| first | fail "y0" | fail "y1" | fail "y2" | fail "y3" | fail "y4" | fail "y5" | fail "y6" | fail "y7" | fail "y8" | fail "y9" | fail "y10" | fail "y11" | fail "y12")
local macro_rules | `(tactic| fail "z1") => `(tactic| first | with_reducible refine wp_seq ?_ | fail "z0")
local macro_rules | `(tactic| walk_at "z") => `(tactic| (repeat fail "z1"))
local macro_rules | `(tactic| fail "zb") => `(tactic| (with_reducible refine And.intro ?_ ?_; (all_goals (intro hb; first | (simp at hb; done) | (simp at hb; skip) | skip))))
local macro_rules | `(tactic| walk_at "zz") => `(tactic| (repeat' (first | fail "z1" | fail "zb")))
local macro_rules | `(tactic| walk_at "zy") => `(tactic| (repeat' (first | fail "z0" | fail "zb")))
local macro_rules | `(tactic| walk_at "zn") => `(tactic| (with_reducible refine wp_seq ?_; walk_at "zy"))
local macro_rules | `(tactic| walk_at "zs") => `(tactic| fail "zs")
local macro_rules | `(tactic| walk_at "zg") => `(tactic| fail "zg")
local macro_rules | `(tactic| walk_at "za") => `(tactic| fail "za")
local macro_rules | `(tactic| walk_at "z0") => `(tactic| fail "z0")
local macro_rules | `(tactic| walk_at "z1") => `(tactic| fail "z1")
local macro_rules | `(tactic| walk_at "zb") => `(tactic| fail "zb")
namespace K01
open PySem PySem.Spec PyProof.Rows L2 Z
local macro_rules | `(tactic| fail "zb") => `(tactic| (with_reducible refine And.intro ?_ ?_; (all_goals (intro hb; first | (exact absurd hb (by decide)) | (simp at hb; done) | (simp only [decide_eq_true_eq, decide_eq_false_iff_not, Bool.not_eq_true', Bool.not_eq_false'] at hb; skip) | skip))))
section
variable {s st : S} {Q QD : D → S → Prop} {QB : Bool → S → Prop} {es : Ev} {ws sh : List Str} {x : Xp} {c : Str} {l m : Nat} {xs : List Xp}
/-- the words of a sort, in order -/
def tw (c : Str) (x : Xp) : List Str := sortT (W c x)
theorem tw_len (o : x.ok ws sh) (h : ws.length + sh.length < 60) : (tw c x).length < 64 := by
  have := (sortT_perm (W c x)).length_eq
  have := W_len (c := c) o h
  unfold tw
  omega
theorem words_of_wp (o : Xok ws sh 12 x) (h : ws.length + sh.length < 60) (q : ∀ t, Gr s t → Q (.tup [.tup ((tw "name" x).map D.str), .tup ((tw "read" x).map D.str), .tup ((tw "call" x).map D.str)]) t) : Wp (F_words_of [x.d] s) Q := by
  unfold F_words_of b_words_of
  refine wp_fn rfl ?_
  walk_at "zn"
  refine pairs_ih 16 12 x o.2 (by decide) (by decide) s _ ?_
  intro l t g e ll lp
  refine af_nx (wp_seq (wp_set (wp_sortP rfl (getL_of e) (W_len o.1 h) (by show 5 < 7; decide) (by show 6 < 7; decide) ?_)))
  refine af_nx (wp_seq (wp_set (wp_sortP rfl (getL_of (at_app e)) (W_len o.1 h) (by show 5 < 7; decide) (by show 6 < 7; decide) ?_)))
  refine af_nx (wp_seq (wp_set (wp_sortP rfl (getL_of (at_app (at_app e))) (W_len o.1 h) (by show 5 < 7; decide) (by show 6 < 7; decide) ?_)))
  have h1 := at_app (t := [O.lst ((sortT (foldT "call" (prs x) [])).map D.str)]) (at_app (t := [O.lst ((sortT (foldT "read" (prs x) [])).map D.str)]) (at_last (s := t) (o := O.lst ((sortT (foldT "name" (prs x) [])).map D.str))))
  have h2 := at_app (t := [O.lst ((sortT (foldT "call" (prs x) [])).map D.str)]) (at_last (s := t ++ [O.lst ((sortT (foldT "name" (prs x) [])).map D.str)]) (o := O.lst ((sortT (foldT "read" (prs x) [])).map D.str)))
  have h3 := at_last (s := t ++ [O.lst ((sortT (foldT "name" (prs x) [])).map D.str)] ++ [O.lst ((sortT (foldT "read" (prs x) [])).map D.str)]) (o := O.lst ((sortT (foldT "call" (prs x) [])).map D.str))
  walk_at "zy"
  exact q _ (((g.trans Gr.app).trans Gr.app).trans Gr.app)
theorem wp_notInL2 {ns : List Str} {w : Str} {n : Nat} (h : getL s n = some (ns.map D.str)) (q : QB (!(ns.any fun z => z == w)) s) : Wp (kNotInA (.str w) (.loc n) s) QB := by
  unfold kNotInA
  dsimp only
  rw [getK_l h]
  exact wp_bind (wp_inStr (QB := fun b s => QB (!b) s) h q)
theorem any_mem {ns : List Str} {w : Str} : (ns.any fun z => z == w) = decide (w ∈ ns) := by
  rw [Bool.eq_iff_iff, List.any_eq_true, decide_eq_true_eq]
  exact ⟨fun ⟨z, h, e⟩ => by
    have e : z = w := by simpa using e
    exact e ▸ h, fun h => ⟨w, h, by simp⟩⟩
theorem addS_in {S : List Str} {w : Str} (h : w ∈ S) : addS S w = S := if_pos h
theorem addS_out {S : List Str} {w : Str} (h : w ∉ S) : addS S w = S ++ [w] := if_neg h
/-- what a turn of the law's words does -/
def stp (c : Str) (y : Xp) (S : List Str) : List Str := foldT c (own y).toList S
theorem stp_eq {i : Nat} {y : Xp} (h : xs[i]? = some y) : foldT c ((xs.take (i + 1)).filterMap own) [] = stp c y (foldT c ((xs.take i).filterMap own) []) := by
  rw [List.take_succ, h, List.filterMap_append, foldT_app]
  show foldT c ([y].filterMap own) _ = foldT c (own y).toList _
  cases e : own y with
  | none => rw [List.filterMap_cons, e]; rfl
  | some p => rw [List.filterMap_cons, e]; rfl
theorem lwords_wp (hc : c ∈ SORTS) (hl : s[l]? = some (.lst (xs.map Xp.d))) (hx : xs.length < 1000000) (hz : (foldT c (xs.filterMap own) []).length < 64) (q : ∀ (m : Nat) (t : S), Gr s t → t[m]? = some (.lst ((sortT (foldT c (xs.filterMap own) [])).map D.str)) → Q (.loc m) t) : Wp (F_law_words [.loc l, .str c] s) Q := by
  unfold F_law_words b_law_words
  refine wp_fn rfl ?_
  refine wp_mid (fun e t => e = [some (.loc l), some (.str c), some (.loc s.length), none] ∧ Gr s t ∧ t[s.length]? = some (.lst (([] : List Str).map D.str))) ?_ ?_
  · walk_at "zy"
    exact ⟨_, rfl, rfl, Gr.app, at_last⟩
  rintro e s1 ⟨rfl, g1, e1⟩
  refine wp_mid (fun e t => ∃ v : Option D, e = [some (.loc l), some (.str c), some (.loc s.length), v] ∧ Gr s t ∧ t[s.length]? = some (.lst ((foldT c (xs.filterMap own) []).map D.str))) ?_ ?_
  · refine wp_forAL rfl (getL_of (g1.keep hl)) ?_
    refine wp_forL (xs := xs.map Xp.d) (fun i e t => ∃ v : Option D, e = [some (.loc l), some (.str c), some (.loc s.length), v] ∧ Gr s t ∧ t[s.length]? = some (.lst ((foldT c ((xs.take i).filterMap own) []).map D.str))) ⟨none, rfl, g1, e1⟩ ?_ (by rw [List.length_map]; omega) ?_ ?_
    · rintro i es t - ⟨v, rfl, g, e⟩
      exact getL_of (g.keep hl)
    · rintro i d es t hd ⟨v, rfl, g, e⟩
      rw [List.getElem?_map] at hd
      cases ep : xs[i]? with
      | none => rw [ep] at hd; cases hd
      | some y =>
        rw [ep] at hd
        cases hd
        refine ⟨_, rfl, ?_⟩
        have lS : (foldT c ((xs.take i).filterMap own) []).length < 64 := by
          have := foldT_len (c := c) ((xs.drop i).filterMap own) (foldT c ((xs.take i).filterMap own) [])
          rw [← foldT_app, ← List.filterMap_append, List.take_append_drop] at this
          omega
        have fin : ∀ t2, (Gr s t2 ∧ t2[s.length]? = some (.lst ((stp c y (foldT c ((xs.take i).filterMap own) [])).map D.str))) → ∃ v : Option D, [some (.loc l), some (.str c), some (.loc s.length), some y.d] = [some (.loc l), some (.str c), some (.loc s.length), v] ∧ Gr s t2 ∧ t2[s.length]? = some (.lst ((foldT c ((xs.take (i + 1)).filterMap own) []).map D.str)) := fun t2 h => ⟨_, rfl, h.1, by rw [stp_eq ep]; exact h.2⟩
        revert fin lS e
        generalize foldT c ((xs.take i).filterMap own) [] = SS
        intro e lS fin
        have lS2 : (SS.map D.str).length < 1000000 := by rw [List.length_map]; omega
        have no : ∀ k w : Str, k ≠ c → own y = some (k, w) → stp c y SS = SS := fun k w h1 h2 => by
          unfold stp
          rw [h2]
          exact if_neg h1
        have ye : ∀ w : Str, own y = some (c, w) → stp c y SS = addS SS w := fun w h2 => by
          unfold stp
          rw [h2]
          exact if_pos rfl
        have nn : own y = none → stp c y SS = SS := fun h2 => by
          unfold stp
          rw [h2]
          rfl
        unfold SORTS at hc
        simp only [List.mem_cons, List.not_mem_nil, or_false] at hc
        rcases hc with rfl | rfl | rfl <;> cases y with
          | _ =>
            simp only [Xp.d] at *
            walk_at "zy"
            try refine wp_notInL2 (getL_of e) ?_
            try rw [any_mem]
            walk_at "zy"
            all_goals first
              | exact fin _ ⟨g, by rw [nn rfl]; exact e⟩
              | exact fin _ ⟨g, by rw [no _ _ (by decide) rfl]; exact e⟩
              | exact fin _ ⟨g, by rw [ye _ rfl, addS_in (by assumption)]; exact e⟩
              | exact fin _ ⟨g.setNew (Nat.le_refl _), by rw [ye _ rfl, addS_out (by assumption), List.map_append]; exact at_set e⟩
    · rintro es t ⟨v, rfl, g, e⟩
      rw [List.length_map, List.take_length] at e
      exact ⟨_, rfl, v, rfl, g, e⟩
  rintro e t ⟨v, rfl, g, e⟩
  walk_at "zy"
  refine wp_sortS (getL_of e) hz ?_
  walk_at "zy"
  exact q _ _ (g.trans Gr.app) at_last
end
end K01
end
section
set_option Elab.async false
set_option linter.all false
set_option maxRecDepth 100000
set_option maxHeartbeats 2000000
open PySem PySem.Spec PyProof.Rows L2 Z
local macro_rules | `(tactic| fail "zs") => `(tactic| first
  | assumption
  | with_reducible exact at_last
  | (with_reducible apply at_set; fail "zs")
  | (with_reducible apply at_app; fail "zs")
  | (with_reducible apply at_setne; (first | assumption | (apply Ne.symm; assumption) | omega); fail "zs")
  | (with_reducible refine Gr.keep (by assumption) ?_; fail "zs")
  | (with_reducible refine Gx.keep (by assumption) ?_ ?_; (first | assumption | (apply Ne.symm; assumption) | omega); fail "zs"))
local macro_rules | `(tactic| fail "zg") => `(tactic| first
  | assumption
  | (with_reducible apply getL_of; fail "zs")
  | (with_reducible apply getW_of; fail "zs")
  | (with_reducible apply getI_of; fail "zs"))
local macro_rules | `(tactic| fail "za") => `(tactic| first | (with_reducible apply atI_int; (first | assumption | omega); (first | assumption | omega | (simp only [List.length_set]; omega))) | with_unfolding_all exact rfl | assumption)
local macro_rules | `(tactic| fail "y0") => `(tactic| first
  | (with_reducible refine' wp_var ?z1 ?z2; (case z1 => with_unfolding_all exact rfl))
  | with_reducible refine wp_c2 ?_
  | with_reducible refine wp_cons ?_
  | with_reducible refine wp_c ?_
  | with_reducible refine wp_nil ?_
  | with_reducible refine wp_call ?_
  | with_reducible refine wp_c1 ?_)
local macro_rules | `(tactic| fail "y1") => `(tactic| first
  | with_reducible refine wp_set ?_
  | with_reducible refine wp_if ?_
  | with_reducible refine wp_next ?_
  | with_reducible refine wp_ret ?_
  | with_reducible refine af_nx ?_
  | with_reducible refine bk_rt ?_
  | (with_reducible refine' wp_ixL ?z1 ?z2 ?z3; (case z1 => fail "zg"); (case z2 => fail "za"))
  | (with_reducible refine' wp_ixT ?z1 ?z2; (case z1 => fail "za")))
local macro_rules | `(tactic| fail "y2") => `(tactic| first
  | with_reducible refine af_rt ?_
  | with_reducible refine af_bk ?_
  | with_reducible refine bk_nx ?_
  | with_reducible refine turned_nx ?_
  | with_reducible refine turned_bk ?_
  | with_reducible refine turned_rt ?_
  | with_reducible refine wp_and ?_
  | with_reducible refine wp_or ?_)
local macro_rules | `(tactic| fail "y3") => `(tactic| first
  | with_reducible refine wp_not ?_
  | with_reducible refine wp_sub ?_
  | with_reducible refine wp_subA ?_
  | with_reducible refine wp_chain ?_
  | with_reducible refine wp_neAI ?_
  | with_reducible refine wp_neAS ?_
  | with_reducible refine wp_dic0 ?_
  | with_reducible refine wp_drop ?_)
local macro_rules | `(tactic| fail "y4") => `(tactic| first
  | with_reducible refine wp_vK ?_
  | with_reducible refine wp_nox ?_
  | with_reducible refine wp_break ?_
  | with_reducible refine wp_retN ?_
  | with_reducible refine wp_sfld ?_
  | with_reducible refine wp_yes ?_
  | with_reducible refine wp_addI ?_
  | with_reducible refine wp_subI ?_)
local macro_rules | `(tactic| fail "y5") => `(tactic| first
  | with_reducible refine wp_neg ?_
  | with_reducible refine wp_eqI ?_
  | with_reducible refine wp_neI ?_
  | with_reducible refine wp_ltI ?_
  | with_reducible refine wp_leI ?_
  | with_reducible refine wp_gtI ?_
  | with_reducible refine wp_geI ?_
  | with_reducible refine wp_eqS ?_)
local macro_rules | `(tactic| fail "y6") => `(tactic| first
  | with_reducible refine wp_neS ?_
  | with_reducible refine wp_eqB ?_
  | with_reducible refine wp_isN ?_
  | with_reducible refine wp_isNotN ?_
  | with_reducible refine wp_int ?_
  | with_reducible refine wp_max2 ?_
  | with_reducible refine wp_min2 ?_
  | with_reducible refine wp_tr_bl ?_)
local macro_rules | `(tactic| fail "y7") => `(tactic| first
  | with_reducible refine wp_tr_int ?_
  | with_reducible refine wp_tupT ?_
  | with_reducible refine wp_slT ?_
  | with_reducible refine wp_nopart ?_
  | with_reducible refine wp_lst ?_
  | with_reducible refine wp_tup ?_
  | with_reducible refine wp_slice ?_
  | with_reducible refine wp_callK ?_)
local macro_rules | `(tactic| fail "y8") => `(tactic| first
  | with_reducible refine wp_make ?_
  | with_reducible refine wp_meth ?_
  | with_reducible refine wp_is ?_
  | with_reducible refine wp_vand ?_
  | with_reducible refine wp_vor ?_
  | with_reducible refine wp_vnot ?_
  | with_reducible refine wp_asg ?_
  | with_reducible refine wp_part ?_)
local macro_rules | `(tactic| fail "y9") => `(tactic| first
  | with_reducible refine wp_forR1 ?_
  | with_reducible refine wp_forR2 ?_
  | with_reducible refine wp_compR1 ?_
  | with_reducible refine wp_compR2 ?_
  | (with_reducible refine' wp_ixAL ?z1 ?z2 ?z3; (case z1 => fail "zg"); (case z2 => fail "za"))
  | (with_reducible refine' wp_ixAT ?z1 ?z2; (case z1 => fail "za"))
  | (with_reducible refine' and_isL ?z1 ?z2; (case z1 => fail "zg"))
  | (with_reducible refine' wp_append ?z1 ?z2 ?z3; (case z1 => fail "zg"); (case z2 => first | omega | (simp only [List.length_map, List.length_append, List.length_cons, List.length_nil]; omega))))
local macro_rules | `(tactic| fail "y10") => `(tactic| first
  | (with_reducible refine' wp_lenL ?z1 ?z2; (case z1 => fail "zg"))
  | with_reducible refine wp_lenT ?_
  | (with_reducible refine' wp_lenAL ?z1 ?z2; (case z1 => fail "zg"))
  | with_reducible refine wp_lenAT ?_
  | (with_reducible refine' wp_listL ?z1 ?z2; (case z1 => fail "zg"))
  | with_reducible refine wp_listT ?_
  | with_reducible refine ex_bl ?_
  | (with_reducible refine' ex_ty ?z1 ?z2 ?z3; (case z1 => with_unfolding_all exact rfl); (case z2 => with_unfolding_all exact rfl)))
local macro_rules | `(tactic| fail "y11") => `(tactic| first
  | (with_reducible refine' wp_mulT ?z1 ?z2 ?z3; (case z1 => omega); (case z2 => omega))
  | (with_reducible refine' wp_setF ?z1 ?z2 ?z3; (case z1 => fail "zg"); (case z2 => with_unfolding_all exact Nat.le_of_ble_eq_true rfl))
  | (with_reducible refine' wp_setInt ?z1 ?z2 ?z3 ?z4; (case z1 => fail "zg"); (case z2 => first | assumption | omega); (case z3 => first | assumption | omega | (simp only [List.length_set]; omega)))
  | (with_reducible refine' wp_setIx ?z1 ?z2 ?z3; (case z1 => fail "zg"); (case z2 => first | (with_reducible apply ixN_of; (first | assumption | omega); (first | assumption | omega | (rw [List.length_map]; omega))) | with_unfolding_all exact rfl | assumption))
  | (with_reducible refine' wp_setAI ?z1 ?z2 ?z3 ?z4; (case z1 => fail "zg"); (case z2 => first | assumption | omega); (case z3 => first | assumption | omega | (simp only [List.length_set]; omega)))
  | (with_reducible refine' wp_setAX ?z1 ?z2 ?z3; (case z1 => fail "zg"); (case z2 => first | (with_reducible apply ixN_of; (first | assumption | omega); (first | assumption | omega | (rw [List.length_map]; omega))) | with_unfolding_all exact rfl | assumption))
  | (with_reducible refine' wp_modI ?z1 ?z2; (case z1 => omega))
  | (with_reducible refine' wp_divA0 ?z1 ?z2 ?z3; (case z1 => omega); (case z2 => omega)))
local macro_rules | `(tactic| fail "y12") => `(tactic| first
  | (with_reducible refine' wp_mulA ?z1 ?z2; (case z1 => omega))
  | (with_reducible refine' wp_divI ?z1 ?z2 ?z3; (case z1 => omega); (case z2 => omega))
  | (with_reducible refine' wp_mulI ?z1 ?z2; (case z1 => omega))
  | (with_reducible refine' wp_powI ?z1 ?z2; (case z1 => with_unfolding_all decide))
  | (with_reducible refine' wp_fld ?z1 ?z2 ?z3; (case z1 => fail "zg"); (case z2 => first | with_unfolding_all exact rfl | assumption))
  | (with_reducible refine' wp_prop ?z1 ?z2; (case z1 => fail "zg"))
  | (with_reducible refine' wp_tupL ?z1 ?z2; (case z1 => fail "zg"))
  | (with_reducible refine' And.intro ?z1 ?z2; (case z1 => first | with_unfolding_all exact Nat.le_of_ble_eq_true rfl | with_unfolding_all decide)))
local macro_rules | `(tactic| fail "z0") => `(tactic| first | fail "y0" | fail "y1" | fail "y2" | fail "y3" | fail "y4" | fail "y5" | fail "y6" | fail "y7" | fail "y8" | fail "y9" | fail "y10" | fail "y11" | fail "y12")
local macro_rules | `(tactic| fail "z1") => `(tactic| first | with_reducible refine wp_seq ?_ | fail "z0")
local macro_rules | `(tactic| walk_at "z") => `(tactic| (repeat fail "z1"))
local macro_rules | `(tactic| fail "zb") => `(tactic| (with_reducible refine And.intro ?_ ?_; (all_goals (intro hb; first | (simp at hb; done) | (simp at hb; skip) | skip))))
local macro_rules | `(tactic| walk_at "zz") => `(tactic| (repeat' (first | fail "z1" | fail "zb")))
local macro_rules | `(tactic| walk_at "zy") => `(tactic| (repeat' (first | fail "z0" | fail "zb")))
local macro_rules | `(tactic| walk_at "zn") => `(tactic| (with_reducible refine wp_seq ?_; walk_at "zy"))
local macro_rules | `(tactic| walk_at "zs") => `(tactic| fail "zs")
local macro_rules | `(tactic| walk_at "zg") => `(tactic| fail "zg")
local macro_rules | `(tactic| walk_at "za") => `(tactic| fail "za")
local macro_rules | `(tactic| walk_at "z0") => `(tactic| fail "z0")
local macro_rules | `(tactic| walk_at "z1") => `(tactic| fail "z1")
local macro_rules | `(tactic| walk_at "zb") => `(tactic| fail "zb")
namespace K01
open PySem PySem.Spec PyProof.Rows L2 Z
local macro_rules | `(tactic| fail "zb") => `(tactic| (with_reducible refine And.intro ?_ ?_; (all_goals (intro hb; first | (exact absurd hb (by decide)) | (simp at hb; done) | (simp only [decide_eq_true_eq, decide_eq_false_iff_not, Bool.not_eq_true', Bool.not_eq_false'] at hb; skip) | skip))))
section
variable {s st : S} {Q QD : D → S → Prop} {QB : Bool → S → Prop} {es : Ev} {ws sh : List Str} {x : Xp} {n : Nat}
/-- three rows of words at n -/
def Thr (s : S) (n : Nat) (rows : List (List Str)) : Prop := ∃ ls : List Nat, s[n]? = some (.lst (ls.map D.loc)) ∧ ls.length = rows.length ∧ ∀ (i l : Nat) (r : List Str), ls[i]? = some l → rows[i]? = some r → s[l]? = some (.lst (r.map D.str))
def rows3 (x : Xp) : List (List Str) := [tw "name" x, tw "read" x, tw "call" x]
theorem triple_wp (o : Xok ws sh 12 x) (h : ws.length + sh.length < 60) (q : ∀ (n : Nat) (t : S), Gr s t → Thr t n (rows3 x) → Q (.loc n) t) : Wp (F_law_triple [x.d] s) Q := by
  unfold F_law_triple b_law_triple
  refine wp_fn rfl ?_
  walk_at "zn"
  refine subs_ih (ws := ws) (sh := sh) 16 12 x o (by decide) (by decide) s _ ?_
  intro l xs t g e ll hx lx ex
  have lx : xs.length < 1000000 := Nat.lt_of_le_of_lt lx (by rw [sz12]; decide)
  have ew : ∀ c, foldT c (xs.filterMap own) [] = W c x := fun c => by rw [ex]; rfl
  walk_at "zy"
  refine lwords_wp (c := "name") (by decide) e lx (by rw [ew]; exact W_len o.1 h) ?_
  intro m1 t1 g1 e1
  rw [ew] at e1
  walk_at "zy"
  refine lwords_wp (c := "read") (by decide) (g1.keep e) lx (by rw [ew]; exact W_len o.1 h) ?_
  intro m2 t2 g2 e2
  rw [ew] at e2
  walk_at "zy"
  refine lwords_wp (c := "call") (by decide) (g2.keep (g1.keep e)) lx (by rw [ew]; exact W_len o.1 h) ?_
  intro m3 t3 g3 e3
  rw [ew] at e3
  walk_at "zy"
  refine q _ _ (((g.trans g1).trans (g2.trans g3)).trans Gr.app) ⟨[m1, m2, m3], at_last, rfl, fun i l r a b => ?_⟩
  have : i = 0 ∨ i = 1 ∨ i = 2 ∨ 3 ≤ i := by omega
  rcases this with rfl | rfl | rfl | hi
  · cases a; cases b
    exact at_app (g3.keep (g2.keep e1))
  · cases a; cases b
    exact at_app (g3.keep e2)
  · cases a; cases b
    exact at_app e3
  · rw [List.getElem?_eq_none (by show 3 ≤ i; exact hi)] at a
    cases a
theorem lsame_wp {rows : List (List Str)} (h3 : rows.length = 3) (hl : ∀ r ∈ rows, r.length < 1000) (ht : Thr s n rows) (q : ∀ t, Gr s t → Q (.bl true) t) : Wp (F_law_same [.tup (rows.map fun r => .tup (r.map D.str)), .loc n] s) Q := by
  obtain ⟨ls, a1, a2, a3⟩ := ht
  unfold F_law_same b_law_same
  refine wp_fn rfl ?_
  refine wp_mid (fun e t => e = [some (.tup (rows.map fun r => .tup (r.map D.str))), some (.loc n), none, none] ∧ s = t) ?_ ?_
  · walk_at "zy"
    refine ⟨_, _, rfl, rfl, ?_⟩
    have e3 : (rows.map fun r => D.tup (r.map D.str)).length = 3 := by rw [List.length_map]; exact h3
    walk_at "zy"
    all_goals first
      | (exfalso; omega)
      | exact ⟨_, rfl, rfl, rfl⟩
  rintro e _ ⟨rfl, rfl⟩
  refine wp_mid (fun e t => Gr s t) ?_ (fun e t g => by
    walk_at "zz"
    exact q t g)
  walk_at "zy"
  refine ⟨_, rfl, by omega, by omega, ?_⟩
  refine wp_forT (fun i e t => ∃ u v : Option D, e = [some (.tup (rows.map fun r => .tup (r.map D.str))), some (.loc n), u, v] ∧ Gr s t) ⟨_, _, rfl, Gr.refl⟩ ?_ ?_
  · rintro i d e t hd ⟨u, v, rfl, g⟩
    obtain ⟨rfl, hi⟩ := get_range hd
    have hi : i < 3 := hi
    rw [show (0 : Int) + (i : Nat) = (i : Nat) by omega]
    have hr := List.getElem?_eq_getElem (show i < rows.length by omega)
    have hli := List.getElem?_eq_getElem (show i < ls.length by omega)
    generalize rows[i] = r at hr
    generalize ls[i] = li at hli
    have hrl := hl r (List.mem_of_getElem? hr)
    have hw := g.keep (a3 i li r hli hr)
    have hn := g.keep a1
    have ix1 : L2.atI (rows.map fun r => D.tup (r.map D.str)) (i : Int) = some (.tup (r.map D.str)) := at_of (Int.natCast_nonneg i) (by rw [Int.toNat_natCast, List.getElem?_map, hr]; rfl)
    have ix2 : L2.atI (ls.map D.loc) (i : Int) = some (.loc li) := at_of (Int.natCast_nonneg i) (by rw [Int.toNat_natCast, List.getElem?_map, hli]; rfl)
    refine ⟨_, rfl, ?_⟩
    refine wp_mid (fun e t2 => e = [some (.tup (rows.map fun r => .tup (r.map D.str))), some (.loc n), some (.int (i : Nat)), v] ∧ t = t2) ?_ ?_
    · walk_at "zy"
      refine ⟨_, _, rfl, rfl, ?_⟩
      walk_at "zy"
      exact ⟨_, rfl, rfl, rfl⟩
    rintro e _ ⟨rfl, rfl⟩
    walk_at "zy"
    refine ⟨_, rfl, by rw [List.length_map]; omega, by rw [List.length_map]; omega, ?_⟩
    refine wp_forT (fun j e t2 => ∃ v : Option D, e = [some (.tup (rows.map fun r => .tup (r.map D.str))), some (.loc n), some (.int (i : Nat)), v] ∧ Gr t t2) ⟨_, rfl, Gr.refl⟩ ?_ ?_
    · rintro j d e t2 hd2 ⟨v, rfl, g2⟩
      obtain ⟨rfl, hj⟩ := get_range hd2
      rw [Int.toNat_natCast, List.length_map] at hj
      rw [show (0 : Int) + (j : Nat) = (j : Nat) by omega]
      have hz := List.getElem?_eq_getElem hj
      generalize r[j] = z at hz
      have ix3 : L2.atI (r.map D.str) (j : Int) = some (.str z) := at_of (Int.natCast_nonneg j) (by rw [Int.toNat_natCast, List.getElem?_map, hz]; rfl)
      have hw2 := g2.keep hw
      have hn2 := g2.keep hn
      refine ⟨_, rfl, ?_⟩
      walk_at "zy"
      refine ⟨_, _, rfl, rfl, ?_⟩
      walk_at "zy"
      trace_state
      all_goals first
        | (exfalso; omega)
        | exact ⟨_, rfl, g2⟩
    · rintro es t2 ⟨v, rfl, g2⟩
      exact ⟨_, _, rfl, g.trans g2⟩
  · rintro es t ⟨u, v, rfl, g⟩
    exact ⟨_, rfl, g⟩
end
end K01
end
section
set_option Elab.async false
set_option linter.all false
set_option maxRecDepth 100000
set_option maxHeartbeats 2000000
open PySem PySem.Spec PyProof.Rows L2 Z
local macro_rules | `(tactic| fail "zs") => `(tactic| first
  | assumption
  | with_reducible exact at_last
  | (with_reducible apply at_set; fail "zs")
  | (with_reducible apply at_app; fail "zs")
  | (with_reducible apply at_setne; (first | assumption | (apply Ne.symm; assumption) | omega); fail "zs")
  | (with_reducible refine Gr.keep (by assumption) ?_; fail "zs")
  | (with_reducible refine Gx.keep (by assumption) ?_ ?_; (first | assumption | (apply Ne.symm; assumption) | omega); fail "zs"))
local macro_rules | `(tactic| fail "zg") => `(tactic| first
  | assumption
  | (with_reducible apply getL_of; fail "zs")
  | (with_reducible apply getW_of; fail "zs")
  | (with_reducible apply getI_of; fail "zs"))
local macro_rules | `(tactic| fail "za") => `(tactic| first | (with_reducible apply atI_int; (first | assumption | omega); (first | assumption | omega | (simp only [List.length_set]; omega))) | with_unfolding_all exact rfl | assumption)
local macro_rules | `(tactic| fail "y0") => `(tactic| first
  | (with_reducible refine' wp_var ?z1 ?z2; (case z1 => with_unfolding_all exact rfl))
  | with_reducible refine wp_c2 ?_
  | with_reducible refine wp_cons ?_
  | with_reducible refine wp_c ?_
  | with_reducible refine wp_nil ?_
  | with_reducible refine wp_call ?_
  | with_reducible refine wp_c1 ?_)
local macro_rules | `(tactic| fail "y1") => `(tactic| first
  | with_reducible refine wp_set ?_
  | with_reducible refine wp_if ?_
  | with_reducible refine wp_next ?_
  | with_reducible refine wp_ret ?_
  | with_reducible refine af_nx ?_
  | with_reducible refine bk_rt ?_
  | (with_reducible refine' wp_ixL ?z1 ?z2 ?z3; (case z1 => fail "zg"); (case z2 => fail "za"))
  | (with_reducible refine' wp_ixT ?z1 ?z2; (case z1 => fail "za")))
local macro_rules | `(tactic| fail "y2") => `(tactic| first
  | with_reducible refine af_rt ?_
  | with_reducible refine af_bk ?_
  | with_reducible refine bk_nx ?_
  | with_reducible refine turned_nx ?_
  | with_reducible refine turned_bk ?_
  | with_reducible refine turned_rt ?_
  | with_reducible refine wp_and ?_
  | with_reducible refine wp_or ?_)
local macro_rules | `(tactic| fail "y3") => `(tactic| first
  | with_reducible refine wp_not ?_
  | with_reducible refine wp_sub ?_
  | with_reducible refine wp_subA ?_
  | with_reducible refine wp_chain ?_
  | with_reducible refine wp_neAI ?_
  | with_reducible refine wp_neAS ?_
  | with_reducible refine wp_dic0 ?_
  | with_reducible refine wp_drop ?_)
local macro_rules | `(tactic| fail "y4") => `(tactic| first
  | with_reducible refine wp_vK ?_
  | with_reducible refine wp_nox ?_
  | with_reducible refine wp_break ?_
  | with_reducible refine wp_retN ?_
  | with_reducible refine wp_sfld ?_
  | with_reducible refine wp_yes ?_
  | with_reducible refine wp_addI ?_
  | with_reducible refine wp_subI ?_)
local macro_rules | `(tactic| fail "y5") => `(tactic| first
  | with_reducible refine wp_neg ?_
  | with_reducible refine wp_eqI ?_
  | with_reducible refine wp_neI ?_
  | with_reducible refine wp_ltI ?_
  | with_reducible refine wp_leI ?_
  | with_reducible refine wp_gtI ?_
  | with_reducible refine wp_geI ?_
  | with_reducible refine wp_eqS ?_)
local macro_rules | `(tactic| fail "y6") => `(tactic| first
  | with_reducible refine wp_neS ?_
  | with_reducible refine wp_eqB ?_
  | with_reducible refine wp_isN ?_
  | with_reducible refine wp_isNotN ?_
  | with_reducible refine wp_int ?_
  | with_reducible refine wp_max2 ?_
  | with_reducible refine wp_min2 ?_
  | with_reducible refine wp_tr_bl ?_)
local macro_rules | `(tactic| fail "y7") => `(tactic| first
  | with_reducible refine wp_tr_int ?_
  | with_reducible refine wp_tupT ?_
  | with_reducible refine wp_slT ?_
  | with_reducible refine wp_nopart ?_
  | with_reducible refine wp_lst ?_
  | with_reducible refine wp_tup ?_
  | with_reducible refine wp_slice ?_
  | with_reducible refine wp_callK ?_)
local macro_rules | `(tactic| fail "y8") => `(tactic| first
  | with_reducible refine wp_make ?_
  | with_reducible refine wp_meth ?_
  | with_reducible refine wp_is ?_
  | with_reducible refine wp_vand ?_
  | with_reducible refine wp_vor ?_
  | with_reducible refine wp_vnot ?_
  | with_reducible refine wp_asg ?_
  | with_reducible refine wp_part ?_)
local macro_rules | `(tactic| fail "y9") => `(tactic| first
  | with_reducible refine wp_forR1 ?_
  | with_reducible refine wp_forR2 ?_
  | with_reducible refine wp_compR1 ?_
  | with_reducible refine wp_compR2 ?_
  | (with_reducible refine' wp_ixAL ?z1 ?z2 ?z3; (case z1 => fail "zg"); (case z2 => fail "za"))
  | (with_reducible refine' wp_ixAT ?z1 ?z2; (case z1 => fail "za"))
  | (with_reducible refine' and_isL ?z1 ?z2; (case z1 => fail "zg"))
  | (with_reducible refine' wp_append ?z1 ?z2 ?z3; (case z1 => fail "zg"); (case z2 => first | omega | (simp only [List.length_map, List.length_append, List.length_cons, List.length_nil]; omega))))
local macro_rules | `(tactic| fail "y10") => `(tactic| first
  | (with_reducible refine' wp_lenL ?z1 ?z2; (case z1 => fail "zg"))
  | with_reducible refine wp_lenT ?_
  | (with_reducible refine' wp_lenAL ?z1 ?z2; (case z1 => fail "zg"))
  | with_reducible refine wp_lenAT ?_
  | (with_reducible refine' wp_listL ?z1 ?z2; (case z1 => fail "zg"))
  | with_reducible refine wp_listT ?_
  | with_reducible refine ex_bl ?_
  | (with_reducible refine' ex_ty ?z1 ?z2 ?z3; (case z1 => with_unfolding_all exact rfl); (case z2 => with_unfolding_all exact rfl)))
local macro_rules | `(tactic| fail "y11") => `(tactic| first
  | (with_reducible refine' wp_mulT ?z1 ?z2 ?z3; (case z1 => omega); (case z2 => omega))
  | (with_reducible refine' wp_setF ?z1 ?z2 ?z3; (case z1 => fail "zg"); (case z2 => with_unfolding_all exact Nat.le_of_ble_eq_true rfl))
  | (with_reducible refine' wp_setInt ?z1 ?z2 ?z3 ?z4; (case z1 => fail "zg"); (case z2 => first | assumption | omega); (case z3 => first | assumption | omega | (simp only [List.length_set]; omega)))
  | (with_reducible refine' wp_setIx ?z1 ?z2 ?z3; (case z1 => fail "zg"); (case z2 => first | (with_reducible apply ixN_of; (first | assumption | omega); (first | assumption | omega | (rw [List.length_map]; omega))) | with_unfolding_all exact rfl | assumption))
  | (with_reducible refine' wp_setAI ?z1 ?z2 ?z3 ?z4; (case z1 => fail "zg"); (case z2 => first | assumption | omega); (case z3 => first | assumption | omega | (simp only [List.length_set]; omega)))
  | (with_reducible refine' wp_setAX ?z1 ?z2 ?z3; (case z1 => fail "zg"); (case z2 => first | (with_reducible apply ixN_of; (first | assumption | omega); (first | assumption | omega | (rw [List.length_map]; omega))) | with_unfolding_all exact rfl | assumption))
  | (with_reducible refine' wp_modI ?z1 ?z2; (case z1 => omega))
  | (with_reducible refine' wp_divA0 ?z1 ?z2 ?z3; (case z1 => omega); (case z2 => omega)))
local macro_rules | `(tactic| fail "y12") => `(tactic| first
  | (with_reducible refine' wp_mulA ?z1 ?z2; (case z1 => omega))
  | (with_reducible refine' wp_divI ?z1 ?z2 ?z3; (case z1 => omega); (case z2 => omega))
  | (with_reducible refine' wp_mulI ?z1 ?z2; (case z1 => omega))
  | (with_reducible refine' wp_powI ?z1 ?z2; (case z1 => with_unfolding_all decide))
  | (with_reducible refine' wp_fld ?z1 ?z2 ?z3; (case z1 => fail "zg"); (case z2 => first | with_unfolding_all exact rfl | assumption))
  | (with_reducible refine' wp_prop ?z1 ?z2; (case z1 => fail "zg"))
  | (with_reducible refine' wp_tupL ?z1 ?z2; (case z1 => fail "zg"))
  | (with_reducible refine' And.intro ?z1 ?z2; (case z1 => first | with_unfolding_all exact Nat.le_of_ble_eq_true rfl | with_unfolding_all decide)))
local macro_rules | `(tactic| fail "z0") => `(tactic| first | fail "y0" | fail "y1" | fail "y2" | fail "y3" | fail "y4" | fail "y5" | fail "y6" | fail "y7" | fail "y8" | fail "y9" | fail "y10" | fail "y11" | fail "y12")
local macro_rules | `(tactic| fail "z1") => `(tactic| first | with_reducible refine wp_seq ?_ | fail "z0")
local macro_rules | `(tactic| walk_at "z") => `(tactic| (repeat fail "z1"))
local macro_rules | `(tactic| fail "zb") => `(tactic| (with_reducible refine And.intro ?_ ?_; (all_goals (intro hb; first | (simp at hb; done) | (simp at hb; skip) | skip))))
local macro_rules | `(tactic| walk_at "zz") => `(tactic| (repeat' (first | fail "z1" | fail "zb")))
local macro_rules | `(tactic| walk_at "zy") => `(tactic| (repeat' (first | fail "z0" | fail "zb")))
local macro_rules | `(tactic| walk_at "zn") => `(tactic| (with_reducible refine wp_seq ?_; walk_at "zy"))
local macro_rules | `(tactic| walk_at "zs") => `(tactic| fail "zs")
local macro_rules | `(tactic| walk_at "zg") => `(tactic| fail "zg")
local macro_rules | `(tactic| walk_at "za") => `(tactic| fail "za")
local macro_rules | `(tactic| walk_at "z0") => `(tactic| fail "z0")
local macro_rules | `(tactic| walk_at "z1") => `(tactic| fail "z1")
local macro_rules | `(tactic| walk_at "zb") => `(tactic| fail "zb")
namespace K01
open PySem PySem.Spec PyProof.Rows L2 Z
local macro_rules | `(tactic| fail "zb") => `(tactic| (with_reducible refine And.intro ?_ ?_; (all_goals (intro hb; first | (exact absurd hb (by decide)) | (simp at hb; done) | (simp only [decide_eq_true_eq, decide_eq_false_iff_not, Bool.not_eq_true', Bool.not_eq_false'] at hb; skip) | skip))))
/-! comprehensions without effect -/
section
variable {st : S} {es : Ev} {QD : D → S → Prop} {set : Ev → D → Option Ev} {vs : List Nat} {mt : M Bool} {me : M D}
theorem fmap_snoc (f : D → Option D) {xs : List D} {i : Nat} {d : D} (h : xs[i]? = some d) : (xs.take (i + 1)).filterMap f = (xs.take i).filterMap f ++ (f d).toList := by
  rw [List.take_succ, h, List.filterMap_append]
  cases e : f d with
  | none => simp [e]
  | some y => simp [e]
theorem add_last {st : S} {ys : List D} {y : D} : ((st ++ [O.lst ys]).set st.length (.lst (ys ++ [y]))) = st ++ [.lst (ys ++ [y])] := by
  rw [List.set_append_right _ _ (Nat.le_refl _), Nat.sub_self]
  rfl
def Step (set : Ev → D → Option Ev) (vs : List Nat) (mt : M Bool) (me : M D) (es : Ev) (st : S) (f : D → Option D) (d : D) : Prop := ∀ s, Gr st s → ∃ es1, set (wipeD es vs) d = some es1 ∧ Wp (mt es1 s) fun k s2 => s2 = s ∧ match f d with
  | some y => k = true ∧ Wp (me es1 s) fun z s3 => s3 = s ∧ z = y
  | none => k = false
theorem turn_pure {f : D → Option D} {xs : List D} {i : Nat} {d : D} (hz : xs.length < 1000000) (hd : xs[i]? = some d) (step : Step set vs mt me es st f d) : ∃ es1, set (wipeD es vs) d = some es1 ∧ Wp (compTurn st.length mt me es1 (st ++ [.lst ((xs.take i).filterMap f)])) fun _ s => s = st ++ [.lst ((xs.take (i + 1)).filterMap f)] := by
  obtain ⟨es1, e1, w⟩ := step _ (Gr.app (t := [.lst ((xs.take i).filterMap f)]))
  have hi := (List.getElem?_eq_some_iff.mp hd).1
  refine ⟨es1, e1, wp_compTurn (w.mono fun k s2 ⟨e2, q⟩ => ?_)⟩
  subst e2
  rw [fmap_snoc f hd]
  cases hf : f d with
  | none =>
    rw [hf] at q
    dsimp only at q
    subst q
    refine ⟨fun h => (nomatch h), fun _ => ?_⟩
    rw [Option.toList_none, List.append_nil]
  | some y =>
    rw [hf] at q
    dsimp only at q
    obtain ⟨rfl, q⟩ := q
    refine ⟨fun _ => q.mono fun z s3 ⟨e3, ez⟩ => ?_, fun h => (nomatch h)⟩
    subst e3 ez
    refine wp_addIt (getW_of at_last) ?_ ?_
    · have := List.length_filterMap_le f (xs.take i)
      rw [List.length_take] at this
      omega
    · exact add_last
theorem pureV (f : D → Option D) {xs : List D} (hz : xs.length < 1000000) (step : ∀ d ∈ xs, Step set vs mt me es st f d) (q : QD (.loc st.length) (st ++ [.lst (xs.filterMap f)])) : Wp (compV set vs mt me xs es st) QD := by
  refine wp_compV (fun i s => s = st ++ [.lst ((xs.take i).filterMap f)]) (by rw [List.take_zero]; rfl) ?_ ?_
  · rintro i d s hd rfl
    exact turn_pure hz hd (step d (List.mem_of_getElem? hd))
  · rintro s rfl
    rw [List.take_length]
    exact q
theorem pureL (f : D → Option D) {l : Nat} {xs : List D} (hl : getL st l = some xs) (hz : xs.length < 1000000) (step : ∀ d ∈ xs, Step set vs mt me es st f d) (q : QD (.loc st.length) (st ++ [.lst (xs.filterMap f)])) :
    Wp ((noX (compL st.length set mt me l 1000000 0 (wipeD es vs) (st ++ [.lst []]))).bind fun _ s2 => .ok (.loc st.length) s2) QD := by
  have gl : ∀ o, getL (st ++ [o]) l = some xs := fun o => by
    unfold getL at hl ⊢
    have ll : l < st.length := by
      cases e : st[l]? with
      | none => rw [e] at hl; cases hl
      | some o => exact (List.getElem?_eq_some_iff.mp e).1
    rw [List.getElem?_append_left ll]
    exact hl
  refine wp_compL (fun i s => s = st ++ [.lst ((xs.take i).filterMap f)]) (by rw [List.take_zero]; rfl) ?_ hz ?_ ?_
  · rintro i s - rfl
    exact gl _
  · rintro i d s hd rfl
    exact turn_pure hz hd (step d (List.mem_of_getElem? hd))
  · rintro s rfl
    rw [List.take_length]
    exact q
theorem wp_compPL (f : D → Option D) {m : M D} (h : Wp (m es st) fun d s => ∃ l xs, d = .loc l ∧ getL s l = some xs ∧ xs.length < 1000000 ∧ (∀ d ∈ xs, Step set vs mt me es s f d) ∧ QD (.loc s.length) (s ++ [.lst (xs.filterMap f)])) : Wp (cComp m set vs mt me es st) QD :=
  wp_comp_loc (h.mono fun d s ⟨l, xs, e, hl, hz, step, q⟩ => ⟨l, e, pureL f hl hz step q⟩)
end
theorem cutD_nat {xs : List D} {a b : Nat} (ha : a ≤ xs.length) : Z.cutD xs (some (a : Int)) (some (b : Int)) = (xs.drop a).take (b - a) := by
  unfold Z.cutD
  rw [HT.sIx_nat, HT.sIx_nat, Nat.min_eq_left ha]
  by_cases h : b ≤ xs.length
  · rw [Nat.min_eq_left h]
  · rw [Nat.min_eq_right (by omega), List.take_of_length_le (by rw [List.length_drop]; omega), List.take_of_length_le (by rw [List.length_drop]; omega)]
section
variable {a nm ar : Nat} {ws sa sh : List Str} {s t st : S} {Q : D → S → Prop}
theorem wide_wp (hf : Feed st a) (hn : st[nm]? = some (.lst (ws.map D.str))) (ha : st[ar]? = some (.lst (sa.map D.str))) (nn : nm ≠ a) (na : ar ≠ a) (w0 : 1 ≤ ws.length) (w1 : ws.length ≤ 40) (s1 : sa.length ≤ 40) (sub : ∀ w ∈ sa, w ∈ sh) (q : ∀ (x : Xp) (t : S), Gx a st t → Xok ws sh 12 x → Q x.d t) : Wp (F_law_wide [.loc a, .loc nm, .loc ar] st) Q := by
  have la := hf.lt
  unfold F_law_wide b_law_wide
  refine wp_fn rfl ?_
  refine wp_mid (fun e s => e = [some (.loc a), some (.loc nm), some (.loc ar), some (.loc st.length), none, none, none, none, none, none] ∧ Gr st s ∧ s[st.length]? = some (.lst ((ws.map Xp.nm).map Xp.d))) ?_ ?_
  · refine wp_set (wp_compPL (fun d => match d with | .str w => some (Xp.nm w).d | _ => none) ?_)
    walk_at "zy"
    refine ⟨nm, _, rfl, getL_of hn, by rw [List.length_map]; omega, ?_, ?_⟩
    · intro d hd s g
      obtain ⟨w, hw, rfl⟩ := List.mem_map.mp hd
      refine ⟨_, rfl, wp_yes ⟨rfl, rfl, ?_⟩⟩
      walk_at "zy"
      exact ⟨rfl, rfl⟩
    · refine ⟨_, rfl, rfl, Gr.app, ?_⟩
      rw [at_last, List.filterMap_map, List.map_map]
      have : ((fun d => match d with | D.str w => some (Xp.nm w).d | _ => none) ∘ D.str) = some ∘ (Xp.d ∘ Xp.nm) := rfl
      rw [this, List.filterMap_eq_map]
  rintro e s2 ⟨rfl, g2, e2⟩
  refine wp_mid (fun e s => ∃ (u : Option D) (ys : List Xp), e = [some (.loc a), some (.loc nm), some (.loc ar), some (.loc st.length), u, none, none, none, none, none] ∧ Gx a st s ∧ Feed s a ∧ s[st.length]? = some (.lst (ys.map Xp.d)) ∧ 1 ≤ ys.length ∧ ys.length ≤ 80 ∧ ∀ y ∈ ys, y.ok ws sh ∧ y.dep ≤ 2) ?_ ?_
  · have f2 := hf.gr g2
    have nw0 : ∀ y ∈ ws.map Xp.nm, y.ok ws sh ∧ y.dep ≤ 2 := fun y hy => by
      obtain ⟨w, hw, rfl⟩ := List.mem_map.mp hy
      exact ⟨hw, by show 1 ≤ 2; decide⟩
    refine wp_forAL rfl (getL_of (g2.keep ha)) ?_
    refine wp_forL (xs := sa.map D.str) (fun i e s => ∃ (u : Option D) (ys : List Xp), e = [some (.loc a), some (.loc nm), some (.loc ar), some (.loc st.length), u, none, none, none, none, none] ∧ Gx a st s ∧ Feed s a ∧ s[st.length]? = some (.lst (ys.map Xp.d)) ∧ 1 ≤ ys.length ∧ ys.length ≤ 40 + i ∧ ∀ y ∈ ys, y.ok ws sh ∧ y.dep ≤ 2) ⟨none, ws.map Xp.nm, rfl, g2.gx, f2, e2, by rw [List.length_map]; omega, by rw [List.length_map]; omega, nw0⟩ ?_ (by rw [List.length_map]; omega) ?_ ?_
    · rintro i es s - ⟨u, ys, rfl, g, -⟩
      exact getL_of (g.keep na ha)
    · rintro i d es s hd ⟨u, ys, rfl, g, f, e, y0, y1, hy⟩
      obtain ⟨w, hw, rfl⟩ := List.mem_map.mp (List.mem_of_getElem? hd)
      have hi := (List.getElem?_eq_some_iff.mp hd).1
      rw [List.length_map] at hi
      have l2 : st.length < s.length := at_lt e
      refine ⟨_, rfl, ?_⟩
      walk_at "zy"
      refine take_wp f (by omega) (by omega) ?_
      intro j s3 j0 j1 g3 f3 _
      have lyb : (ys.map Xp.d).length < 1000000 := by rw [List.length_map]; omega
      have e3 := g3.keep (by omega) e
      walk_at "zy"
      refine ⟨_, ys ++ [.rd w (.num j)], rfl, (g.trans g3).setNew (Nat.le_refl _), f3.set (by omega), ?_, by rw [List.length_append]; omega, by rw [List.length_append, List.length_singleton]; omega, ?_⟩
      · rw [List.map_append]
        exact at_set (g3.keep (by omega) e)
      · intro y hy2
        rcases List.mem_append.mp hy2 with hy2 | hy2
        · exact hy y hy2
        · rw [List.mem_singleton.mp hy2]
          exact ⟨⟨sub w hw, j0, by unfold big; omega⟩, by show 1 + 1 ≤ 2; decide⟩
    · rintro es s ⟨u, ys, rfl, g, f, e, y0, y1, hy⟩
      rw [List.length_map] at y1
      exact ⟨_, rfl, u, ys, rfl, g, f, e, y0, by omega, hy⟩
  rintro e s3 ⟨u, ys, rfl, g3, f3, e3, y0, y1, hy⟩
  refine wp_mid (fun e s => ∃ (u v6 v7 v8 v9 : Option D) (v5 : Option D) (m : Nat) (ys : List Xp), e = [some (.loc a), some (.loc nm), some (.loc ar), some (.loc m), u, v5, v6, v7, v8, v9] ∧ Gx a st s ∧ s[m]? = some (.lst (ys.map Xp.d)) ∧ 1 ≤ ys.length ∧ ∀ y ∈ ys, y.ok ws sh ∧ y.dep ≤ 8) ?_ ?_
  · walk_at "zy"
    refine ⟨_, rfl, by omega, by omega, ?_⟩
    refine wp_forT (fun k e s => ∃ (u v6 v7 v8 v9 : Option D) (v5 : Option D) (m : Nat) (ys : List Xp), e = [some (.loc a), some (.loc nm), some (.loc ar), some (.loc m), u, v5, v6, v7, v8, v9] ∧ Gx a st s ∧ Feed s a ∧ m ≠ a ∧ s[m]? = some (.lst (ys.map Xp.d)) ∧ 1 ≤ ys.length ∧ ys.length ≤ 80 ∧ ∀ y ∈ ys, y.ok ws sh ∧ y.dep ≤ 2 + k) ⟨_, _, _, _, _, _, _, ys, rfl, g3, f3, by omega, e3, y0, y1, hy⟩ ?_ ?_
    · clear g3 f3 e3 y0 y1 hy ys u s3 e2 g2 s2
      rintro k d e s hd ⟨u, v6, v7, v8, v9, v5, m, ys, rfl, g, f, ma, em, y0, y1, hy⟩
      have hk := (get_range hd).2
      have hk : k < 6 := hk
      have ml := at_lt em
      refine ⟨_, rfl, ?_⟩
      refine wp_mid (fun e t => ∃ v5 : Option D, e = [some (.loc a), some (.loc nm), some (.loc ar), some (.loc m), u, v5, some (.loc s.length), v7, v8, v9] ∧ Gr s t ∧ t[s.length]? = some (.lst (([] : List Xp).map Xp.d))) ?_ ?_
      · walk_at "zy"
        exact ⟨_, rfl, _, rfl, Gr.app, at_last⟩
      clear v5
      rintro e s1 ⟨v5, rfl, g1, e1⟩
      refine wp_mid (fun e t => ∃ (v7 v8 v9 : Option D) (zs : List Xp), e = [some (.loc a), some (.loc nm), some (.loc ar), some (.loc m), u, v5, some (.loc s.length), v7, v8, v9] ∧ Gx a s t ∧ Feed t a ∧ t[s.length]? = some (.lst (zs.map Xp.d)) ∧ 1 ≤ zs.length ∧ zs.length ≤ 80 ∧ ∀ y ∈ zs, y.ok ws sh ∧ y.dep ≤ 2 + k + 1) ?_ ?_
      · have em1 := g1.keep em
        have eln : (ys.map Xp.d).length = ys.length := List.length_map ..
        walk_at "zy"
        refine ⟨_, rfl, by omega, by omega, ?_⟩
        rw [eln]
        refine wp_forT (fun j e t => ∃ (v7 v8 v9 : Option D) (zs : List Xp), e = [some (.loc a), some (.loc nm), some (.loc ar), some (.loc m), u, v5, some (.loc s.length), v7, v8, v9] ∧ Gx a s t ∧ Feed t a ∧ t[s.length]? = some (.lst (zs.map Xp.d)) ∧ zs.length = j ∧ ∀ y ∈ zs, y.ok ws sh ∧ y.dep ≤ 2 + k + 1) ⟨v7, v8, v9, [], rfl, g1.gx, f.gr g1, e1, rfl, fun _ h => (nomatch h)⟩ ?_ ?_
        · rintro j d e t hd2 ⟨v7, v8, v9, zs, rfl, gt, ft, et, hj, hz⟩
          have hj2 := (get_range hd2).2
          have hd2 := (get_range hd2).1
          subst hd2
          have hj3 : 2 * j < ys.length := by omega
          have lt := at_lt et
          refine ⟨_, rfl, ?_⟩
          have emt := gt.keep ma em
          refine wp_mid (fun e t2 => ∃ (v9 : Option D) (l8 : Nat) (ps : List Xp), e = [some (.loc a), some (.loc nm), some (.loc ar), some (.loc m), u, v5, some (.loc s.length), some (.int (0 + (j : Nat))), some (.loc l8), v9] ∧ Gx a s t2 ∧ Feed t2 a ∧ t2[s.length]? = some (.lst (zs.map Xp.d)) ∧ l8 ≠ a ∧ t2[l8]? = some (.lst (ps.map Xp.d)) ∧ (ps.length = 1 ∨ ps.length = 2) ∧ ∀ y ∈ ps, y.ok ws sh ∧ y.dep ≤ 2 + k) ?_ ?_
          · walk_at "zy"
            refine ⟨_, rfl, ?_⟩
            walk_at "zy"
            refine ⟨_, rfl, ?_⟩
            refine wp_slL (getL_of emt) ?_
            rw [show (2 : Int) * (0 + (j : Nat)) = ((2 * j : Nat) : Int) by omega, show ((2 * j : Nat) : Int) + 2 = ((2 * j + 2 : Nat) : Int) by omega, cutD_nat (by omega), show 2 * j + 2 - 2 * j = 2 by omega, ← List.map_drop, ← List.map_take]
            refine ⟨_, rfl, v9, _, (ys.drop (2 * j)).take 2, rfl, gt.trans Gx.app, ft.gr Gr.app, at_app et, ?_, at_last, ?_, ?_⟩
            · have := ft.lt
              omega
            · rw [List.length_take, List.length_drop]
              omega
            · intro y hy2
              exact hy y (List.mem_of_mem_drop (List.mem_of_mem_take hy2))
          clear gt ft et lt emt t v8
          clear v9
          rintro e t ⟨v9, l8, ps, rfl, gt, ft, et, n8, e8, hps, hp⟩
          have lt := at_lt et
          have sla := f.lt
          refine wp_mid (fun e t2 => ∃ c : Int, 0 ≤ c ∧ c < 8 ∧ e = [some (.loc a), some (.loc nm), some (.loc ar), some (.loc m), u, v5, some (.loc s.length), some (.int (0 + (j : Nat))), some (.loc l8), some (.int c)] ∧ Gx a s t2 ∧ Feed t2 a ∧ t2[s.length]? = some (.lst (zs.map Xp.d)) ∧ t2[l8]? = some (.lst (ps.map Xp.d))) ?_ ?_
          · walk_at "zy"
            refine take_wp ft (by omega) (by omega) ?_
            intro c t2 c0 c1 g2 f2 _
            exact ⟨_, rfl, c, c0, c1, rfl, gt.trans g2, f2, g2.keep (by omega) et, g2.keep n8 e8⟩
          clear gt ft et e8 lt t
          rintro e t ⟨c, c0, c1, rfl, gt, ft, et, e8⟩
          have lzb : (zs.map Xp.d).length < 1000000 := by rw [List.length_map]; omega
          have lt := at_lt et
          have fin : ∀ (t2 : S) (v : Xp), Gr t t2 → v.ok ws sh → v.dep ≤ 2 + k + 1 → ∃ (v7 v8 v9 : Option D) (us : List Xp), [some (.loc a), some (.loc nm), some (.loc ar), some (.loc m), u, v5, some (.loc s.length), some (.int (0 + (j : Nat))), some (.loc l8), some (.int c)] = [some (.loc a), some (.loc nm), some (.loc ar), some (.loc m), u, v5, some (.loc s.length), v7, v8, v9] ∧ Gx a s (t2.set s.length (.lst (zs.map Xp.d ++ [v.d]))) ∧ Feed (t2.set s.length (.lst (zs.map Xp.d ++ [v.d]))) a ∧ (t2.set s.length (.lst (zs.map Xp.d ++ [v.d])))[s.length]? = some (.lst (us.map Xp.d)) ∧ us.length = j + 1 ∧ ∀ y ∈ us, y.ok ws sh ∧ y.dep ≤ 2 + k + 1 := by
            intro t2 v gg h1 h2
            refine ⟨_, _, _, zs ++ [v], rfl, (gt.trans gg.gx).setNew (Nat.le_refl _), (ft.gr gg).set (by omega), ?_, by rw [List.length_append, hj]; rfl, ?_⟩
            · rw [List.map_append]
              exact at_set (gg.keep et)
            · intro y hy2
              rcases List.mem_append.mp hy2 with hy2 | hy2
              · exact hz y hy2
              · rw [List.mem_singleton.mp hy2]
                exact ⟨h1, h2⟩
          rcases hps with h1 | h2
          · obtain ⟨p, rfl⟩ := List.length_eq_one_iff.mp h1
            have hp1 := hp p (List.mem_cons_self ..)
            simp only [List.map_cons, List.map_nil] at e8
            walk_at "zy"
            exact fin _ p Gr.refl hp1.1 (by omega)
          · obtain ⟨p, p2, rfl⟩ := len2 h2
            have hp1 := hp p (List.mem_cons_self ..)
            have hp2 := hp p2 (List.mem_cons_of_mem _ (List.mem_cons_self ..))
            simp only [List.map_cons, List.map_nil] at e8
            have md : max p.dep p2.dep + 1 ≤ 2 + k + 1 := by
              have := hp1.2
              have := hp2.2
              omega
            walk_at "zy"
            · refine wp_strIx (zs := ["+", "-", "*", "div", "<", "="]) (getL_of at_last) c0 (by show c < 6; assumption) ?_
              intro z hz2
              walk_at "zy"
              exact fin _ (.op z p p2) Gr.app ⟨hp1.1, hp2.1⟩ md
            · have hc : c = 6 ∨ c = 7 := by omega
              rcases hc with rfl | rfl
              · refine wp_ixAL (getL_of at_last) (d := .str "min") rfl ?_
                walk_at "zy"
                exact fin _ (.mn p p2) Gr.app ⟨hp1.1, hp2.1⟩ md
              · refine wp_ixAL (getL_of at_last) (d := .str "max") rfl ?_
                walk_at "zy"
                exact fin _ (.mx p p2) Gr.app ⟨hp1.1, hp2.1⟩ md
        · rintro es t ⟨v7, v8, v9, zs, rfl, gt, ft, et, hj, hz⟩
          rw [len_range] at hj
          exact ⟨_, rfl, v7, v8, v9, zs, rfl, gt, ft, et, by omega, by omega, hz⟩
      rintro e s2 ⟨v7, v8, v9, zs, rfl, g2, f2, e2, z0, z1, hz⟩
      have la2 := f.lt
      walk_at "zy"
      exact ⟨_, _, _, _, _, _, _, zs, rfl, g.trans g2, f2, by omega, e2, z0, z1, hz⟩
    · rintro e s ⟨u, v6, v7, v8, v9, v5, m, ys, rfl, g, f, ma, em, y0, y1, hy⟩
      exact ⟨_, rfl, u, v6, v7, v8, v9, v5, m, ys, rfl, g, em, y0, hy⟩
  rintro e s4 ⟨u, v6, v7, v8, v9, v5, m, ys, rfl, g4, e4, y0, hy⟩
  obtain ⟨y, r, rfl⟩ : ∃ y r, ys = y :: r := by
    cases ys with
    | nil => simp at y0
    | cons y r => exact ⟨y, r, rfl⟩
  have h1 := hy y (List.mem_cons_self ..)
  walk_at "zz"
  refine wp_ixAL (getL_of e4) (d := y.d) (at_of (by decide) rfl) ?_
  walk_at "zz"
  exact q y _ g4 ⟨h1.1, by omega⟩
end
end K01
end
section
set_option Elab.async false
set_option linter.all false
set_option maxRecDepth 100000
set_option maxHeartbeats 2000000
open PySem PySem.Spec PyProof.Rows L2 Z
local macro_rules | `(tactic| fail "zs") => `(tactic| first
  | assumption
  | with_reducible exact at_last
  | (with_reducible apply at_set; fail "zs")
  | (with_reducible apply at_app; fail "zs")
  | (with_reducible apply at_setne; (first | assumption | (apply Ne.symm; assumption) | omega); fail "zs")
  | (with_reducible refine Gr.keep (by assumption) ?_; fail "zs")
  | (with_reducible refine Gx.keep (by assumption) ?_ ?_; (first | assumption | (apply Ne.symm; assumption) | omega); fail "zs"))
local macro_rules | `(tactic| fail "zg") => `(tactic| first
  | assumption
  | (with_reducible apply getL_of; fail "zs")
  | (with_reducible apply getW_of; fail "zs")
  | (with_reducible apply getI_of; fail "zs"))
local macro_rules | `(tactic| fail "za") => `(tactic| first | (with_reducible apply atI_int; (first | assumption | omega); (first | assumption | omega | (simp only [List.length_set]; omega))) | with_unfolding_all exact rfl | assumption)
local macro_rules | `(tactic| fail "y0") => `(tactic| first
  | (with_reducible refine' wp_var ?z1 ?z2; (case z1 => with_unfolding_all exact rfl))
  | with_reducible refine wp_c2 ?_
  | with_reducible refine wp_cons ?_
  | with_reducible refine wp_c ?_
  | with_reducible refine wp_nil ?_
  | with_reducible refine wp_call ?_
  | with_reducible refine wp_c1 ?_)
local macro_rules | `(tactic| fail "y1") => `(tactic| first
  | with_reducible refine wp_set ?_
  | with_reducible refine wp_if ?_
  | with_reducible refine wp_next ?_
  | with_reducible refine wp_ret ?_
  | with_reducible refine af_nx ?_
  | with_reducible refine bk_rt ?_
  | (with_reducible refine' wp_ixL ?z1 ?z2 ?z3; (case z1 => fail "zg"); (case z2 => fail "za"))
  | (with_reducible refine' wp_ixT ?z1 ?z2; (case z1 => fail "za")))
local macro_rules | `(tactic| fail "y2") => `(tactic| first
  | with_reducible refine af_rt ?_
  | with_reducible refine af_bk ?_
  | with_reducible refine bk_nx ?_
  | with_reducible refine turned_nx ?_
  | with_reducible refine turned_bk ?_
  | with_reducible refine turned_rt ?_
  | with_reducible refine wp_and ?_
  | with_reducible refine wp_or ?_)
local macro_rules | `(tactic| fail "y3") => `(tactic| first
  | with_reducible refine wp_not ?_
  | with_reducible refine wp_sub ?_
  | with_reducible refine wp_subA ?_
  | with_reducible refine wp_chain ?_
  | with_reducible refine wp_neAI ?_
  | with_reducible refine wp_neAS ?_
  | with_reducible refine wp_dic0 ?_
  | with_reducible refine wp_drop ?_)
local macro_rules | `(tactic| fail "y4") => `(tactic| first
  | with_reducible refine wp_vK ?_
  | with_reducible refine wp_nox ?_
  | with_reducible refine wp_break ?_
  | with_reducible refine wp_retN ?_
  | with_reducible refine wp_sfld ?_
  | with_reducible refine wp_yes ?_
  | with_reducible refine wp_addI ?_
  | with_reducible refine wp_subI ?_)
local macro_rules | `(tactic| fail "y5") => `(tactic| first
  | with_reducible refine wp_neg ?_
  | with_reducible refine wp_eqI ?_
  | with_reducible refine wp_neI ?_
  | with_reducible refine wp_ltI ?_
  | with_reducible refine wp_leI ?_
  | with_reducible refine wp_gtI ?_
  | with_reducible refine wp_geI ?_
  | with_reducible refine wp_eqS ?_)
local macro_rules | `(tactic| fail "y6") => `(tactic| first
  | with_reducible refine wp_neS ?_
  | with_reducible refine wp_eqB ?_
  | with_reducible refine wp_isN ?_
  | with_reducible refine wp_isNotN ?_
  | with_reducible refine wp_int ?_
  | with_reducible refine wp_max2 ?_
  | with_reducible refine wp_min2 ?_
  | with_reducible refine wp_tr_bl ?_)
local macro_rules | `(tactic| fail "y7") => `(tactic| first
  | with_reducible refine wp_tr_int ?_
  | with_reducible refine wp_tupT ?_
  | with_reducible refine wp_slT ?_
  | with_reducible refine wp_nopart ?_
  | with_reducible refine wp_lst ?_
  | with_reducible refine wp_tup ?_
  | with_reducible refine wp_slice ?_
  | with_reducible refine wp_callK ?_)
local macro_rules | `(tactic| fail "y8") => `(tactic| first
  | with_reducible refine wp_make ?_
  | with_reducible refine wp_meth ?_
  | with_reducible refine wp_is ?_
  | with_reducible refine wp_vand ?_
  | with_reducible refine wp_vor ?_
  | with_reducible refine wp_vnot ?_
  | with_reducible refine wp_asg ?_
  | with_reducible refine wp_part ?_)
local macro_rules | `(tactic| fail "y9") => `(tactic| first
  | with_reducible refine wp_forR1 ?_
  | with_reducible refine wp_forR2 ?_
  | with_reducible refine wp_compR1 ?_
  | with_reducible refine wp_compR2 ?_
  | (with_reducible refine' wp_ixAL ?z1 ?z2 ?z3; (case z1 => fail "zg"); (case z2 => fail "za"))
  | (with_reducible refine' wp_ixAT ?z1 ?z2; (case z1 => fail "za"))
  | (with_reducible refine' and_isL ?z1 ?z2; (case z1 => fail "zg"))
  | (with_reducible refine' wp_append ?z1 ?z2 ?z3; (case z1 => fail "zg"); (case z2 => first | omega | (simp only [List.length_map, List.length_append, List.length_cons, List.length_nil]; omega))))
local macro_rules | `(tactic| fail "y10") => `(tactic| first
  | (with_reducible refine' wp_lenL ?z1 ?z2; (case z1 => fail "zg"))
  | with_reducible refine wp_lenT ?_
  | (with_reducible refine' wp_lenAL ?z1 ?z2; (case z1 => fail "zg"))
  | with_reducible refine wp_lenAT ?_
  | (with_reducible refine' wp_listL ?z1 ?z2; (case z1 => fail "zg"))
  | with_reducible refine wp_listT ?_
  | with_reducible refine ex_bl ?_
  | (with_reducible refine' ex_ty ?z1 ?z2 ?z3; (case z1 => with_unfolding_all exact rfl); (case z2 => with_unfolding_all exact rfl)))
local macro_rules | `(tactic| fail "y11") => `(tactic| first
  | (with_reducible refine' wp_mulT ?z1 ?z2 ?z3; (case z1 => omega); (case z2 => omega))
  | (with_reducible refine' wp_setF ?z1 ?z2 ?z3; (case z1 => fail "zg"); (case z2 => with_unfolding_all exact Nat.le_of_ble_eq_true rfl))
  | (with_reducible refine' wp_setInt ?z1 ?z2 ?z3 ?z4; (case z1 => fail "zg"); (case z2 => first | assumption | omega); (case z3 => first | assumption | omega | (simp only [List.length_set]; omega)))
  | (with_reducible refine' wp_setIx ?z1 ?z2 ?z3; (case z1 => fail "zg"); (case z2 => first | (with_reducible apply ixN_of; (first | assumption | omega); (first | assumption | omega | (rw [List.length_map]; omega))) | with_unfolding_all exact rfl | assumption))
  | (with_reducible refine' wp_setAI ?z1 ?z2 ?z3 ?z4; (case z1 => fail "zg"); (case z2 => first | assumption | omega); (case z3 => first | assumption | omega | (simp only [List.length_set]; omega)))
  | (with_reducible refine' wp_setAX ?z1 ?z2 ?z3; (case z1 => fail "zg"); (case z2 => first | (with_reducible apply ixN_of; (first | assumption | omega); (first | assumption | omega | (rw [List.length_map]; omega))) | with_unfolding_all exact rfl | assumption))
  | (with_reducible refine' wp_modI ?z1 ?z2; (case z1 => omega))
  | (with_reducible refine' wp_divA0 ?z1 ?z2 ?z3; (case z1 => omega); (case z2 => omega)))
local macro_rules | `(tactic| fail "y12") => `(tactic| first
  | (with_reducible refine' wp_mulA ?z1 ?z2; (case z1 => omega))
  | (with_reducible refine' wp_divI ?z1 ?z2 ?z3; (case z1 => omega); (case z2 => omega))
  | (with_reducible refine' wp_mulI ?z1 ?z2; (case z1 => omega))
  | (with_reducible refine' wp_powI ?z1 ?z2; (case z1 => with_unfolding_all decide))
  | (with_reducible refine' wp_fld ?z1 ?z2 ?z3; (case z1 => fail "zg"); (case z2 => first | with_unfolding_all exact rfl | assumption))
  | (with_reducible refine' wp_prop ?z1 ?z2; (case z1 => fail "zg"))
  | (with_reducible refine' wp_tupL ?z1 ?z2; (case z1 => fail "zg"))
  | (with_reducible refine' And.intro ?z1 ?z2; (case z1 => first | with_unfolding_all exact Nat.le_of_ble_eq_true rfl | with_unfolding_all decide)))
local macro_rules | `(tactic| fail "z0") => `(tactic| first | fail "y0" | fail "y1" | fail "y2" | fail "y3" | fail "y4" | fail "y5" | fail "y6" | fail "y7" | fail "y8" | fail "y9" | fail "y10" | fail "y11" | fail "y12")
local macro_rules | `(tactic| fail "z1") => `(tactic| first | with_reducible refine wp_seq ?_ | fail "z0")
local macro_rules | `(tactic| walk_at "z") => `(tactic| (repeat fail "z1"))
local macro_rules | `(tactic| fail "zb") => `(tactic| (with_reducible refine And.intro ?_ ?_; (all_goals (intro hb; first | (simp at hb; done) | (simp at hb; skip) | skip))))
local macro_rules | `(tactic| walk_at "zz") => `(tactic| (repeat' (first | fail "z1" | fail "zb")))
local macro_rules | `(tactic| walk_at "zy") => `(tactic| (repeat' (first | fail "z0" | fail "zb")))
local macro_rules | `(tactic| walk_at "zn") => `(tactic| (with_reducible refine wp_seq ?_; walk_at "zy"))
local macro_rules | `(tactic| walk_at "zs") => `(tactic| fail "zs")
local macro_rules | `(tactic| walk_at "zg") => `(tactic| fail "zg")
local macro_rules | `(tactic| walk_at "za") => `(tactic| fail "za")
local macro_rules | `(tactic| walk_at "z0") => `(tactic| fail "z0")
local macro_rules | `(tactic| walk_at "z1") => `(tactic| fail "z1")
local macro_rules | `(tactic| walk_at "zb") => `(tactic| fail "zb")
namespace K01
open PySem PySem.Spec PyProof.Rows L2 Z
local macro_rules | `(tactic| fail "zb") => `(tactic| (with_reducible refine And.intro ?_ ?_; (all_goals (intro hb; first | (exact absurd hb (by decide)) | (simp at hb; done) | (simp only [decide_eq_true_eq, decide_eq_false_iff_not, Bool.not_eq_true', Bool.not_eq_false'] at hb; skip) | skip))))
def MNW : List Str := ["leaf", "read", "read", "op", "op", "op", "call"]
section
variable {ns : List Int} {s st : S} {Q : D → S → Prop} {ws sh : List Str} {x : Xp}
theorem lsame3 {n : Nat} (o : Xok ws sh 12 x) (h : ws.length + sh.length < 60) (ht : Thr s n (rows3 x)) (q : ∀ t, Gr s t → Q (.bl true) t) : Wp (F_law_same [.tup [.tup ((tw "name" x).map D.str), .tup ((tw "read" x).map D.str), .tup ((tw "call" x).map D.str)], .loc n] s) Q := by
  refine lsame_wp (rows := rows3 x) rfl ?_ ht q
  intro r hr
  unfold rows3 at hr
  simp only [List.mem_cons, List.not_mem_nil, or_false] at hr
  rcases hr with rfl | rfl | rfl <;> exact Nat.lt_of_lt_of_le (tw_len o.1 h) (by decide)
theorem words_right_wp (z0 : s[0]? = some (.ro (ns.map D.int))) (hn : ns.length < 1000) (q : ∀ t, Q (.bl true) t) : Wp (F_law_words_right [.loc 0] s) Q := by
  have l0 := at_lt z0
  unfold F_law_words_right b_law_words_right
  refine wp_fn rfl ?_
  refine wp_mid (fun e t => ∃ f : Nat, e = [some (.loc 0), some (.loc f), none, none, none, none, none, none, none] ∧ t[0]? = some (.ro (ns.map D.int)) ∧ Feed t f ∧ 0 < f) ?_ ?_
  · walk_at "zy"
    refine cell_wp z0 (by omega) (by omega) (by omega) ?_
    intro d
    walk_at "zy"
    refine feed_wp ?_
    intro t g f l
    exact ⟨_, rfl, _, rfl, g.keep z0, f, l0⟩
  clear z0 l0
  rintro e s1 ⟨f, rfl, z1, f1, fp⟩
  refine wp_mid (fun e t => ∃ (wl : Nat) (ws : List Str), e = [some (.loc 0), some (.loc f), some (.loc wl), none, none, none, none, none, none] ∧ t[0]? = some (.ro (ns.map D.int)) ∧ Feed t f ∧ f < wl ∧ t[wl]? = some (.lst (ws.map D.str)) ∧ 1 ≤ ws.length ∧ ws.length ≤ 30) ?_ ?_
  · have lf := f1.lt
    walk_at "zy"
    refine take_wp (f1.gr Gr.app) (by omega) (by omega) ?_
    intro j s2 j0 j1 g2 f2 _
    have e2 := g2.keep (by omega) at_last
    refine wp_ixAL (getL_of e2) (atI_int (ns := [8, 30]) j0 (by show j < 2; omega)) ?_
    have hm := gI_mem (ns := [8, 30]) (k := j) j0 (by show j < 2; omega)
    revert hm
    generalize gI [8, 30] j = b
    intro hm
    simp only [List.mem_cons, List.not_mem_nil, or_false] at hm
    walk_at "zy"
    refine take_wp f2 (by omega) (by omega) ?_
    intro k s3 k0 k1 g3 f3 _
    walk_at "zy"
    refine wrow_wp f3 (by omega) (by omega) ?_
    intro ws s4 hw lw e4 g4 f4
    have := f3.lt
    exact ⟨_, rfl, _, ws, rfl, g4.keep (by omega) (g3.keep (by omega) (g2.keep (by omega) (at_app z1))), f4, this, e4, by omega, by omega⟩
  clear z1 f1 s1
  rintro e s1 ⟨wl, ws, rfl, z1, f1, l1, e1, w1, w6⟩
  refine wp_mid (fun e t => ∃ (sl : Nat) (sa : List Str), e = [some (.loc 0), some (.loc f), some (.loc wl), some (.loc sl), none, none, none, none, none] ∧ t[0]? = some (.ro (ns.map D.int)) ∧ Feed t f ∧ wl < sl ∧ t[wl]? = some (.lst (ws.map D.str)) ∧ t[sl]? = some (.lst (sa.map D.str)) ∧ 1 ≤ sa.length ∧ sa.length ≤ 12) ?_ ?_
  · have lf := f1.lt
    have lw := at_lt e1
    walk_at "zy"
    refine take_wp (f1.gr Gr.app) (by omega) (by omega) ?_
    intro j s2 j0 j1 g2 f2 _
    have e2 := g2.keep (by omega) at_last
    refine wp_ixAL (getL_of e2) (atI_int (ns := [6, 12]) j0 (by show j < 2; omega)) ?_
    have hm := gI_mem (ns := [6, 12]) (k := j) j0 (by show j < 2; omega)
    revert hm
    generalize gI [6, 12] j = b
    intro hm
    simp only [List.mem_cons, List.not_mem_nil, or_false] at hm
    walk_at "zy"
    refine take_wp f2 (by omega) (by omega) ?_
    intro k s3 k0 k1 g3 f3 _
    walk_at "zy"
    refine wrow_wp f3 (by omega) (by omega) ?_
    intro sa s4 hw lsa e4 g4 f4
    have h1 := g2.len
    have h2 := g3.len
    rw [List.length_append, List.length_singleton] at h1
    exact ⟨_, rfl, _, sa, rfl, g4.keep (by omega) (g3.keep (by omega) (g2.keep (by omega) (at_app z1))), f4, by omega, g4.keep (by omega) (g3.keep (by omega) (g2.keep (by omega) (at_app e1))), e4, by omega, by omega⟩
  clear z1 f1 e1 s1
  rintro e s1 ⟨sl, sa, rfl, z1, f1, l2, e1, e2, a1, a6⟩
  refine wp_mid (fun e t => ∃ (sa : List Str), e = [some (.loc 0), some (.loc f), some (.loc wl), some (.loc sl), none, none, none, none, none] ∧ t[0]? = some (.ro (ns.map D.int)) ∧ t[wl]? = some (.lst (ws.map D.str)) ∧ t[sl]? = some (.lst (sa.map D.str)) ∧ 1 ≤ sa.length ∧ sa.length ≤ 13) ?_ ?_
  · walk_at "zy"
    refine take_wp f1 (by omega) (by omega) ?_
    intro j s2 j0 j1 g2 f2 l2
    have z2 := g2.keep (by omega) z1
    have e12 := g2.keep (by omega) e1
    have e22 := g2.keep (by omega) e2
    walk_at "zy"
    · refine wp_strIx (getL_of e12) (by omega) (by omega) ?_
      intro z hz
      walk_at "zy"
      refine ⟨_, rfl, sa ++ [z], rfl, at_setne (by omega) z2, at_setne (by omega) e12, ?_, by rw [List.length_append]; omega, by rw [List.length_append, List.length_singleton]; omega⟩
      rw [List.map_append]
      exact at_set e22
    · exact ⟨_, rfl, sa, rfl, z2, e12, e22, a1, by omega⟩
  clear z1 f1 e1 e2 a1 a6 sa s1
  rintro e s1 ⟨sa, rfl, z1, e1, e2, a1, a6⟩
  have hP : ("place" : Str) ∈ sa ++ [("place" : Str)] := List.mem_append_right _ (List.mem_singleton.mpr rfl)
  have hS : ∀ w ∈ sa, w ∈ sa ++ [("place" : Str)] := fun w h => List.mem_append_left _ h
  have hB : ws.length + (sa ++ [("place" : Str)]).length < 60 := by rw [List.length_append, List.length_singleton]; omega
  revert hP hS hB
  generalize sa ++ [("place" : Str)] = sh
  intro hP hS hB
  refine wp_mid (fun e t => ∃ mu : Nat, e = [some (.loc 0), some (.loc f), some (.loc wl), some (.loc sl), some (.loc mu), none, none, none, none] ∧ Gr s1 t ∧ t[mu]? = some (.lst (MNW.map D.str))) ?_ ?_
  · walk_at "zy"
    exact ⟨_, rfl, _, rfl, Gr.app, at_last⟩
  rintro e s2 ⟨mu, rfl, g2, em⟩
  refine wp_mid (fun e t => ∃ x : Xp, e = [some (.loc 0), some (.loc f), some (.loc wl), some (.loc sl), some (.loc mu), some x.d, none, none, none] ∧ Gr s2 t ∧ Xok ws sh 12 x) ?_ ?_
  · walk_at "zy"
    refine cell_wp (g2.keep z1) (by omega) (by omega) (by omega) ?_
    intro d
    walk_at "zy"
    refine drawn_wp (sh := sh) (g2.keep e1) (g2.keep e2) em w1 (by omega) a1 (by omega) (by decide) (by decide) hS hP ?_
    intro x t g hx
    exact ⟨_, rfl, x, rfl, g, hx⟩
  rintro e s3 ⟨x, rfl, g3, hx⟩
  have G3 := g2.trans g3
  refine wp_mid (fun e t => ∃ y : Xp, e = [some (.loc 0), some (.loc f), some (.loc wl), some (.loc sl), some (.loc mu), some x.d, some y.d, none, none] ∧ Gr s3 t ∧ Xok ws sh 12 y) ?_ ?_
  · walk_at "zy"
    refine cell_wp (G3.keep z1) (by omega) (by omega) (by omega) ?_
    intro d
    walk_at "zy"
    refine drawn_wp (sh := sh) (G3.keep e1) (G3.keep e2) (g3.keep em) w1 (by omega) a1 (by omega) (by decide) (by decide) hS hP ?_
    intro y t g hy
    exact ⟨_, rfl, y, rfl, g, hy⟩
  rintro e s4 ⟨y, rfl, g4, hy⟩
  have G4 := G3.trans g4
  refine wp_mid (fun e t => ∃ v : Xp, e = [some (.loc 0), some (.loc f), some (.loc wl), some (.loc sl), some (.loc mu), some x.d, some y.d, some v.d, none] ∧ Xok ws sh 12 v) ?_ ?_
  · walk_at "zy"
    refine cell_wp (G4.keep z1) (by omega) (by omega) (by omega) ?_
    intro d
    walk_at "zy"
    refine feed_wp ?_
    intro t g5 f5 l5
    have h1 := at_lt (G4.keep e1)
    have h2 := at_lt (G4.keep e2)
    walk_at "zy"
    refine wide_wp (sh := sh) f5 (g5.keep (G4.keep e1)) (g5.keep (G4.keep e2)) (by omega) (by omega) w1 (by omega) (by omega) hS ?_
    intro v t2 _ hv
    exact ⟨_, rfl, v, rfl, hv⟩
  rintro e s5 ⟨v, rfl, hv⟩
  refine wp_mid (fun e t => ∃ u : Option D, e = [some (.loc 0), some (.loc f), some (.loc wl), some (.loc sl), some (.loc mu), some x.d, some y.d, some v.d, u]) ?_ ?_
  · refine wp_for_loc ?_
    walk_at "zy"
    refine subs_ih (ws := ws) (sh := sh) 16 12 x hx (by decide) (by decide) s5 _ ?_
    intro l xs t g e ll hxs lx ex
    have lx : xs.length < 1000000 := Nat.lt_of_le_of_lt lx (by rw [sz12]; decide)
    refine ⟨_, rfl, ?_⟩
    refine wp_forL (xs := xs.map Xp.d) (fun i e t2 => ∃ u : Option D, e = [some (.loc 0), some (.loc f), some (.loc wl), some (.loc sl), some (.loc mu), some x.d, some y.d, some v.d, u] ∧ Gr t t2) ⟨_, rfl, Gr.refl⟩ ?_ (by rw [List.length_map]; exact lx) ?_ ?_
    · rintro i es t2 - ⟨u, rfl, g2⟩
      exact getL_of (g2.keep e)
    · rintro i d es t2 hd ⟨u, rfl, g2⟩
      obtain ⟨p, hp, rfl⟩ := List.mem_map.mp (List.mem_of_getElem? hd)
      refine ⟨_, rfl, ?_⟩
      have hp := hxs p hp
      walk_at "zy"
      refine words_of_wp hp hB ?_
      intro t3 g3
      walk_at "zy"
      refine triple_wp hp hB ?_
      intro n t4 g4 h4
      walk_at "zy"
      refine lsame3 hp hB h4 ?_
      intro t5 g5
      walk_at "zy"
      exact ⟨_, rfl, ((g2.trans g3).trans g4).trans g5⟩
    · rintro es t2 ⟨u, rfl, g2⟩
      exact ⟨_, rfl, _, rfl⟩
  rintro e s6 ⟨u, rfl⟩
  walk_at "zn"
  refine words_of_wp hy hB ?_
  intro t3 g3
  walk_at "zy"
  refine triple_wp hy hB ?_
  intro n t4 g4 h4
  walk_at "zy"
  refine lsame3 hy hB h4 ?_
  intro t5 g5
  walk_at "zy"
  refine words_of_wp hv hB ?_
  intro t6 g6
  walk_at "zy"
  refine triple_wp hv hB ?_
  intro n2 t7 g7 h7
  walk_at "zy"
  refine lsame3 hv hB h7 ?_
  intro t8 g8
  walk_at "zy"
  walk_at "zy"
  trace_state
  refine words_of_wp hx hB ?_
  intro t9 g9
  walk_at "zy"
  refine triple_wp hx hB ?_
  intro n3 t10 g10 h10
  walk_at "zy"
  refine lsame3 hx hB h10 ?_
  intro t11 g11
  walk_at "zy"
  exact q _
end
end K01
end
section
set_option Elab.async false
set_option linter.all false
set_option maxRecDepth 100000
set_option maxHeartbeats 2000000
open PySem PySem.Spec PyProof.Rows L2 Z
local macro_rules | `(tactic| fail "zs") => `(tactic| first
  | assumption
  | with_reducible exact at_last
  | (with_reducible apply at_set; fail "zs")
  | (with_reducible apply at_app; fail "zs")
  | (with_reducible apply at_setne; (first | assumption | (apply Ne.symm; assumption) | omega); fail "zs")
  | (with_reducible refine Gr.keep (by assumption) ?_; fail "zs")
  | (with_reducible refine Gx.keep (by assumption) ?_ ?_; (first | assumption | (apply Ne.symm; assumption) | omega); fail "zs"))
local macro_rules | `(tactic| fail "zg") => `(tactic| first
  | assumption
  | (with_reducible apply getL_of; fail "zs")
  | (with_reducible apply getW_of; fail "zs")
  | (with_reducible apply getI_of; fail "zs"))
local macro_rules | `(tactic| fail "za") => `(tactic| first | (with_reducible apply atI_int; (first | assumption | omega); (first | assumption | omega | (simp only [List.length_set]; omega))) | with_unfolding_all exact rfl | assumption)
local macro_rules | `(tactic| fail "y0") => `(tactic| first
  | (with_reducible refine' wp_var ?z1 ?z2; (case z1 => with_unfolding_all exact rfl))
  | with_reducible refine wp_c2 ?_
  | with_reducible refine wp_cons ?_
  | with_reducible refine wp_c ?_
  | with_reducible refine wp_nil ?_
  | with_reducible refine wp_call ?_
  | with_reducible refine wp_c1 ?_)
local macro_rules | `(tactic| fail "y1") => `(tactic| first
  | with_reducible refine wp_set ?_
  | with_reducible refine wp_if ?_
  | with_reducible refine wp_next ?_
  | with_reducible refine wp_ret ?_
  | with_reducible refine af_nx ?_
  | with_reducible refine bk_rt ?_
  | (with_reducible refine' wp_ixL ?z1 ?z2 ?z3; (case z1 => fail "zg"); (case z2 => fail "za"))
  | (with_reducible refine' wp_ixT ?z1 ?z2; (case z1 => fail "za")))
local macro_rules | `(tactic| fail "y2") => `(tactic| first
  | with_reducible refine af_rt ?_
  | with_reducible refine af_bk ?_
  | with_reducible refine bk_nx ?_
  | with_reducible refine turned_nx ?_
  | with_reducible refine turned_bk ?_
  | with_reducible refine turned_rt ?_
  | with_reducible refine wp_and ?_
  | with_reducible refine wp_or ?_)
local macro_rules | `(tactic| fail "y3") => `(tactic| first
  | with_reducible refine wp_not ?_
  | with_reducible refine wp_sub ?_
  | with_reducible refine wp_subA ?_
  | with_reducible refine wp_chain ?_
  | with_reducible refine wp_neAI ?_
  | with_reducible refine wp_neAS ?_
  | with_reducible refine wp_dic0 ?_
  | with_reducible refine wp_drop ?_)
local macro_rules | `(tactic| fail "y4") => `(tactic| first
  | with_reducible refine wp_vK ?_
  | with_reducible refine wp_nox ?_
  | with_reducible refine wp_break ?_
  | with_reducible refine wp_retN ?_
  | with_reducible refine wp_sfld ?_
  | with_reducible refine wp_yes ?_
  | with_reducible refine wp_addI ?_
  | with_reducible refine wp_subI ?_)
local macro_rules | `(tactic| fail "y5") => `(tactic| first
  | with_reducible refine wp_neg ?_
  | with_reducible refine wp_eqI ?_
  | with_reducible refine wp_neI ?_
  | with_reducible refine wp_ltI ?_
  | with_reducible refine wp_leI ?_
  | with_reducible refine wp_gtI ?_
  | with_reducible refine wp_geI ?_
  | with_reducible refine wp_eqS ?_)
local macro_rules | `(tactic| fail "y6") => `(tactic| first
  | with_reducible refine wp_neS ?_
  | with_reducible refine wp_eqB ?_
  | with_reducible refine wp_isN ?_
  | with_reducible refine wp_isNotN ?_
  | with_reducible refine wp_int ?_
  | with_reducible refine wp_max2 ?_
  | with_reducible refine wp_min2 ?_
  | with_reducible refine wp_tr_bl ?_)
local macro_rules | `(tactic| fail "y7") => `(tactic| first
  | with_reducible refine wp_tr_int ?_
  | with_reducible refine wp_tupT ?_
  | with_reducible refine wp_slT ?_
  | with_reducible refine wp_nopart ?_
  | with_reducible refine wp_lst ?_
  | with_reducible refine wp_tup ?_
  | with_reducible refine wp_slice ?_
  | with_reducible refine wp_callK ?_)
local macro_rules | `(tactic| fail "y8") => `(tactic| first
  | with_reducible refine wp_make ?_
  | with_reducible refine wp_meth ?_
  | with_reducible refine wp_is ?_
  | with_reducible refine wp_vand ?_
  | with_reducible refine wp_vor ?_
  | with_reducible refine wp_vnot ?_
  | with_reducible refine wp_asg ?_
  | with_reducible refine wp_part ?_)
local macro_rules | `(tactic| fail "y9") => `(tactic| first
  | with_reducible refine wp_forR1 ?_
  | with_reducible refine wp_forR2 ?_
  | with_reducible refine wp_compR1 ?_
  | with_reducible refine wp_compR2 ?_
  | (with_reducible refine' wp_ixAL ?z1 ?z2 ?z3; (case z1 => fail "zg"); (case z2 => fail "za"))
  | (with_reducible refine' wp_ixAT ?z1 ?z2; (case z1 => fail "za"))
  | (with_reducible refine' and_isL ?z1 ?z2; (case z1 => fail "zg"))
  | (with_reducible refine' wp_append ?z1 ?z2 ?z3; (case z1 => fail "zg"); (case z2 => first | omega | (simp only [List.length_map, List.length_append, List.length_cons, List.length_nil]; omega))))
local macro_rules | `(tactic| fail "y10") => `(tactic| first
  | (with_reducible refine' wp_lenL ?z1 ?z2; (case z1 => fail "zg"))
  | with_reducible refine wp_lenT ?_
  | (with_reducible refine' wp_lenAL ?z1 ?z2; (case z1 => fail "zg"))
  | with_reducible refine wp_lenAT ?_
  | (with_reducible refine' wp_listL ?z1 ?z2; (case z1 => fail "zg"))
  | with_reducible refine wp_listT ?_
  | with_reducible refine ex_bl ?_
  | (with_reducible refine' ex_ty ?z1 ?z2 ?z3; (case z1 => with_unfolding_all exact rfl); (case z2 => with_unfolding_all exact rfl)))
local macro_rules | `(tactic| fail "y11") => `(tactic| first
  | (with_reducible refine' wp_mulT ?z1 ?z2 ?z3; (case z1 => omega); (case z2 => omega))
  | (with_reducible refine' wp_setF ?z1 ?z2 ?z3; (case z1 => fail "zg"); (case z2 => with_unfolding_all exact Nat.le_of_ble_eq_true rfl))
  | (with_reducible refine' wp_setInt ?z1 ?z2 ?z3 ?z4; (case z1 => fail "zg"); (case z2 => first | assumption | omega); (case z3 => first | assumption | omega | (simp only [List.length_set]; omega)))
  | (with_reducible refine' wp_setIx ?z1 ?z2 ?z3; (case z1 => fail "zg"); (case z2 => first | (with_reducible apply ixN_of; (first | assumption | omega); (first | assumption | omega | (rw [List.length_map]; omega))) | with_unfolding_all exact rfl | assumption))
  | (with_reducible refine' wp_setAI ?z1 ?z2 ?z3 ?z4; (case z1 => fail "zg"); (case z2 => first | assumption | omega); (case z3 => first | assumption | omega | (simp only [List.length_set]; omega)))
  | (with_reducible refine' wp_setAX ?z1 ?z2 ?z3; (case z1 => fail "zg"); (case z2 => first | (with_reducible apply ixN_of; (first | assumption | omega); (first | assumption | omega | (rw [List.length_map]; omega))) | with_unfolding_all exact rfl | assumption))
  | (with_reducible refine' wp_modI ?z1 ?z2; (case z1 => omega))
  | (with_reducible refine' wp_divA0 ?z1 ?z2 ?z3; (case z1 => omega); (case z2 => omega)))
local macro_rules | `(tactic| fail "y12") => `(tactic| first
  | (with_reducible refine' wp_mulA ?z1 ?z2; (case z1 => omega))
  | (with_reducible refine' wp_divI ?z1 ?z2 ?z3; (case z1 => omega); (case z2 => omega))
  | (with_reducible refine' wp_mulI ?z1 ?z2; (case z1 => omega))
  | (with_reducible refine' wp_powI ?z1 ?z2; (case z1 => with_unfolding_all decide))
  | (with_reducible refine' wp_fld ?z1 ?z2 ?z3; (case z1 => fail "zg"); (case z2 => first | with_unfolding_all exact rfl | assumption))
  | (with_reducible refine' wp_prop ?z1 ?z2; (case z1 => fail "zg"))
  | (with_reducible refine' wp_tupL ?z1 ?z2; (case z1 => fail "zg"))
  | (with_reducible refine' And.intro ?z1 ?z2; (case z1 => first | with_unfolding_all exact Nat.le_of_ble_eq_true rfl | with_unfolding_all decide)))
local macro_rules | `(tactic| fail "z0") => `(tactic| first | fail "y0" | fail "y1" | fail "y2" | fail "y3" | fail "y4" | fail "y5" | fail "y6" | fail "y7" | fail "y8" | fail "y9" | fail "y10" | fail "y11" | fail "y12")
local macro_rules | `(tactic| fail "z1") => `(tactic| first | with_reducible refine wp_seq ?_ | fail "z0")
local macro_rules | `(tactic| walk_at "z") => `(tactic| (repeat fail "z1"))
local macro_rules | `(tactic| fail "zb") => `(tactic| (with_reducible refine And.intro ?_ ?_; (all_goals (intro hb; first | (simp at hb; done) | (simp at hb; skip) | skip))))
local macro_rules | `(tactic| walk_at "zz") => `(tactic| (repeat' (first | fail "z1" | fail "zb")))
local macro_rules | `(tactic| walk_at "zy") => `(tactic| (repeat' (first | fail "z0" | fail "zb")))
local macro_rules | `(tactic| walk_at "zn") => `(tactic| (with_reducible refine wp_seq ?_; walk_at "zy"))
local macro_rules | `(tactic| walk_at "zs") => `(tactic| fail "zs")
local macro_rules | `(tactic| walk_at "zg") => `(tactic| fail "zg")
local macro_rules | `(tactic| walk_at "za") => `(tactic| fail "za")
local macro_rules | `(tactic| walk_at "z0") => `(tactic| fail "z0")
local macro_rules | `(tactic| walk_at "z1") => `(tactic| fail "z1")
local macro_rules | `(tactic| walk_at "zb") => `(tactic| fail "zb")
namespace K01
open PySem PySem.Spec PyProof.Rows L2 Z
local macro_rules | `(tactic| fail "zb") => `(tactic| (with_reducible refine And.intro ?_ ?_; (all_goals (intro hb; first | (exact absurd hb (by decide)) | (simp at hb; done) | (simp only [decide_eq_true_eq, decide_eq_false_iff_not, Bool.not_eq_true', Bool.not_eq_false'] at hb; skip) | skip))))
structure Mo (s : S) (h pn pa : Nat) (ws sh ks js : List Str) (N : Str → Int) (A : Str → List Int) (F : Str → D) : Prop where
  h : s[h]? = some (.lst [.loc pn, .loc pa])
  m : Me s pn pa ks js N A F
  k : ∀ w, w ∈ ks ↔ w ∈ ws
  j : ∀ w, w ∈ js ↔ w ∈ sh
  nd : js.Nodup
  lk : ks.length ≤ 1000
  lj : js.length ≤ 1000
  lf : Lists js F
  mem : Mem ws sh N A
theorem Mo.gr {s t : S} {h pn pa : Nat} {ws sh ks js : List Str} {N : Str → Int} {A : Str → List Int} {F : Str → D} (M : Mo s h pn pa ws sh ks js N A F) (g : Gr s t) : Mo t h pn pa ws sh ks js N A F := ⟨g.keep M.h, M.m.gr g, M.k, M.j, M.nd, M.lk, M.lj, M.lf, M.mem⟩
theorem Mo.env {s : S} {h pn pa : Nat} {ws sh ks js : List Str} {N : Str → Int} {A : Str → List Int} {F : Str → D} (M : Mo s h pn pa ws sh ks js N A F) : EnvAt s pn pa ws sh N A := M.m.env (fun w k => (M.k w).mpr k) (fun w k => (M.j w).mpr k)
/-- a memory and what is handed in of it, apart from the feed a -/
structure Pk (a : Nat) (s : S) (h pn pa gv gn ga : Nat) (ws sh ks js : List Str) (N : Str → Int) (A : Str → List Int) (F G : Str → D) : Prop where
  mo : Mo s h pn pa ws sh ks js N A F
  ho : Off a pn pa js F
  hh : h ≠ a
  g : s[gv]? = some (.lst [.loc gn, .loc ga])
  gm : Me s gn ga ks js N A G
  go : Off a gn ga js G
  gh : gv ≠ a
  ne : ga ≠ pa
section
variable {a h pn pa gv gn ga : Nat} {s t : S} {ws sh ks js : List Str} {N : Str → Int} {A : Str → List Int} {F G : Str → D}
theorem Pk.gx (P : Pk a s h pn pa gv gn ga ws sh ks js N A F G) (g : Gx a s t) : Pk a t h pn pa gv gn ga ws sh ks js N A F G :=
  ⟨⟨g.keep P.hh P.mo.h, P.mo.m.gx P.ho g, P.mo.k, P.mo.j, P.mo.nd, P.mo.lk, P.mo.lj, P.mo.lf, P.mo.mem⟩, P.ho, P.hh, g.keep P.gh P.g, P.gm.gx P.go g, P.go, P.gh, P.ne⟩
theorem Pk.e1 (P : Pk a s h pn pa gv gn ga ws sh ks js N A F G) : EnvAt s gn ga ws sh N A := P.gm.env (fun w k => (P.mo.k w).mpr k) (fun w k => (P.mo.j w).mpr k)
theorem Pk.e2 (P : Pk a s h pn pa gv gn ga ws sh ks js N A F G) : EnvAt s pn pa ws sh N A := P.mo.env
theorem Pk.a1 (P : Pk a s h pn pa gv gn ga ws sh ks js N A F G) : Ar a s ga sh A := ⟨P.go.e, _, P.gm.a, fun w hw => ⟨_, val_dk ((P.mo.j w).mpr hw), P.gm.r w ((P.mo.j w).mpr hw), P.go.r w ((P.mo.j w).mpr hw)⟩⟩
theorem Pk.a2 (P : Pk a s h pn pa gv gn ga ws sh ks js N A F G) : Ar a s pa sh A := ⟨P.ho.e, _, P.mo.m.a, fun w hw => ⟨_, val_dk ((P.mo.j w).mpr hw), P.mo.m.r w ((P.mo.j w).mpr hw), P.ho.r w ((P.mo.j w).mpr hw)⟩⟩
end
section
variable {ns : List Int} {s s0 : S} {Q : Out → S → Prop} {B : M Out}
@[irreducible] def VA : M Out → M Out := fun B =>
  (sSeq (sSet 1 (cCall (cCons (cCall (cCons (cVar 0) (cCons (cC (.int 0)) cNil)) F_law_cell) cNil) F_law_feed))
  (sSeq (sSet 2 (cCall (cCons (cVar 1) (cCons (c2 (cC (.int 1)) (cCall (cCons (cVar 1) (cCons (cC (.int 5)) cNil)) F_law_take) bAdd) cNil)) F_law_word_row))
  (sSeq (sSet 3 (c2 (cLst (cCons (cC (.str "place")) cNil)) (cCall (cCons (cVar 1) (cCons (c2 (cC (.int 1)) (cCall (cCons (cVar 1) (cCons (cC (.int 3)) cNil)) F_law_take) bAdd) cNil)) F_law_word_row) bAdd))
  (sSeq (cIf (c2 (cCall (cCons (cVar 1) (cCons (cC (.int 3)) cNil)) F_law_take) (cC (.int 0)) kEq) (sDrop (cMeth (cVar 3) (cCons (c2 (cVar 2) (cC (.int 0)) ixA) cNil) mAppend)) sNext) B))))
@[irreducible] def VB : M Out → M Out := fun B =>
  (sSeq (sSet 4 (cCall (cCons (cCall (cCons (cVar 0) (cCons (cC (.int 1)) cNil)) F_law_cell) (cCons (cVar 2) (cCons (cVar 3) cNil))) F_law_memory))
  (sSeq (sSet 5 (cCall (cCons (cCall (cCons (cVar 0) (cCons (cC (.int 2)) cNil)) F_law_cell) (cCons (cVar 2) (cCons (cVar 3) cNil))) F_law_memory))
  (sSeq (sSet 6 (cCall (cCons (cCall (cCons (cVar 0) (cCons (cC (.int 3)) cNil)) F_law_cell) cNil) F_law_feed))
  (sSeq (sSet 7 (cCall (cCons (cVar 6) (cCons (c2 (cVar 4) (cC (.int 0)) ixA) (cCons (c2 (cVar 4) (cC (.int 1)) ixA) cNil))) F_law_handed))
  (sSeq (sSet 8 (cCall (cCons (cVar 6) (cCons (c2 (cVar 5) (cC (.int 0)) ixA) (cCons (c2 (cVar 5) (cC (.int 1)) ixA) cNil))) F_law_handed)) B)))))
theorem va_wp (z0 : s[0]? = some (.ro (ns.map D.int))) (hn : ns.length < 1000) (q : ∀ (f wl sl : Nat) (ws sh : List Str) (s : S), s[0]? = some (.ro (ns.map D.int)) → s[wl]? = some (.lst (ws.map D.str)) → s[sl]? = some (.lst (sh.map D.str)) → (∀ w ∈ ws, Wd w) → 1 ≤ ws.length → ws.length ≤ 6 → sh.length ≤ 6 → ("place" : Str) ∈ sh → Wp (B [some (.loc 0), some (.loc f), some (.loc wl), some (.loc sl), none, none, none, none, none, none, none, none, none, none, none, none] s) Q) : Wp (VA B [some (.loc 0), none, none, none, none, none, none, none, none, none, none, none, none, none, none, none] s) Q := by
  unfold VA
  have l0 := at_lt z0
  refine wp_mid (fun e s => ∃ f : Nat, e = [some (.loc 0), some (.loc f), none, none, none, none, none, none, none, none, none, none, none, none, none, none] ∧ s[0]? = some (.ro (ns.map D.int)) ∧ Feed s f ∧ 0 < f) ?_ ?_
  · walk_at "zy"
    refine cell_wp z0 (by omega) (by omega) (by omega) ?_
    intro d
    walk_at "zy"
    refine feed_wp ?_
    intro s g f l
    exact ⟨_, rfl, _, rfl, g.keep z0, f, l0⟩
  rintro e s1 ⟨f, rfl, z1, f1, fp⟩
  refine wp_mid (fun e s => ∃ (wl : Nat) (ws : List Str), e = [some (.loc 0), some (.loc f), some (.loc wl), none, none, none, none, none, none, none, none, none, none, none, none, none] ∧ s[0]? = some (.ro (ns.map D.int)) ∧ Feed s f ∧ f < wl ∧ s[wl]? = some (.lst (ws.map D.str)) ∧ (∀ w ∈ ws, Wd w) ∧ 1 ≤ ws.length ∧ ws.length ≤ 6) ?_ ?_
  · walk_at "zy"
    refine take_wp f1 (by omega) (by omega) ?_
    intro j s2 j0 j1 g2 f2 l2
    walk_at "zy"
    refine wrow_wp f2 (by omega) (by omega) ?_
    intro ws s3 hw lw e3 g3 f3
    have := f2.lt
    exact ⟨_, rfl, _, ws, rfl, g3.keep (by omega) (g2.keep (by omega) z1), f3, this, e3, hw, by omega, by omega⟩
  clear z1 f1 s1 z0
  rintro e s1 ⟨wl, ws, rfl, z1, f1, l1, e1, hw, w1, w6⟩
  refine wp_mid (fun e s => ∃ (sl : Nat) (sh : List Str), e = [some (.loc 0), some (.loc f), some (.loc wl), some (.loc sl), none, none, none, none, none, none, none, none, none, none, none, none] ∧ s[0]? = some (.ro (ns.map D.int)) ∧ Feed s f ∧ wl < sl ∧ s[wl]? = some (.lst (ws.map D.str)) ∧ s[sl]? = some (.lst (sh.map D.str)) ∧ ("place" : Str) ∈ sh ∧ sh.length ≤ 5) ?_ ?_
  · have l2 := at_lt e1
    walk_at "zy"
    refine take_wp (f1.gr Gr.app) (by omega) (by omega) ?_
    intro j s2 j0 j1 g2 f2 l2
    walk_at "zy"
    have ep : s2[s1.length]? = some (.lst ([("place" : Str)].map D.str)) := g2.keep (by omega) at_last
    refine wrow_wp f2 (by omega) (by omega) ?_
    intro zs s3 hz lz e3 g3 f3
    have ep3 := g3.keep (by omega) ep
    refine wp_addL (getW_of ep3) (getW_of e3) (by simp; omega) ?_
    have gl := g2.len
    have gl3 := g3.len
    simp only [List.length_append, List.length_singleton] at gl
    refine ⟨_, rfl, _, "place" :: zs, rfl, at_app (g3.keep (by omega) (g2.keep (by omega) (at_app z1))), f3.gr Gr.app, by omega, at_app (g3.keep (by omega) (g2.keep (by omega) (at_app e1))), ?_, List.mem_cons_self .., by rw [List.length_cons]; omega⟩
    have : ([("place" : Str)].map D.str ++ zs.map D.str) = ((("place" : Str) :: zs).map D.str) := rfl
    rw [this]
    exact at_last
  clear z1 f1 e1 s1
  rintro e s1 ⟨sl, sh, rfl, z1, f1, l2, e1, e2, hp, s3⟩
  refine wp_mid (fun e s => ∃ (sh : List Str), e = [some (.loc 0), some (.loc f), some (.loc wl), some (.loc sl), none, none, none, none, none, none, none, none, none, none, none, none] ∧ s[0]? = some (.ro (ns.map D.int)) ∧ s[wl]? = some (.lst (ws.map D.str)) ∧ s[sl]? = some (.lst (sh.map D.str)) ∧ ("place" : Str) ∈ sh ∧ sh.length ≤ 6) ?_ ?_
  · walk_at "zy"
    refine take_wp f1 (by omega) (by omega) ?_
    intro j s2 j0 j1 g2 f2 l2
    have z2 := g2.keep (by omega) z1
    have e12 := g2.keep (by omega) e1
    have e22 := g2.keep (by omega) e2
    walk_at "zy"
    · refine wp_strIx (getL_of e12) (by omega) (by omega) ?_
      intro z hz
      walk_at "zy"
      refine ⟨_, rfl, sh ++ [z], rfl, at_setne (by omega) z2, at_setne (by omega) e12, ?_, List.mem_append_left _ hp, by rw [List.length_append, List.length_singleton]; omega⟩
      rw [List.map_append]
      exact at_set e22
    · exact ⟨_, rfl, sh, rfl, z2, e12, e22, hp, by omega⟩
  rintro e s2 ⟨sh, rfl, z2, e1, e2, hp, s3⟩
  exact q f wl sl ws sh s2 z2 e1 e2 hw w1 w6 (by omega) hp
theorem vb_wp {f wl sl : Nat} {ws sh : List Str} (z : s0[0]? = some (.ro (ns.map D.int))) (hn : ns.length < 1000) (e1 : s0[wl]? = some (.lst (ws.map D.str))) (e2 : s0[sl]? = some (.lst (sh.map D.str))) (w6 : ws.length ≤ 6) (s6 : sh.length ≤ 6) (q : ∀ (a h h2 pn pa gv gn ga qn qa ov on oa : Nat) (ks js ks2 js2 : List Str) (N N2 : Str → Int) (A A2 : Str → List Int) (F F2 G O : Str → D) (t : S), Gr s0 t → Feed t a → s0.length ≤ a → Pk a t h pn pa gv gn ga ws sh ks js N A F G → Pk a t h2 qn qa ov on oa ws sh ks2 js2 N2 A2 F2 O → Wp (B [some (.loc 0), some (.loc f), some (.loc wl), some (.loc sl), some (.loc h), some (.loc h2), some (.loc a), some (.loc gv), some (.loc ov), none, none, none, none, none, none, none] t) Q) : Wp (VB B [some (.loc 0), some (.loc f), some (.loc wl), some (.loc sl), none, none, none, none, none, none, none, none, none, none, none, none] s0) Q := by
  unfold VB
  refine wp_mid (fun e t => ∃ (h pn pa : Nat) (ks js : List Str) (N : Str → Int) (A : Str → List Int) (F : Str → D), e = [some (.loc 0), some (.loc f), some (.loc wl), some (.loc sl), some (.loc h), none, none, none, none, none, none, none, none, none, none, none] ∧ Gr s0 t ∧ Mo t h pn pa ws sh ks js N A F) ?_ ?_
  · walk_at "zy"
    refine cell_wp z (by omega) (by omega) (by omega) ?_
    intro d
    walk_at "zy"
    refine memory_wp e1 e2 (by omega) (by omega) ?_
    intro h pn pa ks js N A F t g eh M _ _ k j nd lk lj lf mem
    exact ⟨_, rfl, h, pn, pa, ks, js, N, A, F, rfl, g, eh, M, k, j, nd, lk, lj, lf, mem⟩
  rintro e t ⟨h, pn, pa, ks, js, N, A, F, rfl, g, M⟩
  refine wp_mid (fun e u => ∃ (h2 qn qa : Nat) (ks2 js2 : List Str) (N2 : Str → Int) (A2 : Str → List Int) (F2 : Str → D), e = [some (.loc 0), some (.loc f), some (.loc wl), some (.loc sl), some (.loc h), some (.loc h2), none, none, none, none, none, none, none, none, none, none] ∧ Gr t u ∧ Mo u h2 qn qa ws sh ks2 js2 N2 A2 F2) ?_ ?_
  · walk_at "zy"
    refine cell_wp (g.keep z) (by omega) (by omega) (by omega) ?_
    intro d
    walk_at "zy"
    refine memory_wp (g.keep e1) (g.keep e2) (by omega) (by omega) ?_
    intro h2 pn pa ks js N A F t g eh M _ _ k j nd lk lj lf mem
    exact ⟨_, rfl, h2, pn, pa, ks, js, N, A, F, rfl, g, eh, M, k, j, nd, lk, lj, lf, mem⟩
  rintro e u ⟨h2, qn, qa, ks2, js2, N2, A2, F2, rfl, g2, M2⟩
  have M1 := M.gr g2
  have G2 := g.trans g2
  clear M g g2 t
  refine wp_mid (fun e v => ∃ a : Nat, e = [some (.loc 0), some (.loc f), some (.loc wl), some (.loc sl), some (.loc h), some (.loc h2), some (.loc a), none, none, none, none, none, none, none, none, none] ∧ Gr u v ∧ Feed v a ∧ u.length = a) ?_ ?_
  · walk_at "zy"
    refine cell_wp (G2.keep z) (by omega) (by omega) (by omega) ?_
    intro d
    walk_at "zy"
    refine feed_wp ?_
    intro s g f l
    exact ⟨_, rfl, _, rfl, g, f, rfl⟩
  rintro e v ⟨a, rfl, g3, f3, la⟩
  have ul := G2.len
  have gu : ∀ {t : S}, Gx a v t → Gr s0 t := fun g => Gx.new (G2.trans g3) g (by omega)
  have o1 : Off a pn pa js F := M1.m.off (by omega)
  have o2 : Off a qn qa js2 F2 := M2.m.off (by omega)
  have hh1 : h ≠ a := by
    have := at_lt M1.h
    omega
  have hh2 : h2 ≠ a := by
    have := at_lt M2.h
    omega
  have pal := at_lt M1.m.a
  have qal := at_lt M2.m.a
  have vl := g3.len
  have M1 := M1.gr g3
  have M2 := M2.gr g3
  refine wp_mid (fun e t => ∃ (gv gn ga : Nat) (G : Str → D), e = [some (.loc 0), some (.loc f), some (.loc wl), some (.loc sl), some (.loc h), some (.loc h2), some (.loc a), some (.loc gv), none, none, none, none, none, none, none, none] ∧ Gx a v t ∧ Feed t a ∧ Pk a t h pn pa gv gn ga ws sh ks js N A F G) ?_ ?_
  · have eh := M1.h
    have := f3.lt
    walk_at "zy"
    refine handed_wp f3 M1.m o1 M1.nd M1.lj ?_
    intro gv gn ga G t gx ft ev Mt h1 h2 h3 h4 h5
    exact ⟨_, rfl, gv, gn, ga, G, rfl, gx, ft, ⟨gx.keep hh1 M1.h, M1.m.gx o1 gx, M1.k, M1.j, M1.nd, M1.lk, M1.lj, M1.lf, M1.mem⟩, o1, hh1, ev, Mt, ⟨by omega, by omega, fun w hw e => by
      have := h5 w hw a e
      omega⟩, by omega, by omega⟩
  rintro e t ⟨gv, gn, ga, G, rfl, gx, ft, P⟩
  refine wp_mid (fun e t => ∃ (ov on oa : Nat) (O : Str → D), e = [some (.loc 0), some (.loc f), some (.loc wl), some (.loc sl), some (.loc h), some (.loc h2), some (.loc a), some (.loc gv), some (.loc ov), none, none, none, none, none, none, none] ∧ Gx a v t ∧ Feed t a ∧ Pk a t h pn pa gv gn ga ws sh ks js N A F G ∧ Pk a t h2 qn qa ov on oa ws sh ks2 js2 N2 A2 F2 O) ?_ ?_
  · have M3 : Mo t h2 qn qa ws sh ks2 js2 N2 A2 F2 := ⟨gx.keep hh2 M2.h, M2.m.gx o2 gx, M2.k, M2.j, M2.nd, M2.lk, M2.lj, M2.lf, M2.mem⟩
    have eh := M3.h
    have := ft.lt
    have := gx.len
    walk_at "zy"
    refine handed_wp ft M3.m o2 M3.nd M3.lj ?_
    intro ov on oa O t2 gx2 ft2 ev Mt h1 h2 h3 h4 h5
    exact ⟨_, rfl, ov, on, oa, O, rfl, gx.trans gx2, ft2, P.gx gx2, ⟨gx2.keep hh2 M3.h, M3.m.gx o2 gx2, M3.k, M3.j, M3.nd, M3.lk, M3.lj, M3.lf, M3.mem⟩, o2, hh2, ev, Mt, ⟨by omega, by omega, fun w hw e => by
      have := h5 w hw a e
      omega⟩, by omega, by omega⟩
  rintro e t2 ⟨ov, on, oa, O, rfl, gx2, ft2, P1, P2⟩
  exact q a h h2 pn pa gv gn ga qn qa ov on oa ks js ks2 js2 N N2 A A2 F F2 G O t2 (gu gx2) ft2 (by omega) P1 P2
end
end K01
end
section
set_option Elab.async false
set_option linter.all false
set_option maxRecDepth 100000
set_option maxHeartbeats 2000000
open PySem PySem.Spec PyProof.Rows L2 Z
local macro_rules | `(tactic| fail "zs") => `(tactic| first
  | assumption
  | with_reducible exact at_last
  | (with_reducible apply at_set; fail "zs")
  | (with_reducible apply at_app; fail "zs")
  | (with_reducible apply at_setne; (first | assumption | (apply Ne.symm; assumption) | omega); fail "zs")
  | (with_reducible refine Gr.keep (by assumption) ?_; fail "zs")
  | (with_reducible refine Gx.keep (by assumption) ?_ ?_; (first | assumption | (apply Ne.symm; assumption) | omega); fail "zs"))
local macro_rules | `(tactic| fail "zg") => `(tactic| first
  | assumption
  | (with_reducible apply getL_of; fail "zs")
  | (with_reducible apply getW_of; fail "zs")
  | (with_reducible apply getI_of; fail "zs"))
local macro_rules | `(tactic| fail "za") => `(tactic| first | (with_reducible apply atI_int; (first | assumption | omega); (first | assumption | omega | (simp only [List.length_set]; omega))) | with_unfolding_all exact rfl | assumption)
local macro_rules | `(tactic| fail "y0") => `(tactic| first
  | (with_reducible refine' wp_var ?z1 ?z2; (case z1 => with_unfolding_all exact rfl))
  | with_reducible refine wp_c2 ?_
  | with_reducible refine wp_cons ?_
  | with_reducible refine wp_c ?_
  | with_reducible refine wp_nil ?_
  | with_reducible refine wp_call ?_
  | with_reducible refine wp_c1 ?_)
local macro_rules | `(tactic| fail "y1") => `(tactic| first
  | with_reducible refine wp_set ?_
  | with_reducible refine wp_if ?_
  | with_reducible refine wp_next ?_
  | with_reducible refine wp_ret ?_
  | with_reducible refine af_nx ?_
  | with_reducible refine bk_rt ?_
  | (with_reducible refine' wp_ixL ?z1 ?z2 ?z3; (case z1 => fail "zg"); (case z2 => fail "za"))
  | (with_reducible refine' wp_ixT ?z1 ?z2; (case z1 => fail "za")))
local macro_rules | `(tactic| fail "y2") => `(tactic| first
  | with_reducible refine af_rt ?_
  | with_reducible refine af_bk ?_
  | with_reducible refine bk_nx ?_
  | with_reducible refine turned_nx ?_
  | with_reducible refine turned_bk ?_
  | with_reducible refine turned_rt ?_
  | with_reducible refine wp_and ?_
  | with_reducible refine wp_or ?_)
local macro_rules | `(tactic| fail "y3") => `(tactic| first
  | with_reducible refine wp_not ?_
  | with_reducible refine wp_sub ?_
  | with_reducible refine wp_subA ?_
  | with_reducible refine wp_chain ?_
  | with_reducible refine wp_neAI ?_
  | with_reducible refine wp_neAS ?_
  | with_reducible refine wp_dic0 ?_
  | with_reducible refine wp_drop ?_)
local macro_rules | `(tactic| fail "y4") => `(tactic| first
  | with_reducible refine wp_vK ?_
  | with_reducible refine wp_nox ?_
  | with_reducible refine wp_break ?_
  | with_reducible refine wp_retN ?_
  | with_reducible refine wp_sfld ?_
  | with_reducible refine wp_yes ?_
  | with_reducible refine wp_addI ?_
  | with_reducible refine wp_subI ?_)
local macro_rules | `(tactic| fail "y5") => `(tactic| first
  | with_reducible refine wp_neg ?_
  | with_reducible refine wp_eqI ?_
  | with_reducible refine wp_neI ?_
  | with_reducible refine wp_ltI ?_
  | with_reducible refine wp_leI ?_
  | with_reducible refine wp_gtI ?_
  | with_reducible refine wp_geI ?_
  | with_reducible refine wp_eqS ?_)
local macro_rules | `(tactic| fail "y6") => `(tactic| first
  | with_reducible refine wp_neS ?_
  | with_reducible refine wp_eqB ?_
  | with_reducible refine wp_isN ?_
  | with_reducible refine wp_isNotN ?_
  | with_reducible refine wp_int ?_
  | with_reducible refine wp_max2 ?_
  | with_reducible refine wp_min2 ?_
  | with_reducible refine wp_tr_bl ?_)
local macro_rules | `(tactic| fail "y7") => `(tactic| first
  | with_reducible refine wp_tr_int ?_
  | with_reducible refine wp_tupT ?_
  | with_reducible refine wp_slT ?_
  | with_reducible refine wp_nopart ?_
  | with_reducible refine wp_lst ?_
  | with_reducible refine wp_tup ?_
  | with_reducible refine wp_slice ?_
  | with_reducible refine wp_callK ?_)
local macro_rules | `(tactic| fail "y8") => `(tactic| first
  | with_reducible refine wp_make ?_
  | with_reducible refine wp_meth ?_
  | with_reducible refine wp_is ?_
  | with_reducible refine wp_vand ?_
  | with_reducible refine wp_vor ?_
  | with_reducible refine wp_vnot ?_
  | with_reducible refine wp_asg ?_
  | with_reducible refine wp_part ?_)
local macro_rules | `(tactic| fail "y9") => `(tactic| first
  | with_reducible refine wp_forR1 ?_
  | with_reducible refine wp_forR2 ?_
  | with_reducible refine wp_compR1 ?_
  | with_reducible refine wp_compR2 ?_
  | (with_reducible refine' wp_ixAL ?z1 ?z2 ?z3; (case z1 => fail "zg"); (case z2 => fail "za"))
  | (with_reducible refine' wp_ixAT ?z1 ?z2; (case z1 => fail "za"))
  | (with_reducible refine' and_isL ?z1 ?z2; (case z1 => fail "zg"))
  | (with_reducible refine' wp_append ?z1 ?z2 ?z3; (case z1 => fail "zg"); (case z2 => first | omega | (simp only [List.length_map, List.length_append, List.length_cons, List.length_nil]; omega))))
local macro_rules | `(tactic| fail "y10") => `(tactic| first
  | (with_reducible refine' wp_lenL ?z1 ?z2; (case z1 => fail "zg"))
  | with_reducible refine wp_lenT ?_
  | (with_reducible refine' wp_lenAL ?z1 ?z2; (case z1 => fail "zg"))
  | with_reducible refine wp_lenAT ?_
  | (with_reducible refine' wp_listL ?z1 ?z2; (case z1 => fail "zg"))
  | with_reducible refine wp_listT ?_
  | with_reducible refine ex_bl ?_
  | (with_reducible refine' ex_ty ?z1 ?z2 ?z3; (case z1 => with_unfolding_all exact rfl); (case z2 => with_unfolding_all exact rfl)))
local macro_rules | `(tactic| fail "y11") => `(tactic| first
  | (with_reducible refine' wp_mulT ?z1 ?z2 ?z3; (case z1 => omega); (case z2 => omega))
  | (with_reducible refine' wp_setF ?z1 ?z2 ?z3; (case z1 => fail "zg"); (case z2 => with_unfolding_all exact Nat.le_of_ble_eq_true rfl))
  | (with_reducible refine' wp_setInt ?z1 ?z2 ?z3 ?z4; (case z1 => fail "zg"); (case z2 => first | assumption | omega); (case z3 => first | assumption | omega | (simp only [List.length_set]; omega)))
  | (with_reducible refine' wp_setIx ?z1 ?z2 ?z3; (case z1 => fail "zg"); (case z2 => first | (with_reducible apply ixN_of; (first | assumption | omega); (first | assumption | omega | (rw [List.length_map]; omega))) | with_unfolding_all exact rfl | assumption))
  | (with_reducible refine' wp_setAI ?z1 ?z2 ?z3 ?z4; (case z1 => fail "zg"); (case z2 => first | assumption | omega); (case z3 => first | assumption | omega | (simp only [List.length_set]; omega)))
  | (with_reducible refine' wp_setAX ?z1 ?z2 ?z3; (case z1 => fail "zg"); (case z2 => first | (with_reducible apply ixN_of; (first | assumption | omega); (first | assumption | omega | (rw [List.length_map]; omega))) | with_unfolding_all exact rfl | assumption))
  | (with_reducible refine' wp_modI ?z1 ?z2; (case z1 => omega))
  | (with_reducible refine' wp_divA0 ?z1 ?z2 ?z3; (case z1 => omega); (case z2 => omega)))
local macro_rules | `(tactic| fail "y12") => `(tactic| first
  | (with_reducible refine' wp_mulA ?z1 ?z2; (case z1 => omega))
  | (with_reducible refine' wp_divI ?z1 ?z2 ?z3; (case z1 => omega); (case z2 => omega))
  | (with_reducible refine' wp_mulI ?z1 ?z2; (case z1 => omega))
  | (with_reducible refine' wp_powI ?z1 ?z2; (case z1 => with_unfolding_all decide))
  | (with_reducible refine' wp_fld ?z1 ?z2 ?z3; (case z1 => fail "zg"); (case z2 => first | with_unfolding_all exact rfl | assumption))
  | (with_reducible refine' wp_prop ?z1 ?z2; (case z1 => fail "zg"))
  | (with_reducible refine' wp_tupL ?z1 ?z2; (case z1 => fail "zg"))
  | (with_reducible refine' And.intro ?z1 ?z2; (case z1 => first | with_unfolding_all exact Nat.le_of_ble_eq_true rfl | with_unfolding_all decide)))
local macro_rules | `(tactic| fail "z0") => `(tactic| first | fail "y0" | fail "y1" | fail "y2" | fail "y3" | fail "y4" | fail "y5" | fail "y6" | fail "y7" | fail "y8" | fail "y9" | fail "y10" | fail "y11" | fail "y12")
local macro_rules | `(tactic| fail "z1") => `(tactic| first | with_reducible refine wp_seq ?_ | fail "z0")
local macro_rules | `(tactic| walk_at "z") => `(tactic| (repeat fail "z1"))
local macro_rules | `(tactic| fail "zb") => `(tactic| (with_reducible refine And.intro ?_ ?_; (all_goals (intro hb; first | (simp at hb; done) | (simp at hb; skip) | skip))))
local macro_rules | `(tactic| walk_at "zz") => `(tactic| (repeat' (first | fail "z1" | fail "zb")))
local macro_rules | `(tactic| walk_at "zy") => `(tactic| (repeat' (first | fail "z0" | fail "zb")))
local macro_rules | `(tactic| walk_at "zn") => `(tactic| (with_reducible refine wp_seq ?_; walk_at "zy"))
local macro_rules | `(tactic| walk_at "zs") => `(tactic| fail "zs")
local macro_rules | `(tactic| walk_at "zg") => `(tactic| fail "zg")
local macro_rules | `(tactic| walk_at "za") => `(tactic| fail "za")
local macro_rules | `(tactic| walk_at "z0") => `(tactic| fail "z0")
local macro_rules | `(tactic| walk_at "z1") => `(tactic| fail "z1")
local macro_rules | `(tactic| walk_at "zb") => `(tactic| fail "zb")
namespace K01
open PySem PySem.Spec PyProof.Rows L2 Z
local macro_rules | `(tactic| fail "zb") => `(tactic| (with_reducible refine And.intro ?_ ?_; (all_goals (intro hb; first | (exact absurd hb (by decide)) | (simp at hb; done) | (simp only [decide_eq_true_eq, decide_eq_false_iff_not, Bool.not_eq_true', Bool.not_eq_false'] at hb; skip) | skip))))
def MNV : List Str := ["leaf", "leaf", "read", "read", "read", "op", "op", "call", "call", "call"]
@[irreducible] def VR : M Out :=
  (sSeq (sForA 3 (setN 9) (cIf (cNot (c1 (cCall (cCons (cVar 6) (cCons (cVar 7) (cCons (c2 (cVar 4) (cC (.int 1)) ixA) (cCons (cVar 9) (cCons (c2 (cVar 2) (cC (.int 0)) ixA) (cCons (cCall (cCons (c2 (c2 (cVar 4) (cC (.int 1)) ixA) (cVar 9) ixA) cNil) fLenA) cNil)))))) F_law_spotted) truD)) (sRet (cC (.bl false))) sNext))
  (sSeq (sSet 10 (cCall (cCons (cComp (c2 (c2 (cVar 4) (cC (.int 1)) ixA) (cC (.str "place")) ixA) (setN 15) [15] (c2 (cVar 15) (cC (.int 0)) kEq) (cVar 15)) cNil) fLenA))
  (sSeq (sFor (cLst (cCons (cVar 10) (cCons (cCall (cCons (c2 (c2 (cVar 4) (cC (.int 1)) ixA) (cC (.str "place")) ixA) cNil) fLenA) cNil))) (setN 11) (cIf (cNot (c1 (cCall (cCons (cVar 6) (cCons (cVar 7) (cCons (c2 (cVar 4) (cC (.int 1)) ixA) (cCons (cC (.str "nth")) (cCons (c2 (cVar 2) (cC (.int 0)) ixA) (cCons (cVar 11) cNil)))))) F_law_spotted) truD)) (sRet (cC (.bl false))) sNext))
  (sSeq (cIf (cNot (c1 (cCall (cCons (cVar 6) (cCons (c2 (cVar 2) (cC (.int 0)) ixA) cNil)) F_law_picked) truD)) (sRet (cC (.bl false))) sNext)
  (sSeq (sSet 12 (cLst (cCons (cC (.str "leaf")) (cCons (cC (.str "leaf")) (cCons (cC (.str "read")) (cCons (cC (.str "read")) (cCons (cC (.str "read")) (cCons (cC (.str "op")) (cCons (cC (.str "op")) (cCons (cC (.str "call")) (cCons (cC (.str "call")) (cCons (cC (.str "call")) cNil))))))))))))
  (sSeq (sSet 13 (cCall (cCons (cCall (cCons (cVar 0) (cCons (cC (.int 4)) cNil)) F_law_cell) (cCons (cVar 2) (cCons (cVar 3) (cCons (cVar 12) cNil)))) F_law_drawn))
  (sSeq (sFor (cCall (cCons (cVar 13) cNil) F_law_subs) (setN 14) (cIf (cNot (c1 (cCall (cCons (cVar 14) (cCons (cVar 7) (cCons (c2 (cVar 4) (cC (.int 0)) ixA) (cCons (c2 (cVar 4) (cC (.int 1)) ixA) cNil)))) F_law_valued) truD)) (sRet (cC (.bl false))) sNext))
  (sSeq (cIf (cOr (cNot (c1 (cCall (cCons (cVar 13) (cCons (cVar 8) (cCons (c2 (cVar 5) (cC (.int 0)) ixA) (cCons (c2 (cVar 5) (cC (.int 1)) ixA) cNil)))) F_law_valued) truD)) (cNot (c1 (cCall (cCons (cVar 13) (cCons (cVar 8) (cCons (c2 (cVar 5) (cC (.int 0)) ixA) (cCons (c2 (cVar 5) (cC (.int 1)) ixA) cNil)))) F_law_named) truD))) (sRet (cC (.bl false))) sNext)
  (sSeq (cIf (cNot (c1 (cCall (cCons (cVar 13) (cCons (cVar 7) (cCons (c2 (cVar 4) (cC (.int 0)) ixA) (cCons (c2 (cVar 4) (cC (.int 1)) ixA) cNil)))) F_law_valued) truD)) (sRet (cC (.bl false))) sNext)
  (sRet (vAnd (cCall (cCons (cVar 7) (cCons (c2 (cVar 4) (cC (.int 0)) ixA) (cCons (c2 (cVar 4) (cC (.int 1)) ixA) cNil))) F_law_stayed) (cCall (cCons (cVar 8) (cCons (c2 (cVar 5) (cC (.int 0)) ixA) (cCons (c2 (cVar 5) (cC (.int 1)) ixA) cNil))) F_law_stayed))))))))))))
theorem vr_eq : b_law_values_right = VA (VB VR) := by
  unfold VA VB VR b_law_values_right
  rfl
section
variable {st : S} {es : Ev} {QD : D → S → Prop} {set : Ev → D → Option Ev} {vs : List Nat} {mt : M Bool} {me : M D}
/-- how many of a row are 0 -/
theorem wp_sift0 {m : M D} {ns : List Int} {i : Nat} (hi : i < es.length) (hn : ns.length ≤ 1000) (h : Wp (m es st) fun d s => IsRow s d ns ∧ ∀ (l : Nat) (t : S) (ks : List D), Gr s t → t[l]? = some (.lst ks) → ks.length ≤ 1000 → QD (.loc l) t) : Wp (cComp m (setN i) [i] (c2 (cVar i) (cC (.int 0)) kEq) (cVar i) es st) QD := by
  have step : ∀ (s : S) (d : D), d ∈ ns.map D.int → Step (setN i) [i] (c2 (cVar i) (cC (.int 0)) kEq) (cVar i) es s (fun d => match d with | .int n => if n = 0 then some (.int n) else none | _ => none) d := by
    intro s d hd
    obtain ⟨x, hx, rfl⟩ := List.mem_map.mp hd
    intro s2 g
    have hv : ((wipeD es [i]).set i (some (.int x)))[i]? = some (some (.int x)) := by
      rw [List.getElem?_set_self]
      show i < (es.set i none).length
      rw [List.length_set]
      exact hi
    refine ⟨_, rfl, ?_⟩
    refine wp_c2 (wp_var hv (wp_c ?_))
    show Wp (.ok (decide (x = 0)) s2) _
    by_cases h0 : x = 0
    · refine ⟨rfl, ?_⟩
      subst h0
      exact ⟨rfl, wp_var hv ⟨rfl, rfl⟩⟩
    · refine ⟨rfl, ?_⟩
      simp only [if_neg h0]
      exact decide_eq_false h0
  have ll : ∀ ks : List D, ks = (ns.map D.int).filterMap (fun d => match d with | .int n => if n = 0 then some (D.int n) else none | _ => none) → ks.length ≤ 1000 := fun ks e => by
    have := List.length_filterMap_le (fun d => match d with | .int n => if n = 0 then some (D.int n) else none | _ => none) (ns.map D.int)
    rw [← e, List.length_map] at this
    omega
  refine wp_bind (h.mono fun d s ⟨hr, q⟩ => ?_)
  rcases hr with rfl | ⟨l, rfl, hl⟩
  · exact pureV _ (by rw [List.length_map]; omega) (step s) (q _ _ _ Gr.app at_last (ll _ rfl))
  · exact pureL _ (getL_of hl) (by rw [List.length_map]; omega) (step s) (q _ _ _ Gr.app at_last (ll _ rfl))
end
section
variable {ns : List Int} {s0 : S} {Q : D → S → Prop}
theorem vr_wp {f wl sl a h h2 pn pa gv gn ga qn qa ov on oa : Nat} {ws sh ks js ks2 js2 : List Str} {N N2 : Str → Int} {A A2 : Str → List Int} {F F2 G O : Str → D} (z : s0[0]? = some (.ro (ns.map D.int))) (hn : ns.length < 1000) (e1 : s0[wl]? = some (.lst (ws.map D.str))) (e2 : s0[sl]? = some (.lst (sh.map D.str))) (hw : ∀ w ∈ ws, Wd w) (w1 : 1 ≤ ws.length) (w6 : ws.length ≤ 6) (s6 : sh.length ≤ 6) (hp : ("place" : Str) ∈ sh) (fa : Feed s0 a) (za : 0 ≠ a) (wa : wl ≠ a) (sa : sl ≠ a) (P : Pk a s0 h pn pa gv gn ga ws sh ks js N A F G) (P2 : Pk a s0 h2 qn qa ov on oa ws sh ks2 js2 N2 A2 F2 O) (q : ∀ t, (t[0]? = some (.ro (ns.map D.int))) → Q (.bl true) t) : Wp (VR [some (.loc 0), some (.loc f), some (.loc wl), some (.loc sl), some (.loc h), some (.loc h2), some (.loc a), some (.loc gv), some (.loc ov), none, none, none, none, none, none, none] s0) (Z.Back Q) := by
  unfold VR
  have MA := P.mo.mem.a
  refine wp_mid (fun e t => ∃ v9 : Option D, e = [some (.loc 0), some (.loc f), some (.loc wl), some (.loc sl), some (.loc h), some (.loc h2), some (.loc a), some (.loc gv), some (.loc ov), v9, none, none, none, none, none, none] ∧ Gx a s0 t ∧ Feed t a) ?_ ?_
  · refine wp_forAL rfl (getL_of e2) ?_
    refine wp_forL (xs := sh.map D.str) (fun i e t => ∃ v9 : Option D, e = [some (.loc 0), some (.loc f), some (.loc wl), some (.loc sl), some (.loc h), some (.loc h2), some (.loc a), some (.loc gv), some (.loc ov), v9, none, none, none, none, none, none] ∧ Gx a s0 t ∧ Feed t a) ⟨_, rfl, Gx.refl, fa⟩ ?_ (by rw [List.length_map]; omega) ?_ ?_
    · rintro i es t - ⟨v9, rfl, g, f⟩
      exact getL_of (g.keep sa e2)
    · rintro i d es t hd ⟨v9, rfl, g, f⟩
      obtain ⟨w, hw2, rfl⟩ := List.mem_map.mp (List.mem_of_getElem? hd)
      have Pt := P.gx g
      have eh := Pt.mo.h
      refine ⟨_, rfl, ?_⟩
      walk_at "zy"
      refine wp_strIx (getL_of (g.keep wa e1)) (by omega) (by omega) ?_
      intro z hz
      walk_at "zy"
      refine wp_shelfA Pt.e2 hw2 ?_
      intro d hd2
      walk_at "zy"
      refine wp_lenRow hd2 ?_
      walk_at "zy"
      refine spotted_wp f Pt.g Pt.gh Pt.a1 Pt.a2 MA hp (.inl hw2) (by omega) (by have := (MA w hw2).1; omega) ?_
      intro t2 g2 f2
      walk_at "zy"
      exact ⟨_, rfl, g.trans g2, f2⟩
    · rintro es t ⟨v9, rfl, g, f⟩
      exact ⟨_, rfl, _, rfl, g, f⟩
  rintro e t1 ⟨v9, rfl, g1, f1⟩
  refine wp_mid (fun e t => ∃ fr : Nat, e = [some (.loc 0), some (.loc f), some (.loc wl), some (.loc sl), some (.loc h), some (.loc h2), some (.loc a), some (.loc gv), some (.loc ov), v9, some (.int (fr : Nat)), none, none, none, none, none] ∧ Gx a s0 t ∧ Feed t a ∧ fr ≤ 1000) ?_ ?_
  · have Pt := P.gx g1
    have eh := Pt.mo.h
    refine wp_set (wp_call (wp_cons (wp_sift0 (ns := A "place") (by show 15 < 16; decide) (MA _ hp).1 ?_)))
    walk_at "zy"
    refine wp_shelfA Pt.e2 hp ?_
    intro d hd
    refine ⟨hd, ?_⟩
    intro l t ks g e hk
    refine wp_nil (wp_lenAL (getL_of e) ?_)
    exact ⟨_, rfl, _, rfl, g1.trans g.gx, f1.gr g, hk⟩
  rintro e t2 ⟨fr, rfl, g2, f2, hfr⟩
  clear g1 f1
  refine wp_mid (fun e t => ∃ v11 : Option D, e = [some (.loc 0), some (.loc f), some (.loc wl), some (.loc sl), some (.loc h), some (.loc h2), some (.loc a), some (.loc gv), some (.loc ov), v9, some (.int (fr : Nat)), v11, none, none, none, none] ∧ Gx a s0 t ∧ Feed t a) ?_ ?_
  · have Pt := P.gx g2
    have eh := Pt.mo.h
    refine wp_for_loc ?_
    walk_at "zy"
    refine wp_shelfA Pt.e2 hp ?_
    intro d hd
    walk_at "zy"
    refine wp_lenRow hd ?_
    walk_at "zy"
    refine ⟨_, rfl, ?_⟩
    have e3 := at_last (s := t2) (o := Z.O.lst (([(fr : Int), ((A "place").length : Int)] : List Int).map D.int))
    have g3 : Gx a s0 (t2 ++ [Z.O.lst (([(fr : Int), ((A "place").length : Int)] : List Int).map D.int)]) := g2.trans Gx.app
    have f3 : Feed (t2 ++ [Z.O.lst (([(fr : Int), ((A "place").length : Int)] : List Int).map D.int)]) a := f2.gr Gr.app
    have l3 : t2.length ≠ a := by
      have := f2.lt
      omega
    have hz : ∀ x ∈ ([(fr : Int), ((A "place").length : Int)] : List Int), 0 ≤ x ∧ x ≤ 1000 := by
      have := (MA _ hp).1
      intro x hx
      simp only [List.mem_cons, List.not_mem_nil, or_false] at hx
      rcases hx with rfl | rfl <;> omega
    show Wp (forL _ _ t2.length 1000000 0 _ (t2 ++ [Z.O.lst (([(fr : Int), ((A "place").length : Int)] : List Int).map D.int)])) _
    revert e3 g3 f3 l3 hz
    generalize t2 ++ [Z.O.lst (([(fr : Int), ((A "place").length : Int)] : List Int).map D.int)] = t3
    have lz : ([(fr : Int), ((A "place").length : Int)] : List Int).length = 2 := rfl
    revert lz
    generalize ([(fr : Int), ((A "place").length : Int)] : List Int) = zs
    generalize t2.length = l
    intro lz e3 g3 f3 l3 hz
    refine wp_forL (xs := zs.map D.int) (fun i e t => ∃ v11 : Option D, e = [some (.loc 0), some (.loc f), some (.loc wl), some (.loc sl), some (.loc h), some (.loc h2), some (.loc a), some (.loc gv), some (.loc ov), v9, some (.int (fr : Nat)), v11, none, none, none, none] ∧ Gx a s0 t ∧ Feed t a ∧ t[l]? = some (.lst (zs.map D.int))) ⟨_, rfl, g3, f3, e3⟩ ?_ (by rw [List.length_map]; omega) ?_ ?_
    · rintro i es t - ⟨v11, rfl, g, f, e⟩
      exact getL_of e
    · rintro i d es t hd2 ⟨v11, rfl, g, f, e⟩
      obtain ⟨x, rfl, hx, -⟩ := get_map_int hd2
      have hx := hz x hx
      have Pt := P.gx g
      have eh := Pt.mo.h
      refine ⟨_, rfl, ?_⟩
      walk_at "zy"
      refine wp_strIx (getL_of (g.keep wa e1)) (by omega) (by omega) ?_
      intro z hz
      walk_at "zy"
      refine spotted_wp f Pt.g Pt.gh Pt.a1 Pt.a2 MA hp (.inr rfl) hx.1 hx.2 ?_
      intro t2 g2 f2
      walk_at "zy"
      exact ⟨_, rfl, g.trans g2, f2, g2.keep l3 e⟩
    · rintro es t ⟨v11, rfl, g, f, e⟩
      exact ⟨_, rfl, _, rfl, g, f⟩
  clear g2 f2
  rintro e t2 ⟨v11, rfl, g2, f2⟩
  refine wp_mid (fun e t => e = [some (.loc 0), some (.loc f), some (.loc wl), some (.loc sl), some (.loc h), some (.loc h2), some (.loc a), some (.loc gv), some (.loc ov), v9, some (.int (fr : Nat)), v11, none, none, none, none] ∧ Gx a s0 t ∧ Feed t a) ?_ ?_
  · walk_at "zy"
    refine wp_strIx (getL_of (g2.keep wa e1)) (by omega) (by omega) ?_
    intro z hz
    walk_at "zy"
    refine picked_wp f2 (hw z hz) ?_
    intro t g f
    walk_at "zy"
    exact ⟨_, rfl, rfl, g2.trans g, f⟩
  clear g2 f2 t2
  rintro e t2 ⟨rfl, g2, f2⟩
  refine wp_mid (fun e t => ∃ mu : Nat, e = [some (.loc 0), some (.loc f), some (.loc wl), some (.loc sl), some (.loc h), some (.loc h2), some (.loc a), some (.loc gv), some (.loc ov), v9, some (.int (fr : Nat)), v11, some (.loc mu), none, none, none] ∧ Gx a s0 t ∧ t[mu]? = some (.lst (MNV.map D.str))) ?_ ?_
  · walk_at "zy"
    exact ⟨_, rfl, _, rfl, g2.trans Gx.app, at_last⟩
  clear g2 f2 t2
  rintro e t2 ⟨mu, rfl, g2, em⟩
  refine wp_mid (fun e t => ∃ x : Xp, e = [some (.loc 0), some (.loc f), some (.loc wl), some (.loc sl), some (.loc h), some (.loc h2), some (.loc a), some (.loc gv), some (.loc ov), v9, some (.int (fr : Nat)), v11, some (.loc mu), some x.d, none, none] ∧ Gx a s0 t ∧ Xok ws sh 12 x) ?_ ?_
  · walk_at "zy"
    refine cell_wp (g2.keep za z) (by omega) (by omega) (by omega) ?_
    intro d
    walk_at "zy"
    refine drawn_wp (sh := sh) (g2.keep wa e1) (g2.keep sa e2) em w1 (by omega) (by have := List.length_pos_of_mem hp; omega) (by omega) (by decide) (by decide) (fun w h => h) hp ?_
    intro x t g hx
    exact ⟨_, rfl, x, rfl, g2.trans g.gx, hx⟩
  clear g2 em t2
  rintro e t2 ⟨x, rfl, g2, hx⟩
  refine wp_mid (fun e t => ∃ v14 : Option D, e = [some (.loc 0), some (.loc f), some (.loc wl), some (.loc sl), some (.loc h), some (.loc h2), some (.loc a), some (.loc gv), some (.loc ov), v9, some (.int (fr : Nat)), v11, some (.loc mu), some x.d, v14, none] ∧ Gx a s0 t) ?_ ?_
  · refine wp_for_loc ?_
    walk_at "zy"
    refine subs_ih (ws := ws) (sh := sh) 16 12 x hx (by decide) (by decide) t2 _ ?_
    intro l xs t g e ll hxs lx ex
    have lx : xs.length < 1000000 := Nat.lt_of_le_of_lt lx (by rw [sz12]; decide)
    refine ⟨_, rfl, ?_⟩
    refine wp_forL (xs := xs.map Xp.d) (fun i e u => ∃ v14 : Option D, e = [some (.loc 0), some (.loc f), some (.loc wl), some (.loc sl), some (.loc h), some (.loc h2), some (.loc a), some (.loc gv), some (.loc ov), v9, some (.int (fr : Nat)), v11, some (.loc mu), some x.d, v14, none] ∧ Gr t u) ⟨_, rfl, Gr.refl⟩ ?_ (by rw [List.length_map]; exact lx) ?_ ?_
    · rintro i es u - ⟨v, rfl, gu⟩
      exact getL_of (gu.keep e)
    · rintro i d es u hd ⟨v, rfl, gu⟩
      obtain ⟨p, hp2, rfl⟩ := List.mem_map.mp (List.mem_of_getElem? hd)
      have Pt := P.gx (g2.trans (g.trans gu).gx)
      have eh := Pt.mo.h
      refine ⟨_, rfl, ?_⟩
      walk_at "zy"
      refine valued_wp (hxs p hp2) Pt.mo.mem Pt.g Pt.e1 Pt.e2 ?_
      intro u2 g3
      walk_at "zy"
      exact ⟨_, rfl, gu.trans g3⟩
    · rintro es u ⟨v, rfl, gu⟩
      exact ⟨_, rfl, v, rfl, g2.trans (g.trans gu).gx⟩
  clear g2 t2
  rintro e t2 ⟨v14, rfl, g2⟩
  have Pt := P.gx g2
  have Pu := P2.gx g2
  have eh := Pt.mo.h
  have eh2 := Pu.mo.h
  walk_at "zn"
  refine valued_wp hx Pu.mo.mem Pu.g Pu.e1 Pu.e2 ?_
  intro t3 g3
  have Pt3 := Pt.gx g3.gx
  have Pu3 := Pu.gx g3.gx
  have eh3 := Pt3.mo.h
  have eh4 := Pu3.mo.h
  walk_at "zy"
  refine named_wp hx Pu3.mo.mem Pu3.g Pu3.e1 Pu3.e2 ?_
  intro t4 g4
  have Pt4 := Pt3.gx g4.gx
  have Pu4 := Pu3.gx g4.gx
  have eh5 := Pt4.mo.h
  have eh6 := Pu4.mo.h
  walk_at "zy"
  walk_at "zn"
  refine valued_wp hx Pt4.mo.mem Pt4.g Pt4.e1 Pt4.e2 ?_
  intro t5 g5
  have Pt5 := Pt4.gx g5.gx
  have Pu5 := Pu4.gx g5.gx
  have eh7 := Pt5.mo.h
  have eh8 := Pu5.mo.h
  walk_at "zy"
  walk_at "zy"
  trace_state
  refine stayed_wp Pt5.g Pt5.gm Pt5.mo.m Pt5.mo.lf Pt5.ne Pt5.mo.lj ?_
  intro t6 g6
  have Pu6 := Pu5.gx g6.gx
  have eh9 := Pu6.mo.h
  walk_at "zz"
  refine ⟨true, rfl, fun _ => ?_, fun h => nomatch h⟩
  walk_at "zz"
  refine stayed_wp Pu6.g Pu6.gm Pu6.mo.m Pu6.mo.lf Pu6.ne Pu6.mo.lj ?_
  intro t7 g7
  walk_at "zz"
  exact q _ (g7.keep (g6.keep (g5.keep (g4.keep (g3.keep (g2.keep za z))))))
end
end K01
end
section
set_option Elab.async false
set_option linter.all false
set_option maxRecDepth 100000
set_option maxHeartbeats 2000000
open PySem PySem.Spec PyProof.Rows L2 Z
local macro_rules | `(tactic| fail "zs") => `(tactic| first
  | assumption
  | with_reducible exact at_last
  | (with_reducible apply at_set; fail "zs")
  | (with_reducible apply at_app; fail "zs")
  | (with_reducible apply at_setne; (first | assumption | (apply Ne.symm; assumption) | omega); fail "zs")
  | (with_reducible refine Gr.keep (by assumption) ?_; fail "zs")
  | (with_reducible refine Gx.keep (by assumption) ?_ ?_; (first | assumption | (apply Ne.symm; assumption) | omega); fail "zs"))
local macro_rules | `(tactic| fail "zg") => `(tactic| first
  | assumption
  | (with_reducible apply getL_of; fail "zs")
  | (with_reducible apply getW_of; fail "zs")
  | (with_reducible apply getI_of; fail "zs"))
local macro_rules | `(tactic| fail "za") => `(tactic| first | (with_reducible apply atI_int; (first | assumption | omega); (first | assumption | omega | (simp only [List.length_set]; omega))) | with_unfolding_all exact rfl | assumption)
local macro_rules | `(tactic| fail "y0") => `(tactic| first
  | (with_reducible refine' wp_var ?z1 ?z2; (case z1 => with_unfolding_all exact rfl))
  | with_reducible refine wp_c2 ?_
  | with_reducible refine wp_cons ?_
  | with_reducible refine wp_c ?_
  | with_reducible refine wp_nil ?_
  | with_reducible refine wp_call ?_
  | with_reducible refine wp_c1 ?_)
local macro_rules | `(tactic| fail "y1") => `(tactic| first
  | with_reducible refine wp_set ?_
  | with_reducible refine wp_if ?_
  | with_reducible refine wp_next ?_
  | with_reducible refine wp_ret ?_
  | with_reducible refine af_nx ?_
  | with_reducible refine bk_rt ?_
  | (with_reducible refine' wp_ixL ?z1 ?z2 ?z3; (case z1 => fail "zg"); (case z2 => fail "za"))
  | (with_reducible refine' wp_ixT ?z1 ?z2; (case z1 => fail "za")))
local macro_rules | `(tactic| fail "y2") => `(tactic| first
  | with_reducible refine af_rt ?_
  | with_reducible refine af_bk ?_
  | with_reducible refine bk_nx ?_
  | with_reducible refine turned_nx ?_
  | with_reducible refine turned_bk ?_
  | with_reducible refine turned_rt ?_
  | with_reducible refine wp_and ?_
  | with_reducible refine wp_or ?_)
local macro_rules | `(tactic| fail "y3") => `(tactic| first
  | with_reducible refine wp_not ?_
  | with_reducible refine wp_sub ?_
  | with_reducible refine wp_subA ?_
  | with_reducible refine wp_chain ?_
  | with_reducible refine wp_neAI ?_
  | with_reducible refine wp_neAS ?_
  | with_reducible refine wp_dic0 ?_
  | with_reducible refine wp_drop ?_)
local macro_rules | `(tactic| fail "y4") => `(tactic| first
  | with_reducible refine wp_vK ?_
  | with_reducible refine wp_nox ?_
  | with_reducible refine wp_break ?_
  | with_reducible refine wp_retN ?_
  | with_reducible refine wp_sfld ?_
  | with_reducible refine wp_yes ?_
  | with_reducible refine wp_addI ?_
  | with_reducible refine wp_subI ?_)
local macro_rules | `(tactic| fail "y5") => `(tactic| first
  | with_reducible refine wp_neg ?_
  | with_reducible refine wp_eqI ?_
  | with_reducible refine wp_neI ?_
  | with_reducible refine wp_ltI ?_
  | with_reducible refine wp_leI ?_
  | with_reducible refine wp_gtI ?_
  | with_reducible refine wp_geI ?_
  | with_reducible refine wp_eqS ?_)
local macro_rules | `(tactic| fail "y6") => `(tactic| first
  | with_reducible refine wp_neS ?_
  | with_reducible refine wp_eqB ?_
  | with_reducible refine wp_isN ?_
  | with_reducible refine wp_isNotN ?_
  | with_reducible refine wp_int ?_
  | with_reducible refine wp_max2 ?_
  | with_reducible refine wp_min2 ?_
  | with_reducible refine wp_tr_bl ?_)
local macro_rules | `(tactic| fail "y7") => `(tactic| first
  | with_reducible refine wp_tr_int ?_
  | with_reducible refine wp_tupT ?_
  | with_reducible refine wp_slT ?_
  | with_reducible refine wp_nopart ?_
  | with_reducible refine wp_lst ?_
  | with_reducible refine wp_tup ?_
  | with_reducible refine wp_slice ?_
  | with_reducible refine wp_callK ?_)
local macro_rules | `(tactic| fail "y8") => `(tactic| first
  | with_reducible refine wp_make ?_
  | with_reducible refine wp_meth ?_
  | with_reducible refine wp_is ?_
  | with_reducible refine wp_vand ?_
  | with_reducible refine wp_vor ?_
  | with_reducible refine wp_vnot ?_
  | with_reducible refine wp_asg ?_
  | with_reducible refine wp_part ?_)
local macro_rules | `(tactic| fail "y9") => `(tactic| first
  | with_reducible refine wp_forR1 ?_
  | with_reducible refine wp_forR2 ?_
  | with_reducible refine wp_compR1 ?_
  | with_reducible refine wp_compR2 ?_
  | (with_reducible refine' wp_ixAL ?z1 ?z2 ?z3; (case z1 => fail "zg"); (case z2 => fail "za"))
  | (with_reducible refine' wp_ixAT ?z1 ?z2; (case z1 => fail "za"))
  | (with_reducible refine' and_isL ?z1 ?z2; (case z1 => fail "zg"))
  | (with_reducible refine' wp_append ?z1 ?z2 ?z3; (case z1 => fail "zg"); (case z2 => first | omega | (simp only [List.length_map, List.length_append, List.length_cons, List.length_nil]; omega))))
local macro_rules | `(tactic| fail "y10") => `(tactic| first
  | (with_reducible refine' wp_lenL ?z1 ?z2; (case z1 => fail "zg"))
  | with_reducible refine wp_lenT ?_
  | (with_reducible refine' wp_lenAL ?z1 ?z2; (case z1 => fail "zg"))
  | with_reducible refine wp_lenAT ?_
  | (with_reducible refine' wp_listL ?z1 ?z2; (case z1 => fail "zg"))
  | with_reducible refine wp_listT ?_
  | with_reducible refine ex_bl ?_
  | (with_reducible refine' ex_ty ?z1 ?z2 ?z3; (case z1 => with_unfolding_all exact rfl); (case z2 => with_unfolding_all exact rfl)))
local macro_rules | `(tactic| fail "y11") => `(tactic| first
  | (with_reducible refine' wp_mulT ?z1 ?z2 ?z3; (case z1 => omega); (case z2 => omega))
  | (with_reducible refine' wp_setF ?z1 ?z2 ?z3; (case z1 => fail "zg"); (case z2 => with_unfolding_all exact Nat.le_of_ble_eq_true rfl))
  | (with_reducible refine' wp_setInt ?z1 ?z2 ?z3 ?z4; (case z1 => fail "zg"); (case z2 => first | assumption | omega); (case z3 => first | assumption | omega | (simp only [List.length_set]; omega)))
  | (with_reducible refine' wp_setIx ?z1 ?z2 ?z3; (case z1 => fail "zg"); (case z2 => first | (with_reducible apply ixN_of; (first | assumption | omega); (first | assumption | omega | (rw [List.length_map]; omega))) | with_unfolding_all exact rfl | assumption))
  | (with_reducible refine' wp_setAI ?z1 ?z2 ?z3 ?z4; (case z1 => fail "zg"); (case z2 => first | assumption | omega); (case z3 => first | assumption | omega | (simp only [List.length_set]; omega)))
  | (with_reducible refine' wp_setAX ?z1 ?z2 ?z3; (case z1 => fail "zg"); (case z2 => first | (with_reducible apply ixN_of; (first | assumption | omega); (first | assumption | omega | (rw [List.length_map]; omega))) | with_unfolding_all exact rfl | assumption))
  | (with_reducible refine' wp_modI ?z1 ?z2; (case z1 => omega))
  | (with_reducible refine' wp_divA0 ?z1 ?z2 ?z3; (case z1 => omega); (case z2 => omega)))
local macro_rules | `(tactic| fail "y12") => `(tactic| first
  | (with_reducible refine' wp_mulA ?z1 ?z2; (case z1 => omega))
  | (with_reducible refine' wp_divI ?z1 ?z2 ?z3; (case z1 => omega); (case z2 => omega))
  | (with_reducible refine' wp_mulI ?z1 ?z2; (case z1 => omega))
  | (with_reducible refine' wp_powI ?z1 ?z2; (case z1 => with_unfolding_all decide))
  | (with_reducible refine' wp_fld ?z1 ?z2 ?z3; (case z1 => fail "zg"); (case z2 => first | with_unfolding_all exact rfl | assumption))
  | (with_reducible refine' wp_prop ?z1 ?z2; (case z1 => fail "zg"))
  | (with_reducible refine' wp_tupL ?z1 ?z2; (case z1 => fail "zg"))
  | (with_reducible refine' And.intro ?z1 ?z2; (case z1 => first | with_unfolding_all exact Nat.le_of_ble_eq_true rfl | with_unfolding_all decide)))
local macro_rules | `(tactic| fail "z0") => `(tactic| first | fail "y0" | fail "y1" | fail "y2" | fail "y3" | fail "y4" | fail "y5" | fail "y6" | fail "y7" | fail "y8" | fail "y9" | fail "y10" | fail "y11" | fail "y12")
local macro_rules | `(tactic| fail "z1") => `(tactic| first | with_reducible refine wp_seq ?_ | fail "z0")
local macro_rules | `(tactic| walk_at "z") => `(tactic| (repeat fail "z1"))
local macro_rules | `(tactic| fail "zb") => `(tactic| (with_reducible refine And.intro ?_ ?_; (all_goals (intro hb; first | (simp at hb; done) | (simp at hb; skip) | skip))))
local macro_rules | `(tactic| walk_at "zz") => `(tactic| (repeat' (first | fail "z1" | fail "zb")))
local macro_rules | `(tactic| walk_at "zy") => `(tactic| (repeat' (first | fail "z0" | fail "zb")))
local macro_rules | `(tactic| walk_at "zn") => `(tactic| (with_reducible refine wp_seq ?_; walk_at "zy"))
local macro_rules | `(tactic| walk_at "zs") => `(tactic| fail "zs")
local macro_rules | `(tactic| walk_at "zg") => `(tactic| fail "zg")
local macro_rules | `(tactic| walk_at "za") => `(tactic| fail "za")
local macro_rules | `(tactic| walk_at "z0") => `(tactic| fail "z0")
local macro_rules | `(tactic| walk_at "z1") => `(tactic| fail "z1")
local macro_rules | `(tactic| walk_at "zb") => `(tactic| fail "zb")
namespace K01
open PySem PySem.Spec PyProof.Rows L2 Z
local macro_rules | `(tactic| fail "zb") => `(tactic| (with_reducible refine And.intro ?_ ?_; (all_goals (intro hb; first | (exact absurd hb (by decide)) | (simp at hb; done) | (simp only [decide_eq_true_eq, decide_eq_false_iff_not, Bool.not_eq_true', Bool.not_eq_false'] at hb; skip) | skip))))
section
variable {ns : List Int} {s : S} {Q : D → S → Prop}
theorem values_right_wp (z0 : s[0]? = some (.ro (ns.map D.int))) (hn : ns.length < 1000) (q : ∀ t, t[0]? = some (.ro (ns.map D.int)) → Q (.bl true) t) : Wp (F_law_values_right [.loc 0] s) Q := by
  unfold F_law_values_right
  rw [vr_eq]
  refine wp_fn rfl ?_
  refine va_wp z0 hn ?_
  intro f wl sl ws sh s1 z1 e1 e2 hw w1 w6 s6 hp
  refine vb_wp z1 hn e1 e2 w6 s6 ?_
  intro a h h2 pn pa gv gn ga qn qa ov on oa ks js ks2 js2 N N2 A A2 F F2 G O t g fa la P P2
  have l0 := at_lt z1
  have l1 := at_lt e1
  have l2 := at_lt e2
  exact vr_wp (g.keep z1) hn (g.keep e1) (g.keep e2) hw w1 w6 s6 hp fa (by omega) (by omega) (by omega) P P2 q
theorem law_wp (hn : ns.length < 1000) : Wp (F_law [.loc 0] [.ro (ns.map D.int)]) (fun d _ => d = .bl true) := by
  have z0 : ([.ro (ns.map D.int)] : S)[0]? = some (.ro (ns.map D.int)) := rfl
  unfold F_law b_law
  refine wp_fn rfl ?_
  walk_at "zy"
  refine values_right_wp z0 hn ?_
  intro t z1
  refine ⟨true, rfl, fun _ => ?_, fun h => nomatch h⟩
  walk_at "zy"
  refine words_right_wp z1 hn ?_
  intro t2
  rfl
end
end K01
end
section
set_option Elab.async false
set_option linter.all false
set_option maxRecDepth 100000
set_option maxHeartbeats 1000000
namespace K01
open PySem PySem.Spec PyProof.Rows L2 Z
section
variable {P : Program} {w : World} {K : PySem.W.Frag} {mg : Str → Option Value} {base : Heap} {cad : Nat → Addr}
theorem ok_clip (tp : Tp K mg cad) (self : Def K mg "clip" s_clip ["number"]) : Fn P w K mg base cad "clip" s_clip ["number"] 1 F_clip := by
  obtain ⟨f, fd, F, g, b⟩ := self.ex
  exact ⟨f, fd, fn_ok F sc_clip (fun cdv A outer s H E hr =>
  (s_cons (s_if (t_cmp k_gt (e_var 0) (e_cst tp.LIMIT)) (s_one (s_ret (e_cst tp.LIMIT))) s_nil)
  (s_cons (s_if (t_cmp k_lt (e_var 0) (e_un o_neg (e_cst tp.LIMIT))) (s_one (s_ret (e_un o_neg (e_cst tp.LIMIT)))) s_nil)
  (s_one (s_ret (e_var 0)))))), g, F.kp, b, F⟩
theorem ok_parts_within (tp : Tp K mg cad) (self : Def K mg "parts_within" s_parts_within ["expression"]) : Fn P w K mg base cad "parts_within" s_parts_within ["expression"] 1 F_parts_within := by
  obtain ⟨f, fd, F, g, b⟩ := self.ex
  exact ⟨f, fd, fn_ok F sc_parts_within (fun cdv A outer s H E hr =>
  (s_cons (s_if (t_cmp (k_eq hr.units) (e_ixA hr.units (e_var 0) e_int) e_str) (s_one (s_ret (e_tup (a_cons (e_ixA hr.units (e_var 0) e_int) a_nil)))) s_nil)
  (s_cons (s_if (t_cmp (k_eq hr.units) (e_ixA hr.units (e_var 0) e_int) e_str) (s_one (s_ret (e_tup (a_cons (e_ixA hr.units (e_var 0) e_int) (a_cons (e_ixA hr.units (e_var 0) e_int) a_nil))))) s_nil)
  (s_cons (s_if (t_cmp (k_eq hr.units) (e_ixA hr.units (e_var 0) e_int) e_str) (s_one (s_ret (e_ixA hr.units (e_var 0) e_int))) s_nil)
  (s_one (s_ret (e_tup a_nil))))))), g, F.kp, b, F⟩
theorem ok_quotient_of (tp : Tp K mg cad) (self : Def K mg "quotient_of" s_quotient_of ["left", "right"]) : Fn P w K mg base cad "quotient_of" s_quotient_of ["left", "right"] 1 F_quotient_of := by
  obtain ⟨f, fd, F, g, b⟩ := self.ex
  exact ⟨f, fd, fn_ok F sc_quotient_of (fun cdv A outer s H E hr =>
  (s_cons (s_if (t_cmp (k_eq hr.units) (e_var 1) e_int) (s_one (s_ret e_int)) s_nil)
  (s_one (s_ret (e_bin o_divA (e_var 0) (e_var 1)))))), g, F.kp, b, F⟩
theorem ok_remainder_of (tp : Tp K mg cad) (self : Def K mg "remainder_of" s_remainder_of ["left", "right"]) : Fn P w K mg base cad "remainder_of" s_remainder_of ["left", "right"] 1 F_remainder_of := by
  obtain ⟨f, fd, F, g, b⟩ := self.ex
  exact ⟨f, fd, fn_ok F sc_remainder_of (fun cdv A outer s H E hr =>
  (s_cons (s_if (t_cmp (k_eq hr.units) (e_var 1) e_int) (s_one (s_ret e_int)) s_nil)
  (s_one (s_ret (e_bin o_sub (e_var 0) (e_bin o_mulA (e_var 1) (e_bin o_divA (e_var 0) (e_var 1)))))))), g, F.kp, b, F⟩
theorem ok_comparison_holds (tp : Tp K mg cad) (self : Def K mg "comparison_holds" s_comparison_holds ["sign", "left", "right"]) : Fn P w K mg base cad "comparison_holds" s_comparison_holds ["sign", "left", "right"] 1 F_comparison_holds := by
  obtain ⟨f, fd, F, g, b⟩ := self.ex
  exact ⟨f, fd, fn_ok F sc_comparison_holds (fun cdv A outer s H E hr =>
  (s_cons (s_if (t_cmp (k_eq hr.units) (e_var 0) e_str) (s_one (s_ret (e_cmp k_lt (e_var 1) (e_var 2)))) s_nil)
  (s_cons (s_if (t_cmp (k_eq hr.units) (e_var 0) e_str) (s_one (s_ret (e_cmp k_le (e_var 1) (e_var 2)))) s_nil)
  (s_cons (s_if (t_cmp (k_eq hr.units) (e_var 0) e_str) (s_one (s_ret (e_cmp k_gt (e_var 1) (e_var 2)))) s_nil)
  (s_cons (s_if (t_cmp (k_eq hr.units) (e_var 0) e_str) (s_one (s_ret (e_cmp k_ge (e_var 1) (e_var 2)))) s_nil)
  (s_cons (s_if (t_cmp (k_eq hr.units) (e_var 0) e_str) (s_one (s_ret (e_cmp (k_eq hr.units) (e_var 1) (e_var 2)))) s_nil)
  (s_one (s_ret (e_cmp (kq_neA hr.units) (e_var 1) (e_var 2)))))))))), g, F.kp, b, F⟩
theorem ok_value_of_op (tp : Tp K mg cad) (self : Def K mg "value_of_op" s_value_of_op ["sign", "left", "right"]) (h_clip : Fn P w K mg base cad "clip" s_clip ["number"] 1 F_clip) (h_quotient_of : Fn P w K mg base cad "quotient_of" s_quotient_of ["left", "right"] 1 F_quotient_of) (h_remainder_of : Fn P w K mg base cad "remainder_of" s_remainder_of ["left", "right"] 1 F_remainder_of) (h_comparison_holds : Fn P w K mg base cad "comparison_holds" s_comparison_holds ["sign", "left", "right"] 1 F_comparison_holds) : Fn P w K mg base cad "value_of_op" s_value_of_op ["sign", "left", "right"] 2 F_value_of_op := by
  obtain ⟨f, fd, F, g, b⟩ := self.ex
  exact ⟨f, fd, fn_ok F sc_value_of_op (fun cdv A outer s H E hr =>
  (s_cons (s_if (t_cmp (k_eq hr.units) (e_var 0) e_str) (s_one (s_ret (e_callF h_clip (hr.mono (by omega)) hand_on (a_cons (e_bin o_add (e_var 1) (e_var 2)) a_nil)))) s_nil)
  (s_cons (s_if (t_cmp (k_eq hr.units) (e_var 0) e_str) (s_one (s_ret (e_callF h_clip (hr.mono (by omega)) hand_on (a_cons (e_bin o_sub (e_var 1) (e_var 2)) a_nil)))) s_nil)
  (s_cons (s_if (t_cmp (k_eq hr.units) (e_var 0) e_str) (s_one (s_ret (e_callF h_clip (hr.mono (by omega)) hand_on (a_cons (e_bin o_mulA (e_var 1) (e_var 2)) a_nil)))) s_nil)
  (s_cons (s_if (t_cmp (k_eq hr.units) (e_var 0) e_str) (s_one (s_ret (e_callF h_quotient_of (hr.mono (by omega)) hand_on (a_cons (e_var 1) (a_cons (e_var 2) a_nil))))) s_nil)
  (s_cons (s_if (t_cmp (k_eq hr.units) (e_var 0) e_str) (s_one (s_ret (e_callF h_remainder_of (hr.mono (by omega)) hand_on (a_cons (e_var 1) (a_cons (e_var 2) a_nil))))) s_nil)
  (s_one (s_ret (e_callTy q_int (by rfl) tp.int_ bt_int (a_cons (e_callF h_comparison_holds (hr.mono (by omega)) hand_on (a_cons (e_var 0) (a_cons (e_var 1) (a_cons (e_var 2) a_nil)))) a_nil)))))))))), g, F.kp, b, F⟩
theorem ok_value_of_read (tp : Tp K mg cad) (self : Def K mg "value_of_read" s_value_of_read ["cells", "place"]) : Fn P w K mg base cad "value_of_read" s_value_of_read ["cells", "place"] 1 F_value_of_read := by
  obtain ⟨f, fd, F, g, b⟩ := self.ex
  exact ⟨f, fd, fn_ok F sc_value_of_read (fun cdv A outer s H E hr =>
  (s_cons (s_if (t_chain k_le k_lt e_int (e_var 1) (e_callB (q_lenA) (by rfl) tp.len_ bt_len (a_cons (e_var 0) a_nil))) (s_one (s_ret (e_ixA hr.units (e_var 0) (e_var 1)))) s_nil)
  (s_one (s_ret e_int)))), g, F.kp, b, F⟩
theorem ok_index_of_zero (tp : Tp K mg cad) (self : Def K mg "index_of_zero" s_index_of_zero ["cells", "number"]) : Fn P w K mg base cad "index_of_zero" s_index_of_zero ["cells", "number"] 1 F_index_of_zero := by
  obtain ⟨f, fd, F, g, b⟩ := self.ex
  exact ⟨f, fd, fn_ok F sc_index_of_zero (fun cdv A outer s H E hr =>
  (s_cons (s_setCompR1 (i := 2) rfl sc_index_of_zero.nd rfl rfl (sw_true rfl rfl rfl (by decide +kernel)) (blkOk_by (own := [("index", 3)]) (N := N_index_of_zero) (sc := (defScope s_index_of_zero)) (by decide +kernel)) (by rfl) tp.range_ (a_cons (e_callB (q_lenA) (by rfl) tp.len_ bt_len (a_cons (e_var 0) a_nil)) a_nil) tgr_name (own_name (by decide)) (fun _ _ _ _ _ => (pg_name (i := 3) sc_index_of_zero.nd rfl (by first | exact Or.inl rfl | exact Or.inr rfl))) (fun _ _ _ _ _ => (i_one (t_cmp (k_eq hr.units) (e_ixA hr.units (e_var 0) (e_var 3)) e_int))) (fun _ _ _ _ _ => (e_var 3)))
  (s_cons (s_if (t_chain k_le k_lt e_int (e_var 1) (e_callB (q_lenA) (by rfl) tp.len_ bt_len (a_cons (e_var 2) a_nil))) (s_one (s_ret (e_ixA hr.units (e_var 2) (e_var 1)))) s_nil)
  (s_one (s_ret (e_un o_neg e_int)))))), g, F.kp, b, F⟩
theorem ok_value_of_call (tp : Tp K mg cad) (self : Def K mg "value_of_call" s_value_of_call ["word", "values", "arrays"]) (h_index_of_zero : Fn P w K mg base cad "index_of_zero" s_index_of_zero ["cells", "number"] 1 F_index_of_zero) : Fn P w K mg base cad "value_of_call" s_value_of_call ["word", "values", "arrays"] 2 F_value_of_call := by
  obtain ⟨f, fd, F, g, b⟩ := self.ex
  exact ⟨f, fd, fn_ok F sc_value_of_call (fun cdv A outer s H E hr =>
  (s_cons (s_if (t_cmp (k_eq hr.units) (e_var 0) e_str) (s_one (s_ret (e_callB (q_min rfl) (by rfl) tp.min_ bt_min (a_cons (e_ixA hr.units (e_var 1) e_int) (a_cons (e_ixA hr.units (e_var 1) e_int) a_nil))))) s_nil)
  (s_cons (s_if (t_cmp (k_eq hr.units) (e_var 0) e_str) (s_one (s_ret (e_callB (q_max rfl) (by rfl) tp.max_ bt_max (a_cons (e_ixA hr.units (e_var 1) e_int) (a_cons (e_ixA hr.units (e_var 1) e_int) a_nil))))) s_nil)
  (s_cons (s_if (t_cmp (k_eq hr.units) (e_var 0) e_str) (s_one (s_ret (e_callF h_index_of_zero (hr.mono (by omega)) hand_on (a_cons (e_ixA hr.units (e_var 2) e_str) (a_cons (e_ixA hr.units (e_var 1) e_int) a_nil))))) s_nil)
  (s_cons (s_if (t_cmp (kq_neA hr.units) (e_ixA hr.units (e_var 1) e_int) e_int) (s_one (s_ret (e_ixA hr.units (e_var 1) e_int))) s_nil)
  (s_one (s_ret (e_ixA hr.units (e_var 1) e_int)))))))), g, F.kp, b, F⟩
theorem step_value_of (n : Nat) (tp : Tp K mg cad) (self : Def K mg "value_of" s_value_of ["expression", "names", "arrays"]) (h_parts_within : Fn P w K mg base cad "parts_within" s_parts_within ["expression"] 1 F_parts_within) (h_value_of_op : Fn P w K mg base cad "value_of_op" s_value_of_op ["sign", "left", "right"] 2 F_value_of_op) (h_value_of_read : Fn P w K mg base cad "value_of_read" s_value_of_read ["cells", "place"] 1 F_value_of_read) (h_value_of_call : Fn P w K mg base cad "value_of_call" s_value_of_call ["word", "values", "arrays"] 2 F_value_of_call) (h_value_of : Fn P w K mg base cad "value_of" s_value_of ["expression", "names", "arrays"] (2 + n) (R_value_of n)) : Fn P w K mg base cad "value_of" s_value_of ["expression", "names", "arrays"] (2 + n + 1) (R_value_of (n + 1)) := by
  obtain ⟨f, fd, F, g, b⟩ := self.ex
  exact ⟨f, fd, fn_ok F sc_value_of (fun cdv A outer s H E hr =>
  (s_cons (s_set (i := 3) sc_value_of.nd (e_ixA hr.units (e_var 0) e_int))
  (s_cons (s_if (t_cmp (k_eq hr.units) (e_var 3) e_str) (s_one (s_ret (e_ixA hr.units (e_var 0) e_int))) s_nil)
  (s_cons (s_if (t_cmp (k_eq hr.units) (e_var 3) e_str) (s_one (s_ret (e_ixA hr.units (e_var 1) (e_ixA hr.units (e_var 0) e_int)))) s_nil)
  (s_cons (s_setComp (i := 4) rfl sc_value_of.nd rfl rfl (sw_true rfl rfl rfl (by decide +kernel)) (blkOk_by (own := [("part", 5)]) (N := N_value_of) (sc := (defScope s_value_of)) (by decide +kernel)) (e_callF h_parts_within (hr.mono (by omega)) hand_on (a_cons (e_var 0) a_nil)) tgr_name (own_name (by decide)) (fun _ _ _ _ _ => (pg_name (i := 5) sc_value_of.nd rfl (by first | exact Or.inl rfl | exact Or.inr rfl))) (fun _ _ _ _ _ => i_nil) (fun _ _ _ _ _ => (e_callF h_value_of (hr.mono (by omega)) passL (a_cons (e_var 5) (a_cons (e_var 1) (a_cons (e_var 2) a_nil))))))
  (s_cons (s_if (t_cmp (k_eq hr.units) (e_var 3) e_str) (s_one (s_ret (e_callF h_value_of_read (hr.mono (by omega)) hand_on (a_cons (e_ixA hr.units (e_var 2) (e_ixA hr.units (e_var 0) e_int)) (a_cons (e_ixA hr.units (e_var 4) e_int) a_nil))))) s_nil)
  (s_cons (s_if (t_cmp (k_eq hr.units) (e_var 3) e_str) (s_one (s_ret (e_callF h_value_of_op (hr.mono (by omega)) hand_on (a_cons (e_ixA hr.units (e_var 0) e_int) (a_cons (e_ixA hr.units (e_var 4) e_int) (a_cons (e_ixA hr.units (e_var 4) e_int) a_nil)))))) s_nil)
  (s_one (s_ret (e_callF h_value_of_call (hr.mono (by omega)) hand_on (a_cons (e_ixA hr.units (e_var 0) e_int) (a_cons (e_var 4) (a_cons (e_var 2) a_nil))))))))))))), g, F.kp, b, F⟩
theorem all_value_of (tp : Tp K mg cad) (self_value_of : Def K mg "value_of" s_value_of ["expression", "names", "arrays"]) (h_parts_within : Fn P w K mg base cad "parts_within" s_parts_within ["expression"] 1 F_parts_within) (h_value_of_op : Fn P w K mg base cad "value_of_op" s_value_of_op ["sign", "left", "right"] 2 F_value_of_op) (h_value_of_read : Fn P w K mg base cad "value_of_read" s_value_of_read ["cells", "place"] 1 F_value_of_read) (h_value_of_call : Fn P w K mg base cad "value_of_call" s_value_of_call ["word", "values", "arrays"] 2 F_value_of_call) : ∀ n : Nat, Fn P w K mg base cad "value_of" s_value_of ["expression", "names", "arrays"] (2 + n) (R_value_of n) := by
  intro n
  induction n with
  | zero => exact fn_zero_f self_value_of
  | succ n ih => exact step_value_of n tp self_value_of h_parts_within h_value_of_op h_value_of_read h_value_of_call ih
theorem step_pairs_within (n : Nat) (tp : Tp K mg cad) (self : Def K mg "pairs_within" s_pairs_within ["expression"]) (h_parts_within : Fn P w K mg base cad "parts_within" s_parts_within ["expression"] 1 F_parts_within) (h_pairs_within : Fn P w K mg base cad "pairs_within" s_pairs_within ["expression"] (1 + n) (R_pairs_within n)) : Fn P w K mg base cad "pairs_within" s_pairs_within ["expression"] (1 + n + 1) (R_pairs_within (n + 1)) := by
  obtain ⟨f, fd, F, g, b⟩ := self.ex
  exact ⟨f, fd, fn_ok F sc_pairs_within (fun cdv A outer s H E hr =>
  (s_cons (s_set (i := 1) sc_pairs_within.nd (e_lst a_nil))
  (s_cons (s_if (t_cmp (kq_inA hr.units) (e_ixA hr.units (e_var 0) e_int) (e_tup (a_cons e_str (a_cons e_str (a_cons e_str a_nil))))) (s_one (s_expr (e_meth PySem.F.slot_list_append PySem.F.type_list_append d_append (e_var 1) (a_cons (e_tup (a_cons (e_ixA hr.units (e_var 0) e_int) (a_cons (e_ixA hr.units (e_var 0) e_int) a_nil))) a_nil)))) s_nil)
  (s_cons (s_for own_ok rfl (e_callF h_parts_within (hr.mono (by omega)) hand_on (a_cons (e_var 0) a_nil)) (g_name (i := 2) sc_pairs_within.nd) (s_one (s_expr (e_meth PySem.F.slot_list_extend PySem.F.type_list_extend d_extend (e_var 1) (a_cons (e_callF h_pairs_within (hr.mono (by omega)) hand_on (a_cons (e_var 2) a_nil)) a_nil)))))
  (s_one (s_ret (e_var 1))))))), g, F.kp, b, F⟩
theorem all_pairs_within (tp : Tp K mg cad) (self_pairs_within : Def K mg "pairs_within" s_pairs_within ["expression"]) (h_parts_within : Fn P w K mg base cad "parts_within" s_parts_within ["expression"] 1 F_parts_within) : ∀ n : Nat, Fn P w K mg base cad "pairs_within" s_pairs_within ["expression"] (1 + n) (R_pairs_within n) := by
  intro n
  induction n with
  | zero => exact fn_zero_f self_pairs_within
  | succ n ih => exact step_pairs_within n tp self_pairs_within h_parts_within ih
theorem ok_words_of (tp : Tp K mg cad) (self : Def K mg "words_of" s_words_of ["expression"]) (h_pairs_within : Fn P w K mg base cad "pairs_within" s_pairs_within ["expression"] 17 F_pairs_within) : Fn P w K mg base cad "words_of" s_words_of ["expression"] 18 F_words_of := by
  obtain ⟨f, fd, F, g, b⟩ := self.ex
  exact ⟨f, fd, fn_ok F sc_words_of (fun cdv A outer s H E hr =>
  (s_cons (s_set (i := 1) sc_words_of.nd (e_callF h_pairs_within (hr.mono (by omega)) hand_on (a_cons (e_var 0) a_nil)))
  (s_cons (s_set (i := 2) sc_words_of.nd (e_sortP rfl sc_words_of.nd (blkOk_by (own := [("kind", 5), ("word", 6)]) (N := N_words_of) (sc := (defScope s_words_of)) (by decide +kernel)) rfl (.inl rfl) (by rfl) tp.sorted_ (fun _ _ _ _ _ => pg_tup rfl (pgs_cons (pg_name (i := 5) sc_words_of.nd rfl (by first | exact Or.inl rfl | exact Or.inr rfl)) (pgs_cons (pg_name (i := 6) sc_words_of.nd rfl (by first | exact Or.inl rfl | exact Or.inr rfl)) pgs_nil))) (fun _ _ _ _ _ => pe_var rfl (by first | exact Or.inl rfl | exact Or.inr rfl)) (fun _ _ _ _ _ => pe_var rfl (by first | exact Or.inl rfl | exact Or.inr rfl)) (by decide) (by decide) (by decide) (by decide) (by decide)))
  (s_cons (s_set (i := 3) sc_words_of.nd (e_sortP rfl sc_words_of.nd (blkOk_by (own := [("kind", 5), ("word", 6)]) (N := N_words_of) (sc := (defScope s_words_of)) (by decide +kernel)) rfl (.inl rfl) (by rfl) tp.sorted_ (fun _ _ _ _ _ => pg_tup rfl (pgs_cons (pg_name (i := 5) sc_words_of.nd rfl (by first | exact Or.inl rfl | exact Or.inr rfl)) (pgs_cons (pg_name (i := 6) sc_words_of.nd rfl (by first | exact Or.inl rfl | exact Or.inr rfl)) pgs_nil))) (fun _ _ _ _ _ => pe_var rfl (by first | exact Or.inl rfl | exact Or.inr rfl)) (fun _ _ _ _ _ => pe_var rfl (by first | exact Or.inl rfl | exact Or.inr rfl)) (by decide) (by decide) (by decide) (by decide) (by decide)))
  (s_cons (s_set (i := 4) sc_words_of.nd (e_sortP rfl sc_words_of.nd (blkOk_by (own := [("kind", 5), ("word", 6)]) (N := N_words_of) (sc := (defScope s_words_of)) (by decide +kernel)) rfl (.inl rfl) (by rfl) tp.sorted_ (fun _ _ _ _ _ => pg_tup rfl (pgs_cons (pg_name (i := 5) sc_words_of.nd rfl (by first | exact Or.inl rfl | exact Or.inr rfl)) (pgs_cons (pg_name (i := 6) sc_words_of.nd rfl (by first | exact Or.inl rfl | exact Or.inr rfl)) pgs_nil))) (fun _ _ _ _ _ => pe_var rfl (by first | exact Or.inl rfl | exact Or.inr rfl)) (fun _ _ _ _ _ => pe_var rfl (by first | exact Or.inl rfl | exact Or.inr rfl)) (by decide) (by decide) (by decide) (by decide) (by decide)))
  (s_one (s_ret (e_tup (a_cons (e_callTy q_tuple (by rfl) tp.tuple_ bt_tuple (a_cons (e_var 2) a_nil)) (a_cons (e_callTy q_tuple (by rfl) tp.tuple_ bt_tuple (a_cons (e_var 3) a_nil)) (a_cons (e_callTy q_tuple (by rfl) tp.tuple_ bt_tuple (a_cons (e_var 4) a_nil)) a_nil))))))))))), g, F.kp, b, F⟩
theorem ok_law_whole (tp : Tp K mg cad) (self : Def K mg "_law_whole" s_law_whole ["value"]) : Fn P w K mg base cad "_law_whole" s_law_whole ["value"] 1 F_law_whole := by
  obtain ⟨f, fd, F, g, b⟩ := self.ex
  exact ⟨f, fd, fn_ok F sc_law_whole (fun cdv A outer s H E hr =>
  (s_one (s_ret (e_and (e_isTy (n := .int) (by rfl) tp.isinstance_ (by rfl) tp.int_ bt_int (e_var 0)) (e_one (e_not (e_isTy (n := .bl) (by rfl) tp.isinstance_ (by rfl) tp.bool_ bt_bool (e_var 0)))))))), g, F.kp, b, F⟩
theorem ok_law_cell (tp : Tp K mg cad) (self : Def K mg "_law_cell" s_law_cell ["script", "k"]) : Fn P w K mg base cad "_law_cell" s_law_cell ["script", "k"] 1 F_law_cell := by
  obtain ⟨f, fd, F, g, b⟩ := self.ex
  exact ⟨f, fd, fn_ok F sc_law_cell (fun cdv A outer s H E hr =>
  (s_cons (s_if (t_cmp k_lt (e_var 1) (e_callB (q_lenA) (by rfl) tp.len_ bt_len (a_cons (e_var 0) a_nil))) (s_one (s_ret (e_ixA hr.units (e_var 0) (e_var 1)))) s_nil)
  (s_cons (s_set (i := 2) sc_law_cell.nd e_int)
  (s_cons (s_forA own_ok rfl (e_var 0) (g_name (i := 3) sc_law_cell.nd) (s_one (s_set (i := 2) sc_law_cell.nd (e_bin o_mod (e_callTy q_int (by rfl) tp.int_ bt_int (a_cons (e_bin o_add (e_bin o_mulA (e_var 2) e_int) (e_bin o_mod (e_callTy q_int (by rfl) tp.int_ bt_int (a_cons (e_var 3) a_nil)) e_int)) a_nil)) e_int))))
  (s_one (s_ret (e_bin o_mod (e_callTy q_int (by rfl) tp.int_ bt_int (a_cons (e_bin o_mulA (e_bin o_mulA (e_bin o_add (e_var 2) e_int) (e_bin o_add (e_var 1) e_int)) e_int) a_nil)) e_int))))))), g, F.kp, b, F⟩
theorem ok_law_feed (tp : Tp K mg cad) (self : Def K mg "_law_feed" s_law_feed ["cell"]) : Fn P w K mg base cad "_law_feed" s_law_feed ["cell"] 1 F_law_feed := by
  obtain ⟨f, fd, F, g, b⟩ := self.ex
  exact ⟨f, fd, fn_ok F sc_law_feed (fun cdv A outer s H E hr =>
  (s_cons (s_set (i := 1) sc_law_feed.nd (e_callTy q_int (by rfl) tp.int_ bt_int (a_cons (e_var 0) a_nil)))
  (s_cons (s_if (t_cmp k_ge (e_var 1) (e_bin o_pow e_int e_int)) (s_one (s_ret (e_lst (a_cons e_int (a_cons (e_bin o_sub (e_var 1) (e_bin o_pow e_int e_int)) (a_cons e_int a_nil)))))) s_nil)
  (s_one (s_ret (e_lst (a_cons e_int (a_cons (e_bin o_mod (e_callTy q_int (by rfl) tp.int_ bt_int (a_cons (e_var 1) a_nil)) e_int) (a_cons e_int a_nil))))))))), g, F.kp, b, F⟩
theorem ok_law_take (tp : Tp K mg cad) (self : Def K mg "_law_take" s_law_take ["feed", "size"]) : Fn P w K mg base cad "_law_take" s_law_take ["feed", "size"] 1 F_law_take := by
  obtain ⟨f, fd, F, g, b⟩ := self.ex
  exact ⟨f, fd, fn_ok F sc_law_take (fun cdv A outer s H E hr =>
  (s_cons (s_subA hr.units (e_bin o_add (e_ixA hr.units (e_var 0) e_int) e_int) (e_var 0) e_int)
  (s_cons (s_if (t_w (w_and (t_cmp (k_eq hr.units) (e_ixA hr.units (e_var 0) e_int) e_int) (w_and1 (t_cmp (k_eq hr.units) (e_ixA hr.units (e_var 0) e_int) e_int)))) (s_cons (s_subA hr.units e_int (e_var 0) e_int)
  (s_one (s_subA hr.units (e_bin o_add e_int (e_ixA hr.units (e_var 0) e_int)) (e_var 0) e_int))) s_nil)
  (s_cons (s_if (t_cmp (k_eq hr.units) (e_ixA hr.units (e_var 0) e_int) e_int) (s_cons (s_set (i := 3) sc_law_take.nd (e_bin o_mod (e_callTy q_int (by rfl) tp.int_ bt_int (a_cons (e_ixA hr.units (e_var 0) e_int) a_nil)) (e_var 1)))
  (s_cons (s_subA hr.units (e_bin o_divA (e_callTy q_int (by rfl) tp.int_ bt_int (a_cons (e_ixA hr.units (e_var 0) e_int) a_nil)) (e_var 1)) (e_var 0) e_int)
  (s_one (s_ret (e_var 3))))) s_nil)
  (s_cons (s_subA hr.units (e_bin o_mod (e_callTy q_int (by rfl) tp.int_ bt_int (a_cons (e_bin o_add (e_bin o_add (e_bin o_mulA (e_ixA hr.units (e_var 0) e_int) e_int) (e_bin o_mulA e_int (e_ixA hr.units (e_var 0) e_int))) e_int) a_nil)) e_int) (e_var 0) e_int)
  (s_cons (s_set (i := 2) sc_law_take.nd (e_bin o_mod (e_callTy q_int (by rfl) tp.int_ bt_int (a_cons (e_bin o_mulA (e_ixA hr.units (e_var 0) e_int) (e_bin o_add (e_bin o_divA (e_ixA hr.units (e_var 0) e_int) e_int) e_int)) a_nil)) e_int))
  (s_one (s_ret (e_bin o_mod (e_bin o_divA (e_var 2) e_int) (e_var 1)))))))))), g, F.kp, b, F⟩
theorem ok_law_number (tp : Tp K mg cad) (self : Def K mg "_law_number" s_law_number ["feed"]) (h_law_take : Fn P w K mg base cad "_law_take" s_law_take ["feed", "size"] 1 F_law_take) : Fn P w K mg base cad "_law_number" s_law_number ["feed"] 2 F_law_number := by
  obtain ⟨f, fd, F, g, b⟩ := self.ex
  exact ⟨f, fd, fn_ok F sc_law_number (fun cdv A outer s H E hr =>
  (s_cons (s_set (i := 1) sc_law_number.nd (e_callF h_law_take (hr.mono (by omega)) hand_on (a_cons (e_var 0) (a_cons e_int a_nil))))
  (s_cons (s_if (t_cmp k_lt (e_var 1) e_int) (s_one (s_ret (e_callF h_law_take (hr.mono (by omega)) hand_on (a_cons (e_var 0) (a_cons e_int a_nil))))) s_nil)
  (s_cons (s_if (t_cmp (k_eq hr.units) (e_var 1) e_int) (s_one (s_ret (e_callF h_law_take (hr.mono (by omega)) hand_on (a_cons (e_var 0) (a_cons e_int a_nil))))) s_nil)
  (s_cons (s_if (t_cmp (k_eq hr.units) (e_var 1) e_int) (s_one (s_ret (e_bin o_sub (e_bin o_pow e_int e_int) (e_callF h_law_take (hr.mono (by omega)) hand_on (a_cons (e_var 0) (a_cons e_int a_nil)))))) s_nil)
  (s_cons (s_if (t_cmp (k_eq hr.units) (e_var 1) e_int) (s_one (s_ret (e_bin o_sub (e_bin o_add (e_bin o_pow e_int e_int) (e_callF h_law_take (hr.mono (by omega)) hand_on (a_cons (e_var 0) (a_cons e_int a_nil)))) e_int))) s_nil)
  (s_cons (s_if (t_cmp (k_eq hr.units) (e_var 1) e_int) (s_one (s_ret (e_callF h_law_take (hr.mono (by omega)) hand_on (a_cons (e_var 0) (a_cons e_int a_nil))))) s_nil)
  (s_one (s_ret (e_callB (q_min rfl) (by rfl) tp.min_ bt_min (a_cons (e_bin o_pow e_int e_int) (a_cons (e_bin o_add (e_bin o_mulA (e_callF h_law_take (hr.mono (by omega)) hand_on (a_cons (e_var 0) (a_cons (e_bin o_add (e_bin o_pow e_int e_int) e_int) a_nil))) (e_bin o_pow e_int e_int)) (e_callF h_law_take (hr.mono (by omega)) hand_on (a_cons (e_var 0) (a_cons (e_bin o_pow e_int e_int) a_nil)))) a_nil)))))))))))), g, F.kp, b, F⟩
theorem ok_law_datum (tp : Tp K mg cad) (self : Def K mg "_law_datum" s_law_datum ["feed"]) (h_law_number : Fn P w K mg base cad "_law_number" s_law_number ["feed"] 2 F_law_number) (h_law_take : Fn P w K mg base cad "_law_take" s_law_take ["feed", "size"] 1 F_law_take) : Fn P w K mg base cad "_law_datum" s_law_datum ["feed"] 3 F_law_datum := by
  obtain ⟨f, fd, F, g, b⟩ := self.ex
  exact ⟨f, fd, fn_ok F sc_law_datum (fun cdv A outer s H E hr =>
  (s_cons (s_set (i := 1) sc_law_datum.nd (e_callF h_law_number (hr.mono (by omega)) hand_on (a_cons (e_var 0) a_nil)))
  (s_cons (s_if (t_cmp k_lt (e_callF h_law_take (hr.mono (by omega)) hand_on (a_cons (e_var 0) (a_cons e_int a_nil))) e_int) (s_one (s_ret (e_bin o_sub e_int (e_var 1)))) s_nil)
  (s_one (s_ret (e_var 1)))))), g, F.kp, b, F⟩
theorem ok_law_word (tp : Tp K mg cad) (self : Def K mg "_law_word" s_law_word ["feed"]) (h_law_take : Fn P w K mg base cad "_law_take" s_law_take ["feed", "size"] 1 F_law_take) : Fn P w K mg base cad "_law_word" s_law_word ["feed"] 2 F_law_word := by
  obtain ⟨f, fd, F, g, b⟩ := self.ex
  exact ⟨f, fd, fn_ok F sc_law_word (fun cdv A outer s H E hr =>
  (s_cons (s_set (i := 1) sc_law_word.nd (e_lst (a_cons e_str (a_cons e_str (a_cons e_str (a_cons e_str (a_cons e_str (a_cons e_str (a_cons e_str (a_cons e_str (a_cons e_str (a_cons e_str (a_cons e_str (a_cons e_str (a_cons e_str (a_cons e_str (a_cons e_str a_nil)))))))))))))))))
  (s_cons (s_set (i := 1) sc_law_word.nd (e_bin o_add (e_var 1) (e_lst (a_cons e_str (a_cons e_str (a_cons e_str (a_cons e_str (a_cons e_str (a_cons e_str (a_cons e_str (a_cons e_str (a_cons e_str a_nil))))))))))))
  (s_cons (s_set (i := 2) sc_law_word.nd e_str)
  (s_cons (s_set (i := 3) sc_law_word.nd (e_callF h_law_take (hr.mono (by omega)) hand_on (a_cons (e_var 0) (a_cons e_int a_nil))))
  (s_cons (s_if (t_cmp (k_eq hr.units) (e_var 3) e_int) (s_one (s_ret (e_ixA hr.units (e_var 1) (e_callF h_law_take (hr.mono (by omega)) hand_on (a_cons (e_var 0) (a_cons e_int a_nil)))))) s_nil)
  (s_cons (s_set (i := 4) sc_law_word.nd (e_ixA hr.units (e_lst (a_cons e_int (a_cons e_int (a_cons e_int (a_cons (e_bin o_add e_int (e_callF h_law_take (hr.mono (by omega)) hand_on (a_cons (e_var 0) (a_cons e_int a_nil)))) a_nil))))) (e_bin o_sub (e_var 3) e_int)))
  (s_cons (s_set (i := 5) sc_law_word.nd (e_ixA hr.units (e_var 2) (e_callF h_law_take (hr.mono (by omega)) hand_on (a_cons (e_var 0) (a_cons e_int a_nil)))))
  (s_cons (s_forR1 own_ok rfl (by rfl) tp.range_ (a_cons (e_bin o_sub (e_var 4) e_int) a_nil) (g_name (i := 6) sc_law_word.nd) (s_one (s_set (i := 5) sc_law_word.nd (e_bin o_add (e_var 5) (e_ixA hr.units (e_var 2) (e_callF h_law_take (hr.mono (by omega)) hand_on (a_cons (e_var 0) (a_cons e_int a_nil))))))))
  (s_cons (s_if (t_cmp (kq_inA hr.units) (e_var 5) (e_lst (a_cons e_str (a_cons e_str (a_cons e_str (a_cons e_str (a_cons e_str (a_cons e_str (a_cons e_str a_nil))))))))) (s_one (s_set (i := 5) sc_law_word.nd (e_bin o_add (e_var 5) e_str))) s_nil)
  (s_one (s_ret (e_var 5))))))))))))), g, F.kp, b, F⟩
theorem ok_law_near (tp : Tp K mg cad) (self : Def K mg "_law_near" s_law_near ["feed", "word"]) (h_law_take : Fn P w K mg base cad "_law_take" s_law_take ["feed", "size"] 1 F_law_take) : Fn P w K mg base cad "_law_near" s_law_near ["feed", "word"] 2 F_law_near := by
  obtain ⟨f, fd, F, g, b⟩ := self.ex
  exact ⟨f, fd, fn_ok F sc_law_near (fun cdv A outer s H E hr =>
  (s_cons (s_set (i := 2) sc_law_near.nd e_str)
  (s_cons (s_set (i := 3) sc_law_near.nd (e_callF h_law_take (hr.mono (by omega)) hand_on (a_cons (e_var 0) (a_cons e_int a_nil))))
  (s_cons (s_set (i := 4) sc_law_near.nd (e_bin o_add (e_slice (e_var 1) o_none (o_some e_int)) (e_ixA hr.units (e_var 2) (e_callF h_law_take (hr.mono (by omega)) hand_on (a_cons (e_var 0) (a_cons e_int a_nil))))))
  (s_cons (s_if (t_w (w_and (t_cmp (k_eq hr.units) (e_var 3) e_int) (w_and1 (t_cmp k_gt (e_callB (q_lenA) (by rfl) tp.len_ bt_len (a_cons (e_var 1) a_nil)) e_int)))) (s_one (s_set (i := 4) sc_law_near.nd (e_slice (e_var 1) o_none (o_some (e_bin o_sub (e_callB (q_lenA) (by rfl) tp.len_ bt_len (a_cons (e_var 1) a_nil)) e_int))))) s_nil)
  (s_cons (s_if (t_cmp (k_eq hr.units) (e_var 3) e_int) (s_cons (s_set (i := 5) sc_law_near.nd (e_callF h_law_take (hr.mono (by omega)) hand_on (a_cons (e_var 0) (a_cons (e_callB (q_lenA) (by rfl) tp.len_ bt_len (a_cons (e_var 1) a_nil)) a_nil))))
  (s_one (s_set (i := 4) sc_law_near.nd (e_bin o_add (e_bin o_add (e_slice (e_var 1) o_none (o_some (e_var 5))) (e_ixA hr.units (e_var 2) (e_callF h_law_take (hr.mono (by omega)) hand_on (a_cons (e_var 0) (a_cons e_int a_nil))))) (e_slice (e_var 1) (o_some (e_bin o_add (e_var 5) e_int)) o_none))))) s_nil)
  (s_cons (s_if (t_cmp (kq_inA hr.units) (e_var 4) (e_lst (a_cons e_str (a_cons e_str (a_cons e_str (a_cons e_str (a_cons e_str (a_cons e_str (a_cons e_str a_nil))))))))) (s_one (s_set (i := 4) sc_law_near.nd (e_bin o_add (e_var 4) e_str))) s_nil)
  (s_one (s_ret (e_var 4)))))))))), g, F.kp, b, F⟩
theorem ok_law_word_row (tp : Tp K mg cad) (self : Def K mg "_law_word_row" s_law_word_row ["feed", "many"]) (h_law_word : Fn P w K mg base cad "_law_word" s_law_word ["feed"] 2 F_law_word) (h_law_take : Fn P w K mg base cad "_law_take" s_law_take ["feed", "size"] 1 F_law_take) (h_law_near : Fn P w K mg base cad "_law_near" s_law_near ["feed", "word"] 2 F_law_near) : Fn P w K mg base cad "_law_word_row" s_law_word_row ["feed", "many"] 3 F_law_word_row := by
  obtain ⟨f, fd, F, g, b⟩ := self.ex
  exact ⟨f, fd, fn_ok F sc_law_word_row (fun cdv A outer s H E hr =>
  (s_cons (s_set (i := 2) sc_law_word_row.nd (e_lst a_nil))
  (s_cons (s_forR1 own_ok rfl (by rfl) tp.range_ (a_cons (e_var 1) a_nil) (g_name (i := 3) sc_law_word_row.nd) (s_cons (s_set (i := 4) sc_law_word_row.nd (e_callF h_law_word (hr.mono (by omega)) hand_on (a_cons (e_var 0) a_nil)))
  (s_cons (s_if (t_w (w_and (t_cmp k_gt (e_var 3) e_int) (w_and1 (t_cmp (k_eq hr.units) (e_callF h_law_take (hr.mono (by omega)) hand_on (a_cons (e_var 0) (a_cons e_int a_nil))) e_int)))) (s_one (s_set (i := 4) sc_law_word_row.nd (e_callF h_law_near (hr.mono (by omega)) hand_on (a_cons (e_var 0) (a_cons (e_ixA hr.units (e_var 2) (e_callF h_law_take (hr.mono (by omega)) hand_on (a_cons (e_var 0) (a_cons (e_var 3) a_nil)))) a_nil))))) s_nil)
  (s_one (s_expr (e_meth PySem.F.slot_list_append PySem.F.type_list_append d_append (e_var 2) (a_cons (e_var 4) a_nil)))))))
  (s_one (s_ret (e_var 2)))))), g, F.kp, b, F⟩
theorem ok_law_leaf (tp : Tp K mg cad) (self : Def K mg "_law_leaf" s_law_leaf ["feed", "heads"]) (h_law_take : Fn P w K mg base cad "_law_take" s_law_take ["feed", "size"] 1 F_law_take) (h_law_number : Fn P w K mg base cad "_law_number" s_law_number ["feed"] 2 F_law_number) : Fn P w K mg base cad "_law_leaf" s_law_leaf ["feed", "heads"] 3 F_law_leaf := by
  obtain ⟨f, fd, F, g, b⟩ := self.ex
  exact ⟨f, fd, fn_ok F sc_law_leaf (fun cdv A outer s H E hr =>
  (s_cons (s_if (t_cmp k_lt (e_callF h_law_take (hr.mono (by omega)) hand_on (a_cons (e_var 0) (a_cons e_int a_nil))) e_int) (s_one (s_ret (e_tup (a_cons e_str (a_cons (e_callF h_law_number (hr.mono (by omega)) hand_on (a_cons (e_var 0) a_nil)) a_nil))))) s_nil)
  (s_one (s_ret (e_tup (a_cons e_str (a_cons (e_ixA hr.units (e_var 1) (e_callF h_law_take (hr.mono (by omega)) hand_on (a_cons (e_var 0) (a_cons (e_callB (q_lenA) (by rfl) tp.len_ bt_len (a_cons (e_var 1) a_nil)) a_nil)))) a_nil))))))), g, F.kp, b, F⟩
theorem step_law_tree (n : Nat) (tp : Tp K mg cad) (self : Def K mg "_law_tree" s_law_tree ["feed", "room", "deep", "tight", "heads", "stores", "menu"]) (h_law_take : Fn P w K mg base cad "_law_take" s_law_take ["feed", "size"] 1 F_law_take) (h_law_leaf : Fn P w K mg base cad "_law_leaf" s_law_leaf ["feed", "heads"] 3 F_law_leaf) (h_law_tree : Fn P w K mg base cad "_law_tree" s_law_tree ["feed", "room", "deep", "tight", "heads", "stores", "menu"] (3 + n) (R_law_tree n)) : Fn P w K mg base cad "_law_tree" s_law_tree ["feed", "room", "deep", "tight", "heads", "stores", "menu"] (3 + n + 1) (R_law_tree (n + 1)) := by
  obtain ⟨f, fd, F, g, b⟩ := self.ex
  exact ⟨f, fd, fn_ok F sc_law_tree (fun cdv A outer s H E hr =>
  (s_cons (s_subA hr.units (e_bin o_sub (e_ixA hr.units (e_var 1) e_int) e_int) (e_var 1) e_int)
  (s_cons (s_set (i := 7) sc_law_tree.nd (e_ixA hr.units (e_var 6) (e_callF h_law_take (hr.mono (by omega)) hand_on (a_cons (e_var 0) (a_cons (e_callB (q_lenA) (by rfl) tp.len_ bt_len (a_cons (e_var 6) a_nil)) a_nil)))))
  (s_cons (s_if (t_w (w_or (t_cmp k_lt (e_var 2) e_int) (w_or1 (t_w (w_and (t_not (t_val (e_var 3))) (w_and1 (t_w (w_or (t_cmp (k_eq hr.units) (e_var 7) e_str) (w_or1 (t_cmp k_lt (e_ixA hr.units (e_var 1) e_int) e_int)))))))))) (s_one (s_ret (e_callF h_law_leaf (hr.mono (by omega)) hand_on (a_cons (e_var 0) (a_cons (e_var 4) a_nil))))) s_nil)
  (s_cons (s_set (i := 8) sc_law_tree.nd (e_lst (a_cons e_str (a_cons e_str (a_cons e_str (a_cons e_str (a_cons e_str (a_cons e_str (a_cons e_str (a_cons e_str (a_cons e_str (a_cons e_str (a_cons e_str (a_cons e_str (a_cons e_str (a_cons e_str (a_cons e_str (a_cons e_str a_nil))))))))))))))))))
  (s_cons (s_set (i := 9) sc_law_tree.nd (e_ixA hr.units (e_var 8) (e_callF h_law_take (hr.mono (by omega)) hand_on (a_cons (e_var 0) (a_cons e_int a_nil)))))
  (s_cons (s_set (i := 10) sc_law_tree.nd e_int)
  (s_cons (s_if (t_cmp (k_eq hr.units) (e_var 7) e_str) (s_cons (s_set (i := 9) sc_law_tree.nd (e_ixA hr.units (e_var 5) (e_callF h_law_take (hr.mono (by omega)) hand_on (a_cons (e_var 0) (a_cons (e_callB (q_lenA) (by rfl) tp.len_ bt_len (a_cons (e_var 5) a_nil)) a_nil)))))
  (s_one (s_set (i := 10) sc_law_tree.nd e_int))) s_nil)
  (s_cons (s_if (t_cmp (k_eq hr.units) (e_var 7) e_str) (s_cons (s_set (i := 9) sc_law_tree.nd (e_ixA hr.units (e_lst (a_cons e_str (a_cons e_str (a_cons e_str (a_cons e_str a_nil))))) (e_callF h_law_take (hr.mono (by omega)) hand_on (a_cons (e_var 0) (a_cons e_int a_nil)))))
  (s_one (s_set (i := 10) sc_law_tree.nd (e_bin o_sub (e_bin o_add e_int (e_callTy q_int (by rfl) tp.int_ bt_int (a_cons (e_cmp (k_eq hr.units) (e_var 9) e_str) a_nil))) (e_callTy q_int (by rfl) tp.int_ bt_int (a_cons (e_cmp (k_eq hr.units) (e_var 9) e_str) a_nil)))))) s_nil)
  (s_cons (s_set (i := 11) sc_law_tree.nd (e_callF h_law_take (hr.mono (by omega)) hand_on (a_cons (e_var 0) (a_cons (e_var 10) a_nil))))
  (s_cons (s_set (i := 12) sc_law_tree.nd (e_lst a_nil))
  (s_cons (s_forR1 own_ok rfl (by rfl) tp.range_ (a_cons (e_var 10) a_nil) (g_name (i := 13) sc_law_tree.nd) (s_one (s_if (t_w (w_and (t_val (e_var 3)) (w_and1 (t_cmp (k_eq hr.units) (e_var 13) (e_var 11))))) (s_one (s_expr (e_meth PySem.F.slot_list_append PySem.F.type_list_append d_append (e_var 12) (a_cons (e_callF h_law_tree (hr.mono (by omega)) hand_on (a_cons (e_var 0) (a_cons (e_var 1) (a_cons (e_bin o_sub (e_var 2) e_int) (a_cons e_bl (a_cons (e_var 4) (a_cons (e_var 5) (a_cons (e_var 6) a_nil)))))))) a_nil)))) (s_one (s_expr (e_meth PySem.F.slot_list_append PySem.F.type_list_append d_append (e_var 12) (a_cons (e_callF h_law_tree (hr.mono (by omega)) hand_on (a_cons (e_var 0) (a_cons (e_var 1) (a_cons (e_bin o_add e_int (e_callF h_law_take (hr.mono (by omega)) hand_on (a_cons (e_var 0) (a_cons (e_bin o_sub (e_var 2) e_int) a_nil)))) (a_cons e_bl (a_cons (e_var 4) (a_cons (e_var 5) (a_cons (e_var 6) a_nil)))))))) a_nil)))))))
  (s_cons (s_if (t_cmp (k_eq hr.units) (e_var 7) e_str) (s_one (s_ret (e_tup (a_cons e_str (a_cons (e_var 9) (a_cons (e_ixA hr.units (e_var 12) e_int) a_nil)))))) s_nil)
  (s_cons (s_if (t_cmp (k_eq hr.units) (e_var 7) e_str) (s_one (s_ret (e_tup (a_cons e_str (a_cons (e_var 9) (a_cons (e_callTy q_tuple (by rfl) tp.tuple_ bt_tuple (a_cons (e_var 12) a_nil)) a_nil)))))) s_nil)
  (s_one (s_ret (e_tup (a_cons e_str (a_cons (e_var 9) (a_cons (e_ixA hr.units (e_var 12) e_int) (a_cons (e_ixA hr.units (e_var 12) e_int) a_nil))))))))))))))))))))), g, F.kp, b, F⟩
theorem all_law_tree (tp : Tp K mg cad) (self_law_tree : Def K mg "_law_tree" s_law_tree ["feed", "room", "deep", "tight", "heads", "stores", "menu"]) (h_law_take : Fn P w K mg base cad "_law_take" s_law_take ["feed", "size"] 1 F_law_take) (h_law_leaf : Fn P w K mg base cad "_law_leaf" s_law_leaf ["feed", "heads"] 3 F_law_leaf) : ∀ n : Nat, Fn P w K mg base cad "_law_tree" s_law_tree ["feed", "room", "deep", "tight", "heads", "stores", "menu"] (3 + n) (R_law_tree n) := by
  intro n
  induction n with
  | zero => exact fn_zero_f self_law_tree
  | succ n ih => exact step_law_tree n tp self_law_tree h_law_take h_law_leaf ih
theorem ok_law_deep (tp : Tp K mg cad) (self : Def K mg "_law_deep" s_law_deep ["feed"]) (h_law_take : Fn P w K mg base cad "_law_take" s_law_take ["feed", "size"] 1 F_law_take) : Fn P w K mg base cad "_law_deep" s_law_deep ["feed"] 2 F_law_deep := by
  obtain ⟨f, fd, F, g, b⟩ := self.ex
  exact ⟨f, fd, fn_ok F sc_law_deep (fun cdv A outer s H E hr =>
  (s_cons (s_set (i := 1) sc_law_deep.nd (e_callF h_law_take (hr.mono (by omega)) hand_on (a_cons (e_var 0) (a_cons e_int a_nil))))
  (s_cons (s_if (t_cmp k_lt (e_var 1) e_int) (s_one (s_ret e_int)) s_nil)
  (s_cons (s_if (t_cmp k_lt (e_var 1) e_int) (s_one (s_ret (e_bin o_add e_int (e_callF h_law_take (hr.mono (by omega)) hand_on (a_cons (e_var 0) (a_cons e_int a_nil)))))) s_nil)
  (s_one (s_ret (e_bin o_add e_int (e_callF h_law_take (hr.mono (by omega)) hand_on (a_cons (e_var 0) (a_cons e_int a_nil)))))))))), g, F.kp, b, F⟩
theorem ok_law_drawn (tp : Tp K mg cad) (self : Def K mg "_law_drawn" s_law_drawn ["cell", "heads", "stores", "menu"]) (h_law_feed : Fn P w K mg base cad "_law_feed" s_law_feed ["cell"] 1 F_law_feed) (h_law_take : Fn P w K mg base cad "_law_take" s_law_take ["feed", "size"] 1 F_law_take) (h_law_tree : Fn P w K mg base cad "_law_tree" s_law_tree ["feed", "room", "deep", "tight", "heads", "stores", "menu"] 19 F_law_tree) (h_law_deep : Fn P w K mg base cad "_law_deep" s_law_deep ["feed"] 2 F_law_deep) : Fn P w K mg base cad "_law_drawn" s_law_drawn ["cell", "heads", "stores", "menu"] 20 F_law_drawn := by
  obtain ⟨f, fd, F, g, b⟩ := self.ex
  exact ⟨f, fd, fn_ok F sc_law_drawn (fun cdv A outer s H E hr =>
  (s_cons (s_set (i := 4) sc_law_drawn.nd (e_callF h_law_feed (hr.mono (by omega)) hand_on (a_cons (e_var 0) a_nil)))
  (s_cons (s_set (i := 5) sc_law_drawn.nd (e_lst (a_cons (e_ixA hr.units (e_lst (a_cons e_int (a_cons e_int (a_cons e_int (a_cons e_int a_nil))))) (e_callF h_law_take (hr.mono (by omega)) hand_on (a_cons (e_var 4) (a_cons e_int a_nil)))) a_nil)))
  (s_one (s_ret (e_callF h_law_tree (hr.mono (by omega)) hand_on (a_cons (e_var 4) (a_cons (e_var 5) (a_cons (e_callF h_law_deep (hr.mono (by omega)) hand_on (a_cons (e_var 4) a_nil)) (a_cons e_bl (a_cons (e_var 1) (a_cons (e_var 2) (a_cons (e_var 3) a_nil))))))))))))), g, F.kp, b, F⟩
theorem ok_law_parts (tp : Tp K mg cad) (self : Def K mg "_law_parts" s_law_parts ["expr"]) : Fn P w K mg base cad "_law_parts" s_law_parts ["expr"] 1 F_law_parts := by
  obtain ⟨f, fd, F, g, b⟩ := self.ex
  exact ⟨f, fd, fn_ok F sc_law_parts (fun cdv A outer s H E hr =>
  (s_cons (s_if (t_cmp (k_eq hr.units) (e_ixA hr.units (e_var 0) e_int) e_str) (s_one (s_ret (e_lst (a_cons (e_ixA hr.units (e_var 0) e_int) a_nil)))) s_nil)
  (s_cons (s_if (t_cmp (k_eq hr.units) (e_ixA hr.units (e_var 0) e_int) e_str) (s_one (s_ret (e_lst (a_cons (e_ixA hr.units (e_var 0) e_int) (a_cons (e_ixA hr.units (e_var 0) e_int) a_nil))))) s_nil)
  (s_cons (s_if (t_cmp (k_eq hr.units) (e_ixA hr.units (e_var 0) e_int) e_str) (s_one (s_ret (e_callTy q_list (by rfl) tp.list_ bt_list (a_cons (e_ixA hr.units (e_var 0) e_int) a_nil)))) s_nil)
  (s_one (s_ret (e_lst a_nil))))))), g, F.kp, b, F⟩
theorem step_law_subs (n : Nat) (tp : Tp K mg cad) (self : Def K mg "_law_subs" s_law_subs ["expr"]) (h_law_parts : Fn P w K mg base cad "_law_parts" s_law_parts ["expr"] 1 F_law_parts) (h_law_subs : Fn P w K mg base cad "_law_subs" s_law_subs ["expr"] (1 + n) (R_law_subs n)) : Fn P w K mg base cad "_law_subs" s_law_subs ["expr"] (1 + n + 1) (R_law_subs (n + 1)) := by
  obtain ⟨f, fd, F, g, b⟩ := self.ex
  exact ⟨f, fd, fn_ok F sc_law_subs (fun cdv A outer s H E hr =>
  (s_cons (s_set (i := 1) sc_law_subs.nd (e_lst (a_cons (e_var 0) a_nil)))
  (s_cons (s_for own_ok rfl (e_callF h_law_parts (hr.mono (by omega)) hand_on (a_cons (e_var 0) a_nil)) (g_name (i := 2) sc_law_subs.nd) (s_one (s_set (i := 1) sc_law_subs.nd (e_bin o_add (e_var 1) (e_callF h_law_subs (hr.mono (by omega)) hand_on (a_cons (e_var 2) a_nil))))))
  (s_one (s_ret (e_var 1)))))), g, F.kp, b, F⟩
theorem all_law_subs (tp : Tp K mg cad) (self_law_subs : Def K mg "_law_subs" s_law_subs ["expr"]) (h_law_parts : Fn P w K mg base cad "_law_parts" s_law_parts ["expr"] 1 F_law_parts) : ∀ n : Nat, Fn P w K mg base cad "_law_subs" s_law_subs ["expr"] (1 + n) (R_law_subs n) := by
  intro n
  induction n with
  | zero => exact fn_zero_f self_law_subs
  | succ n ih => exact step_law_subs n tp self_law_subs h_law_parts ih
theorem ok_law_clip (tp : Tp K mg cad) (self : Def K mg "_law_clip" s_law_clip ["number"]) : Fn P w K mg base cad "_law_clip" s_law_clip ["number"] 1 F_law_clip := by
  obtain ⟨f, fd, F, g, b⟩ := self.ex
  exact ⟨f, fd, fn_ok F sc_law_clip (fun cdv A outer s H E hr =>
  (s_one (s_ret (e_callB (q_max rfl) (by rfl) tp.max_ bt_max (a_cons (e_bin o_sub e_int (e_bin o_pow e_int e_int)) (a_cons (e_callB (q_min rfl) (by rfl) tp.min_ bt_min (a_cons (e_bin o_pow e_int e_int) (a_cons (e_var 0) a_nil))) a_nil)))))), g, F.kp, b, F⟩
theorem ok_law_sign_value (tp : Tp K mg cad) (self : Def K mg "_law_sign_value" s_law_sign_value ["sign", "left", "right"]) (h_law_clip : Fn P w K mg base cad "_law_clip" s_law_clip ["number"] 1 F_law_clip) : Fn P w K mg base cad "_law_sign_value" s_law_sign_value ["sign", "left", "right"] 2 F_law_sign_value := by
  obtain ⟨f, fd, F, g, b⟩ := self.ex
  exact ⟨f, fd, fn_ok F sc_law_sign_value (fun cdv A outer s H E hr =>
  (s_cons (s_if (t_cmp (k_eq hr.units) (e_var 0) e_str) (s_one (s_ret (e_callF h_law_clip (hr.mono (by omega)) hand_on (a_cons (e_bin o_add (e_var 1) (e_var 2)) a_nil)))) s_nil)
  (s_cons (s_if (t_cmp (k_eq hr.units) (e_var 0) e_str) (s_one (s_ret (e_callF h_law_clip (hr.mono (by omega)) hand_on (a_cons (e_bin o_sub (e_var 1) (e_var 2)) a_nil)))) s_nil)
  (s_cons (s_if (t_cmp (k_eq hr.units) (e_var 0) e_str) (s_one (s_ret (e_callF h_law_clip (hr.mono (by omega)) hand_on (a_cons (e_bin o_mulA (e_var 1) (e_var 2)) a_nil)))) s_nil)
  (s_cons (s_if (t_w (w_or (t_cmp (k_eq hr.units) (e_var 0) e_str) (w_or1 (t_cmp (k_eq hr.units) (e_var 0) e_str)))) (s_cons (s_if (t_cmp (k_eq hr.units) (e_var 2) e_int) (s_one (s_ret e_int)) s_nil)
  (s_cons (s_if (t_cmp (k_eq hr.units) (e_var 0) e_str) (s_one (s_ret (e_bin o_divA (e_var 1) (e_var 2)))) s_nil)
  (s_one (s_ret (e_bin o_sub (e_var 1) (e_bin o_mulA (e_var 2) (e_bin o_divA (e_var 1) (e_var 2)))))))) s_nil)
  (s_cons (s_if (t_cmp (k_eq hr.units) (e_var 0) e_str) (s_one (s_ret (e_callTy q_int (by rfl) tp.int_ bt_int (a_cons (e_cmp k_lt (e_var 1) (e_var 2)) a_nil)))) s_nil)
  (s_cons (s_if (t_cmp (k_eq hr.units) (e_var 0) e_str) (s_one (s_ret (e_callTy q_int (by rfl) tp.int_ bt_int (a_cons (e_cmp k_le (e_var 1) (e_var 2)) a_nil)))) s_nil)
  (s_cons (s_if (t_cmp (k_eq hr.units) (e_var 0) e_str) (s_one (s_ret (e_callTy q_int (by rfl) tp.int_ bt_int (a_cons (e_cmp k_gt (e_var 1) (e_var 2)) a_nil)))) s_nil)
  (s_cons (s_if (t_cmp (k_eq hr.units) (e_var 0) e_str) (s_one (s_ret (e_callTy q_int (by rfl) tp.int_ bt_int (a_cons (e_cmp k_ge (e_var 1) (e_var 2)) a_nil)))) s_nil)
  (s_cons (s_if (t_cmp (k_eq hr.units) (e_var 0) e_str) (s_one (s_ret (e_callTy q_int (by rfl) tp.int_ bt_int (a_cons (e_cmp (k_eq hr.units) (e_var 1) (e_var 2)) a_nil)))) s_nil)
  (s_one (s_ret (e_callTy q_int (by rfl) tp.int_ bt_int (a_cons (e_cmp (kq_neA hr.units) (e_var 1) (e_var 2)) a_nil)))))))))))))), g, F.kp, b, F⟩
theorem step_law_value (n : Nat) (tp : Tp K mg cad) (self : Def K mg "_law_value" s_law_value ["expr", "heads", "stores"]) (h_law_sign_value : Fn P w K mg base cad "_law_sign_value" s_law_sign_value ["sign", "left", "right"] 2 F_law_sign_value) (h_law_value : Fn P w K mg base cad "_law_value" s_law_value ["expr", "heads", "stores"] (2 + n) (R_law_value n)) : Fn P w K mg base cad "_law_value" s_law_value ["expr", "heads", "stores"] (2 + n + 1) (R_law_value (n + 1)) := by
  obtain ⟨f, fd, F, g, b⟩ := self.ex
  exact ⟨f, fd, fn_ok F sc_law_value (fun cdv A outer s H E hr =>
  (s_cons (s_if (t_cmp (k_eq hr.units) (e_ixA hr.units (e_var 0) e_int) e_str) (s_one (s_ret (e_ixA hr.units (e_var 0) e_int))) s_nil)
  (s_cons (s_if (t_cmp (k_eq hr.units) (e_ixA hr.units (e_var 0) e_int) e_str) (s_one (s_ret (e_ixA hr.units (e_var 1) (e_ixA hr.units (e_var 0) e_int)))) s_nil)
  (s_cons (s_if (t_cmp (k_eq hr.units) (e_ixA hr.units (e_var 0) e_int) e_str) (s_cons (s_set (i := 5) sc_law_value.nd (e_callF h_law_value (hr.mono (by omega)) hand_on (a_cons (e_ixA hr.units (e_var 0) e_int) (a_cons (e_var 1) (a_cons (e_var 2) a_nil)))))
  (s_cons (s_set (i := 6) sc_law_value.nd (e_ixA hr.units (e_var 2) (e_ixA hr.units (e_var 0) e_int)))
  (s_cons (s_if (t_w (w_and (t_cmp k_le e_int (e_var 5)) (w_and1 (t_cmp k_lt (e_var 5) (e_callB (q_lenA) (by rfl) tp.len_ bt_len (a_cons (e_var 6) a_nil)))))) (s_one (s_ret (e_ixA hr.units (e_var 6) (e_var 5)))) s_nil)
  (s_one (s_ret e_int))))) s_nil)
  (s_cons (s_if (t_cmp (k_eq hr.units) (e_ixA hr.units (e_var 0) e_int) e_str) (s_one (s_ret (e_callF h_law_sign_value (hr.mono (by omega)) hand_on (a_cons (e_ixA hr.units (e_var 0) e_int) (a_cons (e_callF h_law_value (hr.mono (by omega)) hand_on (a_cons (e_ixA hr.units (e_var 0) e_int) (a_cons (e_var 1) (a_cons (e_var 2) a_nil)))) (a_cons (e_callF h_law_value (hr.mono (by omega)) hand_on (a_cons (e_ixA hr.units (e_var 0) e_int) (a_cons (e_var 1) (a_cons (e_var 2) a_nil)))) a_nil)))))) s_nil)
  (s_cons (s_setComp (i := 3) rfl sc_law_value.nd rfl rfl (sw_true rfl rfl rfl (by decide +kernel)) (blkOk_by (own := [("part", 7)]) (N := N_law_value) (sc := (defScope s_law_value)) (by decide +kernel)) (e_ixA hr.units (e_var 0) e_int) tgr_name (own_name (by decide)) (fun _ _ _ _ _ => (pg_name (i := 7) sc_law_value.nd rfl (by first | exact Or.inl rfl | exact Or.inr rfl))) (fun _ _ _ _ _ => i_nil) (fun _ _ _ _ _ => (e_callF h_law_value (hr.mono (by omega)) passL (a_cons (e_var 7) (a_cons (e_var 1) (a_cons (e_var 2) a_nil))))))
  (s_cons (s_if (t_cmp (k_eq hr.units) (e_ixA hr.units (e_var 0) e_int) e_str) (s_one (s_ret (e_callB (q_min rfl) (by rfl) tp.min_ bt_min (a_cons (e_ixA hr.units (e_var 3) e_int) (a_cons (e_ixA hr.units (e_var 3) e_int) a_nil))))) s_nil)
  (s_cons (s_if (t_cmp (k_eq hr.units) (e_ixA hr.units (e_var 0) e_int) e_str) (s_one (s_ret (e_callB (q_max rfl) (by rfl) tp.max_ bt_max (a_cons (e_ixA hr.units (e_var 3) e_int) (a_cons (e_ixA hr.units (e_var 3) e_int) a_nil))))) s_nil)
  (s_cons (s_if (t_cmp (k_eq hr.units) (e_ixA hr.units (e_var 0) e_int) e_str) (s_one (s_ret (e_ixA hr.units (e_lst (a_cons (e_ixA hr.units (e_var 3) e_int) (a_cons (e_ixA hr.units (e_var 3) e_int) a_nil))) (e_callTy q_int (by rfl) tp.int_ bt_int (a_cons (e_cmp (kq_neA hr.units) (e_ixA hr.units (e_var 3) e_int) e_int) a_nil))))) s_nil)
  (s_cons (s_setCompR1 (i := 4) rfl sc_law_value.nd rfl rfl (sw_true rfl rfl rfl (by decide +kernel)) (blkOk_by (own := [("k", 8)]) (N := N_law_value) (sc := (defScope s_law_value)) (by decide +kernel)) (by rfl) tp.range_ (a_cons (e_callB (q_lenA) (by rfl) tp.len_ bt_len (a_cons (e_ixA hr.units (e_var 2) e_str) a_nil)) a_nil) tgr_name (own_name (by decide)) (fun _ _ _ _ _ => (pg_name (i := 8) sc_law_value.nd rfl (by first | exact Or.inl rfl | exact Or.inr rfl))) (fun _ _ _ _ _ => (i_one (t_cmp (k_eq hr.units) (e_ixA hr.units (e_ixA hr.units (e_var 2) e_str) (e_var 8)) e_int))) (fun _ _ _ _ _ => (e_var 8)))
  (s_cons (s_if (t_w (w_and (t_cmp k_le e_int (e_ixA hr.units (e_var 3) e_int)) (w_and1 (t_cmp k_lt (e_ixA hr.units (e_var 3) e_int) (e_callB (q_lenA) (by rfl) tp.len_ bt_len (a_cons (e_var 4) a_nil)))))) (s_one (s_ret (e_ixA hr.units (e_var 4) (e_ixA hr.units (e_var 3) e_int)))) s_nil)
  (s_one (s_ret (e_un o_neg e_int)))))))))))))), g, F.kp, b, F⟩
theorem all_law_value (tp : Tp K mg cad) (self_law_value : Def K mg "_law_value" s_law_value ["expr", "heads", "stores"]) (h_law_sign_value : Fn P w K mg base cad "_law_sign_value" s_law_sign_value ["sign", "left", "right"] 2 F_law_sign_value) : ∀ n : Nat, Fn P w K mg base cad "_law_value" s_law_value ["expr", "heads", "stores"] (2 + n) (R_law_value n) := by
  intro n
  induction n with
  | zero => exact fn_zero_f self_law_value
  | succ n ih => exact step_law_value n tp self_law_value h_law_sign_value ih
theorem ok_law_handed (tp : Tp K mg cad) (self : Def K mg "_law_handed" s_law_handed ["feed", "heads", "stores"]) (h_law_take : Fn P w K mg base cad "_law_take" s_law_take ["feed", "size"] 1 F_law_take) : Fn P w K mg base cad "_law_handed" s_law_handed ["feed", "heads", "stores"] 2 F_law_handed := by
  obtain ⟨f, fd, F, g, b⟩ := self.ex
  exact ⟨f, fd, fn_ok F sc_law_handed (fun cdv A outer s H E hr =>
  (s_cons (s_set (i := 3) sc_law_handed.nd e_dic0)
  (s_cons (s_forA own_ok rfl (e_var 2) (g_name (i := 4) sc_law_handed.nd) (s_cons (s_subA hr.units (e_callTy q_list (by rfl) tp.list_ bt_list (a_cons (e_ixA hr.units (e_var 2) (e_var 4)) a_nil)) (e_var 3) (e_var 4))
  (s_one (s_if (t_cmp (k_eq hr.units) (e_callF h_law_take (hr.mono (by omega)) hand_on (a_cons (e_var 0) (a_cons e_int a_nil))) e_int) (s_one (s_subA hr.units (e_callTy q_tuple (by rfl) tp.tuple_ bt_tuple (a_cons (e_ixA hr.units (e_var 2) (e_var 4)) a_nil)) (e_var 3) (e_var 4))) s_nil))))
  (s_one (s_ret (e_lst (a_cons (e_callTy q_dict (by rfl) tp.dict_ bt_dict (a_cons (e_var 1) a_nil)) (a_cons (e_var 3) a_nil)))))))), g, F.kp, b, F⟩
theorem ok_law_stayed (tp : Tp K mg cad) (self : Def K mg "_law_stayed" s_law_stayed ["given", "heads", "stores"]) : Fn P w K mg base cad "_law_stayed" s_law_stayed ["given", "heads", "stores"] 1 F_law_stayed := by
  obtain ⟨f, fd, F, g, b⟩ := self.ex
  exact ⟨f, fd, fn_ok F sc_law_stayed (fun cdv A outer s H E hr =>
  (s_cons (s_if (t_w (w_or (t_cmp (kq_neA hr.units) (e_ixA hr.units (e_var 0) e_int) (e_var 1)) (w_or1 (t_cmp (kq_neA hr.units) (e_callB (q_lenA) (by rfl) tp.len_ bt_len (a_cons (e_ixA hr.units (e_var 0) e_int) a_nil)) (e_callB (q_lenA) (by rfl) tp.len_ bt_len (a_cons (e_var 2) a_nil)))))) (s_one (s_ret e_bl)) s_nil)
  (s_cons (s_forA own_ok rfl (e_var 2) (g_name (i := 3) sc_law_stayed.nd) (s_one (s_if (t_w (w_or (t_cmp (kq_notInA hr.units) (e_var 3) (e_ixA hr.units (e_var 0) e_int)) (w_or1 (t_cmp (kq_neA hr.units) (e_callTy q_list (by rfl) tp.list_ bt_list (a_cons (e_ixA hr.units (e_ixA hr.units (e_var 0) e_int) (e_var 3)) a_nil)) (e_ixA hr.units (e_var 2) (e_var 3)))))) (s_one (s_ret e_bl)) s_nil)))
  (s_one (s_ret e_bl))))), g, F.kp, b, F⟩
theorem ok_law_valued (tp : Tp K mg cad) (self : Def K mg "_law_valued" s_law_valued ["expr", "given", "heads", "stores"]) (h_value_of : Fn P w K mg base cad "value_of" s_value_of ["expression", "names", "arrays"] 18 F_value_of) (h_law_whole : Fn P w K mg base cad "_law_whole" s_law_whole ["value"] 1 F_law_whole) (h_law_value : Fn P w K mg base cad "_law_value" s_law_value ["expr", "heads", "stores"] 18 F_law_value) : Fn P w K mg base cad "_law_valued" s_law_valued ["expr", "given", "heads", "stores"] 19 F_law_valued := by
  obtain ⟨f, fd, F, g, b⟩ := self.ex
  exact ⟨f, fd, fn_ok F sc_law_valued (fun cdv A outer s H E hr =>
  (s_cons (s_set (i := 4) sc_law_valued.nd (e_callF h_value_of (hr.mono (by omega)) hand_on (a_cons (e_var 0) (a_cons (e_ixA hr.units (e_var 1) e_int) (a_cons (e_ixA hr.units (e_var 1) e_int) a_nil)))))
  (s_one (s_ret (e_and (e_callF h_law_whole (hr.mono (by omega)) hand_on (a_cons (e_var 4) a_nil)) (e_one (e_cmp (k_eq hr.units) (e_var 4) (e_callF h_law_value (hr.mono (by omega)) hand_on (a_cons (e_var 0) (a_cons (e_var 2) (a_cons (e_var 3) a_nil))))))))))), g, F.kp, b, F⟩
theorem ok_law_named (tp : Tp K mg cad) (self : Def K mg "_law_named" s_law_named ["expr", "given", "heads", "stores"]) (h_value_of : Fn P w K mg base cad "value_of" s_value_of ["expression", "names", "arrays"] 18 F_value_of) (h_law_whole : Fn P w K mg base cad "_law_whole" s_law_whole ["value"] 1 F_law_whole) (h_law_value : Fn P w K mg base cad "_law_value" s_law_value ["expr", "heads", "stores"] 18 F_law_value) : Fn P w K mg base cad "_law_named" s_law_named ["expr", "given", "heads", "stores"] 19 F_law_named := by
  obtain ⟨f, fd, F, g, b⟩ := self.ex
  exact ⟨f, fd, fn_ok F sc_law_named (fun cdv A outer s H E hr =>
  (s_cons (s_set (i := 4) sc_law_named.nd (e_callKF0 (b := 3) (sel := [.inr 2, .inr 1, .inr 0]) (ks := ["arrays", "names", "expression"]) h_value_of (hr.mono (by omega)) hand_on (by decide) (fun _ _ _ _ _ _ us ws h1 h2 => match us, ws, h1, h2 with | [], [_, _, _], _, _ => rfl) (kw_cons (e_ixA hr.units (e_var 1) e_int) (kw_cons (e_ixA hr.units (e_var 1) e_int) (kw_cons (e_var 0) kw_nil)))))
  (s_one (s_ret (e_and (e_callF h_law_whole (hr.mono (by omega)) hand_on (a_cons (e_var 4) a_nil)) (e_one (e_cmp (k_eq hr.units) (e_var 4) (e_callF h_law_value (hr.mono (by omega)) hand_on (a_cons (e_var 0) (a_cons (e_var 2) (a_cons (e_var 3) a_nil))))))))))), g, F.kp, b, F⟩
theorem ok_law_row (tp : Tp K mg cad) (self : Def K mg "_law_row" s_law_row ["feed"]) (h_law_take : Fn P w K mg base cad "_law_take" s_law_take ["feed", "size"] 1 F_law_take) (h_law_datum : Fn P w K mg base cad "_law_datum" s_law_datum ["feed"] 3 F_law_datum) : Fn P w K mg base cad "_law_row" s_law_row ["feed"] 4 F_law_row := by
  obtain ⟨f, fd, F, g, b⟩ := self.ex
  exact ⟨f, fd, fn_ok F sc_law_row (fun cdv A outer s H E hr =>
  (s_cons (s_set (i := 1) sc_law_row.nd (e_callF h_law_take (hr.mono (by omega)) hand_on (a_cons (e_var 0) (a_cons e_int a_nil))))
  (s_cons (s_set (i := 2) sc_law_row.nd (e_bin o_add e_int (e_callF h_law_take (hr.mono (by omega)) hand_on (a_cons (e_var 0) (a_cons e_int a_nil)))))
  (s_cons (s_if (t_cmp k_lt (e_var 1) e_int) (s_one (s_set (i := 2) sc_law_row.nd (e_ixA hr.units (e_lst (a_cons e_int (a_cons e_int (a_cons (e_bin o_add e_int (e_callF h_law_take (hr.mono (by omega)) hand_on (a_cons (e_var 0) (a_cons e_int a_nil)))) a_nil)))) (e_var 1)))) s_nil)
  (s_cons (s_set (i := 3) sc_law_row.nd (e_callF h_law_take (hr.mono (by omega)) hand_on (a_cons (e_var 0) (a_cons e_int a_nil))))
  (s_cons (s_set (i := 4) sc_law_row.nd (e_lst a_nil))
  (s_cons (s_forR1 own_ok rfl (by rfl) tp.range_ (a_cons (e_var 2) a_nil) (g_name (i := 5) sc_law_row.nd) (s_cons (s_set (i := 6) sc_law_row.nd (e_callF h_law_datum (hr.mono (by omega)) hand_on (a_cons (e_var 0) a_nil)))
  (s_cons (s_if (t_cmp (k_eq hr.units) (e_var 6) e_int) (s_one (s_set (i := 6) sc_law_row.nd e_int)) s_nil)
  (s_cons (s_if (t_w (w_or (t_cmp (k_eq hr.units) (e_var 3) e_int) (w_or1 (t_w (w_and (t_cmp k_gt (e_var 3) e_int) (w_and1 (t_cmp (k_eq hr.units) (e_callF h_law_take (hr.mono (by omega)) hand_on (a_cons (e_var 0) (a_cons e_int a_nil))) e_int))))))) (s_one (s_set (i := 6) sc_law_row.nd e_int)) s_nil)
  (s_one (s_expr (e_meth PySem.F.slot_list_append PySem.F.type_list_append d_append (e_var 4) (a_cons (e_var 6) a_nil))))))))
  (s_one (s_ret (e_var 4)))))))))), g, F.kp, b, F⟩
theorem ok_law_memory (tp : Tp K mg cad) (self : Def K mg "_law_memory" s_law_memory ["cell", "words", "shelves"]) (h_law_feed : Fn P w K mg base cad "_law_feed" s_law_feed ["cell"] 1 F_law_feed) (h_law_datum : Fn P w K mg base cad "_law_datum" s_law_datum ["feed"] 3 F_law_datum) (h_law_row : Fn P w K mg base cad "_law_row" s_law_row ["feed"] 4 F_law_row) : Fn P w K mg base cad "_law_memory" s_law_memory ["cell", "words", "shelves"] 5 F_law_memory := by
  obtain ⟨f, fd, F, g, b⟩ := self.ex
  exact ⟨f, fd, fn_ok F sc_law_memory (fun cdv A outer s H E hr =>
  (s_cons (s_set (i := 3) sc_law_memory.nd (e_callF h_law_feed (hr.mono (by omega)) hand_on (a_cons (e_var 0) a_nil)))
  (s_cons (s_set (i := 4) sc_law_memory.nd e_dic0)
  (s_cons (s_forA own_ok rfl (e_var 1) (g_name (i := 5) sc_law_memory.nd) (s_one (s_subA hr.units (e_callF h_law_datum (hr.mono (by omega)) hand_on (a_cons (e_var 3) a_nil)) (e_var 4) (e_var 5))))
  (s_cons (s_set (i := 6) sc_law_memory.nd e_dic0)
  (s_cons (s_forA own_ok rfl (e_var 2) (g_name (i := 5) sc_law_memory.nd) (s_one (s_subA hr.units (e_callF h_law_row (hr.mono (by omega)) hand_on (a_cons (e_var 3) a_nil)) (e_var 6) (e_var 5))))
  (s_one (s_ret (e_lst (a_cons (e_var 4) (a_cons (e_var 6) a_nil))))))))))), g, F.kp, b, F⟩
theorem ok_law_spots (tp : Tp K mg cad) (self : Def K mg "_law_spots" s_law_spots ["feed", "size"]) (h_law_take : Fn P w K mg base cad "_law_take" s_law_take ["feed", "size"] 1 F_law_take) (h_law_datum : Fn P w K mg base cad "_law_datum" s_law_datum ["feed"] 3 F_law_datum) : Fn P w K mg base cad "_law_spots" s_law_spots ["feed", "size"] 4 F_law_spots := by
  obtain ⟨f, fd, F, g, b⟩ := self.ex
  exact ⟨f, fd, fn_ok F sc_law_spots (fun cdv A outer s H E hr =>
  (s_cons (s_set (i := 2) sc_law_spots.nd (e_lst (a_cons (e_un o_neg e_int) (a_cons e_int (a_cons (e_bin o_sub (e_var 1) e_int) (a_cons (e_var 1) (a_cons (e_bin o_add (e_var 1) e_int) (a_cons (e_bin o_sub e_int (e_var 1)) (a_cons (e_bin o_pow e_int e_int) (a_cons (e_bin o_sub e_int (e_bin o_pow e_int e_int)) a_nil))))))))))
  (s_one (s_ret (e_bin o_add (e_var 2) (e_lst (a_cons (e_callF h_law_take (hr.mono (by omega)) hand_on (a_cons (e_var 0) (a_cons (e_bin o_add (e_var 1) e_int) a_nil))) (a_cons (e_callF h_law_take (hr.mono (by omega)) hand_on (a_cons (e_var 0) (a_cons (e_bin o_add (e_var 1) e_int) a_nil))) (a_cons (e_callF h_law_datum (hr.mono (by omega)) hand_on (a_cons (e_var 0) a_nil)) a_nil))))))))), g, F.kp, b, F⟩
theorem ok_law_spotted (tp : Tp K mg cad) (self : Def K mg "_law_spotted" s_law_spotted ["feed", "given", "stores", "head", "word", "size"]) (h_law_spots : Fn P w K mg base cad "_law_spots" s_law_spots ["feed", "size"] 4 F_law_spots) (h_law_valued : Fn P w K mg base cad "_law_valued" s_law_valued ["expr", "given", "heads", "stores"] 19 F_law_valued) : Fn P w K mg base cad "_law_spotted" s_law_spotted ["feed", "given", "stores", "head", "word", "size"] 20 F_law_spotted := by
  obtain ⟨f, fd, F, g, b⟩ := self.ex
  exact ⟨f, fd, fn_ok F sc_law_spotted (fun cdv A outer s H E hr =>
  (s_cons (s_for own_ok rfl (e_callF h_law_spots (hr.mono (by omega)) hand_on (a_cons (e_var 0) (a_cons (e_var 5) a_nil))) (g_name (i := 6) sc_law_spotted.nd) (s_cons (s_set (i := 7) sc_law_spotted.nd e_dic0)
  (s_cons (s_subA hr.units (e_var 6) (e_var 7) (e_var 4))
  (s_cons (s_set (i := 8) sc_law_spotted.nd (e_lst (a_cons (e_tup (a_cons e_str (a_cons (e_var 4) a_nil))) a_nil)))
  (s_cons (s_if (t_cmp k_ge (e_var 6) e_int) (s_one (s_expr (e_meth PySem.F.slot_list_append PySem.F.type_list_append d_append (e_var 8) (a_cons (e_tup (a_cons e_str (a_cons (e_var 6) a_nil))) a_nil)))) s_nil)
  (s_one (s_forA own_ok rfl (e_var 8) (g_name (i := 9) sc_law_spotted.nd) (s_cons (s_set (i := 10) sc_law_spotted.nd (e_tup (a_cons e_str (a_cons (e_var 3) (a_cons (e_var 9) a_nil)))))
  (s_cons (s_if (t_cmp (k_eq hr.units) (e_var 3) e_str) (s_one (s_set (i := 10) sc_law_spotted.nd (e_tup (a_cons e_str (a_cons e_str (a_cons (e_tup (a_cons (e_var 9) a_nil)) a_nil)))))) s_nil)
  (s_one (s_if (t_not (t_val (e_callF h_law_valued (hr.mono (by omega)) hand_on (a_cons (e_var 10) (a_cons (e_lst (a_cons (e_callTy q_dict (by rfl) tp.dict_ bt_dict (a_cons (e_var 7) a_nil)) (a_cons (e_ixA hr.units (e_var 1) e_int) a_nil))) (a_cons (e_var 7) (a_cons (e_var 2) a_nil))))))) (s_one (s_ret e_bl)) s_nil)))))))))))
  (s_one (s_ret e_bl)))), g, F.kp, b, F⟩
theorem ok_law_picked (tp : Tp K mg cad) (self : Def K mg "_law_picked" s_law_picked ["feed", "base"]) (h_law_datum : Fn P w K mg base cad "_law_datum" s_law_datum ["feed"] 3 F_law_datum) (h_law_take : Fn P w K mg base cad "_law_take" s_law_take ["feed", "size"] 1 F_law_take) (h_law_clip : Fn P w K mg base cad "_law_clip" s_law_clip ["number"] 1 F_law_clip) (h_law_valued : Fn P w K mg base cad "_law_valued" s_law_valued ["expr", "given", "heads", "stores"] 19 F_law_valued) : Fn P w K mg base cad "_law_picked" s_law_picked ["feed", "base"] 20 F_law_picked := by
  obtain ⟨f, fd, F, g, b⟩ := self.ex
  exact ⟨f, fd, fn_ok F sc_law_picked (fun cdv A outer s H E hr =>
  (s_cons (s_set (i := 2) sc_law_picked.nd (e_lst (a_cons (e_bin o_add (e_slice (e_var 1) o_none (o_some e_int)) e_str) (a_cons (e_bin o_add (e_slice (e_var 1) o_none (o_some e_int)) e_str) (a_cons (e_bin o_add (e_slice (e_var 1) o_none (o_some e_int)) e_str) a_nil)))))
  (s_cons (s_set (i := 3) sc_law_picked.nd (e_tup (a_cons (e_tup (a_cons e_str (a_cons (e_ixA hr.units (e_var 2) e_int) a_nil))) (a_cons (e_tup (a_cons e_str (a_cons (e_ixA hr.units (e_var 2) e_int) a_nil))) (a_cons (e_tup (a_cons e_str (a_cons (e_ixA hr.units (e_var 2) e_int) a_nil))) a_nil)))))
  (s_cons (s_set (i := 4) sc_law_picked.nd (e_callF h_law_datum (hr.mono (by omega)) hand_on (a_cons (e_var 0) a_nil)))
  (s_cons (s_set (i := 5) sc_law_picked.nd (e_callF h_law_datum (hr.mono (by omega)) hand_on (a_cons (e_var 0) a_nil)))
  (s_cons (s_if (t_cmp (k_eq hr.units) (e_callF h_law_take (hr.mono (by omega)) hand_on (a_cons (e_var 0) (a_cons e_int a_nil))) e_int) (s_one (s_set (i := 5) sc_law_picked.nd (e_callF h_law_clip (hr.mono (by omega)) hand_on (a_cons (e_bin o_sub (e_bin o_add (e_var 4) e_int) (e_bin o_mulA e_int (e_callF h_law_take (hr.mono (by omega)) hand_on (a_cons (e_var 0) (a_cons e_int a_nil))))) a_nil)))) s_nil)
  (s_cons (s_forR1 own_ok rfl (by rfl) tp.range_ (a_cons e_int a_nil) (g_name (i := 6) sc_law_picked.nd) (s_cons (s_set (i := 7) sc_law_picked.nd e_dic0)
  (s_cons (s_subA hr.units (e_ixA hr.units (e_lst (a_cons (e_var 4) (a_cons (e_var 5) (a_cons (e_var 4) a_nil)))) (e_var 6)) (e_var 7) (e_ixA hr.units (e_var 2) e_int))
  (s_cons (s_subA hr.units (e_ixA hr.units (e_lst (a_cons (e_var 5) (a_cons (e_var 4) (a_cons (e_var 4) a_nil)))) (e_var 6)) (e_var 7) (e_ixA hr.units (e_var 2) e_int))
  (s_cons (s_for own_ok rfl (e_lst (a_cons e_str (a_cons e_str a_nil))) (g_name (i := 8) sc_law_picked.nd) (s_one (s_if (t_not (t_val (e_callF h_law_valued (hr.mono (by omega)) hand_on (a_cons (e_tup (a_cons e_str (a_cons (e_var 8) (a_cons (e_tup (a_cons (e_ixA hr.units (e_var 3) e_int) (a_cons (e_ixA hr.units (e_var 3) e_int) a_nil))) a_nil)))) (a_cons (e_lst (a_cons (e_callTy q_dict (by rfl) tp.dict_ bt_dict (a_cons (e_var 7) a_nil)) (a_cons e_dic0 a_nil))) (a_cons (e_var 7) (a_cons e_dic0 a_nil))))))) (s_one (s_ret e_bl)) s_nil)))
  (s_one (s_for own_ok rfl (e_lst (a_cons e_int (a_cons e_int (a_cons (e_un o_neg e_int) (a_cons (e_callF h_law_datum (hr.mono (by omega)) hand_on (a_cons (e_var 0) a_nil)) (a_cons (e_bin o_pow e_int e_int) (a_cons (e_bin o_sub e_int (e_bin o_pow e_int e_int)) a_nil))))))) (g_name (i := 9) sc_law_picked.nd) (s_cons (s_subA hr.units (e_var 9) (e_var 7) (e_ixA hr.units (e_var 2) e_int))
  (s_one (s_if (t_not (t_val (e_callF h_law_valued (hr.mono (by omega)) hand_on (a_cons (e_tup (a_cons e_str (a_cons e_str (a_cons (e_var 3) a_nil)))) (a_cons (e_lst (a_cons (e_callTy q_dict (by rfl) tp.dict_ bt_dict (a_cons (e_var 7) a_nil)) (a_cons e_dic0 a_nil))) (a_cons (e_var 7) (a_cons e_dic0 a_nil))))))) (s_one (s_ret e_bl)) s_nil))))))))))
  (s_one (s_ret e_bl))))))))), g, F.kp, b, F⟩
theorem ok_law_same (tp : Tp K mg cad) (self : Def K mg "_law_same" s_law_same ["given", "due"]) : Fn P w K mg base cad "_law_same" s_law_same ["given", "due"] 1 F_law_same := by
  obtain ⟨f, fd, F, g, b⟩ := self.ex
  exact ⟨f, fd, fn_ok F sc_law_same (fun cdv A outer s H E hr =>
  (s_cons (s_if (t_w (w_or (t_not (t_val (e_isTy (n := .tup) (by rfl) tp.isinstance_ (by rfl) tp.tuple_ bt_tuple (e_var 0)))) (w_or1 (t_cmp (kq_neA hr.units) (e_callB (q_lenA) (by rfl) tp.len_ bt_len (a_cons (e_var 0) a_nil)) e_int)))) (s_one (s_ret e_bl)) s_nil)
  (s_cons (s_forR1 own_ok rfl (by rfl) tp.range_ (a_cons e_int a_nil) (g_name (i := 2) sc_law_same.nd) (s_cons (s_if (t_w (w_or (t_not (t_val (e_isTy (n := .tup) (by rfl) tp.isinstance_ (by rfl) tp.tuple_ bt_tuple (e_ixA hr.units (e_var 0) (e_var 2))))) (w_or1 (t_cmp (kq_neA hr.units) (e_callB (q_lenA) (by rfl) tp.len_ bt_len (a_cons (e_ixA hr.units (e_var 0) (e_var 2)) a_nil)) (e_callB (q_lenA) (by rfl) tp.len_ bt_len (a_cons (e_ixA hr.units (e_var 1) (e_var 2)) a_nil)))))) (s_one (s_ret e_bl)) s_nil)
  (s_one (s_forR1 own_ok rfl (by rfl) tp.range_ (a_cons (e_callB (q_lenA) (by rfl) tp.len_ bt_len (a_cons (e_ixA hr.units (e_var 1) (e_var 2)) a_nil)) a_nil) (g_name (i := 3) sc_law_same.nd) (s_one (s_if (t_w (w_or (t_not (t_val (e_isTy (n := .str) (by rfl) tp.isinstance_ (by rfl) tp.str_ bt_str (e_ixA hr.units (e_ixA hr.units (e_var 0) (e_var 2)) (e_var 3))))) (w_or1 (t_cmp (kq_neA hr.units) (e_ixA hr.units (e_ixA hr.units (e_var 0) (e_var 2)) (e_var 3)) (e_ixA hr.units (e_ixA hr.units (e_var 1) (e_var 2)) (e_var 3)))))) (s_one (s_ret e_bl)) s_nil))))))
  (s_one (s_ret e_bl))))), g, F.kp, b, F⟩
theorem ok_law_words (tp : Tp K mg cad) (self : Def K mg "_law_words" s_law_words ["rows", "sort"]) : Fn P w K mg base cad "_law_words" s_law_words ["rows", "sort"] 1 F_law_words := by
  obtain ⟨f, fd, F, g, b⟩ := self.ex
  exact ⟨f, fd, fn_ok F sc_law_words (fun cdv A outer s H E hr =>
  (s_cons (s_set (i := 2) sc_law_words.nd (e_lst a_nil))
  (s_cons (s_forA own_ok rfl (e_var 0) (g_name (i := 3) sc_law_words.nd) (s_one (s_if (t_w (w_and (t_cmp (k_eq hr.units) (e_ixA hr.units (e_var 3) e_int) (e_var 1)) (w_and1 (t_cmp (kq_notInA hr.units) (e_ixA hr.units (e_var 3) e_int) (e_var 2))))) (s_one (s_expr (e_meth PySem.F.slot_list_append PySem.F.type_list_append d_append (e_var 2) (a_cons (e_ixA hr.units (e_var 3) e_int) a_nil)))) s_nil)))
  (s_one (s_ret (e_callB (q_sortS) (by rfl) tp.sorted_ bt_sorted (a_cons (e_var 2) a_nil))))))), g, F.kp, b, F⟩
theorem ok_law_triple (tp : Tp K mg cad) (self : Def K mg "_law_triple" s_law_triple ["expr"]) (h_law_subs : Fn P w K mg base cad "_law_subs" s_law_subs ["expr"] 17 F_law_subs) (h_law_words : Fn P w K mg base cad "_law_words" s_law_words ["rows", "sort"] 1 F_law_words) : Fn P w K mg base cad "_law_triple" s_law_triple ["expr"] 18 F_law_triple := by
  obtain ⟨f, fd, F, g, b⟩ := self.ex
  exact ⟨f, fd, fn_ok F sc_law_triple (fun cdv A outer s H E hr =>
  (s_cons (s_set (i := 1) sc_law_triple.nd (e_callF h_law_subs (hr.mono (by omega)) hand_on (a_cons (e_var 0) a_nil)))
  (s_one (s_ret (e_lst (a_cons (e_callF h_law_words (hr.mono (by omega)) hand_on (a_cons (e_var 1) (a_cons e_str a_nil))) (a_cons (e_callF h_law_words (hr.mono (by omega)) hand_on (a_cons (e_var 1) (a_cons e_str a_nil))) (a_cons (e_callF h_law_words (hr.mono (by omega)) hand_on (a_cons (e_var 1) (a_cons e_str a_nil))) a_nil)))))))), g, F.kp, b, F⟩
theorem ok_law_wide (tp : Tp K mg cad) (self : Def K mg "_law_wide" s_law_wide ["feed", "heads", "stores"]) (h_law_take : Fn P w K mg base cad "_law_take" s_law_take ["feed", "size"] 1 F_law_take) : Fn P w K mg base cad "_law_wide" s_law_wide ["feed", "heads", "stores"] 2 F_law_wide := by
  obtain ⟨f, fd, F, g, b⟩ := self.ex
  exact ⟨f, fd, fn_ok F sc_law_wide (fun cdv A outer s H E hr =>
  (s_cons (s_setComp (i := 3) rfl sc_law_wide.nd rfl rfl (sw_true rfl rfl rfl (by decide +kernel)) (blkOk_by (own := [("word", 4)]) (N := N_law_wide) (sc := (defScope s_law_wide)) (by decide +kernel)) (e_var 1) tgr_name (own_name (by decide)) (fun _ _ _ _ _ => (pg_name (i := 4) sc_law_wide.nd rfl (by first | exact Or.inl rfl | exact Or.inr rfl))) (fun _ _ _ _ _ => i_nil) (fun _ _ _ _ _ => (e_tup (a_cons e_str (a_cons (e_var 4) a_nil)))))
  (s_cons (s_forA own_ok rfl (e_var 2) (g_name (i := 4) sc_law_wide.nd) (s_one (s_expr (e_meth PySem.F.slot_list_append PySem.F.type_list_append d_append (e_var 3) (a_cons (e_tup (a_cons e_str (a_cons (e_var 4) (a_cons (e_tup (a_cons e_str (a_cons (e_callF h_law_take (hr.mono (by omega)) hand_on (a_cons (e_var 0) (a_cons e_int a_nil))) a_nil))) a_nil)))) a_nil)))))
  (s_cons (s_forR1 own_ok rfl (by rfl) tp.range_ (a_cons e_int a_nil) (g_name (i := 5) sc_law_wide.nd) (s_cons (s_set (i := 6) sc_law_wide.nd (e_lst a_nil))
  (s_cons (s_forR1 own_ok rfl (by rfl) tp.range_ (a_cons (e_bin o_divA (e_bin o_add (e_callB (q_lenA) (by rfl) tp.len_ bt_len (a_cons (e_var 3) a_nil)) e_int) e_int) a_nil) (g_name (i := 7) sc_law_wide.nd) (s_cons (s_set (i := 8) sc_law_wide.nd (e_slice (e_var 3) (o_some (e_bin o_mulA e_int (e_var 7))) (o_some (e_bin o_add (e_bin o_mulA e_int (e_var 7)) e_int))))
  (s_cons (s_set (i := 9) sc_law_wide.nd (e_callF h_law_take (hr.mono (by omega)) hand_on (a_cons (e_var 0) (a_cons e_int a_nil))))
  (s_one (s_if (t_cmp (k_eq hr.units) (e_callB (q_lenA) (by rfl) tp.len_ bt_len (a_cons (e_var 8) a_nil)) e_int) (s_one (s_expr (e_meth PySem.F.slot_list_append PySem.F.type_list_append d_append (e_var 6) (a_cons (e_ixA hr.units (e_var 8) e_int) a_nil)))) (s_one (s_if (t_cmp k_lt (e_var 9) e_int) (s_one (s_expr (e_meth PySem.F.slot_list_append PySem.F.type_list_append d_append (e_var 6) (a_cons (e_tup (a_cons e_str (a_cons (e_ixA hr.units (e_lst (a_cons e_str (a_cons e_str (a_cons e_str (a_cons e_str (a_cons e_str (a_cons e_str a_nil))))))) (e_var 9)) (a_cons (e_ixA hr.units (e_var 8) e_int) (a_cons (e_ixA hr.units (e_var 8) e_int) a_nil))))) a_nil)))) (s_one (s_expr (e_meth PySem.F.slot_list_append PySem.F.type_list_append d_append (e_var 6) (a_cons (e_tup (a_cons e_str (a_cons (e_ixA hr.units (e_lst (a_cons e_str (a_cons e_str a_nil))) (e_bin o_sub (e_var 9) e_int)) (a_cons (e_tup (a_cons (e_ixA hr.units (e_var 8) e_int) (a_cons (e_ixA hr.units (e_var 8) e_int) a_nil))) a_nil)))) a_nil)))))))))))
  (s_one (s_set (i := 3) sc_law_wide.nd (e_var 6))))))
  (s_one (s_ret (e_ixA hr.units (e_var 3) e_int))))))), g, F.kp, b, F⟩
theorem ok_law_values_right (tp : Tp K mg cad) (self : Def K mg "_law_values_right" s_law_values_right ["script"]) (h_law_feed : Fn P w K mg base cad "_law_feed" s_law_feed ["cell"] 1 F_law_feed) (h_law_cell : Fn P w K mg base cad "_law_cell" s_law_cell ["script", "k"] 1 F_law_cell) (h_law_word_row : Fn P w K mg base cad "_law_word_row" s_law_word_row ["feed", "many"] 3 F_law_word_row) (h_law_take : Fn P w K mg base cad "_law_take" s_law_take ["feed", "size"] 1 F_law_take) (h_law_memory : Fn P w K mg base cad "_law_memory" s_law_memory ["cell", "words", "shelves"] 5 F_law_memory) (h_law_handed : Fn P w K mg base cad "_law_handed" s_law_handed ["feed", "heads", "stores"] 2 F_law_handed) (h_law_spotted : Fn P w K mg base cad "_law_spotted" s_law_spotted ["feed", "given", "stores", "head", "word", "size"] 20 F_law_spotted) (h_law_picked : Fn P w K mg base cad "_law_picked" s_law_picked ["feed", "base"] 20 F_law_picked) (h_law_drawn : Fn P w K mg base cad "_law_drawn" s_law_drawn ["cell", "heads", "stores", "menu"] 20 F_law_drawn) (h_law_subs : Fn P w K mg base cad "_law_subs" s_law_subs ["expr"] 17 F_law_subs) (h_law_valued : Fn P w K mg base cad "_law_valued" s_law_valued ["expr", "given", "heads", "stores"] 19 F_law_valued) (h_law_named : Fn P w K mg base cad "_law_named" s_law_named ["expr", "given", "heads", "stores"] 19 F_law_named) (h_law_stayed : Fn P w K mg base cad "_law_stayed" s_law_stayed ["given", "heads", "stores"] 1 F_law_stayed) : Fn P w K mg base cad "_law_values_right" s_law_values_right ["script"] 21 F_law_values_right := by
  obtain ⟨f, fd, F, g, b⟩ := self.ex
  exact ⟨f, fd, fn_ok F sc_law_values_right (fun cdv A outer s H E hr =>
  (s_cons (s_set (i := 1) sc_law_values_right.nd (e_callF h_law_feed (hr.mono (by omega)) hand_on (a_cons (e_callF h_law_cell (hr.mono (by omega)) hand_on (a_cons (e_var 0) (a_cons e_int a_nil))) a_nil)))
  (s_cons (s_set (i := 2) sc_law_values_right.nd (e_callF h_law_word_row (hr.mono (by omega)) hand_on (a_cons (e_var 1) (a_cons (e_bin o_add e_int (e_callF h_law_take (hr.mono (by omega)) hand_on (a_cons (e_var 1) (a_cons e_int a_nil)))) a_nil))))
  (s_cons (s_set (i := 3) sc_law_values_right.nd (e_bin o_add (e_lst (a_cons e_str a_nil)) (e_callF h_law_word_row (hr.mono (by omega)) hand_on (a_cons (e_var 1) (a_cons (e_bin o_add e_int (e_callF h_law_take (hr.mono (by omega)) hand_on (a_cons (e_var 1) (a_cons e_int a_nil)))) a_nil)))))
  (s_cons (s_if (t_cmp (k_eq hr.units) (e_callF h_law_take (hr.mono (by omega)) hand_on (a_cons (e_var 1) (a_cons e_int a_nil))) e_int) (s_one (s_expr (e_meth PySem.F.slot_list_append PySem.F.type_list_append d_append (e_var 3) (a_cons (e_ixA hr.units (e_var 2) e_int) a_nil)))) s_nil)
  (s_cons (s_set (i := 4) sc_law_values_right.nd (e_callF h_law_memory (hr.mono (by omega)) hand_on (a_cons (e_callF h_law_cell (hr.mono (by omega)) hand_on (a_cons (e_var 0) (a_cons e_int a_nil))) (a_cons (e_var 2) (a_cons (e_var 3) a_nil)))))
  (s_cons (s_set (i := 5) sc_law_values_right.nd (e_callF h_law_memory (hr.mono (by omega)) hand_on (a_cons (e_callF h_law_cell (hr.mono (by omega)) hand_on (a_cons (e_var 0) (a_cons e_int a_nil))) (a_cons (e_var 2) (a_cons (e_var 3) a_nil)))))
  (s_cons (s_set (i := 6) sc_law_values_right.nd (e_callF h_law_feed (hr.mono (by omega)) hand_on (a_cons (e_callF h_law_cell (hr.mono (by omega)) hand_on (a_cons (e_var 0) (a_cons e_int a_nil))) a_nil)))
  (s_cons (s_set (i := 7) sc_law_values_right.nd (e_callF h_law_handed (hr.mono (by omega)) hand_on (a_cons (e_var 6) (a_cons (e_ixA hr.units (e_var 4) e_int) (a_cons (e_ixA hr.units (e_var 4) e_int) a_nil)))))
  (s_cons (s_set (i := 8) sc_law_values_right.nd (e_callF h_law_handed (hr.mono (by omega)) hand_on (a_cons (e_var 6) (a_cons (e_ixA hr.units (e_var 5) e_int) (a_cons (e_ixA hr.units (e_var 5) e_int) a_nil)))))
  (s_cons (s_forA own_ok rfl (e_var 3) (g_name (i := 9) sc_law_values_right.nd) (s_one (s_if (t_not (t_val (e_callF h_law_spotted (hr.mono (by omega)) hand_on (a_cons (e_var 6) (a_cons (e_var 7) (a_cons (e_ixA hr.units (e_var 4) e_int) (a_cons (e_var 9) (a_cons (e_ixA hr.units (e_var 2) e_int) (a_cons (e_callB (q_lenA) (by rfl) tp.len_ bt_len (a_cons (e_ixA hr.units (e_ixA hr.units (e_var 4) e_int) (e_var 9)) a_nil)) a_nil))))))))) (s_one (s_ret e_bl)) s_nil)))
  (s_cons (s_set (i := 10) sc_law_values_right.nd (e_callB (q_lenA) (by rfl) tp.len_ bt_len (a_cons (e_comp rfl sc_law_values_right.nd (blkOk_by (own := [("number", 15)]) (N := N_law_values_right) (sc := (defScope s_law_values_right)) (by decide +kernel)) (e_ixA hr.units (e_ixA hr.units (e_var 4) e_int) e_str) tgr_name (own_name (by decide)) (fun _ _ _ _ _ => (pg_name (i := 15) sc_law_values_right.nd rfl (by first | exact Or.inl rfl | exact Or.inr rfl))) (fun _ _ _ _ _ => (i_one (t_cmp (k_eq hr.units) (e_var 15) e_int))) (fun _ _ _ _ _ => (e_var 15))) a_nil)))
  (s_cons (s_for own_ok rfl (e_lst (a_cons (e_var 10) (a_cons (e_callB (q_lenA) (by rfl) tp.len_ bt_len (a_cons (e_ixA hr.units (e_ixA hr.units (e_var 4) e_int) e_str) a_nil)) a_nil))) (g_name (i := 11) sc_law_values_right.nd) (s_one (s_if (t_not (t_val (e_callF h_law_spotted (hr.mono (by omega)) hand_on (a_cons (e_var 6) (a_cons (e_var 7) (a_cons (e_ixA hr.units (e_var 4) e_int) (a_cons e_str (a_cons (e_ixA hr.units (e_var 2) e_int) (a_cons (e_var 11) a_nil))))))))) (s_one (s_ret e_bl)) s_nil)))
  (s_cons (s_if (t_not (t_val (e_callF h_law_picked (hr.mono (by omega)) hand_on (a_cons (e_var 6) (a_cons (e_ixA hr.units (e_var 2) e_int) a_nil))))) (s_one (s_ret e_bl)) s_nil)
  (s_cons (s_set (i := 12) sc_law_values_right.nd (e_lst (a_cons e_str (a_cons e_str (a_cons e_str (a_cons e_str (a_cons e_str (a_cons e_str (a_cons e_str (a_cons e_str (a_cons e_str (a_cons e_str a_nil))))))))))))
  (s_cons (s_set (i := 13) sc_law_values_right.nd (e_callF h_law_drawn (hr.mono (by omega)) hand_on (a_cons (e_callF h_law_cell (hr.mono (by omega)) hand_on (a_cons (e_var 0) (a_cons e_int a_nil))) (a_cons (e_var 2) (a_cons (e_var 3) (a_cons (e_var 12) a_nil))))))
  (s_cons (s_for own_ok rfl (e_callF h_law_subs (hr.mono (by omega)) hand_on (a_cons (e_var 13) a_nil)) (g_name (i := 14) sc_law_values_right.nd) (s_one (s_if (t_not (t_val (e_callF h_law_valued (hr.mono (by omega)) hand_on (a_cons (e_var 14) (a_cons (e_var 7) (a_cons (e_ixA hr.units (e_var 4) e_int) (a_cons (e_ixA hr.units (e_var 4) e_int) a_nil))))))) (s_one (s_ret e_bl)) s_nil)))
  (s_cons (s_if (t_w (w_or (t_not (t_val (e_callF h_law_valued (hr.mono (by omega)) hand_on (a_cons (e_var 13) (a_cons (e_var 8) (a_cons (e_ixA hr.units (e_var 5) e_int) (a_cons (e_ixA hr.units (e_var 5) e_int) a_nil))))))) (w_or1 (t_not (t_val (e_callF h_law_named (hr.mono (by omega)) hand_on (a_cons (e_var 13) (a_cons (e_var 8) (a_cons (e_ixA hr.units (e_var 5) e_int) (a_cons (e_ixA hr.units (e_var 5) e_int) a_nil)))))))))) (s_one (s_ret e_bl)) s_nil)
  (s_cons (s_if (t_not (t_val (e_callF h_law_valued (hr.mono (by omega)) hand_on (a_cons (e_var 13) (a_cons (e_var 7) (a_cons (e_ixA hr.units (e_var 4) e_int) (a_cons (e_ixA hr.units (e_var 4) e_int) a_nil))))))) (s_one (s_ret e_bl)) s_nil)
  (s_one (s_ret (e_and (e_callF h_law_stayed (hr.mono (by omega)) hand_on (a_cons (e_var 7) (a_cons (e_ixA hr.units (e_var 4) e_int) (a_cons (e_ixA hr.units (e_var 4) e_int) a_nil)))) (e_one (e_callF h_law_stayed (hr.mono (by omega)) hand_on (a_cons (e_var 8) (a_cons (e_ixA hr.units (e_var 5) e_int) (a_cons (e_ixA hr.units (e_var 5) e_int) a_nil))))))))))))))))))))))))))), g, F.kp, b, F⟩
theorem ok_law_words_right (tp : Tp K mg cad) (self : Def K mg "_law_words_right" s_law_words_right ["script"]) (h_law_feed : Fn P w K mg base cad "_law_feed" s_law_feed ["cell"] 1 F_law_feed) (h_law_cell : Fn P w K mg base cad "_law_cell" s_law_cell ["script", "k"] 1 F_law_cell) (h_law_word_row : Fn P w K mg base cad "_law_word_row" s_law_word_row ["feed", "many"] 3 F_law_word_row) (h_law_take : Fn P w K mg base cad "_law_take" s_law_take ["feed", "size"] 1 F_law_take) (h_law_drawn : Fn P w K mg base cad "_law_drawn" s_law_drawn ["cell", "heads", "stores", "menu"] 20 F_law_drawn) (h_law_wide : Fn P w K mg base cad "_law_wide" s_law_wide ["feed", "heads", "stores"] 2 F_law_wide) (h_law_subs : Fn P w K mg base cad "_law_subs" s_law_subs ["expr"] 17 F_law_subs) (h_law_same : Fn P w K mg base cad "_law_same" s_law_same ["given", "due"] 1 F_law_same) (h_words_of : Fn P w K mg base cad "words_of" s_words_of ["expression"] 18 F_words_of) (h_law_triple : Fn P w K mg base cad "_law_triple" s_law_triple ["expr"] 18 F_law_triple) : Fn P w K mg base cad "_law_words_right" s_law_words_right ["script"] 21 F_law_words_right := by
  obtain ⟨f, fd, F, g, b⟩ := self.ex
  exact ⟨f, fd, fn_ok F sc_law_words_right (fun cdv A outer s H E hr =>
  (s_cons (s_set (i := 1) sc_law_words_right.nd (e_callF h_law_feed (hr.mono (by omega)) hand_on (a_cons (e_callF h_law_cell (hr.mono (by omega)) hand_on (a_cons (e_var 0) (a_cons e_int a_nil))) a_nil)))
  (s_cons (s_set (i := 2) sc_law_words_right.nd (e_callF h_law_word_row (hr.mono (by omega)) hand_on (a_cons (e_var 1) (a_cons (e_bin o_add e_int (e_callF h_law_take (hr.mono (by omega)) hand_on (a_cons (e_var 1) (a_cons (e_ixA hr.units (e_lst (a_cons e_int (a_cons e_int a_nil))) (e_callF h_law_take (hr.mono (by omega)) hand_on (a_cons (e_var 1) (a_cons e_int a_nil)))) a_nil)))) a_nil))))
  (s_cons (s_set (i := 3) sc_law_words_right.nd (e_callF h_law_word_row (hr.mono (by omega)) hand_on (a_cons (e_var 1) (a_cons (e_bin o_add e_int (e_callF h_law_take (hr.mono (by omega)) hand_on (a_cons (e_var 1) (a_cons (e_ixA hr.units (e_lst (a_cons e_int (a_cons e_int a_nil))) (e_callF h_law_take (hr.mono (by omega)) hand_on (a_cons (e_var 1) (a_cons e_int a_nil)))) a_nil)))) a_nil))))
  (s_cons (s_if (t_cmp (k_eq hr.units) (e_callF h_law_take (hr.mono (by omega)) hand_on (a_cons (e_var 1) (a_cons e_int a_nil))) e_int) (s_one (s_expr (e_meth PySem.F.slot_list_append PySem.F.type_list_append d_append (e_var 3) (a_cons (e_ixA hr.units (e_var 2) e_int) a_nil)))) s_nil)
  (s_cons (s_set (i := 4) sc_law_words_right.nd (e_lst (a_cons e_str (a_cons e_str (a_cons e_str (a_cons e_str (a_cons e_str (a_cons e_str (a_cons e_str a_nil)))))))))
  (s_cons (s_set (i := 5) sc_law_words_right.nd (e_callF h_law_drawn (hr.mono (by omega)) hand_on (a_cons (e_callF h_law_cell (hr.mono (by omega)) hand_on (a_cons (e_var 0) (a_cons e_int a_nil))) (a_cons (e_var 2) (a_cons (e_var 3) (a_cons (e_var 4) a_nil))))))
  (s_cons (s_set (i := 6) sc_law_words_right.nd (e_callF h_law_drawn (hr.mono (by omega)) hand_on (a_cons (e_callF h_law_cell (hr.mono (by omega)) hand_on (a_cons (e_var 0) (a_cons e_int a_nil))) (a_cons (e_var 2) (a_cons (e_var 3) (a_cons (e_var 4) a_nil))))))
  (s_cons (s_set (i := 7) sc_law_words_right.nd (e_callF h_law_wide (hr.mono (by omega)) hand_on (a_cons (e_callF h_law_feed (hr.mono (by omega)) hand_on (a_cons (e_callF h_law_cell (hr.mono (by omega)) hand_on (a_cons (e_var 0) (a_cons e_int a_nil))) a_nil)) (a_cons (e_var 2) (a_cons (e_var 3) a_nil)))))
  (s_cons (s_for own_ok rfl (e_callF h_law_subs (hr.mono (by omega)) hand_on (a_cons (e_var 5) a_nil)) (g_name (i := 8) sc_law_words_right.nd) (s_one (s_if (t_not (t_val (e_callF h_law_same (hr.mono (by omega)) hand_on (a_cons (e_callF h_words_of (hr.mono (by omega)) hand_on (a_cons (e_var 8) a_nil)) (a_cons (e_callF h_law_triple (hr.mono (by omega)) hand_on (a_cons (e_var 8) a_nil)) a_nil))))) (s_one (s_ret e_bl)) s_nil)))
  (s_cons (s_if (t_w (w_or (t_not (t_val (e_callF h_law_same (hr.mono (by omega)) hand_on (a_cons (e_callF h_words_of (hr.mono (by omega)) hand_on (a_cons (e_var 6) a_nil)) (a_cons (e_callF h_law_triple (hr.mono (by omega)) hand_on (a_cons (e_var 6) a_nil)) a_nil))))) (w_or1 (t_not (t_val (e_callF h_law_same (hr.mono (by omega)) hand_on (a_cons (e_callF h_words_of (hr.mono (by omega)) hand_on (a_cons (e_var 7) a_nil)) (a_cons (e_callF h_law_triple (hr.mono (by omega)) hand_on (a_cons (e_var 7) a_nil)) a_nil)))))))) (s_one (s_ret e_bl)) s_nil)
  (s_one (s_ret (e_callF h_law_same (hr.mono (by omega)) hand_on (a_cons (e_callKF0 (b := 1) (sel := [.inr 0]) (ks := ["expression"]) h_words_of (hr.mono (by omega)) hand_on (by decide) (fun _ _ _ _ _ _ us ws h1 h2 => match us, ws, h1, h2 with | [], [_], _, _ => rfl) (kw_cons (e_var 5) kw_nil)) (a_cons (e_callF h_law_triple (hr.mono (by omega)) hand_on (a_cons (e_var 5) a_nil)) a_nil)))))))))))))))), g, F.kp, b, F⟩
theorem ok_law (tp : Tp K mg cad) (self : Def K mg "law" s_law ["script"]) (h_law_values_right : Fn P w K mg base cad "_law_values_right" s_law_values_right ["script"] 21 F_law_values_right) (h_law_words_right : Fn P w K mg base cad "_law_words_right" s_law_words_right ["script"] 21 F_law_words_right) : Fn P w K mg base cad "law" s_law ["script"] 22 F_law := by
  obtain ⟨f, fd, F, g, b⟩ := self.ex
  exact ⟨f, fd, fn_ok F sc_law (fun cdv A outer s H E hr =>
  (s_one (s_ret (e_and (e_callF h_law_values_right (hr.mono (by omega)) hand_on (a_cons (e_var 0) a_nil)) (e_one (e_callF h_law_words_right (hr.mono (by omega)) hand_on (a_cons (e_var 0) a_nil))))))), g, F.kp, b, F⟩
end
end K01
end
section
set_option Elab.async false
set_option linter.all false
set_option maxRecDepth 100000
set_option maxHeartbeats 4000000
/-! ZE: the end of a law whose script is a list of ints. -/
namespace Z
open PySem PySem.Spec PyProof.Rows L2
def spLaw (K : PySem.W.Frag) : Sp := fun vs H Q _ => ∃ (a : Addr) (ns : List Int), vs = [.ref a] ∧ SqL K H a (ns.map V.int) ∧ ns.length ≤ 63 ∧ ∀ v H', v = .bl true → Q v H'
theorem reps_ints {g : G} {ρ : List Addr} {H : Hp} : ∀ ns : List Int, Reps g ρ H (ns.map D.int) (ns.map V.int)
  | [] => reps_nil
  | n :: ns => reps_cons rep_int (reps_ints ns)
theorem law_end {K : PySem.W.Frag} {cad : Nat → Addr} {F : List D → S → R D} (h : ∀ ns : List Int, ns.length ≤ 63 → Wp (F [.loc 0] [.ro (ns.map D.int)]) fun d _ => d = .bl true) (vs : List V) (H : Hp) (Q : VK) (E : XK) (p : spLaw K vs H Q E) : spF ⟨K, cad⟩ F vs H Q E := by
  obtain ⟨a, ns, rfl, hS, hl, k⟩ := p
  refine ⟨[a], [.ro (ns.map D.int)], [.loc 0], ⟨rfl, ?_, ?_⟩, ?_, ?_⟩
  · intro i j b oi oj ne h1 h2 h3 h4
    have a1 := (List.getElem?_eq_some_iff.mp h1).1
    have a2 := (List.getElem?_eq_some_iff.mp h2).1
    simp only [List.length_singleton] at a1 a2
    omega
  · intro n o b h1 h2
    match n, h1, h2 with
    | 0, h1, h2 =>
      cases h1
      cases h2
      exact ⟨_, hS, reps_ints ns⟩
  · exact reps_cons (rep_loc rfl) reps_nil
  · obtain ⟨d, s, e, q⟩ := (h ns hl).ok
    rw [e]
    intro ρ' H' b _ _ _ r
    subst q
    exact k b H' r.bl
theorem law_fn {P : Program} {w : World} {K : PySem.W.Frag} {mg : Str → Option Value} {base : Heap} {cad : Nat → Addr} {x : Str} {st : Stmt} {ps : List Str} {k : Nat} {F : List D → S → R D} {fa : Addr} {fd0 : FuncData} {oc : Value} {od : Option Addr} {osl : Array (Option Value)} (H : Fn P w K mg base cad x st ps k F) (hfa : mg x = some (.ref fa)) (l : K.lookup fa = some ⟨oc, od, .func fd0, osl⟩) : FnOk P w K mg base (L2.CX P w) k fa fd0 ps (spF ⟨K, cad⟩ F) := by
  obtain ⟨f, fd, F', g, -, -, Fu⟩ := H.ex
  rw [hfa] at g
  cases g
  obtain ⟨oc', od', kV, doc, pm, an, cdv, ct, osl', e0, lk, -⟩ := Fu.ex
  have e1 := Option.some.inj (lk.symm.trans l)
  have e2 : Data.func fd = Data.func fd0 := congrArg Obj.data e1
  cases e2
  exact F'
theorem walk_end {l : PySem.W.OpenLaw} {k : Nat} {q : Program} {loose : List Str} {XP : (Str → Option Value) → Heap → Prop} {YP : World → Heap → Prop} {d : DefRec} {K : Params → PySem.W.Frag} (hn : l.most = some 63) (hdf : d.params.defaults = []) (hr : Room k callerA)
    (hY : ∀ (w : World) (h : Heap), YP w h → (K w.params).In h)
    (F : ∀ (w : World) (mg : Str → Option Value) (fa : Addr) (h : Heap), (K w.params).In h → h.Ns mainGlobals mg → mg d.name = some (.ref fa) →
      ∃ fd : FuncData, (∀ (s : Shared) (u : Value), BindsTo s fd ⟨[u], []⟩ [("script", u)]) ∧ ∀ base : Heap, (K w.params).In base → base.Ns mainGlobals mg → FnOk l.prog w (K w.params) mg base (L2.CX l.prog w) k fa fd ["script"] (spLaw (K w.params))) :
    PySem.W.WalkO q loose XP YP l.row.toRowW d [] (fun f vs => PySem.call f vs) :=
  L2.walk_of (n := 63) (k := k) (x := "script") (CX := fun w => L2.CX l.prog w) (sp := fun w => spLaw (K w.params)) hn (by decide) hdf hr hY F (fun _ _ a ns hl _ hS => ⟨a, ns, rfl, hS, hl, fun _ _ h => h⟩) (fun w H s e s' z => by
    obtain ⟨_, _, _, _, _, _, _, _, _, _, _, _, z⟩ := z
    exact z.elim)
end Z
end
section
set_option Elab.async false
set_option linter.all false
set_option maxRecDepth 100000
set_option maxHeartbeats 4000000
/-! the end of k01: printed by gen.py -/
namespace K01
open PySem PySem.Spec PyProof.Rows L2 Z
theorem all_mk {l : PySem.W.OpenLaw} {w : World} {K : PySem.W.Frag} {h : Heap} {mg : Str → Option Value} {fa : Addr} {t_LIMIT : PySem.Tok} {f_clip : Addr} {oc_clip kV_clip dc_clip pm_clip cd_clip ct_clip : Value} {od_clip an_clip : Option Addr} {sl_clip : Array (Option Value)} {f_parts_within : Addr} {oc_parts_within kV_parts_within dc_parts_within pm_parts_within cd_parts_within ct_parts_within : Value} {od_parts_within an_parts_within : Option Addr} {sl_parts_within : Array (Option Value)} {f_quotient_of : Addr} {oc_quotient_of kV_quotient_of dc_quotient_of pm_quotient_of cd_quotient_of ct_quotient_of : Value} {od_quotient_of an_quotient_of : Option Addr} {sl_quotient_of : Array (Option Value)} {f_remainder_of : Addr} {oc_remainder_of kV_remainder_of dc_remainder_of pm_remainder_of cd_remainder_of ct_remainder_of : Value} {od_remainder_of an_remainder_of : Option Addr} {sl_remainder_of : Array (Option Value)} {f_comparison_holds : Addr} {oc_comparison_holds kV_comparison_holds dc_comparison_holds pm_comparison_holds cd_comparison_holds ct_comparison_holds : Value} {od_comparison_holds an_comparison_holds : Option Addr} {sl_comparison_holds : Array (Option Value)} {f_value_of_op : Addr} {oc_value_of_op kV_value_of_op dc_value_of_op pm_value_of_op cd_value_of_op ct_value_of_op : Value} {od_value_of_op an_value_of_op : Option Addr} {sl_value_of_op : Array (Option Value)} {f_value_of_read : Addr} {oc_value_of_read kV_value_of_read dc_value_of_read pm_value_of_read cd_value_of_read ct_value_of_read : Value} {od_value_of_read an_value_of_read : Option Addr} {sl_value_of_read : Array (Option Value)} {f_index_of_zero : Addr} {oc_index_of_zero kV_index_of_zero dc_index_of_zero pm_index_of_zero cd_index_of_zero ct_index_of_zero : Value} {od_index_of_zero an_index_of_zero : Option Addr} {sl_index_of_zero : Array (Option Value)} {f_value_of_call : Addr} {oc_value_of_call kV_value_of_call dc_value_of_call pm_value_of_call cd_value_of_call ct_value_of_call : Value} {od_value_of_call an_value_of_call : Option Addr} {sl_value_of_call : Array (Option Value)} {f_value_of : Addr} {oc_value_of kV_value_of dc_value_of pm_value_of cd_value_of ct_value_of : Value} {od_value_of an_value_of : Option Addr} {sl_value_of : Array (Option Value)} {f_pairs_within : Addr} {oc_pairs_within kV_pairs_within dc_pairs_within pm_pairs_within cd_pairs_within ct_pairs_within : Value} {od_pairs_within an_pairs_within : Option Addr} {sl_pairs_within : Array (Option Value)} {f_words_of : Addr} {oc_words_of kV_words_of dc_words_of pm_words_of cd_words_of ct_words_of : Value} {od_words_of an_words_of : Option Addr} {sl_words_of : Array (Option Value)} {f_law_whole : Addr} {oc_law_whole kV_law_whole dc_law_whole pm_law_whole cd_law_whole ct_law_whole : Value} {od_law_whole an_law_whole : Option Addr} {sl_law_whole : Array (Option Value)} {f_law_cell : Addr} {oc_law_cell kV_law_cell dc_law_cell pm_law_cell cd_law_cell ct_law_cell : Value} {od_law_cell an_law_cell : Option Addr} {sl_law_cell : Array (Option Value)} {f_law_feed : Addr} {oc_law_feed kV_law_feed dc_law_feed pm_law_feed cd_law_feed ct_law_feed : Value} {od_law_feed an_law_feed : Option Addr} {sl_law_feed : Array (Option Value)} {f_law_take : Addr} {oc_law_take kV_law_take dc_law_take pm_law_take cd_law_take ct_law_take : Value} {od_law_take an_law_take : Option Addr} {sl_law_take : Array (Option Value)} {f_law_number : Addr} {oc_law_number kV_law_number dc_law_number pm_law_number cd_law_number ct_law_number : Value} {od_law_number an_law_number : Option Addr} {sl_law_number : Array (Option Value)} {f_law_datum : Addr} {oc_law_datum kV_law_datum dc_law_datum pm_law_datum cd_law_datum ct_law_datum : Value} {od_law_datum an_law_datum : Option Addr} {sl_law_datum : Array (Option Value)} {f_law_word : Addr} {oc_law_word kV_law_word dc_law_word pm_law_word cd_law_word ct_law_word : Value} {od_law_word an_law_word : Option Addr} {sl_law_word : Array (Option Value)} {f_law_near : Addr} {oc_law_near kV_law_near dc_law_near pm_law_near cd_law_near ct_law_near : Value} {od_law_near an_law_near : Option Addr} {sl_law_near : Array (Option Value)} {f_law_word_row : Addr} {oc_law_word_row kV_law_word_row dc_law_word_row pm_law_word_row cd_law_word_row ct_law_word_row : Value} {od_law_word_row an_law_word_row : Option Addr} {sl_law_word_row : Array (Option Value)} {f_law_leaf : Addr} {oc_law_leaf kV_law_leaf dc_law_leaf pm_law_leaf cd_law_leaf ct_law_leaf : Value} {od_law_leaf an_law_leaf : Option Addr} {sl_law_leaf : Array (Option Value)} {f_law_tree : Addr} {oc_law_tree kV_law_tree dc_law_tree pm_law_tree cd_law_tree ct_law_tree : Value} {od_law_tree an_law_tree : Option Addr} {sl_law_tree : Array (Option Value)} {f_law_deep : Addr} {oc_law_deep kV_law_deep dc_law_deep pm_law_deep cd_law_deep ct_law_deep : Value} {od_law_deep an_law_deep : Option Addr} {sl_law_deep : Array (Option Value)} {f_law_drawn : Addr} {oc_law_drawn kV_law_drawn dc_law_drawn pm_law_drawn cd_law_drawn ct_law_drawn : Value} {od_law_drawn an_law_drawn : Option Addr} {sl_law_drawn : Array (Option Value)} {f_law_parts : Addr} {oc_law_parts kV_law_parts dc_law_parts pm_law_parts cd_law_parts ct_law_parts : Value} {od_law_parts an_law_parts : Option Addr} {sl_law_parts : Array (Option Value)} {f_law_subs : Addr} {oc_law_subs kV_law_subs dc_law_subs pm_law_subs cd_law_subs ct_law_subs : Value} {od_law_subs an_law_subs : Option Addr} {sl_law_subs : Array (Option Value)} {f_law_clip : Addr} {oc_law_clip kV_law_clip dc_law_clip pm_law_clip cd_law_clip ct_law_clip : Value} {od_law_clip an_law_clip : Option Addr} {sl_law_clip : Array (Option Value)} {f_law_sign_value : Addr} {oc_law_sign_value kV_law_sign_value dc_law_sign_value pm_law_sign_value cd_law_sign_value ct_law_sign_value : Value} {od_law_sign_value an_law_sign_value : Option Addr} {sl_law_sign_value : Array (Option Value)} {f_law_value : Addr} {oc_law_value kV_law_value dc_law_value pm_law_value cd_law_value ct_law_value : Value} {od_law_value an_law_value : Option Addr} {sl_law_value : Array (Option Value)} {f_law_handed : Addr} {oc_law_handed kV_law_handed dc_law_handed pm_law_handed cd_law_handed ct_law_handed : Value} {od_law_handed an_law_handed : Option Addr} {sl_law_handed : Array (Option Value)} {f_law_stayed : Addr} {oc_law_stayed kV_law_stayed dc_law_stayed pm_law_stayed cd_law_stayed ct_law_stayed : Value} {od_law_stayed an_law_stayed : Option Addr} {sl_law_stayed : Array (Option Value)} {f_law_valued : Addr} {oc_law_valued kV_law_valued dc_law_valued pm_law_valued cd_law_valued ct_law_valued : Value} {od_law_valued an_law_valued : Option Addr} {sl_law_valued : Array (Option Value)} {f_law_named : Addr} {oc_law_named kV_law_named dc_law_named pm_law_named cd_law_named ct_law_named : Value} {od_law_named an_law_named : Option Addr} {sl_law_named : Array (Option Value)} {f_law_row : Addr} {oc_law_row kV_law_row dc_law_row pm_law_row cd_law_row ct_law_row : Value} {od_law_row an_law_row : Option Addr} {sl_law_row : Array (Option Value)} {f_law_memory : Addr} {oc_law_memory kV_law_memory dc_law_memory pm_law_memory cd_law_memory ct_law_memory : Value} {od_law_memory an_law_memory : Option Addr} {sl_law_memory : Array (Option Value)} {f_law_spots : Addr} {oc_law_spots kV_law_spots dc_law_spots pm_law_spots cd_law_spots ct_law_spots : Value} {od_law_spots an_law_spots : Option Addr} {sl_law_spots : Array (Option Value)} {f_law_spotted : Addr} {oc_law_spotted kV_law_spotted dc_law_spotted pm_law_spotted cd_law_spotted ct_law_spotted : Value} {od_law_spotted an_law_spotted : Option Addr} {sl_law_spotted : Array (Option Value)} {f_law_picked : Addr} {oc_law_picked kV_law_picked dc_law_picked pm_law_picked cd_law_picked ct_law_picked : Value} {od_law_picked an_law_picked : Option Addr} {sl_law_picked : Array (Option Value)} {f_law_same : Addr} {oc_law_same kV_law_same dc_law_same pm_law_same cd_law_same ct_law_same : Value} {od_law_same an_law_same : Option Addr} {sl_law_same : Array (Option Value)} {f_law_words : Addr} {oc_law_words kV_law_words dc_law_words pm_law_words cd_law_words ct_law_words : Value} {od_law_words an_law_words : Option Addr} {sl_law_words : Array (Option Value)} {f_law_triple : Addr} {oc_law_triple kV_law_triple dc_law_triple pm_law_triple cd_law_triple ct_law_triple : Value} {od_law_triple an_law_triple : Option Addr} {sl_law_triple : Array (Option Value)} {f_law_wide : Addr} {oc_law_wide kV_law_wide dc_law_wide pm_law_wide cd_law_wide ct_law_wide : Value} {od_law_wide an_law_wide : Option Addr} {sl_law_wide : Array (Option Value)} {f_law_values_right : Addr} {oc_law_values_right kV_law_values_right dc_law_values_right pm_law_values_right cd_law_values_right ct_law_values_right : Value} {od_law_values_right an_law_values_right : Option Addr} {sl_law_values_right : Array (Option Value)} {f_law_words_right : Addr} {oc_law_words_right kV_law_words_right dc_law_words_right pm_law_words_right cd_law_words_right ct_law_words_right : Value} {od_law_words_right an_law_words_right : Option Addr} {sl_law_words_right : Array (Option Value)} {f_law : Addr} {oc_law kV_law dc_law pm_law cd_law ct_law : Value} {od_law an_law : Option Addr} {sl_law : Array (Option Value)} (X : K.In h) (G : h.Ns mainGlobals mg) (hfa : mg "law" = some (.ref fa))
    (e_LIMIT : PySem.W.nsIn K mainGlobals "LIMIT" = some (some (.int 1000000000000 t_LIMIT)))
    (z_bool_ : PySem.W.nsIn K mainGlobals "bool" = some none)
    (z_dict_ : PySem.W.nsIn K mainGlobals "dict" = some none)
    (z_int_ : PySem.W.nsIn K mainGlobals "int" = some none)
    (z_isinstance_ : PySem.W.nsIn K mainGlobals "isinstance" = some none)
    (z_len_ : PySem.W.nsIn K mainGlobals "len" = some none)
    (z_list_ : PySem.W.nsIn K mainGlobals "list" = some none)
    (z_max_ : PySem.W.nsIn K mainGlobals "max" = some none)
    (z_min_ : PySem.W.nsIn K mainGlobals "min" = some none)
    (z_range_ : PySem.W.nsIn K mainGlobals "range" = some none)
    (z_sorted_ : PySem.W.nsIn K mainGlobals "sorted" = some none)
    (z_str_ : PySem.W.nsIn K mainGlobals "str" = some none)
    (z_tuple_ : PySem.W.nsIn K mainGlobals "tuple" = some none)
    (a_clip : PySem.W.nsIn K mainGlobals "clip" = some (some (.ref f_clip)))
    (l_clip : K.lookup f_clip = some ⟨oc_clip, od_clip, .func (PySem.W.fnOf "clip" "clip" (defArgs s_clip) (defBody s_clip) (defScope s_clip) .none kV_clip dc_clip pm_clip an_clip cd_clip ct_clip), sl_clip⟩)
    (c_clip : PySem.W.codeIn K cd_clip "clip" = true)
    (k_clip : PySem.W.keepIn K (.ref f_clip) = true)
    (a_parts_within : PySem.W.nsIn K mainGlobals "parts_within" = some (some (.ref f_parts_within)))
    (l_parts_within : K.lookup f_parts_within = some ⟨oc_parts_within, od_parts_within, .func (PySem.W.fnOf "parts_within" "parts_within" (defArgs s_parts_within) (defBody s_parts_within) (defScope s_parts_within) .none kV_parts_within dc_parts_within pm_parts_within an_parts_within cd_parts_within ct_parts_within), sl_parts_within⟩)
    (c_parts_within : PySem.W.codeIn K cd_parts_within "parts_within" = true)
    (k_parts_within : PySem.W.keepIn K (.ref f_parts_within) = true)
    (a_quotient_of : PySem.W.nsIn K mainGlobals "quotient_of" = some (some (.ref f_quotient_of)))
    (l_quotient_of : K.lookup f_quotient_of = some ⟨oc_quotient_of, od_quotient_of, .func (PySem.W.fnOf "quotient_of" "quotient_of" (defArgs s_quotient_of) (defBody s_quotient_of) (defScope s_quotient_of) .none kV_quotient_of dc_quotient_of pm_quotient_of an_quotient_of cd_quotient_of ct_quotient_of), sl_quotient_of⟩)
    (c_quotient_of : PySem.W.codeIn K cd_quotient_of "quotient_of" = true)
    (k_quotient_of : PySem.W.keepIn K (.ref f_quotient_of) = true)
    (a_remainder_of : PySem.W.nsIn K mainGlobals "remainder_of" = some (some (.ref f_remainder_of)))
    (l_remainder_of : K.lookup f_remainder_of = some ⟨oc_remainder_of, od_remainder_of, .func (PySem.W.fnOf "remainder_of" "remainder_of" (defArgs s_remainder_of) (defBody s_remainder_of) (defScope s_remainder_of) .none kV_remainder_of dc_remainder_of pm_remainder_of an_remainder_of cd_remainder_of ct_remainder_of), sl_remainder_of⟩)
    (c_remainder_of : PySem.W.codeIn K cd_remainder_of "remainder_of" = true)
    (k_remainder_of : PySem.W.keepIn K (.ref f_remainder_of) = true)
    (a_comparison_holds : PySem.W.nsIn K mainGlobals "comparison_holds" = some (some (.ref f_comparison_holds)))
    (l_comparison_holds : K.lookup f_comparison_holds = some ⟨oc_comparison_holds, od_comparison_holds, .func (PySem.W.fnOf "comparison_holds" "comparison_holds" (defArgs s_comparison_holds) (defBody s_comparison_holds) (defScope s_comparison_holds) .none kV_comparison_holds dc_comparison_holds pm_comparison_holds an_comparison_holds cd_comparison_holds ct_comparison_holds), sl_comparison_holds⟩)
    (c_comparison_holds : PySem.W.codeIn K cd_comparison_holds "comparison_holds" = true)
    (k_comparison_holds : PySem.W.keepIn K (.ref f_comparison_holds) = true)
    (a_value_of_op : PySem.W.nsIn K mainGlobals "value_of_op" = some (some (.ref f_value_of_op)))
    (l_value_of_op : K.lookup f_value_of_op = some ⟨oc_value_of_op, od_value_of_op, .func (PySem.W.fnOf "value_of_op" "value_of_op" (defArgs s_value_of_op) (defBody s_value_of_op) (defScope s_value_of_op) .none kV_value_of_op dc_value_of_op pm_value_of_op an_value_of_op cd_value_of_op ct_value_of_op), sl_value_of_op⟩)
    (c_value_of_op : PySem.W.codeIn K cd_value_of_op "value_of_op" = true)
    (k_value_of_op : PySem.W.keepIn K (.ref f_value_of_op) = true)
    (a_value_of_read : PySem.W.nsIn K mainGlobals "value_of_read" = some (some (.ref f_value_of_read)))
    (l_value_of_read : K.lookup f_value_of_read = some ⟨oc_value_of_read, od_value_of_read, .func (PySem.W.fnOf "value_of_read" "value_of_read" (defArgs s_value_of_read) (defBody s_value_of_read) (defScope s_value_of_read) .none kV_value_of_read dc_value_of_read pm_value_of_read an_value_of_read cd_value_of_read ct_value_of_read), sl_value_of_read⟩)
    (c_value_of_read : PySem.W.codeIn K cd_value_of_read "value_of_read" = true)
    (k_value_of_read : PySem.W.keepIn K (.ref f_value_of_read) = true)
    (a_index_of_zero : PySem.W.nsIn K mainGlobals "index_of_zero" = some (some (.ref f_index_of_zero)))
    (l_index_of_zero : K.lookup f_index_of_zero = some ⟨oc_index_of_zero, od_index_of_zero, .func (PySem.W.fnOf "index_of_zero" "index_of_zero" (defArgs s_index_of_zero) (defBody s_index_of_zero) (defScope s_index_of_zero) .none kV_index_of_zero dc_index_of_zero pm_index_of_zero an_index_of_zero cd_index_of_zero ct_index_of_zero), sl_index_of_zero⟩)
    (c_index_of_zero : PySem.W.codeIn K cd_index_of_zero "index_of_zero" = true)
    (k_index_of_zero : PySem.W.keepIn K (.ref f_index_of_zero) = true)
    (a_value_of_call : PySem.W.nsIn K mainGlobals "value_of_call" = some (some (.ref f_value_of_call)))
    (l_value_of_call : K.lookup f_value_of_call = some ⟨oc_value_of_call, od_value_of_call, .func (PySem.W.fnOf "value_of_call" "value_of_call" (defArgs s_value_of_call) (defBody s_value_of_call) (defScope s_value_of_call) .none kV_value_of_call dc_value_of_call pm_value_of_call an_value_of_call cd_value_of_call ct_value_of_call), sl_value_of_call⟩)
    (c_value_of_call : PySem.W.codeIn K cd_value_of_call "value_of_call" = true)
    (k_value_of_call : PySem.W.keepIn K (.ref f_value_of_call) = true)
    (a_value_of : PySem.W.nsIn K mainGlobals "value_of" = some (some (.ref f_value_of)))
    (l_value_of : K.lookup f_value_of = some ⟨oc_value_of, od_value_of, .func (PySem.W.fnOf "value_of" "value_of" (defArgs s_value_of) (defBody s_value_of) (defScope s_value_of) .none kV_value_of dc_value_of pm_value_of an_value_of cd_value_of ct_value_of), sl_value_of⟩)
    (c_value_of : PySem.W.codeIn K cd_value_of "value_of" = true)
    (k_value_of : PySem.W.keepIn K (.ref f_value_of) = true)
    (a_pairs_within : PySem.W.nsIn K mainGlobals "pairs_within" = some (some (.ref f_pairs_within)))
    (l_pairs_within : K.lookup f_pairs_within = some ⟨oc_pairs_within, od_pairs_within, .func (PySem.W.fnOf "pairs_within" "pairs_within" (defArgs s_pairs_within) (defBody s_pairs_within) (defScope s_pairs_within) .none kV_pairs_within dc_pairs_within pm_pairs_within an_pairs_within cd_pairs_within ct_pairs_within), sl_pairs_within⟩)
    (c_pairs_within : PySem.W.codeIn K cd_pairs_within "pairs_within" = true)
    (k_pairs_within : PySem.W.keepIn K (.ref f_pairs_within) = true)
    (a_words_of : PySem.W.nsIn K mainGlobals "words_of" = some (some (.ref f_words_of)))
    (l_words_of : K.lookup f_words_of = some ⟨oc_words_of, od_words_of, .func (PySem.W.fnOf "words_of" "words_of" (defArgs s_words_of) (defBody s_words_of) (defScope s_words_of) .none kV_words_of dc_words_of pm_words_of an_words_of cd_words_of ct_words_of), sl_words_of⟩)
    (c_words_of : PySem.W.codeIn K cd_words_of "words_of" = true)
    (k_words_of : PySem.W.keepIn K (.ref f_words_of) = true)
    (a_law_whole : PySem.W.nsIn K mainGlobals "_law_whole" = some (some (.ref f_law_whole)))
    (l_law_whole : K.lookup f_law_whole = some ⟨oc_law_whole, od_law_whole, .func (PySem.W.fnOf "_law_whole" "_law_whole" (defArgs s_law_whole) (defBody s_law_whole) (defScope s_law_whole) .none kV_law_whole dc_law_whole pm_law_whole an_law_whole cd_law_whole ct_law_whole), sl_law_whole⟩)
    (c_law_whole : PySem.W.codeIn K cd_law_whole "_law_whole" = true)
    (k_law_whole : PySem.W.keepIn K (.ref f_law_whole) = true)
    (a_law_cell : PySem.W.nsIn K mainGlobals "_law_cell" = some (some (.ref f_law_cell)))
    (l_law_cell : K.lookup f_law_cell = some ⟨oc_law_cell, od_law_cell, .func (PySem.W.fnOf "_law_cell" "_law_cell" (defArgs s_law_cell) (defBody s_law_cell) (defScope s_law_cell) .none kV_law_cell dc_law_cell pm_law_cell an_law_cell cd_law_cell ct_law_cell), sl_law_cell⟩)
    (c_law_cell : PySem.W.codeIn K cd_law_cell "_law_cell" = true)
    (k_law_cell : PySem.W.keepIn K (.ref f_law_cell) = true)
    (a_law_feed : PySem.W.nsIn K mainGlobals "_law_feed" = some (some (.ref f_law_feed)))
    (l_law_feed : K.lookup f_law_feed = some ⟨oc_law_feed, od_law_feed, .func (PySem.W.fnOf "_law_feed" "_law_feed" (defArgs s_law_feed) (defBody s_law_feed) (defScope s_law_feed) .none kV_law_feed dc_law_feed pm_law_feed an_law_feed cd_law_feed ct_law_feed), sl_law_feed⟩)
    (c_law_feed : PySem.W.codeIn K cd_law_feed "_law_feed" = true)
    (k_law_feed : PySem.W.keepIn K (.ref f_law_feed) = true)
    (a_law_take : PySem.W.nsIn K mainGlobals "_law_take" = some (some (.ref f_law_take)))
    (l_law_take : K.lookup f_law_take = some ⟨oc_law_take, od_law_take, .func (PySem.W.fnOf "_law_take" "_law_take" (defArgs s_law_take) (defBody s_law_take) (defScope s_law_take) .none kV_law_take dc_law_take pm_law_take an_law_take cd_law_take ct_law_take), sl_law_take⟩)
    (c_law_take : PySem.W.codeIn K cd_law_take "_law_take" = true)
    (k_law_take : PySem.W.keepIn K (.ref f_law_take) = true)
    (a_law_number : PySem.W.nsIn K mainGlobals "_law_number" = some (some (.ref f_law_number)))
    (l_law_number : K.lookup f_law_number = some ⟨oc_law_number, od_law_number, .func (PySem.W.fnOf "_law_number" "_law_number" (defArgs s_law_number) (defBody s_law_number) (defScope s_law_number) .none kV_law_number dc_law_number pm_law_number an_law_number cd_law_number ct_law_number), sl_law_number⟩)
    (c_law_number : PySem.W.codeIn K cd_law_number "_law_number" = true)
    (k_law_number : PySem.W.keepIn K (.ref f_law_number) = true)
    (a_law_datum : PySem.W.nsIn K mainGlobals "_law_datum" = some (some (.ref f_law_datum)))
    (l_law_datum : K.lookup f_law_datum = some ⟨oc_law_datum, od_law_datum, .func (PySem.W.fnOf "_law_datum" "_law_datum" (defArgs s_law_datum) (defBody s_law_datum) (defScope s_law_datum) .none kV_law_datum dc_law_datum pm_law_datum an_law_datum cd_law_datum ct_law_datum), sl_law_datum⟩)
    (c_law_datum : PySem.W.codeIn K cd_law_datum "_law_datum" = true)
    (k_law_datum : PySem.W.keepIn K (.ref f_law_datum) = true)
    (a_law_word : PySem.W.nsIn K mainGlobals "_law_word" = some (some (.ref f_law_word)))
    (l_law_word : K.lookup f_law_word = some ⟨oc_law_word, od_law_word, .func (PySem.W.fnOf "_law_word" "_law_word" (defArgs s_law_word) (defBody s_law_word) (defScope s_law_word) .none kV_law_word dc_law_word pm_law_word an_law_word cd_law_word ct_law_word), sl_law_word⟩)
    (c_law_word : PySem.W.codeIn K cd_law_word "_law_word" = true)
    (k_law_word : PySem.W.keepIn K (.ref f_law_word) = true)
    (a_law_near : PySem.W.nsIn K mainGlobals "_law_near" = some (some (.ref f_law_near)))
    (l_law_near : K.lookup f_law_near = some ⟨oc_law_near, od_law_near, .func (PySem.W.fnOf "_law_near" "_law_near" (defArgs s_law_near) (defBody s_law_near) (defScope s_law_near) .none kV_law_near dc_law_near pm_law_near an_law_near cd_law_near ct_law_near), sl_law_near⟩)
    (c_law_near : PySem.W.codeIn K cd_law_near "_law_near" = true)
    (k_law_near : PySem.W.keepIn K (.ref f_law_near) = true)
    (a_law_word_row : PySem.W.nsIn K mainGlobals "_law_word_row" = some (some (.ref f_law_word_row)))
    (l_law_word_row : K.lookup f_law_word_row = some ⟨oc_law_word_row, od_law_word_row, .func (PySem.W.fnOf "_law_word_row" "_law_word_row" (defArgs s_law_word_row) (defBody s_law_word_row) (defScope s_law_word_row) .none kV_law_word_row dc_law_word_row pm_law_word_row an_law_word_row cd_law_word_row ct_law_word_row), sl_law_word_row⟩)
    (c_law_word_row : PySem.W.codeIn K cd_law_word_row "_law_word_row" = true)
    (k_law_word_row : PySem.W.keepIn K (.ref f_law_word_row) = true)
    (a_law_leaf : PySem.W.nsIn K mainGlobals "_law_leaf" = some (some (.ref f_law_leaf)))
    (l_law_leaf : K.lookup f_law_leaf = some ⟨oc_law_leaf, od_law_leaf, .func (PySem.W.fnOf "_law_leaf" "_law_leaf" (defArgs s_law_leaf) (defBody s_law_leaf) (defScope s_law_leaf) .none kV_law_leaf dc_law_leaf pm_law_leaf an_law_leaf cd_law_leaf ct_law_leaf), sl_law_leaf⟩)
    (c_law_leaf : PySem.W.codeIn K cd_law_leaf "_law_leaf" = true)
    (k_law_leaf : PySem.W.keepIn K (.ref f_law_leaf) = true)
    (a_law_tree : PySem.W.nsIn K mainGlobals "_law_tree" = some (some (.ref f_law_tree)))
    (l_law_tree : K.lookup f_law_tree = some ⟨oc_law_tree, od_law_tree, .func (PySem.W.fnOf "_law_tree" "_law_tree" (defArgs s_law_tree) (defBody s_law_tree) (defScope s_law_tree) .none kV_law_tree dc_law_tree pm_law_tree an_law_tree cd_law_tree ct_law_tree), sl_law_tree⟩)
    (c_law_tree : PySem.W.codeIn K cd_law_tree "_law_tree" = true)
    (k_law_tree : PySem.W.keepIn K (.ref f_law_tree) = true)
    (a_law_deep : PySem.W.nsIn K mainGlobals "_law_deep" = some (some (.ref f_law_deep)))
    (l_law_deep : K.lookup f_law_deep = some ⟨oc_law_deep, od_law_deep, .func (PySem.W.fnOf "_law_deep" "_law_deep" (defArgs s_law_deep) (defBody s_law_deep) (defScope s_law_deep) .none kV_law_deep dc_law_deep pm_law_deep an_law_deep cd_law_deep ct_law_deep), sl_law_deep⟩)
    (c_law_deep : PySem.W.codeIn K cd_law_deep "_law_deep" = true)
    (k_law_deep : PySem.W.keepIn K (.ref f_law_deep) = true)
    (a_law_drawn : PySem.W.nsIn K mainGlobals "_law_drawn" = some (some (.ref f_law_drawn)))
    (l_law_drawn : K.lookup f_law_drawn = some ⟨oc_law_drawn, od_law_drawn, .func (PySem.W.fnOf "_law_drawn" "_law_drawn" (defArgs s_law_drawn) (defBody s_law_drawn) (defScope s_law_drawn) .none kV_law_drawn dc_law_drawn pm_law_drawn an_law_drawn cd_law_drawn ct_law_drawn), sl_law_drawn⟩)
    (c_law_drawn : PySem.W.codeIn K cd_law_drawn "_law_drawn" = true)
    (k_law_drawn : PySem.W.keepIn K (.ref f_law_drawn) = true)
    (a_law_parts : PySem.W.nsIn K mainGlobals "_law_parts" = some (some (.ref f_law_parts)))
    (l_law_parts : K.lookup f_law_parts = some ⟨oc_law_parts, od_law_parts, .func (PySem.W.fnOf "_law_parts" "_law_parts" (defArgs s_law_parts) (defBody s_law_parts) (defScope s_law_parts) .none kV_law_parts dc_law_parts pm_law_parts an_law_parts cd_law_parts ct_law_parts), sl_law_parts⟩)
    (c_law_parts : PySem.W.codeIn K cd_law_parts "_law_parts" = true)
    (k_law_parts : PySem.W.keepIn K (.ref f_law_parts) = true)
    (a_law_subs : PySem.W.nsIn K mainGlobals "_law_subs" = some (some (.ref f_law_subs)))
    (l_law_subs : K.lookup f_law_subs = some ⟨oc_law_subs, od_law_subs, .func (PySem.W.fnOf "_law_subs" "_law_subs" (defArgs s_law_subs) (defBody s_law_subs) (defScope s_law_subs) .none kV_law_subs dc_law_subs pm_law_subs an_law_subs cd_law_subs ct_law_subs), sl_law_subs⟩)
    (c_law_subs : PySem.W.codeIn K cd_law_subs "_law_subs" = true)
    (k_law_subs : PySem.W.keepIn K (.ref f_law_subs) = true)
    (a_law_clip : PySem.W.nsIn K mainGlobals "_law_clip" = some (some (.ref f_law_clip)))
    (l_law_clip : K.lookup f_law_clip = some ⟨oc_law_clip, od_law_clip, .func (PySem.W.fnOf "_law_clip" "_law_clip" (defArgs s_law_clip) (defBody s_law_clip) (defScope s_law_clip) .none kV_law_clip dc_law_clip pm_law_clip an_law_clip cd_law_clip ct_law_clip), sl_law_clip⟩)
    (c_law_clip : PySem.W.codeIn K cd_law_clip "_law_clip" = true)
    (k_law_clip : PySem.W.keepIn K (.ref f_law_clip) = true)
    (a_law_sign_value : PySem.W.nsIn K mainGlobals "_law_sign_value" = some (some (.ref f_law_sign_value)))
    (l_law_sign_value : K.lookup f_law_sign_value = some ⟨oc_law_sign_value, od_law_sign_value, .func (PySem.W.fnOf "_law_sign_value" "_law_sign_value" (defArgs s_law_sign_value) (defBody s_law_sign_value) (defScope s_law_sign_value) .none kV_law_sign_value dc_law_sign_value pm_law_sign_value an_law_sign_value cd_law_sign_value ct_law_sign_value), sl_law_sign_value⟩)
    (c_law_sign_value : PySem.W.codeIn K cd_law_sign_value "_law_sign_value" = true)
    (k_law_sign_value : PySem.W.keepIn K (.ref f_law_sign_value) = true)
    (a_law_value : PySem.W.nsIn K mainGlobals "_law_value" = some (some (.ref f_law_value)))
    (l_law_value : K.lookup f_law_value = some ⟨oc_law_value, od_law_value, .func (PySem.W.fnOf "_law_value" "_law_value" (defArgs s_law_value) (defBody s_law_value) (defScope s_law_value) .none kV_law_value dc_law_value pm_law_value an_law_value cd_law_value ct_law_value), sl_law_value⟩)
    (c_law_value : PySem.W.codeIn K cd_law_value "_law_value" = true)
    (k_law_value : PySem.W.keepIn K (.ref f_law_value) = true)
    (a_law_handed : PySem.W.nsIn K mainGlobals "_law_handed" = some (some (.ref f_law_handed)))
    (l_law_handed : K.lookup f_law_handed = some ⟨oc_law_handed, od_law_handed, .func (PySem.W.fnOf "_law_handed" "_law_handed" (defArgs s_law_handed) (defBody s_law_handed) (defScope s_law_handed) .none kV_law_handed dc_law_handed pm_law_handed an_law_handed cd_law_handed ct_law_handed), sl_law_handed⟩)
    (c_law_handed : PySem.W.codeIn K cd_law_handed "_law_handed" = true)
    (k_law_handed : PySem.W.keepIn K (.ref f_law_handed) = true)
    (a_law_stayed : PySem.W.nsIn K mainGlobals "_law_stayed" = some (some (.ref f_law_stayed)))
    (l_law_stayed : K.lookup f_law_stayed = some ⟨oc_law_stayed, od_law_stayed, .func (PySem.W.fnOf "_law_stayed" "_law_stayed" (defArgs s_law_stayed) (defBody s_law_stayed) (defScope s_law_stayed) .none kV_law_stayed dc_law_stayed pm_law_stayed an_law_stayed cd_law_stayed ct_law_stayed), sl_law_stayed⟩)
    (c_law_stayed : PySem.W.codeIn K cd_law_stayed "_law_stayed" = true)
    (k_law_stayed : PySem.W.keepIn K (.ref f_law_stayed) = true)
    (a_law_valued : PySem.W.nsIn K mainGlobals "_law_valued" = some (some (.ref f_law_valued)))
    (l_law_valued : K.lookup f_law_valued = some ⟨oc_law_valued, od_law_valued, .func (PySem.W.fnOf "_law_valued" "_law_valued" (defArgs s_law_valued) (defBody s_law_valued) (defScope s_law_valued) .none kV_law_valued dc_law_valued pm_law_valued an_law_valued cd_law_valued ct_law_valued), sl_law_valued⟩)
    (c_law_valued : PySem.W.codeIn K cd_law_valued "_law_valued" = true)
    (k_law_valued : PySem.W.keepIn K (.ref f_law_valued) = true)
    (a_law_named : PySem.W.nsIn K mainGlobals "_law_named" = some (some (.ref f_law_named)))
    (l_law_named : K.lookup f_law_named = some ⟨oc_law_named, od_law_named, .func (PySem.W.fnOf "_law_named" "_law_named" (defArgs s_law_named) (defBody s_law_named) (defScope s_law_named) .none kV_law_named dc_law_named pm_law_named an_law_named cd_law_named ct_law_named), sl_law_named⟩)
    (c_law_named : PySem.W.codeIn K cd_law_named "_law_named" = true)
    (k_law_named : PySem.W.keepIn K (.ref f_law_named) = true)
    (a_law_row : PySem.W.nsIn K mainGlobals "_law_row" = some (some (.ref f_law_row)))
    (l_law_row : K.lookup f_law_row = some ⟨oc_law_row, od_law_row, .func (PySem.W.fnOf "_law_row" "_law_row" (defArgs s_law_row) (defBody s_law_row) (defScope s_law_row) .none kV_law_row dc_law_row pm_law_row an_law_row cd_law_row ct_law_row), sl_law_row⟩)
    (c_law_row : PySem.W.codeIn K cd_law_row "_law_row" = true)
    (k_law_row : PySem.W.keepIn K (.ref f_law_row) = true)
    (a_law_memory : PySem.W.nsIn K mainGlobals "_law_memory" = some (some (.ref f_law_memory)))
    (l_law_memory : K.lookup f_law_memory = some ⟨oc_law_memory, od_law_memory, .func (PySem.W.fnOf "_law_memory" "_law_memory" (defArgs s_law_memory) (defBody s_law_memory) (defScope s_law_memory) .none kV_law_memory dc_law_memory pm_law_memory an_law_memory cd_law_memory ct_law_memory), sl_law_memory⟩)
    (c_law_memory : PySem.W.codeIn K cd_law_memory "_law_memory" = true)
    (k_law_memory : PySem.W.keepIn K (.ref f_law_memory) = true)
    (a_law_spots : PySem.W.nsIn K mainGlobals "_law_spots" = some (some (.ref f_law_spots)))
    (l_law_spots : K.lookup f_law_spots = some ⟨oc_law_spots, od_law_spots, .func (PySem.W.fnOf "_law_spots" "_law_spots" (defArgs s_law_spots) (defBody s_law_spots) (defScope s_law_spots) .none kV_law_spots dc_law_spots pm_law_spots an_law_spots cd_law_spots ct_law_spots), sl_law_spots⟩)
    (c_law_spots : PySem.W.codeIn K cd_law_spots "_law_spots" = true)
    (k_law_spots : PySem.W.keepIn K (.ref f_law_spots) = true)
    (a_law_spotted : PySem.W.nsIn K mainGlobals "_law_spotted" = some (some (.ref f_law_spotted)))
    (l_law_spotted : K.lookup f_law_spotted = some ⟨oc_law_spotted, od_law_spotted, .func (PySem.W.fnOf "_law_spotted" "_law_spotted" (defArgs s_law_spotted) (defBody s_law_spotted) (defScope s_law_spotted) .none kV_law_spotted dc_law_spotted pm_law_spotted an_law_spotted cd_law_spotted ct_law_spotted), sl_law_spotted⟩)
    (c_law_spotted : PySem.W.codeIn K cd_law_spotted "_law_spotted" = true)
    (k_law_spotted : PySem.W.keepIn K (.ref f_law_spotted) = true)
    (a_law_picked : PySem.W.nsIn K mainGlobals "_law_picked" = some (some (.ref f_law_picked)))
    (l_law_picked : K.lookup f_law_picked = some ⟨oc_law_picked, od_law_picked, .func (PySem.W.fnOf "_law_picked" "_law_picked" (defArgs s_law_picked) (defBody s_law_picked) (defScope s_law_picked) .none kV_law_picked dc_law_picked pm_law_picked an_law_picked cd_law_picked ct_law_picked), sl_law_picked⟩)
    (c_law_picked : PySem.W.codeIn K cd_law_picked "_law_picked" = true)
    (k_law_picked : PySem.W.keepIn K (.ref f_law_picked) = true)
    (a_law_same : PySem.W.nsIn K mainGlobals "_law_same" = some (some (.ref f_law_same)))
    (l_law_same : K.lookup f_law_same = some ⟨oc_law_same, od_law_same, .func (PySem.W.fnOf "_law_same" "_law_same" (defArgs s_law_same) (defBody s_law_same) (defScope s_law_same) .none kV_law_same dc_law_same pm_law_same an_law_same cd_law_same ct_law_same), sl_law_same⟩)
    (c_law_same : PySem.W.codeIn K cd_law_same "_law_same" = true)
    (k_law_same : PySem.W.keepIn K (.ref f_law_same) = true)
    (a_law_words : PySem.W.nsIn K mainGlobals "_law_words" = some (some (.ref f_law_words)))
    (l_law_words : K.lookup f_law_words = some ⟨oc_law_words, od_law_words, .func (PySem.W.fnOf "_law_words" "_law_words" (defArgs s_law_words) (defBody s_law_words) (defScope s_law_words) .none kV_law_words dc_law_words pm_law_words an_law_words cd_law_words ct_law_words), sl_law_words⟩)
    (c_law_words : PySem.W.codeIn K cd_law_words "_law_words" = true)
    (k_law_words : PySem.W.keepIn K (.ref f_law_words) = true)
    (a_law_triple : PySem.W.nsIn K mainGlobals "_law_triple" = some (some (.ref f_law_triple)))
    (l_law_triple : K.lookup f_law_triple = some ⟨oc_law_triple, od_law_triple, .func (PySem.W.fnOf "_law_triple" "_law_triple" (defArgs s_law_triple) (defBody s_law_triple) (defScope s_law_triple) .none kV_law_triple dc_law_triple pm_law_triple an_law_triple cd_law_triple ct_law_triple), sl_law_triple⟩)
    (c_law_triple : PySem.W.codeIn K cd_law_triple "_law_triple" = true)
    (k_law_triple : PySem.W.keepIn K (.ref f_law_triple) = true)
    (a_law_wide : PySem.W.nsIn K mainGlobals "_law_wide" = some (some (.ref f_law_wide)))
    (l_law_wide : K.lookup f_law_wide = some ⟨oc_law_wide, od_law_wide, .func (PySem.W.fnOf "_law_wide" "_law_wide" (defArgs s_law_wide) (defBody s_law_wide) (defScope s_law_wide) .none kV_law_wide dc_law_wide pm_law_wide an_law_wide cd_law_wide ct_law_wide), sl_law_wide⟩)
    (c_law_wide : PySem.W.codeIn K cd_law_wide "_law_wide" = true)
    (k_law_wide : PySem.W.keepIn K (.ref f_law_wide) = true)
    (a_law_values_right : PySem.W.nsIn K mainGlobals "_law_values_right" = some (some (.ref f_law_values_right)))
    (l_law_values_right : K.lookup f_law_values_right = some ⟨oc_law_values_right, od_law_values_right, .func (PySem.W.fnOf "_law_values_right" "_law_values_right" (defArgs s_law_values_right) (defBody s_law_values_right) (defScope s_law_values_right) .none kV_law_values_right dc_law_values_right pm_law_values_right an_law_values_right cd_law_values_right ct_law_values_right), sl_law_values_right⟩)
    (c_law_values_right : PySem.W.codeIn K cd_law_values_right "_law_values_right" = true)
    (k_law_values_right : PySem.W.keepIn K (.ref f_law_values_right) = true)
    (a_law_words_right : PySem.W.nsIn K mainGlobals "_law_words_right" = some (some (.ref f_law_words_right)))
    (l_law_words_right : K.lookup f_law_words_right = some ⟨oc_law_words_right, od_law_words_right, .func (PySem.W.fnOf "_law_words_right" "_law_words_right" (defArgs s_law_words_right) (defBody s_law_words_right) (defScope s_law_words_right) .none kV_law_words_right dc_law_words_right pm_law_words_right an_law_words_right cd_law_words_right ct_law_words_right), sl_law_words_right⟩)
    (c_law_words_right : PySem.W.codeIn K cd_law_words_right "_law_words_right" = true)
    (k_law_words_right : PySem.W.keepIn K (.ref f_law_words_right) = true)
    (a_law : PySem.W.nsIn K mainGlobals "law" = some (some (.ref f_law)))
    (l_law : K.lookup f_law = some ⟨oc_law, od_law, .func (PySem.W.fnOf "law" "law" (defArgs s_law) (defBody s_law) (defScope s_law) .none kV_law dc_law pm_law an_law cd_law ct_law), sl_law⟩)
    (c_law : PySem.W.codeIn K cd_law "law" = true)
    (k_law : PySem.W.keepIn K (.ref f_law) = true) :
    ∃ fd : FuncData, (∀ (s : Shared) (v : Value), BindsTo s fd ⟨[v], []⟩ [("script", v)]) ∧ ∀ base : Heap, K.In base → base.Ns mainGlobals mg → FnOk l.prog w K mg base (L2.CX l.prog w) 22 fa fd ["script"] (spLaw K) := by
  have e0 := hfa.symm.trans (PySem.W.mg_of X G a_law)
  cases e0
  have tp : Tp K mg (fun n : Nat => (0 : Addr)) := ⟨(cst_int X G e_LIMIT), (PySem.W.mg_none_of X G z_bool_), (PySem.W.mg_none_of X G z_dict_), (PySem.W.mg_none_of X G z_int_), (PySem.W.mg_none_of X G z_isinstance_), (PySem.W.mg_none_of X G z_len_), (PySem.W.mg_none_of X G z_list_), (PySem.W.mg_none_of X G z_max_), (PySem.W.mg_none_of X G z_min_), (PySem.W.mg_none_of X G z_range_), (PySem.W.mg_none_of X G z_sorted_), (PySem.W.mg_none_of X G z_str_), (PySem.W.mg_none_of X G z_tuple_)⟩
  have D_clip : Def K mg "clip" s_clip ["number"] := def_mk X G a_clip l_clip c_clip k_clip (fun _ _ _ _ _ _ us hl => match us, hl with | [_], _ => rfl)
  have D_parts_within : Def K mg "parts_within" s_parts_within ["expression"] := def_mk X G a_parts_within l_parts_within c_parts_within k_parts_within (fun _ _ _ _ _ _ us hl => match us, hl with | [_], _ => rfl)
  have D_quotient_of : Def K mg "quotient_of" s_quotient_of ["left", "right"] := def_mk X G a_quotient_of l_quotient_of c_quotient_of k_quotient_of (fun _ _ _ _ _ _ us hl => match us, hl with | [_, _], _ => rfl)
  have D_remainder_of : Def K mg "remainder_of" s_remainder_of ["left", "right"] := def_mk X G a_remainder_of l_remainder_of c_remainder_of k_remainder_of (fun _ _ _ _ _ _ us hl => match us, hl with | [_, _], _ => rfl)
  have D_comparison_holds : Def K mg "comparison_holds" s_comparison_holds ["sign", "left", "right"] := def_mk X G a_comparison_holds l_comparison_holds c_comparison_holds k_comparison_holds (fun _ _ _ _ _ _ us hl => match us, hl with | [_, _, _], _ => rfl)
  have D_value_of_op : Def K mg "value_of_op" s_value_of_op ["sign", "left", "right"] := def_mk X G a_value_of_op l_value_of_op c_value_of_op k_value_of_op (fun _ _ _ _ _ _ us hl => match us, hl with | [_, _, _], _ => rfl)
  have D_value_of_read : Def K mg "value_of_read" s_value_of_read ["cells", "place"] := def_mk X G a_value_of_read l_value_of_read c_value_of_read k_value_of_read (fun _ _ _ _ _ _ us hl => match us, hl with | [_, _], _ => rfl)
  have D_index_of_zero : Def K mg "index_of_zero" s_index_of_zero ["cells", "number"] := def_mk X G a_index_of_zero l_index_of_zero c_index_of_zero k_index_of_zero (fun _ _ _ _ _ _ us hl => match us, hl with | [_, _], _ => rfl)
  have D_value_of_call : Def K mg "value_of_call" s_value_of_call ["word", "values", "arrays"] := def_mk X G a_value_of_call l_value_of_call c_value_of_call k_value_of_call (fun _ _ _ _ _ _ us hl => match us, hl with | [_, _, _], _ => rfl)
  have D_value_of : Def K mg "value_of" s_value_of ["expression", "names", "arrays"] := def_mk X G a_value_of l_value_of c_value_of k_value_of (fun _ _ _ _ _ _ us hl => match us, hl with | [_, _, _], _ => rfl)
  have D_pairs_within : Def K mg "pairs_within" s_pairs_within ["expression"] := def_mk X G a_pairs_within l_pairs_within c_pairs_within k_pairs_within (fun _ _ _ _ _ _ us hl => match us, hl with | [_], _ => rfl)
  have D_words_of : Def K mg "words_of" s_words_of ["expression"] := def_mk X G a_words_of l_words_of c_words_of k_words_of (fun _ _ _ _ _ _ us hl => match us, hl with | [_], _ => rfl)
  have D_law_whole : Def K mg "_law_whole" s_law_whole ["value"] := def_mk X G a_law_whole l_law_whole c_law_whole k_law_whole (fun _ _ _ _ _ _ us hl => match us, hl with | [_], _ => rfl)
  have D_law_cell : Def K mg "_law_cell" s_law_cell ["script", "k"] := def_mk X G a_law_cell l_law_cell c_law_cell k_law_cell (fun _ _ _ _ _ _ us hl => match us, hl with | [_, _], _ => rfl)
  have D_law_feed : Def K mg "_law_feed" s_law_feed ["cell"] := def_mk X G a_law_feed l_law_feed c_law_feed k_law_feed (fun _ _ _ _ _ _ us hl => match us, hl with | [_], _ => rfl)
  have D_law_take : Def K mg "_law_take" s_law_take ["feed", "size"] := def_mk X G a_law_take l_law_take c_law_take k_law_take (fun _ _ _ _ _ _ us hl => match us, hl with | [_, _], _ => rfl)
  have D_law_number : Def K mg "_law_number" s_law_number ["feed"] := def_mk X G a_law_number l_law_number c_law_number k_law_number (fun _ _ _ _ _ _ us hl => match us, hl with | [_], _ => rfl)
  have D_law_datum : Def K mg "_law_datum" s_law_datum ["feed"] := def_mk X G a_law_datum l_law_datum c_law_datum k_law_datum (fun _ _ _ _ _ _ us hl => match us, hl with | [_], _ => rfl)
  have D_law_word : Def K mg "_law_word" s_law_word ["feed"] := def_mk X G a_law_word l_law_word c_law_word k_law_word (fun _ _ _ _ _ _ us hl => match us, hl with | [_], _ => rfl)
  have D_law_near : Def K mg "_law_near" s_law_near ["feed", "word"] := def_mk X G a_law_near l_law_near c_law_near k_law_near (fun _ _ _ _ _ _ us hl => match us, hl with | [_, _], _ => rfl)
  have D_law_word_row : Def K mg "_law_word_row" s_law_word_row ["feed", "many"] := def_mk X G a_law_word_row l_law_word_row c_law_word_row k_law_word_row (fun _ _ _ _ _ _ us hl => match us, hl with | [_, _], _ => rfl)
  have D_law_leaf : Def K mg "_law_leaf" s_law_leaf ["feed", "heads"] := def_mk X G a_law_leaf l_law_leaf c_law_leaf k_law_leaf (fun _ _ _ _ _ _ us hl => match us, hl with | [_, _], _ => rfl)
  have D_law_tree : Def K mg "_law_tree" s_law_tree ["feed", "room", "deep", "tight", "heads", "stores", "menu"] := def_mk X G a_law_tree l_law_tree c_law_tree k_law_tree (fun _ _ _ _ _ _ us hl => match us, hl with | [_, _, _, _, _, _, _], _ => rfl)
  have D_law_deep : Def K mg "_law_deep" s_law_deep ["feed"] := def_mk X G a_law_deep l_law_deep c_law_deep k_law_deep (fun _ _ _ _ _ _ us hl => match us, hl with | [_], _ => rfl)
  have D_law_drawn : Def K mg "_law_drawn" s_law_drawn ["cell", "heads", "stores", "menu"] := def_mk X G a_law_drawn l_law_drawn c_law_drawn k_law_drawn (fun _ _ _ _ _ _ us hl => match us, hl with | [_, _, _, _], _ => rfl)
  have D_law_parts : Def K mg "_law_parts" s_law_parts ["expr"] := def_mk X G a_law_parts l_law_parts c_law_parts k_law_parts (fun _ _ _ _ _ _ us hl => match us, hl with | [_], _ => rfl)
  have D_law_subs : Def K mg "_law_subs" s_law_subs ["expr"] := def_mk X G a_law_subs l_law_subs c_law_subs k_law_subs (fun _ _ _ _ _ _ us hl => match us, hl with | [_], _ => rfl)
  have D_law_clip : Def K mg "_law_clip" s_law_clip ["number"] := def_mk X G a_law_clip l_law_clip c_law_clip k_law_clip (fun _ _ _ _ _ _ us hl => match us, hl with | [_], _ => rfl)
  have D_law_sign_value : Def K mg "_law_sign_value" s_law_sign_value ["sign", "left", "right"] := def_mk X G a_law_sign_value l_law_sign_value c_law_sign_value k_law_sign_value (fun _ _ _ _ _ _ us hl => match us, hl with | [_, _, _], _ => rfl)
  have D_law_value : Def K mg "_law_value" s_law_value ["expr", "heads", "stores"] := def_mk X G a_law_value l_law_value c_law_value k_law_value (fun _ _ _ _ _ _ us hl => match us, hl with | [_, _, _], _ => rfl)
  have D_law_handed : Def K mg "_law_handed" s_law_handed ["feed", "heads", "stores"] := def_mk X G a_law_handed l_law_handed c_law_handed k_law_handed (fun _ _ _ _ _ _ us hl => match us, hl with | [_, _, _], _ => rfl)
  have D_law_stayed : Def K mg "_law_stayed" s_law_stayed ["given", "heads", "stores"] := def_mk X G a_law_stayed l_law_stayed c_law_stayed k_law_stayed (fun _ _ _ _ _ _ us hl => match us, hl with | [_, _, _], _ => rfl)
  have D_law_valued : Def K mg "_law_valued" s_law_valued ["expr", "given", "heads", "stores"] := def_mk X G a_law_valued l_law_valued c_law_valued k_law_valued (fun _ _ _ _ _ _ us hl => match us, hl with | [_, _, _, _], _ => rfl)
  have D_law_named : Def K mg "_law_named" s_law_named ["expr", "given", "heads", "stores"] := def_mk X G a_law_named l_law_named c_law_named k_law_named (fun _ _ _ _ _ _ us hl => match us, hl with | [_, _, _, _], _ => rfl)
  have D_law_row : Def K mg "_law_row" s_law_row ["feed"] := def_mk X G a_law_row l_law_row c_law_row k_law_row (fun _ _ _ _ _ _ us hl => match us, hl with | [_], _ => rfl)
  have D_law_memory : Def K mg "_law_memory" s_law_memory ["cell", "words", "shelves"] := def_mk X G a_law_memory l_law_memory c_law_memory k_law_memory (fun _ _ _ _ _ _ us hl => match us, hl with | [_, _, _], _ => rfl)
  have D_law_spots : Def K mg "_law_spots" s_law_spots ["feed", "size"] := def_mk X G a_law_spots l_law_spots c_law_spots k_law_spots (fun _ _ _ _ _ _ us hl => match us, hl with | [_, _], _ => rfl)
  have D_law_spotted : Def K mg "_law_spotted" s_law_spotted ["feed", "given", "stores", "head", "word", "size"] := def_mk X G a_law_spotted l_law_spotted c_law_spotted k_law_spotted (fun _ _ _ _ _ _ us hl => match us, hl with | [_, _, _, _, _, _], _ => rfl)
  have D_law_picked : Def K mg "_law_picked" s_law_picked ["feed", "base"] := def_mk X G a_law_picked l_law_picked c_law_picked k_law_picked (fun _ _ _ _ _ _ us hl => match us, hl with | [_, _], _ => rfl)
  have D_law_same : Def K mg "_law_same" s_law_same ["given", "due"] := def_mk X G a_law_same l_law_same c_law_same k_law_same (fun _ _ _ _ _ _ us hl => match us, hl with | [_, _], _ => rfl)
  have D_law_words : Def K mg "_law_words" s_law_words ["rows", "sort"] := def_mk X G a_law_words l_law_words c_law_words k_law_words (fun _ _ _ _ _ _ us hl => match us, hl with | [_, _], _ => rfl)
  have D_law_triple : Def K mg "_law_triple" s_law_triple ["expr"] := def_mk X G a_law_triple l_law_triple c_law_triple k_law_triple (fun _ _ _ _ _ _ us hl => match us, hl with | [_], _ => rfl)
  have D_law_wide : Def K mg "_law_wide" s_law_wide ["feed", "heads", "stores"] := def_mk X G a_law_wide l_law_wide c_law_wide k_law_wide (fun _ _ _ _ _ _ us hl => match us, hl with | [_, _, _], _ => rfl)
  have D_law_values_right : Def K mg "_law_values_right" s_law_values_right ["script"] := def_mk X G a_law_values_right l_law_values_right c_law_values_right k_law_values_right (fun _ _ _ _ _ _ us hl => match us, hl with | [_], _ => rfl)
  have D_law_words_right : Def K mg "_law_words_right" s_law_words_right ["script"] := def_mk X G a_law_words_right l_law_words_right c_law_words_right k_law_words_right (fun _ _ _ _ _ _ us hl => match us, hl with | [_], _ => rfl)
  have D_law : Def K mg "law" s_law ["script"] := def_mk X G a_law l_law c_law k_law (fun _ _ _ _ _ _ us hl => match us, hl with | [_], _ => rfl)
  refine ⟨PySem.W.fnOf "law" "law" (defArgs s_law) (defBody s_law) (defScope s_law) .none kV_law dc_law pm_law an_law cd_law ct_law, fun s v => .of_eq rfl, fun base _ _ => ?_⟩
  have h_clip := ok_clip (P := l.prog) (w := w) (base := base) tp D_clip 
  have h_parts_within := ok_parts_within (P := l.prog) (w := w) (base := base) tp D_parts_within 
  have h_quotient_of := ok_quotient_of (P := l.prog) (w := w) (base := base) tp D_quotient_of 
  have h_remainder_of := ok_remainder_of (P := l.prog) (w := w) (base := base) tp D_remainder_of 
  have h_comparison_holds := ok_comparison_holds (P := l.prog) (w := w) (base := base) tp D_comparison_holds 
  have h_value_of_op := ok_value_of_op (P := l.prog) (w := w) (base := base) tp D_value_of_op h_clip h_quotient_of h_remainder_of h_comparison_holds
  have h_value_of_read := ok_value_of_read (P := l.prog) (w := w) (base := base) tp D_value_of_read 
  have h_index_of_zero := ok_index_of_zero (P := l.prog) (w := w) (base := base) tp D_index_of_zero 
  have h_value_of_call := ok_value_of_call (P := l.prog) (w := w) (base := base) tp D_value_of_call h_index_of_zero
  have h_value_of := (all_value_of (P := l.prog) (w := w) (base := base) tp D_value_of h_parts_within h_value_of_op h_value_of_read h_value_of_call 16)
  have h_pairs_within := (all_pairs_within (P := l.prog) (w := w) (base := base) tp D_pairs_within h_parts_within 16)
  have h_words_of := ok_words_of (P := l.prog) (w := w) (base := base) tp D_words_of h_pairs_within
  have h_law_whole := ok_law_whole (P := l.prog) (w := w) (base := base) tp D_law_whole 
  have h_law_cell := ok_law_cell (P := l.prog) (w := w) (base := base) tp D_law_cell 
  have h_law_feed := ok_law_feed (P := l.prog) (w := w) (base := base) tp D_law_feed 
  have h_law_take := ok_law_take (P := l.prog) (w := w) (base := base) tp D_law_take 
  have h_law_number := ok_law_number (P := l.prog) (w := w) (base := base) tp D_law_number h_law_take
  have h_law_datum := ok_law_datum (P := l.prog) (w := w) (base := base) tp D_law_datum h_law_number h_law_take
  have h_law_word := ok_law_word (P := l.prog) (w := w) (base := base) tp D_law_word h_law_take
  have h_law_near := ok_law_near (P := l.prog) (w := w) (base := base) tp D_law_near h_law_take
  have h_law_word_row := ok_law_word_row (P := l.prog) (w := w) (base := base) tp D_law_word_row h_law_word h_law_take h_law_near
  have h_law_leaf := ok_law_leaf (P := l.prog) (w := w) (base := base) tp D_law_leaf h_law_take h_law_number
  have h_law_tree := (all_law_tree (P := l.prog) (w := w) (base := base) tp D_law_tree h_law_take h_law_leaf 16)
  have h_law_deep := ok_law_deep (P := l.prog) (w := w) (base := base) tp D_law_deep h_law_take
  have h_law_drawn := ok_law_drawn (P := l.prog) (w := w) (base := base) tp D_law_drawn h_law_feed h_law_take h_law_tree h_law_deep
  have h_law_parts := ok_law_parts (P := l.prog) (w := w) (base := base) tp D_law_parts 
  have h_law_subs := (all_law_subs (P := l.prog) (w := w) (base := base) tp D_law_subs h_law_parts 16)
  have h_law_clip := ok_law_clip (P := l.prog) (w := w) (base := base) tp D_law_clip 
  have h_law_sign_value := ok_law_sign_value (P := l.prog) (w := w) (base := base) tp D_law_sign_value h_law_clip
  have h_law_value := (all_law_value (P := l.prog) (w := w) (base := base) tp D_law_value h_law_sign_value 16)
  have h_law_handed := ok_law_handed (P := l.prog) (w := w) (base := base) tp D_law_handed h_law_take
  have h_law_stayed := ok_law_stayed (P := l.prog) (w := w) (base := base) tp D_law_stayed 
  have h_law_valued := ok_law_valued (P := l.prog) (w := w) (base := base) tp D_law_valued h_value_of h_law_whole h_law_value
  have h_law_named := ok_law_named (P := l.prog) (w := w) (base := base) tp D_law_named h_value_of h_law_whole h_law_value
  have h_law_row := ok_law_row (P := l.prog) (w := w) (base := base) tp D_law_row h_law_take h_law_datum
  have h_law_memory := ok_law_memory (P := l.prog) (w := w) (base := base) tp D_law_memory h_law_feed h_law_datum h_law_row
  have h_law_spots := ok_law_spots (P := l.prog) (w := w) (base := base) tp D_law_spots h_law_take h_law_datum
  have h_law_spotted := ok_law_spotted (P := l.prog) (w := w) (base := base) tp D_law_spotted h_law_spots h_law_valued
  have h_law_picked := ok_law_picked (P := l.prog) (w := w) (base := base) tp D_law_picked h_law_datum h_law_take h_law_clip h_law_valued
  have h_law_same := ok_law_same (P := l.prog) (w := w) (base := base) tp D_law_same 
  have h_law_words := ok_law_words (P := l.prog) (w := w) (base := base) tp D_law_words 
  have h_law_triple := ok_law_triple (P := l.prog) (w := w) (base := base) tp D_law_triple h_law_subs h_law_words
  have h_law_wide := ok_law_wide (P := l.prog) (w := w) (base := base) tp D_law_wide h_law_take
  have h_law_values_right := ok_law_values_right (P := l.prog) (w := w) (base := base) tp D_law_values_right h_law_feed h_law_cell h_law_word_row h_law_take h_law_memory h_law_handed h_law_spotted h_law_picked h_law_drawn h_law_subs h_law_valued h_law_named h_law_stayed
  have h_law_words_right := ok_law_words_right (P := l.prog) (w := w) (base := base) tp D_law_words_right h_law_feed h_law_cell h_law_word_row h_law_take h_law_drawn h_law_wide h_law_subs h_law_same h_words_of h_law_triple
  have h_law := ok_law (P := l.prog) (w := w) (base := base) tp D_law h_law_values_right h_law_words_right
  exact (law_fn h_law hfa l_law).imp (law_end fun ns hn => law_wp (by omega))
end K01
end
open PySem PySem.W PyProof.Rows in
set_option maxRecDepth 100000 in
set_option maxHeartbeats 0 in
theorem PySem.Challenge.cw_wholerows_k01_reads_picks_nth_and_words_holds : PySem.Challenge.rw_wholerows_k01_reads_picks_nth_and_words.Holds := by
  w_on; o_law; k_head; (case hw => w_witness2)
  k_fill
  refine Z.walk_end (l := PySem.Challenge.rw_wholerows_k01_reads_picks_nth_and_words) (k := 22) rfl rfl ⟨rfl, by decide, by decide⟩ (fun w h Y => PySem.W.kIn_of Y) ?F
  case F =>
    intro w mg fa h KX G hmg
    refine' K01.all_mk KX G hmg ?e_LIMIT ?z_bool_ ?z_dict_ ?z_int_ ?z_isinstance_ ?z_len_ ?z_list_ ?z_max_ ?z_min_ ?z_range_ ?z_sorted_ ?z_str_ ?z_tuple_ ?a_clip ?l_clip ?c_clip ?k_clip ?a_parts_within ?l_parts_within ?c_parts_within ?k_parts_within ?a_quotient_of ?l_quotient_of ?c_quotient_of ?k_quotient_of ?a_remainder_of ?l_remainder_of ?c_remainder_of ?k_remainder_of ?a_comparison_holds ?l_comparison_holds ?c_comparison_holds ?k_comparison_holds ?a_value_of_op ?l_value_of_op ?c_value_of_op ?k_value_of_op ?a_value_of_read ?l_value_of_read ?c_value_of_read ?k_value_of_read ?a_index_of_zero ?l_index_of_zero ?c_index_of_zero ?k_index_of_zero ?a_value_of_call ?l_value_of_call ?c_value_of_call ?k_value_of_call ?a_value_of ?l_value_of ?c_value_of ?k_value_of ?a_pairs_within ?l_pairs_within ?c_pairs_within ?k_pairs_within ?a_words_of ?l_words_of ?c_words_of ?k_words_of ?a_law_whole ?l_law_whole ?c_law_whole ?k_law_whole ?a_law_cell ?l_law_cell ?c_law_cell ?k_law_cell ?a_law_feed ?l_law_feed ?c_law_feed ?k_law_feed ?a_law_take ?l_law_take ?c_law_take ?k_law_take ?a_law_number ?l_law_number ?c_law_number ?k_law_number ?a_law_datum ?l_law_datum ?c_law_datum ?k_law_datum ?a_law_word ?l_law_word ?c_law_word ?k_law_word ?a_law_near ?l_law_near ?c_law_near ?k_law_near ?a_law_word_row ?l_law_word_row ?c_law_word_row ?k_law_word_row ?a_law_leaf ?l_law_leaf ?c_law_leaf ?k_law_leaf ?a_law_tree ?l_law_tree ?c_law_tree ?k_law_tree ?a_law_deep ?l_law_deep ?c_law_deep ?k_law_deep ?a_law_drawn ?l_law_drawn ?c_law_drawn ?k_law_drawn ?a_law_parts ?l_law_parts ?c_law_parts ?k_law_parts ?a_law_subs ?l_law_subs ?c_law_subs ?k_law_subs ?a_law_clip ?l_law_clip ?c_law_clip ?k_law_clip ?a_law_sign_value ?l_law_sign_value ?c_law_sign_value ?k_law_sign_value ?a_law_value ?l_law_value ?c_law_value ?k_law_value ?a_law_handed ?l_law_handed ?c_law_handed ?k_law_handed ?a_law_stayed ?l_law_stayed ?c_law_stayed ?k_law_stayed ?a_law_valued ?l_law_valued ?c_law_valued ?k_law_valued ?a_law_named ?l_law_named ?c_law_named ?k_law_named ?a_law_row ?l_law_row ?c_law_row ?k_law_row ?a_law_memory ?l_law_memory ?c_law_memory ?k_law_memory ?a_law_spots ?l_law_spots ?c_law_spots ?k_law_spots ?a_law_spotted ?l_law_spotted ?c_law_spotted ?k_law_spotted ?a_law_picked ?l_law_picked ?c_law_picked ?k_law_picked ?a_law_same ?l_law_same ?c_law_same ?k_law_same ?a_law_words ?l_law_words ?c_law_words ?k_law_words ?a_law_triple ?l_law_triple ?c_law_triple ?k_law_triple ?a_law_wide ?l_law_wide ?c_law_wide ?k_law_wide ?a_law_values_right ?l_law_values_right ?c_law_values_right ?k_law_values_right ?a_law_words_right ?l_law_words_right ?c_law_words_right ?k_law_words_right ?a_law ?l_law ?c_law ?k_law
    (case e_LIMIT => k_is)
    (case z_bool_ => k_is)
    (case z_dict_ => k_is)
    (case z_int_ => k_is)
    (case z_isinstance_ => k_is)
    (case z_len_ => k_is)
    (case z_list_ => k_is)
    (case z_max_ => k_is)
    (case z_min_ => k_is)
    (case z_range_ => k_is)
    (case z_sorted_ => k_is)
    (case z_str_ => k_is)
    (case z_tuple_ => k_is)
    (case a_clip => k_is)
    (case l_clip => k_is)
    (case c_clip => k_is)
    (case k_clip => k_is)
    (case a_parts_within => k_is)
    (case l_parts_within => k_is)
    (case c_parts_within => k_is)
    (case k_parts_within => k_is)
    (case a_quotient_of => k_is)
    (case l_quotient_of => k_is)
    (case c_quotient_of => k_is)
    (case k_quotient_of => k_is)
    (case a_remainder_of => k_is)
    (case l_remainder_of => k_is)
    (case c_remainder_of => k_is)
    (case k_remainder_of => k_is)
    (case a_comparison_holds => k_is)
    (case l_comparison_holds => k_is)
    (case c_comparison_holds => k_is)
    (case k_comparison_holds => k_is)
    (case a_value_of_op => k_is)
    (case l_value_of_op => k_is)
    (case c_value_of_op => k_is)
    (case k_value_of_op => k_is)
    (case a_value_of_read => k_is)
    (case l_value_of_read => k_is)
    (case c_value_of_read => k_is)
    (case k_value_of_read => k_is)
    (case a_index_of_zero => k_is)
    (case l_index_of_zero => k_is)
    (case c_index_of_zero => k_is)
    (case k_index_of_zero => k_is)
    (case a_value_of_call => k_is)
    (case l_value_of_call => k_is)
    (case c_value_of_call => k_is)
    (case k_value_of_call => k_is)
    (case a_value_of => k_is)
    (case l_value_of => k_is)
    (case c_value_of => k_is)
    (case k_value_of => k_is)
    (case a_pairs_within => k_is)
    (case l_pairs_within => k_is)
    (case c_pairs_within => k_is)
    (case k_pairs_within => k_is)
    (case a_words_of => k_is)
    (case l_words_of => k_is)
    (case c_words_of => k_is)
    (case k_words_of => k_is)
    (case a_law_whole => k_is)
    (case l_law_whole => k_is)
    (case c_law_whole => k_is)
    (case k_law_whole => k_is)
    (case a_law_cell => k_is)
    (case l_law_cell => k_is)
    (case c_law_cell => k_is)
    (case k_law_cell => k_is)
    (case a_law_feed => k_is)
    (case l_law_feed => k_is)
    (case c_law_feed => k_is)
    (case k_law_feed => k_is)
    (case a_law_take => k_is)
    (case l_law_take => k_is)
    (case c_law_take => k_is)
    (case k_law_take => k_is)
    (case a_law_number => k_is)
    (case l_law_number => k_is)
    (case c_law_number => k_is)
    (case k_law_number => k_is)
    (case a_law_datum => k_is)
    (case l_law_datum => k_is)
    (case c_law_datum => k_is)
    (case k_law_datum => k_is)
    (case a_law_word => k_is)
    (case l_law_word => k_is)
    (case c_law_word => k_is)
    (case k_law_word => k_is)
    (case a_law_near => k_is)
    (case l_law_near => k_is)
    (case c_law_near => k_is)
    (case k_law_near => k_is)
    (case a_law_word_row => k_is)
    (case l_law_word_row => k_is)
    (case c_law_word_row => k_is)
    (case k_law_word_row => k_is)
    (case a_law_leaf => k_is)
    (case l_law_leaf => k_is)
    (case c_law_leaf => k_is)
    (case k_law_leaf => k_is)
    (case a_law_tree => k_is)
    (case l_law_tree => k_is)
    (case c_law_tree => k_is)
    (case k_law_tree => k_is)
    (case a_law_deep => k_is)
    (case l_law_deep => k_is)
    (case c_law_deep => k_is)
    (case k_law_deep => k_is)
    (case a_law_drawn => k_is)
    (case l_law_drawn => k_is)
    (case c_law_drawn => k_is)
    (case k_law_drawn => k_is)
    (case a_law_parts => k_is)
    (case l_law_parts => k_is)
    (case c_law_parts => k_is)
    (case k_law_parts => k_is)
    (case a_law_subs => k_is)
    (case l_law_subs => k_is)
    (case c_law_subs => k_is)
    (case k_law_subs => k_is)
    (case a_law_clip => k_is)
    (case l_law_clip => k_is)
    (case c_law_clip => k_is)
    (case k_law_clip => k_is)
    (case a_law_sign_value => k_is)
    (case l_law_sign_value => k_is)
    (case c_law_sign_value => k_is)
    (case k_law_sign_value => k_is)
    (case a_law_value => k_is)
    (case l_law_value => k_is)
    (case c_law_value => k_is)
    (case k_law_value => k_is)
    (case a_law_handed => k_is)
    (case l_law_handed => k_is)
    (case c_law_handed => k_is)
    (case k_law_handed => k_is)
    (case a_law_stayed => k_is)
    (case l_law_stayed => k_is)
    (case c_law_stayed => k_is)
    (case k_law_stayed => k_is)
    (case a_law_valued => k_is)
    (case l_law_valued => k_is)
    (case c_law_valued => k_is)
    (case k_law_valued => k_is)
    (case a_law_named => k_is)
    (case l_law_named => k_is)
    (case c_law_named => k_is)
    (case k_law_named => k_is)
    (case a_law_row => k_is)
    (case l_law_row => k_is)
    (case c_law_row => k_is)
    (case k_law_row => k_is)
    (case a_law_memory => k_is)
    (case l_law_memory => k_is)
    (case c_law_memory => k_is)
    (case k_law_memory => k_is)
    (case a_law_spots => k_is)
    (case l_law_spots => k_is)
    (case c_law_spots => k_is)
    (case k_law_spots => k_is)
    (case a_law_spotted => k_is)
    (case l_law_spotted => k_is)
    (case c_law_spotted => k_is)
    (case k_law_spotted => k_is)
    (case a_law_picked => k_is)
    (case l_law_picked => k_is)
    (case c_law_picked => k_is)
    (case k_law_picked => k_is)
    (case a_law_same => k_is)
    (case l_law_same => k_is)
    (case c_law_same => k_is)
    (case k_law_same => k_is)
    (case a_law_words => k_is)
    (case l_law_words => k_is)
    (case c_law_words => k_is)
    (case k_law_words => k_is)
    (case a_law_triple => k_is)
    (case l_law_triple => k_is)
    (case c_law_triple => k_is)
    (case k_law_triple => k_is)
    (case a_law_wide => k_is)
    (case l_law_wide => k_is)
    (case c_law_wide => k_is)
    (case k_law_wide => k_is)
    (case a_law_values_right => k_is)
    (case l_law_values_right => k_is)
    (case c_law_values_right => k_is)
    (case k_law_values_right => k_is)
    (case a_law_words_right => k_is)
    (case l_law_words_right => k_is)
    (case c_law_words_right => k_is)
    (case k_law_words_right => k_is)
    (case a_law => k_is)
    (case l_law => k_is)
    (case c_law => k_is)
    (case k_law => k_is)
