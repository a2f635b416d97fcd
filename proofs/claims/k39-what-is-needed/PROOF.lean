import PyProof.Rows.All
import Wide.All
import OpenK.AllK
import Wide.FinOn
import HandS.ForMost
import HandS.IsInst
import HandS.TupAny
import HandS.Wide
import KE.KeyNested
import HandS.Zip
import HandS.RevTup
import KE.GoesMore
import HandS.Rev
import KE.KRevSl
import PySem.Challenge.RW_viewkeep_k39_what_is_needed
set_option Elab.async false
set_option linter.all false
set_option maxRecDepth 100000
set_option maxHeartbeats 4000000
/-! VL1: the value layer. Data D, objects O, the store; a def as a function over them; how they lie in HandS's abstract heap. -/
namespace VL
open PySem PySem.Spec PyProof.Rows L2

/-- pure data; ref n: the n-th object of the store; glb x: what the module calls x -/
inductive D where
  | non | bl (b : Bool) | int (i : Int) | str (x : Str) | tup (xs : List D) | ref (n : Nat) | glb (x : Str) | ty (n : String)
inductive O where
  | lst (xs : List D) | rl (xs : List D) | dic (kvs : List (D × D)) | ins (c : Str) (fs : List (Str × D))
abbrev Sto := List O
abbrev EnvD := List (Option D)
inductive R (A : Type) where
  | ok (a : A) (s : Sto) | ex (c : Str) (s : Sto) | bad
namespace R
variable {A B : Type}
def bind (r : R A) (k : A → Sto → R B) : R B := match r with
  | ok a s => k a s
  | ex c s => ex c s
  | bad => bad
def post (r : R A) (Q : A → Sto → Prop) (X : Str → Sto → Prop) : Prop := match r with
  | ok a s => Q a s
  | ex c s => X c s
  | bad => False
theorem post_bind {r : R A} {k : A → Sto → R B} {Q : B → Sto → Prop} {X : Str → Sto → Prop} : (r.bind k).post Q X ↔ r.post (fun a s => (k a s).post Q X) X := by cases r <;> exact Iff.rfl
theorem post.imp {r : R A} {Q Q' : A → Sto → Prop} {X X' : Str → Sto → Prop} (h : r.post Q X) (hq : ∀ a s, Q a s → Q' a s) (hx : ∀ c s, X c s → X' c s) : r.post Q' X' := by
  cases r with
  | ok a s => exact hq a s h
  | ex c s => exact hx c s h
  | bad => exact h
/-- an exception here is not told -/
def noex (r : R A) : R A := match r with
  | ok a s => ok a s
  | _ => bad
theorem post_noex {r : R A} {Q : A → Sto → Prop} {X X' : Str → Sto → Prop} (h : r.noex.post Q X) : r.post Q X' := by
  cases r with
  | ok a s => exact h
  | ex c s => exact False.elim h
  | bad => exact h
@[simp] theorem bind_ok {a : A} {s : Sto} {k : A → Sto → R B} : (R.ok a s).bind k = k a s := rfl
@[simp] theorem bind_ex {c : Str} {s : Sto} {k : A → Sto → R B} : (R.ex c s : R A).bind k = R.ex c s := rfl
@[simp] theorem bind_bad {k : A → Sto → R B} : (R.bad : R A).bind k = R.bad := rfl
@[simp] theorem noex_ok {a : A} {s : Sto} : (R.ok a s).noex = R.ok a s := rfl
end R

mutual
/-- as a key of a dict -/
def nkey : D → Option NestedKey
  | .non => some .none
  | .bl b => some (.num (if b = true then 1 else 0))
  | .int i => some (.num i)
  | .str x => some (.text x)
  | .tup xs => (nkeys xs).map .tup
  | .ref _ => none
  | .glb _ => none
  | .ty _ => none
def nkeys : List D → Option (List NestedKey)
  | [] => some []
  | x :: xs => (nkey x).bind fun k => (nkeys xs).map fun ks => k :: ks
end

/-- what is fixed through the law -/
structure G where
  P : Program
  w : World
  K : PySem.W.Frag
  mg : Str → Option Value
abbrev gOf (X : Cx) : G := ⟨X.prog, X.w, X.K, X.mg⟩

mutual
inductive RD (g : G) (q : List Addr) (H : Hp) : V → D → Prop
  | non : RD g q H .non .non
  | bl (b : Bool) : RD g q H (.bl b) (.bl b)
  | int (i : Int) : RD g q H (.int i) (.int i)
  | str (x : Str) : RD g q H (.str x) (.str x)
  | tup {a : Addr} {xs : List V} {ds : List D} : SqT g.K H a xs → RDs g q H xs ds → RD g q H (.ref a) (.tup ds)
  | ref {n : Nat} {a : Addr} : q[n]? = some a → RD g q H (.ref a) (.ref n)
  | glb {x : Str} {a : Addr} : g.mg x = some (.ref a) → RD g q H (.ref a) (.glb x)
  | ty (n : String) : RD g q H (.ty n) (.ty n)
inductive RDs (g : G) (q : List Addr) (H : Hp) : List V → List D → Prop
  | nil : RDs g q H [] []
  | cons {v : V} {vs : List V} {d : D} {ds : List D} : RD g q H v d → RDs g q H vs ds → RDs g q H (v :: vs) (d :: ds)
end

/-- the later heap has the tuples of the earlier one; the later places begin as the earlier ones -/
structure Ext (q : List Addr) (H : Hp) (q' : List Addr) (H' : Hp) : Prop where
  pre : ∃ m, q' = q ++ m
  tup : ∀ a xs, Rd H a (.tup xs) → Rd H' a (.tup xs)
theorem Ext.refl {q : List Addr} {H : Hp} : Ext q H q H := ⟨⟨[], by simp⟩, fun _ _ h => h⟩
theorem Ext.trans {q q1 q2 : List Addr} {H H1 H2 : Hp} (a : Ext q H q1 H1) (b : Ext q1 H1 q2 H2) : Ext q H q2 H2 := by
  obtain ⟨m, rfl⟩ := a.pre
  obtain ⟨m', rfl⟩ := b.pre
  exact ⟨⟨m ++ m', by simp⟩, fun c xs h => b.tup c xs (a.tup c xs h)⟩
theorem Ext.at {q q' : List Addr} {H H' : Hp} (e : Ext q H q' H') {n : Nat} {a : Addr} (h : q[n]? = some a) : q'[n]? = some a := by
  obtain ⟨m, rfl⟩ := e.pre
  rw [List.getElem?_append_left (List.getElem?_eq_some_iff.mp h).1]
  exact h
theorem Rd.same {H H' : Hp} {a : Addr} {u : HO} (s : Same H H') (h : Rd H a u) : Rd H' a u := by
  rcases h with h | ⟨o, h⟩
  · exact .inl (s _ _ h)
  · exact .inr ⟨o, s _ _ h⟩
theorem Same.ext {q m : List Addr} {H H' : Hp} (s : Same H H') : Ext q H (q ++ m) H' := ⟨⟨m, rfl⟩, fun _ _ h => Rd.same s h⟩
theorem Same.ext0 {q : List Addr} {H H' : Hp} (s : Same H H') : Ext q H q H' := ⟨⟨[], by simp⟩, fun _ _ h => Rd.same s h⟩
theorem same_upd {H : Hp} {p : Addr} {o : HO} (h : H p = none) : Same H (upd H p o) := fun b x e => by
  rw [upd_ne (ne_of_none e h)]
  exact e
theorem sqT_ext {K : PySem.W.Frag} {q q' : List Addr} {H H' : Hp} {a : Addr} {xs : List V} (e : Ext q H q' H') (h : SqT K H a xs) : SqT K H' a xs := by
  rcases h with h | h
  · exact .inl (e.tup _ _ h)
  · exact .inr h

section
variable {g : G} {q q' : List Addr} {H H' : Hp}
mutual
theorem RD.ext (e : Ext q H q' H') : ∀ {v : V} {d : D}, RD g q H v d → RD g q' H' v d
  | _, _, .non => .non
  | _, _, .bl b => .bl b
  | _, _, .int i => .int i
  | _, _, .str x => .str x
  | _, _, .tup h r => .tup (sqT_ext e h) (RDs.ext e r)
  | _, _, .ref h => .ref (e.at h)
  | _, _, .glb h => .glb h
  | _, _, .ty n => .ty n
theorem RDs.ext (e : Ext q H q' H') : ∀ {vs : List V} {ds : List D}, RDs g q H vs ds → RDs g q' H' vs ds
  | _, _, .nil => .nil
  | _, _, .cons r t => .cons (RD.ext e r) (RDs.ext e t)
end
theorem RDs.length : ∀ {vs : List V} {ds : List D}, RDs g q H vs ds → vs.length = ds.length
  | _, _, .nil => rfl
  | _, _, .cons _ t => by rw [List.length_cons, List.length_cons, RDs.length t]
theorem RDs.get : ∀ {vs : List V} {ds : List D} {i : Nat} {d : D}, RDs g q H vs ds → ds[i]? = some d → ∃ v, vs[i]? = some v ∧ RD g q H v d
  | _, _, _, _, .nil, e => by simp at e
  | _, _, 0, _, .cons r _, e => by simp at e; subst e; exact ⟨_, rfl, r⟩
  | _, _, i + 1, d, .cons _ t, e => by
    obtain ⟨v, h1, h2⟩ := RDs.get (i := i) (d := d) t (by simpa using e)
    exact ⟨v, by simpa using h1, h2⟩
theorem RDs.getV {vs : List V} {ds : List D} {i : Nat} {v : V} (r : RDs g q H vs ds) (e : vs[i]? = some v) : ∃ d, ds[i]? = some d ∧ RD g q H v d := by
  have hl : i < ds.length := by rw [← r.length]; exact (List.getElem?_eq_some_iff.mp e).1
  obtain ⟨v', h1, h2⟩ := r.get (List.getElem?_eq_getElem hl)
  rw [e] at h1; cases h1
  exact ⟨_, List.getElem?_eq_getElem hl, h2⟩
theorem RDs.append : ∀ {vs ws : List V} {ds es : List D}, RDs g q H vs ds → RDs g q H ws es → RDs g q H (vs ++ ws) (ds ++ es)
  | _, _, _, _, .nil, s => s
  | _, _, _, _, .cons r t, s => .cons r (RDs.append t s)
theorem RDs.take : ∀ {vs : List V} {ds : List D} (n : Nat), RDs g q H vs ds → RDs g q H (vs.take n) (ds.take n)
  | _, _, 0, _ => .nil
  | _, _, _ + 1, .nil => .nil
  | _, _, n + 1, .cons r t => .cons r (RDs.take n t)
theorem RDs.drop : ∀ {vs : List V} {ds : List D} (n : Nat), RDs g q H vs ds → RDs g q H (vs.drop n) (ds.drop n)
  | _, _, 0, r => r
  | _, _, _ + 1, .nil => .nil
  | _, _, n + 1, .cons _ t => RDs.drop n t
theorem RDs.set {v : V} {d : D} (r : RD g q H v d) : ∀ {vs : List V} {ds : List D} (i : Nat), RDs g q H vs ds → RDs g q H (vs.set i v) (ds.set i d)
  | _, _, _, .nil => .nil
  | _, _, 0, .cons _ t => .cons r t
  | _, _, i + 1, .cons q t => .cons q (RDs.set r i t)
theorem RDs.reverse : ∀ {vs : List V} {ds : List D}, RDs g q H vs ds → RDs g q H vs.reverse ds.reverse
  | _, _, .nil => .nil
  | _, _, .cons r t => by
    rw [List.reverse_cons, List.reverse_cons]
    exact (RDs.reverse t).append (.cons r .nil)
theorem RDs.dropLast {vs : List V} {ds : List D} (h : RDs g q H vs ds) : RDs g q H vs.dropLast ds.dropLast := by
  rw [List.dropLast_eq_take, List.dropLast_eq_take, h.length]
  exact h.take _
theorem RDs.ints : ∀ {ns : List Int}, RDs g q H (ns.map V.int) (ns.map D.int)
  | [] => .nil
  | n :: ns => .cons (.int n) RDs.ints
end

/-- the raw dict at a: its entries by their keys, the keys' tuples, the values -/
def rawK (g : G) (a : Addr) (xs : List (NestedKey × Addr × Value)) (h : Heap) : Prop :=
  (a == sysModules) = false ∧ ∃ o es ep, h.get? a = some o ∧ o.ExactDict ∧ o.data = .dict es ep ∧ es.toList = xs.map (entryOfKey (nestedKind g.P g.w)) ∧ (xs.map (·.1)).Nodup
/-- a dict whose keys are tuples -/
def RowDict (g : G) (q : List Addr) (H : Hp) (a : Addr) (kvs : List (D × D)) : Prop :=
  kvs.length ≤ sizeLine ∧ ∃ xs : List (NestedKey × Addr × Value), H a = some (.ext (rawK g a xs)) ∧
    Paired (fun (p : D × D) (x : NestedKey × Addr × Value) => nkey p.1 = some x.1 ∧ x.1.depth ≤ 8 ∧ RD g q H (.ref x.2.1) p.1 ∧ ∃ v, RelV v x.2.2 ∧ RD g q H v p.2) kvs xs
/-- a key that is an int or a text -/
def dK : Key → D
  | .inl i => .int i
  | .inr x => .str x
/-- a list that is read and never written: locked, or of the written part -/
def RoL (K : PySem.W.Frag) (H : Hp) (a : Addr) (xs : List V) : Prop :=
  (∃ ob, H a = some (.frz ob (.lst xs))) ∨ ∃ (o : Obj) (its : Array Value) (n : Nat), K.lookup a = some o ∧ o.cls = .type "list" ∧ o.dict = none ∧ o.data = .seq its n ∧ its.size ≤ sizeLine ∧ Vals xs its.toList
theorem RoL.sq {K : PySem.W.Frag} {H : Hp} {a : Addr} {xs : List V} (h : RoL K H a xs) : SqL K H a xs := by
  rcases h with ⟨ob, h⟩ | h
  · exact .inl (.inr ⟨ob, h⟩)
  · exact .inr h
def RO (g : G) (q : List Addr) (H : Hp) (a : Addr) : O → Prop
  | .lst ds => ∃ xs, H a = some (.lst xs) ∧ RDs g q H xs ds
  | .rl ds => ∃ xs, RoL g.K H a xs ∧ RDs g q H xs ds
  | .dic kvs => (∃ gs : List (Key × V), H a = some (.dK gs) ∧ Paired (fun (p : D × D) (x : Key × V) => p.1 = dK x.1 ∧ RD g q H x.2 p.2) kvs gs) ∨ RowDict g q H a kvs
  | .ins c fs => ∃ C dx gs, g.mg c = some (.ref C) ∧ H a = some (.ins C dx gs) ∧ Paired (fun (p : Str × D) (x : Str × V) => p.1 = x.1 ∧ RD g q H x.2 p.2) fs gs
/-- the store as it lies: q, its objects' places -/
structure RS (g : G) (q : List Addr) (H : Hp) (st : Sto) : Prop where
  len : q.length = st.length
  nd : ∀ (m n : Nat) (a : Addr), q[m]? = some a → q[n]? = some a → m = n ∨ (∃ xs, st[m]? = some (.rl xs)) ∨ ∃ xs, st[n]? = some (.rl xs)
  at_ : ∀ (n : Nat) (a : Addr) (o : O), q[n]? = some a → st[n]? = some o → RO g q H a o
/-- the names' values -/
def RE (g : G) (q : List Addr) (H : Hp) (sg : L2.St) (env : EnvD) : Prop := Paired (fun (v : Option V) (d : Option D) => ∀ x, d = some x → ∃ y, v = some y ∧ RD g q H y x) sg env

section
variable {g : G} {q q' : List Addr} {H H' : Hp} {a : Addr} {o : O} {st : Sto} {sg : L2.St} {env : EnvD}
/-- an object that stands as it stood -/
theorem RO.stay (e : Ext q H q' H') (h0 : H' a = H a) (r : RO g q H a o) : RO g q' H' a o := by
  cases o with
  | lst ds => obtain ⟨xs, h, r⟩ := r; exact ⟨xs, h0.trans h, r.ext e⟩
  | rl ds =>
    obtain ⟨xs, h, r⟩ := r
    refine ⟨xs, ?_, r.ext e⟩
    rcases h with ⟨ob, h⟩ | h
    · exact .inl ⟨ob, h0.trans h⟩
    · exact .inr h
  | dic kvs =>
    rcases r with ⟨gs, h, r⟩ | ⟨hz, xs, h, r⟩
    · exact .inl ⟨gs, h0.trans h, Paired.mapP r fun p x z => ⟨z.1, z.2.ext e⟩⟩
    · exact .inr ⟨hz, xs, h0.trans h, Paired.mapP r fun p x ⟨z1, z2, z3, v, z4, z5⟩ => ⟨z1, z2, z3.ext e, v, z4, z5.ext e⟩⟩
  | ins c fs =>
    obtain ⟨C, dx, gs, hc, h, r⟩ := r
    exact ⟨C, dx, gs, hc, h0.trans h, Paired.mapP r fun p x z => ⟨z.1, z.2.ext e⟩⟩
/-- it is tracked, or a list of the written part (then nothing of the heap is asked) -/
theorem RO.there (r : RO g q H a o) : H a ≠ none ∨ ((∃ xs, o = O.rl xs) ∧ ∀ q' H', Ext q H q' H' → RO g q' H' a o) := by
  cases o with
  | lst ds => obtain ⟨xs, h, _⟩ := r; exact .inl (by rw [h]; simp)
  | rl ds =>
    obtain ⟨xs, h, r⟩ := r
    rcases h with ⟨ob, h⟩ | h
    · exact .inl (by rw [h]; simp)
    · exact .inr ⟨⟨ds, rfl⟩, fun q' H' e => ⟨xs, .inr h, r.ext e⟩⟩
  | dic kvs =>
    rcases r with ⟨gs, h, _⟩ | ⟨_, xs, h, _⟩
    · exact .inl (by rw [h]; simp)
    · exact .inl (by rw [h]; simp)
  | ins c fs => obtain ⟨C, dx, gs, _, h, _⟩ := r; exact .inl (by rw [h]; simp)
theorem RO.same (s : Same H H') (r : RO g q H a o) : RO g q H' a o := by
  rcases r.there with h | ⟨_, h⟩
  · cases e : H a with
    | some u => exact RO.stay (Same.ext0 s) ((s _ _ e).trans e.symm) r
    | none => exact absurd e h
  · exact h _ _ (Same.ext0 s)
theorem RS.same (s : Same H H') (r : RS g q H st) : RS g q H' st := ⟨r.len, r.nd, fun n a o h1 h2 => (r.at_ n a o h1 h2).same s⟩
theorem RS.get (r : RS g q H st) {n : Nat} {o : O} (h : st[n]? = some o) : ∃ a, q[n]? = some a ∧ RO g q H a o := by
  have hl : n < q.length := by rw [r.len]; exact (List.getElem?_eq_some_iff.mp h).1
  exact ⟨_, List.getElem?_eq_getElem hl, r.at_ n _ o (List.getElem?_eq_getElem hl) h⟩
theorem RE.ext (e : Ext q H q' H') (r : RE g q H sg env) : RE g q' H' sg env := Paired.mapP r fun v d z x hx => let ⟨y, h1, h2⟩ := z x hx; ⟨y, h1, h2.ext e⟩
theorem Paired.at? {A B : Type} {F : A → B → Prop} : ∀ {l : List A} {m : List B} {i : Nat} {b : B}, Paired F l m → m[i]? = some b → ∃ a, l[i]? = some a ∧ F a b
  | _, _, _, _, .nil, h => by simp at h
  | _, _, 0, _, .cons r _, h => by simp at h; subst h; exact ⟨_, rfl, r⟩
  | _, _, i + 1, b, .cons _ t, h => by
    obtain ⟨a, h1, h2⟩ := Paired.at? (i := i) (b := b) t (by simpa using h)
    exact ⟨a, by simpa using h1, h2⟩
theorem Paired.set_ {A B : Type} {F : A → B → Prop} {a : A} {b : B} (r : F a b) : ∀ {l : List A} {m : List B} (i : Nat), Paired F l m → Paired F (l.set i a) (m.set i b)
  | _, _, _, .nil => .nil
  | _, _, 0, .cons _ t => .cons r t
  | _, _, i + 1, .cons q t => .cons q (Paired.set_ r i t)
theorem Paired.app {A B : Type} {F : A → B → Prop} : ∀ {l l' : List A} {m m' : List B}, Paired F l m → Paired F l' m' → Paired F (l ++ l') (m ++ m')
  | _, _, _, _, .nil, s => s
  | _, _, _, _, .cons r t, s => .cons r (Paired.app t s)
theorem RE.get (r : RE g q H sg env) {i : Nat} {d : D} (h : env[i]? = some (some d)) : ∃ v, sg[i]? = some (some v) ∧ RD g q H v d := by
  obtain ⟨ov, h1, h2⟩ := Paired.at? r h
  obtain ⟨y, rfl, h3⟩ := h2 d rfl
  exact ⟨y, h1, h3⟩
theorem RE.set (r : RE g q H sg env) {i : Nat} {v : V} {d : D} (h : RD g q H v d) : RE g q H (sg.set i (some v)) (env.set i (some d)) := Paired.set_ (fun x e => by cases e; exact ⟨v, rfl, h⟩) i r
/-- a new object of the store -/
theorem RS.new (r : RS g q H st) {p : Addr} {u : HO} (hp : H p = none) (ho : RO g (q ++ [p]) (upd H p u) p o) : RS g (q ++ [p]) (upd H p u) (st ++ [o]) := by
  have s := same_upd (o := u) hp
  have low : ∀ {n : Nat} {a : Addr}, q[n]? = some a → n < st.length := fun h => by rw [← r.len]; exact (List.getElem?_eq_some_iff.mp h).1
  have fresh : ∀ n, q[n]? = some p → ∃ xs, (st ++ [o])[n]? = some (O.rl xs) := fun n hn => by
    have hl := low hn
    rcases (r.at_ n p _ hn (List.getElem?_eq_getElem hl)).there with h | ⟨⟨xs, h⟩, _⟩
    · exact absurd hp h
    · exact ⟨xs, by rw [List.getElem?_append_left hl, List.getElem?_eq_getElem hl, h]⟩
  have last : ∀ {n : Nat} {a : Addr}, ¬ n < q.length → (q ++ [p])[n]? = some a → n = q.length ∧ a = p := fun {n a} hn h => by
    have e : n = q.length := by
      have := (List.getElem?_eq_some_iff.mp h).1
      rw [List.length_append, List.length_singleton] at this
      omega
    subst e
    rw [List.getElem?_append_right (Nat.le_refl _), Nat.sub_self] at h
    simp at h
    exact ⟨rfl, h.symm⟩
  refine ⟨by simp [r.len], fun m n a h1 h2 => ?_, fun n a x h1 h2 => ?_⟩
  · by_cases hm : m < q.length
    · by_cases hn : n < q.length
      · rw [List.getElem?_append_left hm] at h1
        rw [List.getElem?_append_left hn] at h2
        rw [List.getElem?_append_left (low h1), List.getElem?_append_left (low h2)]
        exact r.nd m n a h1 h2
      · obtain ⟨_, rfl⟩ := last hn h2
        rw [List.getElem?_append_left hm] at h1
        exact .inr (.inl (fresh m h1))
    · obtain ⟨e1, rfl⟩ := last hm h1
      by_cases hn : n < q.length
      · rw [List.getElem?_append_left hn] at h2
        exact .inr (.inr (fresh n h2))
      · obtain ⟨e2, _⟩ := last hn h2
        exact .inl (e1.trans e2.symm)
  · by_cases hn : n < q.length
    · rw [List.getElem?_append_left hn] at h1
      rw [List.getElem?_append_left (low h1)] at h2
      have z := r.at_ n a x h1 h2
      rcases z.there with h | ⟨_, h⟩
      · have hne : a ≠ p := fun e => h (by rw [e]; exact hp)
        exact z.stay (Same.ext s) (upd_ne hne)
      · exact h _ _ (Same.ext s)
    · obtain ⟨rfl, rfl⟩ := last hn h1
      rw [r.len, List.getElem?_append_right (Nat.le_refl _), Nat.sub_self] at h2
      simp at h2
      subst h2
      exact ho
/-- an object of the store written -/
theorem RS.put (r : RS g q H st) {n : Nat} {u : HO} (ha : q[n]? = some a) (h0 : ∀ xs, st[n]? ≠ some (O.rl xs)) (mu : Mut (H a)) (ho : RO g q (upd H a u) a o) : RS g q (upd H a u) (st.set n o) ∧ Ext q H q (upd H a u) := by
  have ext : Ext q H q (upd H a u) := ⟨⟨[], by simp⟩, fun b xs h => by
    have hb : b ≠ a := fun e => by
      subst e
      rcases h with h | ⟨ob, h⟩
      · rw [h] at mu; exact mu
      · rw [h] at mu; exact mu
    rcases h with h | ⟨ob, h⟩
    · exact .inl (by rw [upd_ne hb]; exact h)
    · exact .inr ⟨ob, by rw [upd_ne hb]; exact h⟩⟩
  have hl : n < st.length := by rw [← r.len]; exact (List.getElem?_eq_some_iff.mp ha).1
  have other : ∀ m : Nat, q[m]? = some a → m ≠ n → ∃ xs, st[m]? = some (O.rl xs) := fun m hm hne => by
    rcases r.nd m n a hm ha with z | z | ⟨xs, z⟩
    · exact absurd z hne
    · exact z
    · exact absurd z (h0 xs)
  refine ⟨⟨by simp [r.len], fun m k b h1 h2 => ?_, fun m b x h1 h2 => ?_⟩, ext⟩
  · by_cases e : m = k
    · exact .inl e
    · have keep : ∀ {j : Nat} {xs : List D}, st[j]? = some (O.rl xs) → (st.set n o)[j]? = some (O.rl xs) := fun {j xs} z => by
        have : n ≠ j := fun e => h0 xs (by rw [e]; exact z)
        rw [List.getElem?_set_ne this]; exact z
      rcases r.nd m k b h1 h2 with z | ⟨xs, z⟩ | ⟨xs, z⟩
      · exact .inl z
      · exact .inr (.inl ⟨xs, keep z⟩)
      · exact .inr (.inr ⟨xs, keep z⟩)
  · by_cases e : m = n
    · subst e
      rw [ha] at h1; cases h1
      rw [List.getElem?_set_self hl] at h2
      cases h2
      exact ho
    · rw [List.getElem?_set_ne (Ne.symm e)] at h2
      have z := r.at_ m b x h1 h2
      by_cases hb : b = a
      · subst hb
        obtain ⟨xs, hx⟩ := other m h1 e
        rw [h2] at hx; cases hx
        obtain ⟨ys, hy, ry⟩ := z
        rcases hy with ⟨ob, hy⟩ | hy
        · rw [hy] at mu; exact False.elim mu
        · exact ⟨ys, .inr hy, ry.ext ext⟩
      · exact z.stay ext (upd_ne hb)
end
end VL

/-! VL2: readings by functions of the store; expressions, tests, statements. -/
namespace L2
open PySem PySem.Spec PyProof.Rows
section
variable {X : Cx}
theorem PE.imp {e : Expr} {t t' : TE} (h : PE X e t) (i : ∀ sg H Q, t' sg H Q → t sg H Q) : PE X e t' := ⟨fun pins s sg H Q I w => h.run pins s sg H Q I (i _ _ _ w)⟩
theorem PT.imp {e : Expr} {t t' : TT} (h : PT X e t) (i : ∀ sg H Q, t' sg H Q → t sg H Q) : PT X e t' := ⟨fun pins s sg H Q I w => h.run pins s sg H Q I (i _ _ _ w)⟩
theorem PW.imp {e : Expr} {t t' : TT} (h : PW X e t) (i : ∀ sg H Q, t' sg H Q → t sg H Q) : PW X e t' := ⟨fun wh pins s sg H Q I w => h.run wh pins s sg H Q I (i _ _ _ w)⟩
theorem PA.imp {e : List Expr} {t t' : TA} (h : PA X e t) (i : ∀ sg H Q, t' sg H Q → t sg H Q) : PA X e t' := ⟨fun pos pins s sg H Q I w => h.run pos pins s sg H Q I (i _ _ _ w)⟩
theorem PS.imp {e : Stmt} {t t' : TS} (h : PS X e t) (i : ∀ T sg H, t' T sg H → t T sg H) : PS X e t' := ⟨fun pins s sg H Q I w => h.run pins s sg H Q I (i _ _ _ w)⟩
theorem PSs.imp {e : List Stmt} {t t' : TS} (h : PSs X e t) (i : ∀ T sg H, t' T sg H → t T sg H) : PSs X e t' := ⟨fun pins s sg H Q I w => h.run pins s sg H Q I (i _ _ _ w)⟩
theorem OpR.imp {f : Value → Value → Sem Value} {r r' : R2} (h : OpR X f r) (i : ∀ x y H Q, r' x y H Q → r x y H Q) : OpR X f r' := fun pins s sg H x y v u Q I r1 r2 w => h pins s sg H x y v u Q I r1 r2 (i _ _ _ _ w)
theorem CallR.imp {f : Value} {r r' : List V → Hp → VK → Prop} (h : CallR X f r) (i : ∀ xs H Q, r' xs H Q → r xs H Q) : CallR X f r' := fun pins s sg H xs us Q I r1 w => h pins s sg H xs us Q I r1 (i _ _ _ w)
theorem MtR.imp {f : String} {r r' : V → List V → Hp → VK → Prop} (h : MtR X f r) (i : ∀ x xs H Q, r' x xs H Q → r x xs H Q) : MtR X f r' := fun pins s sg H x xs v us Q I r1 r2 w => h pins s sg H x xs v us Q I r1 r2 (i _ _ _ _ w)
theorem IxR.imp {r r' : R2} (h : IxR X r) (i : ∀ x y H Q, r' x y H Q → r x y H Q) : IxR X r' := fun a b pins s sg H x y v u Q I r1 r2 w => h a b pins s sg H x y v u Q I r1 r2 (i _ _ _ _ w)
theorem UnR.imp {f : Value → Sem Value} {r r' : V → Hp → VK → Prop} (h : UnR X f r) (i : ∀ x H Q, r' x H Q → r x H Q) : UnR X f r' := fun pins s sg H x v Q I r1 w => h pins s sg H x v Q I r1 (i _ _ _ w)
theorem PG.imp {e : Expr} {t t' : TG} (h : PG X e t) (i : ∀ v sg H Q, t' v sg H Q → t v sg H Q) : PG X e t' := ⟨fun pins s sg H v u Q I r w => h.run pins s sg H v u Q I r (i _ _ _ _ w)⟩
theorem PGs.imp {e : List Expr} {t t' : TGs} (h : PGs X e t) (i : ∀ v sg H Q, t' v sg H Q → t v sg H Q) : PGs X e t' := ⟨fun pins s sg H v u Q I r w => h.run pins s sg H v u Q I r (i _ _ _ _ w)⟩
end
end L2
namespace VL
open PySem PySem.Spec PyProof.Rows L2

/-! ### liftings -/
/-- behind a value; behind an exception -/
def KV (g : G) (q : List Addr) (H : Hp) (Q : VK) : D → Sto → Prop := fun d st => ∀ q' v H', Ext q H q' H' → RS g q' H' st → RD g q' H' v d → Q v H'
def KX (g : G) (q : List Addr) (H : Hp) (E : XK) : Str → Sto → Prop := fun c st => ∀ q' H' C, Ext q H q' H' → RS g q' H' st → g.mg c = some (.ref C) → E (.ref C) none H'
theorem KX.ext {g : G} {q q' : List Addr} {H H' : Hp} {E : XK} (e : Ext q H q' H') {c : Str} {st : Sto} (k : KX g q H E c st) : KX g q' H' E c st := fun q2 H2 C e2 r m => k q2 H2 C (e.trans e2) r m
theorem KV.ext {g : G} {q q' : List Addr} {H H' : Hp} {Q : VK} (e : Ext q H q' H') {d : D} {st : Sto} (k : KV g q H Q d st) : KV g q' H' Q d st := fun q2 v H2 e2 r m => k q2 v H2 (e.trans e2) r m
abbrev EF := EnvD → Sto → R D
abbrev TF := EnvD → Sto → R Bool
abbrev AF := EnvD → Sto → R (List D)
inductive Fl where
  | nx (e : EnvD) | rt (d : D) | bk (e : EnvD) | ct (e : EnvD)
abbrev SF := EnvD → Sto → R Fl
abbrev Fn := List D → Sto → R D
def LE (g : G) (E : XK) (f : EF) : TE := fun sg H Q => ∃ q env st, RS g q H st ∧ RE g q H sg env ∧ (f env st).post (KV g q H Q) (KX g q H E)
def LT (g : G) (E : XK) (f : TF) : TT := fun sg H Q => ∃ q env st, RS g q H st ∧ RE g q H sg env ∧ (f env st).post (fun b st' => ∀ q' H', Ext q H q' H' → RS g q' H' st' → Q b H') (KX g q H E)
def LA (g : G) (E : XK) (f : AF) : TA := fun sg H Q => ∃ q env st, RS g q H st ∧ RE g q H sg env ∧ (f env st).post (fun ds st' => ∀ q' vs H', Ext q H q' H' → RS g q' H' st' → RDs g q' H' vs ds → Q vs H') (KX g q H E)
def KS (g : G) (q : List Addr) (H : Hp) (T : Ends) : Fl → Sto → Prop := fun fl st => ∀ q' H', Ext q H q' H' → RS g q' H' st → match fl with
  | .nx e => ∀ sg, RE g q' H' sg e → T.nx sg H'
  | .rt d => ∀ v, RD g q' H' v d → T.rt v H'
  | .bk e => ∀ sg, RE g q' H' sg e → T.bk sg H'
  | .ct e => ∀ sg, RE g q' H' sg e → T.ct sg H'
def LS (g : G) (E : XK) (f : SF) : TS := fun T sg H => ∃ q env st, RS g q H st ∧ RE g q H sg env ∧ (f env st).post (KS g q H T) (KX g q H E)
theorem KS.ext {g : G} {q q' : List Addr} {H H' : Hp} {T : Ends} (e : Ext q H q' H') {c : Fl} {st : Sto} (k : KS g q H T c st) : KS g q' H' T c st := fun q2 H2 e2 r => k q2 H2 (e.trans e2) r

section
variable {X : Cx}

variable {E : XK} {fa fb : EF} {a b : Expr} {pos : Pos}
/-! ### names, constants -/
def varF (i : Nat) : EF := fun env st => match env[i]? with
  | some (some d) => .ok d st
  | _ => .bad
def cF (d : D) : EF := fun _ st => .ok d st
theorem le_var {i : Nat} {x : Str} {pos : Pos} (h : PE X (.Name x pos) (tVar i)) : PE X (.Name x pos) (LE (gOf X) E (varF i)) := h.imp fun sg H Q w => by
  obtain ⟨q, env, st, rs, re, p⟩ := w
  unfold varF at p
  split at p
  · rename_i d hd
    obtain ⟨v, h1, h2⟩ := re.get hd
    exact ⟨v, h1, p q v H Ext.refl rs h2⟩
  · exact False.elim p
theorem le_c {e : Expr} {v : V} {d : D} (h : PE X e (tC v)) (r : ∀ q H, RD (gOf X) q H v d) : PE X e (LE (gOf X) E (cF d)) := h.imp fun sg H Q w => by
  obtain ⟨q, env, st, rs, re, p⟩ := w
  exact p q v H Ext.refl rs (r q H)
theorem le_int {i j pos} : PE X (.Constant (.int i) j pos) (LE (gOf X) E (cF (.int i))) := le_c pe_int fun _ _ => .int i
theorem le_bl {b j pos} : PE X (.Constant (.bool b) j pos) (LE (gOf X) E (cF (.bl b))) := le_c pe_bl fun _ _ => .bl b
theorem le_non {j pos} : PE X (.Constant .none j pos) (LE (gOf X) E (cF .non)) := le_c pe_non fun _ _ => .non
theorem RD.ty_inv {g : G} {q : List Addr} {H : Hp} {v : V} {n : String} (r : RD g q H v (.ty n)) : v = .ty n := by cases r; rfl
theorem le_str {x j pos} : PE X (.Constant (.str x) j pos) (LE (gOf X) E (cF (.str x))) := le_c pe_str fun _ _ => .str x

/-! ### two-place operations by values -/
def LR (g : G) (E : XK) (f : D → D → Sto → R D) : R2 := fun x y H Q => ∃ q st a b, RS g q H st ∧ RD g q H x a ∧ RD g q H y b ∧ (f a b st).post (KV g q H Q) (KX g q H E)
def opF (f : D → D → Sto → R D) (fa fb : EF) : EF := fun env st => (fa env st).bind fun a s1 => (fb env s1).bind fun b s2 => f a b s2
theorem LE.chain {g : G} {sg : L2.St} {H : Hp} {f : EF} {q : List Addr} {env : EnvD} {st : Sto} {Q : VK} {K : D → Sto → Prop} (rs : RS g q H st) (re : RE g q H sg env) (p : (f env st).post K (KX g q H E))
    (k : ∀ d st' q' v H', K d st' → Ext q H q' H' → RS g q' H' st' → RE g q' H' sg env → RD g q' H' v d → Q v H') : LE g E f sg H Q :=
  ⟨q, env, st, rs, re, p.imp (fun d st' hk q' v H' e rs' rd => k d st' q' v H' hk e rs' (re.ext e) rd) fun _ _ h => h⟩
theorem opT_le {f : D → D → Sto → R D} {sg : L2.St} {H : Hp} {Q : VK} (w : LE (gOf X) E (opF f fa fb) sg H Q) : tOp (LR (gOf X) E f) (LE (gOf X) E fa) (LE (gOf X) E fb) sg H Q := by
  obtain ⟨q, env, st, rs, re, p⟩ := w
  refine LE.chain rs re (R.post_bind.mp p) fun x s1 q1 v H1 p e1 rs1 re1 rx => ?_
  refine LE.chain rs1 re1 ((R.post_bind.mp p).imp (fun _ _ h => h) fun _ _ h => h.ext e1) fun y s2 q2 u H2 p e2 rs2 re2 ry => ?_
  exact ⟨q2, s2, x, y, rs2, rx.ext e2, ry, p.imp (fun _ _ h => h.ext (e1.trans e2)) fun _ _ h => h.ext (e1.trans e2)⟩
theorem le_op {op : Operator} {f : D → D → Sto → R D} (ho : OpR X (binaryOp op) (LR (gOf X) E f)) (ha : PE X a (LE (gOf X) E fa)) (hb : PE X b (LE (gOf X) E fb)) : PE X (.BinOp a op b pos) (LE (gOf X) E (opF f fa fb)) :=
  (pe_op ho ha hb).imp fun _ _ _ w => opT_le w
theorem le_cmp {op : CmpOp} {f : D → D → Sto → R D} (ho : OpR X (compareOp op) (LR (gOf X) E f)) (ha : PE X a (LE (gOf X) E fa)) (hb : PE X b (LE (gOf X) E fb)) (hm : behindInMarks op b = false) : PE X (.Compare a [op] [b] pos) (LE (gOf X) E (opF f fa fb)) :=
  (pe_cmpR ho ha hb hm).imp fun _ _ _ w => opT_le w
theorem le_ix {f : D → D → Sto → R D} (ho : IxR X (LR (gOf X) E f)) (ha : PE X a (LE (gOf X) E fa)) (hb : PE X b (LE (gOf X) E fb)) (hs : PlainIx b) : PE X (.Subscript a b pos) (LE (gOf X) E (opF f fa fb)) :=
  (pe_ix ho ha hb hs).imp fun _ _ _ w => opT_le w

/-! ### tests -/
/-- the truth of a value that is a bool -/
def bF (f : EF) : TF := fun env st => (f env st).bind fun d s => match d with
  | .bl b => .ok b s
  | _ => .bad
theorem RD.bl_inv {g : G} {q : List Addr} {H : Hp} {v : V} {b : Bool} (r : RD g q H v (.bl b)) : v = .bl b := by cases r; rfl
theorem RD.int_inv {g : G} {q : List Addr} {H : Hp} {v : V} {b : Int} (r : RD g q H v (.int b)) : v = .int b := by cases r; rfl
theorem RD.str_inv {g : G} {q : List Addr} {H : Hp} {v : V} {b : Str} (r : RD g q H v (.str b)) : v = .str b := by cases r; rfl
theorem RD.non_inv {g : G} {q : List Addr} {H : Hp} {v : V} (r : RD g q H v .non) : v = .non := by cases r; rfl
theorem RD.tup_inv {g : G} {q : List Addr} {H : Hp} {v : V} {ds : List D} (r : RD g q H v (.tup ds)) : ∃ a xs, v = .ref a ∧ SqT g.K H a xs ∧ RDs g q H xs ds := by cases r with | tup h r => exact ⟨_, _, rfl, h, r⟩
theorem RD.ref_inv {g : G} {q : List Addr} {H : Hp} {v : V} {n : Nat} (r : RD g q H v (.ref n)) : ∃ a, v = .ref a ∧ q[n]? = some a := by cases r with | ref h => exact ⟨_, rfl, h⟩
theorem RD.glb_inv {g : G} {q : List Addr} {H : Hp} {v : V} {x : Str} (r : RD g q H v (.glb x)) : ∃ a, v = .ref a ∧ g.mg x = some (.ref a) := by cases r with | glb h => exact ⟨_, rfl, h⟩
theorem bool_le {sg : L2.St} {H : Hp} {Q : Bool → Hp → Prop} {f : EF} (w : LT (gOf X) E (bF f) sg H Q) : LE (gOf X) E f sg H fun x H1 => ∃ c, x = .bl c ∧ Q c H1 := by
  obtain ⟨q, env, st, rs, re, p⟩ := w
  refine LE.chain rs re (R.post_bind.mp p) fun x s1 q1 v H1 p e1 rs1 re1 rx => ?_
  cases x with
  | bl b => exact ⟨b, rx.bl_inv, p q1 H1 e1 rs1⟩
  | _ => exact False.elim p
theorem lt_val {e : Expr} {f : EF} (h : PE X e (LE (gOf X) E f)) (he : ∀ whole, isTrue e X.env whole = (do let v ← whole; standAt e.pos; holding [v] (truthy v)) := by intro _; rfl) : PT X e (LT (gOf X) E (bF f)) :=
  (pt_val h he).imp fun _ _ _ w => bool_le w
theorem lt_cmp {op : CmpOp} {f : D → D → Sto → R D} (ho : OpR X (compareOp op) (LR (gOf X) E f)) (ha : PE X a (LE (gOf X) E fa)) (hb : PE X b (LE (gOf X) E fb)) (hm : behindInMarks op b = false) : PT X (.Compare a [op] [b] pos) (LT (gOf X) E (bF (opF f fa fb))) :=
  (pt_cmpR ho ha hb hm).imp fun _ _ _ w => by
    obtain ⟨q, env, st, rs, re, p⟩ := w
    exact opT_le (bool_le ⟨q, env, st, rs, re, p⟩)
theorem LT.chain {g : G} {sg : L2.St} {H : Hp} {f : TF} {q : List Addr} {env : EnvD} {st : Sto} {Q : Bool → Hp → Prop} {K : Bool → Sto → Prop} (rs : RS g q H st) (re : RE g q H sg env) (p : (f env st).post K (KX g q H E))
    (k : ∀ d st' q' H', K d st' → Ext q H q' H' → RS g q' H' st' → RE g q' H' sg env → Q d H') : LT g E f sg H Q :=
  ⟨q, env, st, rs, re, p.imp (fun d st' hk q' H' e rs' => k d st' q' H' hk e rs' (re.ext e)) fun _ _ h => h⟩
variable {ta tb : TF} {rest : List Expr}
def andT (ta tb : TF) : TF := fun env st => (ta env st).bind fun c s => if c = true then tb env s else .ok false s
def orT (ta tb : TF) : TF := fun env st => (ta env st).bind fun c s => if c = true then .ok true s else tb env s
def notT (ta : TF) : TF := fun env st => (ta env st).bind fun c s => .ok (!c) s
def KT (g : G) (q : List Addr) (H : Hp) (Q : Bool → Hp → Prop) : Bool → Sto → Prop := fun b st => ∀ q' H', Ext q H q' H' → RS g q' H' st → Q b H'
theorem KT.ext {g : G} {q q' : List Addr} {H H' : Hp} {Q : Bool → Hp → Prop} (e : Ext q H q' H') {c : Bool} {st : Sto} (k : KT g q H Q c st) : KT g q' H' Q c st := fun q2 H2 e2 r => k q2 H2 (e.trans e2) r
theorem lw_and1 {ta : TF} (ha : PT X a (LT (gOf X) E ta)) : PW X (.BoolOp .And [a] pos) (LT (gOf X) E ta) := pw_and1 ha
theorem lw_or1 {ta : TF} (ha : PT X a (LT (gOf X) E ta)) : PW X (.BoolOp .Or [a] pos) (LT (gOf X) E ta) := pw_or1 ha
theorem lw_and (ha : PT X a (LT (gOf X) E ta)) (hb : PW X (.BoolOp .And (b :: rest) pos) (LT (gOf X) E tb)) : PW X (.BoolOp .And (a :: b :: rest) pos) (LT (gOf X) E (andT ta tb)) :=
  (pw_and ha hb).imp fun sg H Q w => by
    obtain ⟨q, env, st, rs, re, p⟩ := w
    refine LT.chain rs re (R.post_bind.mp p) fun c s1 q1 H1 p e1 rs1 re1 => ?_
    cases c with
    | true => exact iteT ⟨q1, env, s1, rs1, re1, (show (tb env s1).post _ _ from p).imp (fun _ _ h => KT.ext e1 h) fun _ _ h => h.ext e1⟩
    | false => exact iteF (p q1 H1 e1 rs1)
theorem lw_or (ha : PT X a (LT (gOf X) E ta)) (hb : PW X (.BoolOp .Or (b :: rest) pos) (LT (gOf X) E tb)) : PW X (.BoolOp .Or (a :: b :: rest) pos) (LT (gOf X) E (orT ta tb)) :=
  (pw_or ha hb).imp fun sg H Q w => by
    obtain ⟨q, env, st, rs, re, p⟩ := w
    refine LT.chain rs re (R.post_bind.mp p) fun c s1 q1 H1 p e1 rs1 re1 => ?_
    cases c with
    | false => exact iteF ⟨q1, env, s1, rs1, re1, (show (tb env s1).post _ _ from p).imp (fun _ _ h => KT.ext e1 h) fun _ _ h => h.ext e1⟩
    | true => exact iteT (p q1 H1 e1 rs1)
theorem lt_not (ha : PT X a (LT (gOf X) E ta)) : PT X (.UnaryOp .Not a pos) (LT (gOf X) E (notT ta)) :=
  (pt_not ha).imp fun sg H Q w => by
    obtain ⟨q, env, st, rs, re, p⟩ := w
    exact LT.chain rs re (R.post_bind.mp p) fun c s1 q1 H1 p e1 rs1 re1 => p q1 H1 e1 rs1
/-! .. as values -/
def andV (fa fb : EF) : EF := fun env st => (bF fa env st).bind fun c s => if c = true then fb env s else .ok (.bl false) s
def orV (fa fb : EF) : EF := fun env st => (bF fa env st).bind fun c s => if c = true then .ok (.bl true) s else fb env s
def notV (fa : EF) : EF := fun env st => (bF fa env st).bind fun c s => .ok (.bl (!c)) s
theorem bool_chain {g : G} {sg : L2.St} {H : Hp} {f : EF} {q : List Addr} {env : EnvD} {st : Sto} {Q : V → Hp → Prop} {K : Bool → Sto → Prop} (rs : RS g q H st) (re : RE g q H sg env) (p : (bF f env st).post K (KX g q H E))
    (k : ∀ c st' q' H', K c st' → Ext q H q' H' → RS g q' H' st' → RE g q' H' sg env → Q (.bl c) H') : LE g E f sg H Q := by
  refine LE.chain rs re (R.post_bind.mp p) fun x s1 q1 v H1 p e1 rs1 re1 rx => ?_
  cases x with
  | bl b => rw [rx.bl_inv]; exact k b s1 q1 H1 p e1 rs1 re1
  | _ => exact False.elim p
theorem le_and1 {op} (ha : PE X a (LE (gOf X) E fa)) : PE X (.BoolOp op [a] pos) (LE (gOf X) E fa) := pe_one ha
theorem le_and (ha : PE X a (LE (gOf X) E fa)) (hb : PE X (.BoolOp .And (b :: rest) pos) (LE (gOf X) E fb)) : PE X (.BoolOp .And (a :: b :: rest) pos) (LE (gOf X) E (andV fa fb)) :=
  (pe_and ha hb).imp fun sg H Q w => by
    obtain ⟨q, env, st, rs, re, p⟩ := w
    refine bool_chain rs re (R.post_bind.mp p) fun c s1 q1 H1 p e1 rs1 re1 => ⟨c, rfl, ?_⟩
    cases c with
    | true => exact iteT ⟨q1, env, s1, rs1, re1, (show (fb env s1).post _ _ from p).imp (fun _ _ h => h.ext e1) fun _ _ h => h.ext e1⟩
    | false => exact iteF (p q1 _ H1 e1 rs1 (.bl false))
theorem le_or (ha : PE X a (LE (gOf X) E fa)) (hb : PE X (.BoolOp .Or (b :: rest) pos) (LE (gOf X) E fb)) : PE X (.BoolOp .Or (a :: b :: rest) pos) (LE (gOf X) E (orV fa fb)) :=
  (pe_or ha hb).imp fun sg H Q w => by
    obtain ⟨q, env, st, rs, re, p⟩ := w
    refine bool_chain rs re (R.post_bind.mp p) fun c s1 q1 H1 p e1 rs1 re1 => ⟨c, rfl, ?_⟩
    cases c with
    | false => exact iteF ⟨q1, env, s1, rs1, re1, (show (fb env s1).post _ _ from p).imp (fun _ _ h => h.ext e1) fun _ _ h => h.ext e1⟩
    | true => exact iteT (p q1 _ H1 e1 rs1 (.bl true))
theorem le_not (ha : PE X a (LE (gOf X) E fa)) : PE X (.UnaryOp .Not a pos) (LE (gOf X) E (notV fa)) :=
  (pe_not ha).imp fun sg H Q w => by
    obtain ⟨q, env, st, rs, re, p⟩ := w
    exact bool_chain rs re (R.post_bind.mp p) fun c s1 q1 H1 p e1 rs1 re1 => ⟨c, rfl, p q1 _ H1 e1 rs1 (.bl _)⟩
/-- a if t else b -/
def ifF (t : TF) (fa fb : EF) : EF := fun env st => (t env st).bind fun c s => if c = true then fa env s else fb env s
theorem le_ifExp {c : Expr} (hc : PT X c (LT (gOf X) E ta)) (ha : PE X a (LE (gOf X) E fa)) (hb : PE X b (LE (gOf X) E fb)) : PE X (.IfExp c a b pos) (LE (gOf X) E (ifF ta fa fb)) :=
  (pe_ifExp hc ha hb).imp fun sg H Q w => by
    obtain ⟨q, env, st, rs, re, p⟩ := w
    refine LT.chain rs re (R.post_bind.mp p) fun c s1 q1 H1 p e1 rs1 re1 => ?_
    cases c with
    | true => exact iteT ⟨q1, env, s1, rs1, re1, (show (fa env s1).post _ _ from p).imp (fun _ _ h => h.ext e1) fun _ _ h => h.ext e1⟩
    | false => exact iteF ⟨q1, env, s1, rs1, re1, (show (fb env s1).post _ _ from p).imp (fun _ _ h => h.ext e1) fun _ _ h => h.ext e1⟩

/-! ### arguments, displays -/
def nilA : AF := fun _ st => .ok [] st
def consA (fa : EF) (fr : AF) : AF := fun env st => (fa env st).bind fun x s => (fr env s).bind fun xs s' => .ok (x :: xs) s'
theorem la_nil : PA X [] (LA (gOf X) E nilA) := pa_nil.imp fun sg H Q w => by
  obtain ⟨q, env, st, rs, re, p⟩ := w
  exact p q [] H Ext.refl rs .nil
theorem LA.chain {g : G} {sg : L2.St} {H : Hp} {f : AF} {q : List Addr} {env : EnvD} {st : Sto} {Q : List V → Hp → Prop} {K : List D → Sto → Prop} (rs : RS g q H st) (re : RE g q H sg env) (p : (f env st).post K (KX g q H E))
    (k : ∀ d st' q' v H', K d st' → Ext q H q' H' → RS g q' H' st' → RE g q' H' sg env → RDs g q' H' v d → Q v H') : LA g E f sg H Q :=
  ⟨q, env, st, rs, re, p.imp (fun d st' hk q' v H' e rs' rd => k d st' q' v H' hk e rs' (re.ext e) rd) fun _ _ h => h⟩
theorem la_cons {es : List Expr} {fr : AF} (ha : PE X a (LE (gOf X) E fa)) (hr : PA X es (LA (gOf X) E fr)) (hs : starEach (a :: es) X.env = (false, eval a X.env) :: starEach es X.env := by rfl) : PA X (a :: es) (LA (gOf X) E (consA fa fr)) :=
  (pa_cons ha hr hs).imp fun sg H Q w => by
    obtain ⟨q, env, st, rs, re, p⟩ := w
    refine LE.chain rs re (R.post_bind.mp p) fun x s1 q1 v H1 p e1 rs1 re1 rx => ?_
    refine LA.chain rs1 re1 ((R.post_bind.mp p).imp (fun _ _ h => h) fun _ _ h => h.ext e1) fun ys s2 q2 vs H2 p e2 rs2 re2 ry => ?_
    exact p q2 _ H2 (e1.trans e2) rs2 (.cons (rx.ext e2) ry)
/-- a new object of the store -/
def newO (o : O) (st : Sto) : R D := .ok (.ref st.length) (st ++ [o])
def tupA (f : AF) : EF := fun env st => (f env st).bind fun xs s => if xs.length ≤ sizeLine then .ok (.tup xs) s else .bad
def lstA (f : AF) : EF := fun env st => (f env st).bind fun xs s => if xs.length ≤ sizeLine then newO (.lst xs) s else .bad
section
variable {g : G} {q : List Addr} {H : Hp} {st : Sto} {p : Addr}
/-- a new tuple -/
theorem tup_new {xs : List V} {ds : List D} (rs : RS g q H st) (hp : H p = none) (r : RDs g q H xs ds) : Ext q H q (upd H p (.tup xs)) ∧ RS g q (upd H p (.tup xs)) st ∧ RD g q (upd H p (.tup xs)) (.ref p) (.tup ds) := by
  have s := same_upd (o := HO.tup xs) hp
  exact ⟨Same.ext0 s, rs.same s, .tup (.inl (.inl upd_same)) (r.ext (Same.ext0 s))⟩
theorem lst_new {xs : List V} {ds : List D} (rs : RS g q H st) (hp : H p = none) (r : RDs g q H xs ds) : Ext q H (q ++ [p]) (upd H p (.lst xs)) ∧ RS g (q ++ [p]) (upd H p (.lst xs)) (st ++ [.lst ds]) ∧ RD g (q ++ [p]) (upd H p (.lst xs)) (.ref p) (.ref st.length) := by
  have s := same_upd (o := HO.lst xs) hp
  refine ⟨Same.ext s, rs.new hp ⟨xs, upd_same, r.ext (Same.ext s)⟩, .ref ?_⟩
  rw [← rs.len]; simp
theorem dic_new (rs : RS g q H st) (hp : H p = none) : Ext q H (q ++ [p]) (upd H p (.dK [])) ∧ RS g (q ++ [p]) (upd H p (.dK [])) (st ++ [.dic []]) ∧ RD g (q ++ [p]) (upd H p (.dK [])) (.ref p) (.ref st.length) := by
  have s := same_upd (o := HO.dK []) hp
  refine ⟨Same.ext s, rs.new hp (.inl ⟨[], upd_same, .nil⟩), .ref ?_⟩
  rw [← rs.len]; simp
end
theorem le_tup {es : List Expr} {f : AF} {x1} (h : PA X es (LA (gOf X) E f)) : PE X (.Tuple es x1 pos) (LE (gOf X) E (tupA f)) := (pe_tup h).imp fun sg H Q w => by
  obtain ⟨q, env, st, rs, re, p⟩ := w
  refine LA.chain rs re (R.post_bind.mp p) fun xs s1 q1 vs H1 p e1 rs1 re1 rx => ?_
  by_cases hz : xs.length ≤ sizeLine
  · rw [if_pos hz] at p
    refine ⟨by rw [rx.length]; exact hz, fun pp hp => ?_⟩
    obtain ⟨e2, rs2, r2⟩ := tup_new rs1 hp rx
    exact p q1 _ _ (e1.trans e2) rs2 r2
  · rw [if_neg hz] at p
    exact False.elim p
theorem le_lst {es : List Expr} {f : AF} (h : PA X es (LA (gOf X) E f)) : PE X (.List es pos) (LE (gOf X) E (lstA f)) := (pe_lst h).imp fun sg H Q w => by
  obtain ⟨q, env, st, rs, re, p⟩ := w
  refine LA.chain rs re (R.post_bind.mp p) fun xs s1 q1 vs H1 p e1 rs1 re1 rx => ?_
  by_cases hz : xs.length ≤ sizeLine
  · rw [if_pos hz] at p
    refine ⟨by rw [rx.length]; exact hz, fun pp hp => ?_⟩
    obtain ⟨e2, rs2, r2⟩ := lst_new rs1 hp rx
    exact p _ _ _ (e1.trans e2) rs2 r2
  · rw [if_neg hz] at p
    exact False.elim p
def dicF : EF := fun _ st => newO (.dic []) st
theorem le_dic {e : Expr} (h : PE X e (fun _ H Q => ∀ p, H p = none → Q (.ref p) (upd H p (.dK [])))) : PE X e (LE (gOf X) E dicF) := h.imp fun sg H Q w p hp => by
  obtain ⟨q, env, st, rs, re, k⟩ := w
  obtain ⟨e2, rs2, r2⟩ := dic_new rs hp
  exact k _ _ _ e2 rs2 r2

/-! ### calls by values -/
def LC (g : G) (E : XK) (f : List D → Sto → R D) : List V → Hp → VK → Prop := fun vs H Q => ∃ q st ds, RS g q H st ∧ RDs g q H vs ds ∧ (f ds st).post (KV g q H Q) (KX g q H E)
def callF (f : List D → Sto → R D) (fa : AF) : EF := fun env st => (fa env st).bind fun ds s => f ds s
theorem call_le {f : List D → Sto → R D} {fa : AF} {sg : L2.St} {H : Hp} {Q : VK} (w : LE (gOf X) E (callF f fa) sg H Q) : LA (gOf X) E fa sg H fun vs H1 => LC (gOf X) E f vs H1 Q := by
  obtain ⟨q, env, st, rs, re, p⟩ := w
  exact LA.chain rs re (R.post_bind.mp p) fun xs s1 q1 vs H1 p e1 rs1 re1 rx => ⟨q1, s1, xs, rs1, rx, p.imp (fun _ _ h => h.ext e1) fun _ _ h => h.ext e1⟩
theorem le_callB {x : Str} {p : Pos} {id : String} {e : Expr} {es : List Expr} {fa : AF} {f : List D → Sto → R D} (hc : CallR X (.builtin id) (LC (gOf X) E f)) (hg : Gl X x) (hm : X.mg x = none) (hv : bootBuiltins x = some (.builtin id)) (ha : PA X (e :: es) (LA (gOf X) E fa)) (hn : x ≠ "__name__" := by decide) (hdb : (x == ("__debug__" : Str)) = false := by decide)
    (he : starEach (e :: es) X.env = (false, eval e X.env) :: starEach es X.env := by rfl) (hpl : (backTo pos (starEach es X.env)).any (·.1) = false := by rfl) : PE X (.Call (.Name x p) (e :: es) [] pos) (LE (gOf X) E (callF f fa)) :=
  (pe_callB hc hg hm hv ha hn hdb he hpl).imp fun _ _ _ w => call_le w
theorem le_callTy {x : Str} {p : Pos} {T : String} {e : Expr} {es : List Expr} {fa : AF} {f : List D → Sto → R D} (hc : CallR X (.type T) (LC (gOf X) E f)) (hg : Gl X x) (hm : X.mg x = none) (hv : bootBuiltins x = some (.type T)) (ha : PA X (e :: es) (LA (gOf X) E fa)) (hn : x ≠ "__name__" := by decide) (hdb : (x == ("__debug__" : Str)) = false := by decide)
    (he : starEach (e :: es) X.env = (false, eval e X.env) :: starEach es X.env := by rfl) (hpl : (backTo pos (starEach es X.env)).any (·.1) = false := by rfl) : PE X (.Call (.Name x p) (e :: es) [] pos) (LE (gOf X) E (callF f fa)) :=
  (pe_callTy hc hg hm hv ha hn hdb he hpl).imp fun _ _ _ w => call_le w
/-- a def's promise -/
def SpD (g : G) (n : Nat) (f : Fn) : Sp := fun vs H Q E => vs.length = n ∧ LC g E f vs H Q
theorem le_call {CX : CXT} {k n : Nat} {f : Addr} {fd : FuncData} {ps : List Str} {fn : Fn} {x : Str} {p : Pos} {e : Expr} {es : List Expr} {fa : AF} (F : FnOk X.prog X.w X.K X.mg X.base CX k f fd ps (SpD (gOf X) n fn)) (hr : Room k X.A) (hg : Gl X x) (hm : X.mg x = some (.ref f)) (hk : PySem.W.keepIn X.K (.ref f) = true) (hb : Binds X.K fd ps []) (hx : Passes CX X E)
    (ha : PA X (e :: es) (LA (gOf X) E fa)) (hl : (e :: es).length = n) (hla : ∀ env st ds s, fa env st = .ok ds s → ds.length = (e :: es).length) (hdb : (x == ("__debug__" : Str)) = false := by decide) (he : starEach (e :: es) X.env = (false, eval e X.env) :: starEach es X.env := by rfl) (hpl : (backTo pos (starEach es X.env)).any (·.1) = false := by rfl) :
    PE X (.Call (.Name x p) (e :: es) [] pos) (LE (gOf X) E (callF fn fa)) :=
  (pe_call F hr hg hm hk hb .nil hx ha hdb he hpl).imp fun sg H Q w => by
    obtain ⟨q, env, st, rs, re, p⟩ := w
    have p := R.post_bind.mp p
    have p' : (fa env st).post (fun ds s => ds.length = n ∧ (fn ds s).post (KV (gOf X) q H Q) (KX (gOf X) q H E)) (KX (gOf X) q H E) := by
      cases hfa : fa env st with
      | ok ds s => rw [hfa] at p; exact ⟨(hla _ _ _ _ hfa).trans hl, p⟩
      | ex c s => rw [hfa] at p; exact p
      | bad => rw [hfa] at p; exact p
    refine LA.chain rs re p' fun xs s1 q1 vs H1 p e1 rs1 re1 rx => ?_
    rw [List.append_nil]
    exact ⟨by rw [rx.length]; exact p.1, q1, s1, xs, rs1, rx, p.2.imp (fun _ _ h => h.ext e1) fun _ _ h => h.ext e1⟩
theorem len_nil {env : EnvD} {st : Sto} {ds : List D} {s : Sto} (h : nilA env st = .ok ds s) : ds.length = 0 := by cases h; rfl
theorem len_cons {fa : EF} {fr : AF} {n : Nat} (hr : ∀ env st ds s, fr env st = .ok ds s → ds.length = n) : ∀ env st ds s, consA fa fr env st = .ok ds s → ds.length = n + 1 := by
  intro env st ds s h
  unfold consA at h
  cases e1 : fa env st with
  | ok x s1 =>
    rw [e1, R.bind_ok] at h
    cases e2 : fr env s1 with
    | ok xs s2 =>
      rw [e2, R.bind_ok] at h
      cases h
      rw [List.length_cons, hr _ _ _ _ e2]
    | ex c s => rw [e2] at h; cases h
    | bad => rw [e2] at h; cases h
  | ex c s => rw [e1] at h; cases h
  | bad => rw [e1] at h; cases h

/-! ### statements -/
theorem LS.chain {g : G} {sg : L2.St} {H : Hp} {f : SF} {q : List Addr} {env : EnvD} {st : Sto} {T : Ends} {K : Fl → Sto → Prop} (rs : RS g q H st) (re : RE g q H sg env) (p : (f env st).post K (KX g q H E))
    (k : ∀ d st', K d st' → KS g q H T d st') : LS g E f T sg H := ⟨q, env, st, rs, re, p.imp k fun _ _ h => h⟩
def nilS : SF := fun env st => .ok (.nx env) st
def seqS (f r : SF) : SF := fun env st => (f env st).bind fun fl s => match fl with
  | .nx e => r e s
  | fl => .ok fl s
theorem lss_nil : PSs X [] (LS (gOf X) E nilS) := pss_nil.imp fun T sg H w => by
  obtain ⟨q, env, st, rs, re, p⟩ := w
  exact p q H Ext.refl rs sg re
theorem lss_one {st : Stmt} {f : SF} (h : PS X st (LS (gOf X) E f)) : PSs X [st] (LS (gOf X) E f) := pss_one h
theorem lss_cons {st : Stmt} {r : List Stmt} {f fr : SF} (h : PS X st (LS (gOf X) E f)) (hr : PSs X r (LS (gOf X) E fr)) : PSs X (st :: r) (LS (gOf X) E (seqS f fr)) := (pss_cons h hr).imp fun T sg H w => by
  obtain ⟨q, env, st, rs, re, p⟩ := w
  refine LS.chain rs re (R.post_bind.mp p) fun fl s p q1 H1 e1 rs1 => ?_
  cases fl with
  | nx e => exact fun sg1 re1 => ⟨q1, e, s, rs1, re1, (show (fr e s).post _ _ from p).imp (fun _ _ h => h.ext e1) fun _ _ h => h.ext e1⟩
  | rt d => exact p q1 H1 e1 rs1
  | bk e => exact p q1 H1 e1 rs1
  | ct e => exact p q1 H1 e1 rs1
theorem ls_pass : PS X (.Pass pos) (LS (gOf X) E nilS) := ps_pass.imp fun T sg H w => by
  obtain ⟨q, env, st, rs, re, p⟩ := w
  exact p q H Ext.refl rs sg re
def bkS : SF := fun env st => .ok (.bk env) st
def ctS : SF := fun env st => .ok (.ct env) st
theorem ls_break : PS X (.Break pos) (LS (gOf X) E bkS) := ps_break.imp fun T sg H w => by
  obtain ⟨q, env, st, rs, re, p⟩ := w
  exact p q H Ext.refl rs sg re
theorem ls_continue : PS X (.Continue pos) (LS (gOf X) E ctS) := ps_continue.imp fun T sg H w => by
  obtain ⟨q, env, st, rs, re, p⟩ := w
  exact p q H Ext.refl rs sg re
def dropS (f : EF) : SF := fun env st => (f env st).bind fun _ s => .ok (.nx env) s
theorem ls_expr {e : Expr} {f : EF} (h : PE X e (LE (gOf X) E f)) (hs : swapsWith e none pos.line X.env = pure false := by rfl) : PS X (.Expr e pos) (LS (gOf X) E (dropS f)) := (ps_expr h hs).imp fun T sg H w => by
  obtain ⟨q, env, st, rs, re, p⟩ := w
  exact LE.chain rs re (R.post_bind.mp p) fun x s1 q1 v H1 p e1 rs1 re1 rx => p q1 H1 e1 rs1 sg re1
def retS (f : EF) : SF := fun env st => (f env st).bind fun d s => .ok (.rt d) s
theorem ls_ret {e : Expr} {f : EF} (h : PE X e (LE (gOf X) E f)) : PS X (.Return (some e) pos) (LS (gOf X) E (retS f)) := (ps_ret h).imp fun T sg H w => by
  obtain ⟨q, env, st, rs, re, p⟩ := w
  exact LE.chain rs re (R.post_bind.mp p) fun x s1 q1 v H1 p e1 rs1 re1 rx => p q1 H1 e1 rs1 v rx
def retN : SF := fun _ st => .ok (.rt .non) st
theorem ls_retN : PS X (.Return none pos) (LS (gOf X) E retN) := ps_retN.imp fun T sg H w => by
  obtain ⟨q, env, st, rs, re, p⟩ := w
  exact p q H Ext.refl rs .non .non
def ifS (t : TF) (f r : SF) : SF := fun env st => (t env st).bind fun c s => if c = true then f env s else r env s
theorem ls_if {c : Expr} {x y : List Stmt} {t : TF} {f r : SF} (hc : PT X c (LT (gOf X) E t)) (hx : PSs X x (LS (gOf X) E f)) (hy : PSs X y (LS (gOf X) E r)) : PS X (.If c x y pos) (LS (gOf X) E (ifS t f r)) := (ps_if hc hx hy).imp fun T sg H w => by
  obtain ⟨q, env, st, rs, re, p⟩ := w
  refine LT.chain rs re (R.post_bind.mp p) fun c s1 q1 H1 p e1 rs1 re1 => ?_
  cases c with
  | true => exact iteT ⟨q1, env, s1, rs1, re1, (show (f env s1).post _ _ from p).imp (fun _ _ h => h.ext e1) fun _ _ h => h.ext e1⟩
  | false => exact iteF ⟨q1, env, s1, rs1, re1, (show (r env s1).post _ _ from p).imp (fun _ _ h => h.ext e1) fun _ _ h => h.ext e1⟩

/-! ### targets -/
abbrev GF := D → EnvD → Sto → R EnvD
def LG (g : G) (E : XK) (f : GF) : TG := fun v sg H Q => ∃ q d env st, RS g q H st ∧ RE g q H sg env ∧ RD g q H v d ∧ (f d env st).post (fun e st' => ∀ q' H' sg', Ext q H q' H' → RS g q' H' st' → RE g q' H' sg' e → Q sg' H') (KX g q H E)
def LGs (g : G) (E : XK) (f : List D → EnvD → Sto → R EnvD) : TGs := fun vs sg H Q => ∃ q ds env st, RS g q H st ∧ RE g q H sg env ∧ RDs g q H vs ds ∧ (f ds env st).post (fun e st' => ∀ q' H' sg', Ext q H q' H' → RS g q' H' st' → RE g q' H' sg' e → Q sg' H') (KX g q H E)
def nameG (i : Nat) : GF := fun d env st => .ok (env.set i (some d)) st
theorem lg_name {e : Expr} {i : Nat} (h : PG X e (gName i)) : PG X e (LG (gOf X) E (nameG i)) := h.imp fun v sg H Q w => by
  obtain ⟨q, d, env, st, rs, re, rd, p⟩ := w
  exact p q H _ Ext.refl rs (re.set rd)
def nilG : List D → EnvD → Sto → R EnvD := fun ds env st => match ds with
  | [] => .ok env st
  | _ => .bad
def consG (f : GF) (r : List D → EnvD → Sto → R EnvD) : List D → EnvD → Sto → R EnvD := fun ds env st => match ds with
  | d :: ds => (f d env st).bind fun e s => r ds e s
  | [] => .bad
theorem lgs_nil : PGs X [] (LGs (gOf X) E nilG) := pgs_nil.imp fun vs sg H Q w => by
  obtain ⟨q, ds, env, st, rs, re, rd, p⟩ := w
  cases rd with
  | nil => exact ⟨rfl, p q H sg Ext.refl rs re⟩
  | cons _ _ => exact False.elim p
theorem lgs_cons {e : Expr} {es : List Expr} {f : GF} {r : List D → EnvD → Sto → R EnvD} (h1 : PG X e (LG (gOf X) E f)) (h2 : PGs X es (LGs (gOf X) E r))
    (hs : (assignEach (e :: es) X.env).map (·.2) = assign e X.env :: (assignEach es X.env).map (·.2) := by rfl) : PGs X (e :: es) (LGs (gOf X) E (consG f r)) := (pgs_cons h1 h2 hs).imp fun vs sg H Q w => by
  obtain ⟨q, ds, env, st, rs, re, rd, p⟩ := w
  cases rd with
  | nil => exact False.elim p
  | cons rd rds =>
    refine ⟨_, _, rfl, q, _, env, st, rs, re, rd, (R.post_bind.mp p).imp (fun e1 s1 p q1 H1 sg1 x1 rs1 re1 => ?_) fun _ _ h => h⟩
    exact ⟨q1, _, e1, s1, rs1, re1, rds.ext x1, (show (r _ e1 s1).post _ _ from p).imp (fun e2 s2 p q2 H2 sg2 x2 rs2 re2 => p q2 H2 sg2 (x1.trans x2) rs2 re2) fun _ _ h => h.ext x1⟩
/-- (a, b, ..) = a tuple -/
def tupG (n : Nat) (f : List D → EnvD → Sto → R EnvD) : GF := fun d env st => match d with
  | .tup ds => if ds.length = n then f ds env st else .bad
  | _ => .bad
theorem lg_tup {es : List Expr} {k : Nat} {f : List D → EnvD → Sto → R EnvD} {n : Nat} (hc : X.calm = true) (h : PGs X es (LGs (gOf X) E f))
    (hn : (assignEach es X.env).length = n := by rfl) (hst : (assignEach es X.env).findIdx? (·.1) = none := by rfl) : PG X (.Tuple es k pos) (LG (gOf X) E (tupG n f)) := (pg_tup hc h hn hst).imp fun v sg H Q w => by
  obtain ⟨q, d, env, st, rs, re, rd, p⟩ := w
  cases d with
  | tup ds =>
    obtain ⟨a, xs, rfl, hs, rx⟩ := rd.tup_inv
    by_cases hl : ds.length = n
    · have z : tupG n f (.tup ds) env st = f ds env st := if_pos hl
      rw [z] at p
      exact ⟨a, xs, rfl, hs, by rw [rx.length]; exact hl, q, ds, env, st, rs, re, rx, p⟩
    · have z : tupG n f (.tup ds) env st = .bad := if_neg hl
      rw [z] at p
      exact False.elim p
  | _ => exact False.elim p
def asgS (f : EF) (gf : GF) : SF := fun env st => (f env st).bind fun d s => (gf d env s).bind fun e s' => .ok (.nx e) s'
theorem asg_le {f : EF} {gf : GF} {T : Ends} {sg : L2.St} {H : Hp} (w : LS (gOf X) E (asgS f gf) T sg H) : tAsg (LE (gOf X) E f) (LG (gOf X) E gf) T sg H := by
  obtain ⟨q, env, st, rs, re, p⟩ := w
  refine LE.chain rs re (R.post_bind.mp p) fun x s1 q1 v H1 p e1 rs1 re1 rx => ?_
  exact ⟨q1, x, env, s1, rs1, re1, rx, (R.post_bind.mp p).imp (fun e2 s2 p q2 H2 sg2 x2 rs2 re2 => p q2 H2 (e1.trans x2) rs2 sg2 re2) fun _ _ h => h.ext e1⟩
theorem ls_asg {tg e : Expr} {f : EF} {gf : GF} (he : PE X e (LE (gOf X) E f)) (hg : PG X tg (LG (gOf X) E gf)) (hs : swapsWithSole [tg] e pos.line X.env = pure false := by rfl) (hw : swappedStores [tg] e X.env = pure none := by rfl)
    (h1 : (assignEach [tg] X.env).map (·.2) = [assign tg X.env] := by rfl) : PS X (.Assign [tg] e pos) (LS (gOf X) E (asgS f gf)) := (ps_asg he hg hs hw h1).imp fun _ _ _ w => asg_le w
def setS (i : Nat) (f : EF) : SF := fun env st => (f env st).bind fun d s => .ok (.nx (env.set i (some d))) s
theorem set_le {i : Nat} {f : EF} {T : Ends} {sg : L2.St} {H : Hp} (w : LS (gOf X) E (setS i f) T sg H) : tAsg (LE (gOf X) E f) (gName i) T sg H := by
  obtain ⟨q, env, st, rs, re, p⟩ := w
  exact LE.chain rs re (R.post_bind.mp p) fun x s1 q1 v H1 p e1 rs1 re1 rx => p q1 H1 e1 rs1 _ (re1.set rx)
theorem ls_set {i : Nat} {x : Str} {e : Expr} {f : EF} {pos' : Pos} (hN : X.N.Nodup) (he : PE X e (LE (gOf X) E f)) (hi : X.N[i]? = some x := by rfl) (hx : Loc X.env.scope x := by first | exact Or.inl rfl | exact Or.inr rfl) (hs : swapsWith e (some (.Name x pos')) pos.line X.env = pure false := by rfl) (hf : X.fn x = true ∨ X.env.scope.names.lookup x = some .local := by first | exact .inl rfl | exact .inr rfl | assumption) :
    PS X (.Assign [.Name x pos'] e pos) (LS (gOf X) E (setS i f)) := (ps_set hN hi hx he hs hf).imp fun _ _ _ w => set_le w
/-! ### a def -/
def startE (n : Nat) (ds : List D) : EnvD := ds.map some ++ List.replicate (n - ds.length) none
def fnF (n : Nat) (f : SF) : Fn := fun ds st => (f (startE n ds) st).bind fun fl s => match fl with
  | .nx _ => .ok .non s
  | .rt d => .ok d s
  | _ => .bad
theorem RE.start {g : G} {q : List Addr} {H : Hp} {vs : List V} {ds : List D} (r : RDs g q H vs ds) (n : Nat) : RE g q H (vs.map some ++ List.replicate (n - vs.length) none) (startE n ds) := by
  have h1 : ∀ {vs : List V} {ds : List D}, RDs g q H vs ds → RE g q H (vs.map some) (ds.map some) := by
    intro vs ds r
    induction r using RDs.rec (motive_1 := fun _ _ _ => True) with
    | nil => exact .nil
    | @cons v vs d ds r t _ ih => exact .cons (fun x e => by cases e; exact ⟨v, rfl, r⟩) ih
    | _ => trivial
  have h2 : ∀ k : Nat, RE g q H (List.replicate k none) (List.replicate k none) := by
    intro k
    induction k with
    | zero => exact .nil
    | succ k ih => exact .cons (fun x e => nomatch e) ih
  unfold startE
  rw [r.length]
  exact Paired.app (h1 r) (h2 _)
theorem fn_le {g : G} {E : XK} {n : Nat} {f : SF} {N : List Str} {vs : List V} {H : Hp} {Q : VK} (hN : N.length = n) (w : LC g E (fnF n f) vs H Q) : LS g E f { nx := fun _ H' => Q .non H', rt := Q } (start N vs) H := by
  obtain ⟨q, st, ds, rs, rd, p⟩ := w
  subst hN
  refine ⟨q, startE N.length ds, st, rs, RE.start rd _, (R.post_bind.mp p).imp (fun fl s p q1 H1 e1 rs1 => ?_) fun _ _ h => h⟩
  cases fl with
  | nx e => exact fun sg re => p q1 _ H1 e1 rs1 .non
  | rt d => exact fun v rv => p q1 v H1 e1 rs1 rv
  | bk e => exact False.elim p
  | ct e => exact False.elim p
end
end VL

/-! VL3: what the built-in operations are on data; loops, comprehensions; the rule for a def. -/
namespace L2
open PySem PySem.Spec PyProof.Rows
section
variable {X : Cx}
theorem OpR.rI0 {op : Value → Value → Sem Value} {v : Int → Int → V} (h : OpR X op (rI0 v)) : OpR X op (rI (fun _ _ => True) v) := h.imp fun x y H Q ⟨i, j, h1, h2, _, h3⟩ => ⟨i, j, h1, h2, h3⟩
theorem PO.imp {e : Option Expr} {t t' : TO} (h : PO X e t) (i : ∀ sg H Q, t' sg H Q → t sg H Q) : PO X e t' := ⟨fun pins s sg H Q I w => h.run pins s sg H Q I (i _ _ _ w)⟩
end
end L2
namespace VL
open PySem PySem.Spec PyProof.Rows L2

section
variable {X : Cx} {E : XK}
/-- a sequence that may be read: list or tuple -/
theorem RO.seqL {g : G} {q : List Addr} {H : Hp} {a : Addr} {ds : List D} (h : RO g q H a (.lst ds) ∨ RO g q H a (.rl ds)) : ∃ xs, SqL g.K H a xs ∧ RDs g q H xs ds := by
  rcases h with ⟨xs, h, r⟩ | ⟨xs, h, r⟩
  · exact ⟨xs, SqL.of h, r⟩
  · exact ⟨xs, h.sq, r⟩
/-- the items of the list n -/
def listAt (st : Sto) (n : Nat) : Option (List D) := match st[n]? with
  | some (.lst xs) => some xs
  | some (.rl xs) => some xs
  | _ => none
theorem listAt_lst {st : Sto} {n : Nat} {xs : List D} (h : st[n]? = some (.lst xs)) : listAt st n = some xs := by unfold listAt; rw [h]
theorem listAt_rl {st : Sto} {n : Nat} {xs : List D} (h : st[n]? = some (.rl xs)) : listAt st n = some xs := by unfold listAt; rw [h]
theorem RS.listAt {g : G} {q : List Addr} {H : Hp} {st : Sto} (rs : RS g q H st) {n : Nat} {ds : List D} (h : listAt st n = some ds) : ∃ a xs, q[n]? = some a ∧ SqL g.K H a xs ∧ RDs g q H xs ds := by
  unfold VL.listAt at h
  split at h
  · rename_i xs e
    cases h
    obtain ⟨a, h1, h2⟩ := rs.get e
    obtain ⟨ys, h3, h4⟩ := RO.seqL (.inl h2)
    exact ⟨a, ys, h1, h3, h4⟩
  · rename_i xs e
    cases h
    obtain ⟨a, h1, h2⟩ := rs.get e
    obtain ⟨ys, h3, h4⟩ := RO.seqL (.inr h2)
    exact ⟨a, ys, h1, h3, h4⟩
  · cases h
theorem RS.lstAt {g : G} {q : List Addr} {H : Hp} {st : Sto} (rs : RS g q H st) {n : Nat} {ds : List D} (h : st[n]? = some (.lst ds)) : ∃ a xs, q[n]? = some a ∧ H a = some (.lst xs) ∧ RDs g q H xs ds := by
  obtain ⟨a, h1, xs, h2, h3⟩ := rs.get h
  exact ⟨a, xs, h1, h2, h3⟩

/-! ### arithmetic -/
def addD : D → D → Sto → R D
  | .int a, .int b, st => .ok (.int (a + b)) st
  | .str a, .str b, st => if a.length + b.length ≤ sizeLine then .ok (.str (a ++ b)) st else .bad
  | .tup a, .tup b, st => if a.length + b.length ≤ sizeLine then .ok (.tup (a ++ b)) st else .bad
  | .ref m, .ref n, st => match st[m]?, st[n]? with
    | some (.lst a), some (.lst b) => if a.length + b.length ≤ sizeLine then newO (.lst (a ++ b)) st else .bad
    | _, _ => .bad
  | _, _, _ => .bad
theorem op_addD : OpR X (binaryOp .Add) (LR (gOf X) E addD) := ((op_add.or op_add_str).or (op_cat.or op_catA)).imp fun x y H Q w => by
  obtain ⟨q, st, a, b, rs, ra, rb, p⟩ := w
  cases a with
  | int i =>
    cases b with
    | int j => rw [ra.int_inv, rb.int_inv]; exact .inl (.inl ⟨i, j, rfl, rfl, p q _ H Ext.refl rs (.int _)⟩)
    | _ => exact False.elim p
  | str i =>
    cases b with
    | str j =>
      rw [ra.str_inv, rb.str_inv]
      by_cases hz : i.length + j.length ≤ sizeLine
      · have p : ((if i.length + j.length ≤ sizeLine then .ok (.str (i ++ j)) st else .bad) : R D).post _ _ := p
        rw [if_pos hz] at p
        exact .inl (.inr ⟨i, j, rfl, rfl, hz, p q _ H Ext.refl rs (.str _)⟩)
      · have p : ((if i.length + j.length ≤ sizeLine then .ok (.str (i ++ j)) st else .bad) : R D).post _ _ := p
        rw [if_neg hz] at p
        exact False.elim p
    | _ => exact False.elim p
  | tup i =>
    cases b with
    | tup j =>
      obtain ⟨a, xs, rfl, sa, rx⟩ := ra.tup_inv
      obtain ⟨b, ys, rfl, sb, ry⟩ := rb.tup_inv
      by_cases hz : i.length + j.length ≤ sizeLine
      · have p : ((if i.length + j.length ≤ sizeLine then .ok (.tup (i ++ j)) st else .bad) : R D).post _ _ := p
        rw [if_pos hz] at p
        have rxy := rx.append ry
        refine .inr (.inr ⟨a, b, xs, ys, rfl, rfl, sa, sb, by rw [rx.length, ry.length]; exact hz, fun e => ?_, fun _ e => ?_, fun _ _ t ht => ?_⟩)
        · subst e
          exact p q _ H Ext.refl rs (.tup sb rxy)
        · subst e
          rw [List.append_nil] at rxy
          exact p q _ H Ext.refl rs (.tup sa rxy)
        · obtain ⟨e2, rs2, r2⟩ := tup_new rs ht rxy
          exact p _ _ _ e2 rs2 r2
      · have p : ((if i.length + j.length ≤ sizeLine then .ok (.tup (i ++ j)) st else .bad) : R D).post _ _ := p
        rw [if_neg hz] at p
        exact False.elim p
    | _ => exact False.elim p
  | ref m =>
    cases b with
    | ref n =>
      have p : (match st[m]?, st[n]? with
        | some (.lst a), some (.lst b) => if a.length + b.length ≤ sizeLine then newO (.lst (a ++ b)) st else .bad
        | _, _ => .bad : R D).post _ _ := p
      split at p
      · rename_i i j e1 e2
        split at p
        · rename_i hz
          obtain ⟨a, xs, qa, ha, rx⟩ := rs.lstAt e1
          obtain ⟨b, ys, qb, hb, ry⟩ := rs.lstAt e2
          obtain ⟨a', rfl, qa'⟩ := ra.ref_inv
          obtain ⟨b', rfl, qb'⟩ := rb.ref_inv
          rw [qa] at qa'; cases qa'
          rw [qb] at qb'; cases qb'
          refine .inr (.inl ⟨a, b, xs, ys, rfl, rfl, ha, hb, by rw [rx.length, ry.length]; exact hz, fun t ht => ?_⟩)
          obtain ⟨e2, rs2, r2⟩ := lst_new rs ht (rx.append ry)
          exact p _ _ _ e2 rs2 r2
        · exact False.elim p
      · exact False.elim p
    | _ => exact False.elim p
  | _ => exact False.elim p
/-- two ints, under a condition -/
def intD (c : Int → Int → Bool) (f : Int → Int → D) : D → D → Sto → R D
  | .int a, .int b, st => if c a b = true then .ok (f a b) st else .bad
  | _, _, _ => .bad
theorem op_intD {op : Value → Value → Sem Value} {C : Int → Int → Prop} {v : Int → Int → V} {c : Int → Int → Bool} {f : Int → Int → D} (h : OpR X op (rI C v)) (hc : ∀ i j, c i j = true → C i j) (hv : ∀ q H i j, RD (gOf X) q H (v i j) (f i j)) : OpR X op (LR (gOf X) E (intD c f)) := h.imp fun x y H Q w => by
  obtain ⟨q, st, a, b, rs, ra, rb, p⟩ := w
  cases a with
  | int i =>
    cases b with
    | int j =>
      have p : ((if c i j = true then .ok (f i j) st else .bad) : R D).post _ _ := p
      split at p
      · rename_i hcc
        exact ⟨i, j, ra.int_inv, rb.int_inv, hc i j hcc, p q _ H Ext.refl rs (hv q H i j)⟩
      · exact False.elim p
    | _ => exact False.elim p
  | _ => exact False.elim p
def yes2 : Int → Int → Bool := fun _ _ => true
abbrev subD := intD yes2 fun a b => .int (a - b)
/-- within the model's line -/
def MulOk (a b : Int) : Prop := a.natAbs.log2 + b.natAbs.log2 < 1000000 ∨ a.natAbs < 2 ^ 64 ∨ b.natAbs < 2 ^ 64
instance {a b : Int} : Decidable (MulOk a b) := inferInstanceAs (Decidable (_ ∨ _ ∨ _))
abbrev mulD := intD (fun a b => decide (MulOk a b)) fun a b => .int (a * b)
abbrev modD := intD (fun _ b => decide (0 < b)) fun a b => .int (a % b)
abbrev divD := intD (fun _ b => decide (0 < b ∧ b.natAbs.log2 < 9000)) fun a b => .int (a / b)
abbrev powD := intD (fun a b => decide (0 ≤ b ∧ b ≤ 1000000 ∧ a.natAbs < 2 ^ 64)) fun a b => .int (a ^ b.toNat)
abbrev ltD := intD yes2 fun a b => .bl (decide (a < b))
abbrev leD := intD yes2 fun a b => .bl (decide (a ≤ b))
abbrev gtD := intD yes2 fun a b => .bl (decide (b < a))
abbrev geD := intD yes2 fun a b => .bl (decide (b ≤ a))
theorem op_subD : OpR X (binaryOp .Sub) (LR (gOf X) E subD) := op_intD op_sub.rI0 (fun _ _ _ => trivial) fun _ _ _ _ => .int _
theorem op_mulD : OpR X (binaryOp .Mult) (LR (gOf X) E mulD) := op_intD (C := MulOk) ((op_mul.or op_mulW).imp fun x y H Q ⟨i, j, e1, e2, c, q⟩ => by
  rcases c with c | c | c
  · exact .inr ⟨i, j, e1, e2, c, q⟩
  · exact .inl ⟨i, j, e1, e2, .inl (by omega), q⟩
  · exact .inl ⟨i, j, e1, e2, .inr (by omega), q⟩) (fun i j h => of_decide_eq_true (p := MulOk i j) h) fun _ _ _ _ => .int _
theorem op_modD : OpR X (binaryOp .Mod) (LR (gOf X) E modD) := op_intD op_mod (fun i j h => of_decide_eq_true (p := 0 < j) h) fun _ _ _ _ => .int _
theorem op_divD : OpR X (binaryOp .FloorDiv) (LR (gOf X) E divD) := op_intD op_fdivW (fun i j h => of_decide_eq_true (p := _ ∧ _) h) fun _ _ _ _ => .int _
theorem op_powD : OpR X (binaryOp .Pow) (LR (gOf X) E powD) := op_intD op_pow (fun i j h => of_decide_eq_true (p := _ ∧ _) h) fun _ _ _ _ => .int _
theorem op_ltD : OpR X (compareOp .Lt) (LR (gOf X) E ltD) := op_intD op_lt.rI0 (fun _ _ _ => trivial) fun _ _ _ _ => .bl _
theorem op_leD : OpR X (compareOp .LtE) (LR (gOf X) E leD) := op_intD op_le.rI0 (fun _ _ _ => trivial) fun _ _ _ _ => .bl _
theorem op_gtD : OpR X (compareOp .Gt) (LR (gOf X) E gtD) := op_intD op_gt.rI0 (fun _ _ _ => trivial) fun _ _ _ _ => .bl _
theorem op_geD : OpR X (compareOp .GtE) (LR (gOf X) E geD) := op_intD op_ge.rI0 (fun _ _ _ => trivial) fun _ _ _ _ => .bl _
def negD : D → Sto → R D
  | .int a, st => .ok (.int (-a)) st
  | _, _ => .bad
def un1 (f : D → Sto → R D) (fa : EF) : EF := fun env st => (fa env st).bind f
theorem le_neg {a : Expr} {fa : EF} {pos : Pos} (ha : PE X a (LE (gOf X) E fa)) : PE X (.UnaryOp .USub a pos) (LE (gOf X) E (un1 negD fa)) := (pe_un un_neg ha).imp fun sg H Q w => by
  obtain ⟨q, env, st, rs, re, p⟩ := w
  refine LE.chain rs re (R.post_bind.mp p) fun x s1 q1 v H1 p e1 rs1 re1 rx => ?_
  cases x with
  | int i => exact ⟨i, rx.int_inv, p q1 _ H1 e1 rs1 (.int _)⟩
  | _ => exact False.elim p

/-! ### == -/
mutual
/-- as the library's data -/
def toPy : D → Option PyData
  | .non => some .none
  | .bl b => some (.bool b)
  | .int i => some (.int i)
  | .str x => some (.str x)
  | .tup xs => (toPys xs).map .tuple
  | .ref _ => none
  | .glb _ => none
  | .ty _ => none
def toPys : List D → Option (List PyData)
  | [] => some []
  | x :: xs => (toPy x).bind fun k => (toPys xs).map fun ks => k :: ks
end
mutual
theorem RD.dp {g : G} {q : List Addr} {H : Hp} : ∀ {v : V} {d : D} {p : PyData}, RD g q H v d → toPy d = some p → Dp g.K H v p
  | _, _, _, .non, e => by cases e; exact .non
  | _, _, _, .bl b, e => by cases e; exact .bl b
  | _, _, _, .int b, e => by cases e; exact .int b
  | _, _, _, .str b, e => by cases e; exact .str b
  | _, .tup ds, p, .tup h r, e => by
    unfold toPy at e
    obtain ⟨ps, h1, h2⟩ := Option.map_eq_some_iff.mp e
    subst h2
    exact .tup h (RDs.dp r h1)
theorem RDs.dp {g : G} {q : List Addr} {H : Hp} : ∀ {v : List V} {d : List D} {p : List PyData}, RDs g q H v d → toPys d = some p → DpAll g.K H v p
  | _, _, _, .nil, e => by cases e; exact .nil
  | _, x :: xs, p, .cons r t, e => by
    unfold toPys at e
    obtain ⟨k, h1, h2⟩ := Option.bind_eq_some_iff.mp e
    obtain ⟨ks, h3, h4⟩ := Option.map_eq_some_iff.mp h2
    subst h4
    exact .cons (RD.dp r h1) (RDs.dp t h3)
end
/-- two scalars of which == is told at once -/
def sEq : D → D → Option Bool
  | .non, .non => some true
  | .non, .int _ => some false | .int _, .non => some false | .non, .bl _ => some false | .bl _, .non => some false | .non, .str _ => some false | .str _, .non => some false
  | .int a, .int b => some (decide (a = b))
  | .bl a, .bl b => some (decide (a = b))
  | .str a, .str b => some (decide (a = b))
  | .int _, .str _ => some false | .str _, .int _ => some false | .bl _, .str _ => some false | .str _, .bl _ => some false
  | _, _ => none
/-- a == b of data without lists -/
def eqP (a b : D) : Option Bool := match sEq a b with
  | some c => some c
  | none => match toPy a, toPy b with
    | some p, some r => if (SeqAt.shaped p && SeqAt.shaped r) = true then some (PyData.eqv p r) else none
    | _, _ => none
def eqD (a b : D) (st : Sto) : R D := match eqP a b with
  | some c => .ok (.bl c) st
  | none => .bad
def neD (a b : D) (st : Sto) : R D := match eqP a b with
  | some c => .ok (.bl (!c)) st
  | none => .bad
theorem sEq_scal {g : G} {q : List Addr} {H : Hp} {x y : V} {a b : D} {c : Bool} (ra : RD g q H x a) (rb : RD g q H y b) (h : sEq a b = some c) : scal x y = true ∧ decide (x = y) = c := by
  cases a <;> cases b <;> first
    | (cases h; done)
    | (cases ra; cases rb; cases h; exact ⟨rfl, by simp⟩)
theorem eqP_of {g : G} {q : List Addr} {H : Hp} {x y : V} {a b : D} {c : Bool} (ra : RD g q H x a) (rb : RD g q H y b) (h : eqP a b = some c) :
    (scal x y = true ∧ decide (x = y) = c) ∨ ∃ d e, Dp g.K H x d ∧ Dp g.K H y e ∧ SeqAt.shaped d = true ∧ SeqAt.shaped e = true ∧ PyData.eqv d e = c := by
  unfold eqP at h
  split at h
  · rename_i c' e
    cases h
    exact .inl (sEq_scal ra rb e)
  · split at h
    · rename_i p r e1 e2
      split at h
      · rename_i hs
        cases h
        rw [Bool.and_eq_true] at hs
        exact .inr ⟨p, r, ra.dp e1, rb.dp e2, hs.1, hs.2, rfl⟩
      · cases h
    · cases h
theorem op_eqDD (hu : X.A.units + 64 < cLine) : OpR X (compareOp .Eq) (LR (gOf X) E eqD) := (op_eq.or (op_eqD hu)).imp fun x y H Q w => by
  obtain ⟨q, st, a, b, rs, ra, rb, p⟩ := w
  unfold eqD at p
  split at p
  · rename_i c e
    have k := p q (.bl c) H Ext.refl rs (.bl c)
    rcases eqP_of ra rb e with ⟨h1, h2⟩ | ⟨d, e, h1, h2, h3, h4, h5⟩
    · exact .inl ⟨h1, by rw [h2]; exact k⟩
    · exact .inr ⟨d, e, h1, h2, h3, h4, by rw [h5]; exact k⟩
  · exact False.elim p
theorem op_neDD (hu : X.A.units + 64 < cLine) : OpR X (compareOp .NotEq) (LR (gOf X) E neD) := (op_ne.or (op_neD hu)).imp fun x y H Q w => by
  obtain ⟨q, st, a, b, rs, ra, rb, p⟩ := w
  unfold neD at p
  split at p
  · rename_i c e
    have k := p q (.bl (!c)) H Ext.refl rs (.bl (!c))
    rcases eqP_of ra rb e with ⟨h1, h2⟩ | ⟨d, e, h1, h2, h3, h4, h5⟩
    · exact .inl ⟨h1, by rw [h2]; exact k⟩
    · exact .inr ⟨d, e, h1, h2, h3, h4, by rw [h5]; exact k⟩
  · exact False.elim p
/-- x is None -/
def isN (neg : Bool) : D → D → Sto → R D
  | a, .non, st => .ok (.bl (match a with | .non => !neg | _ => neg)) st
  | _, _, _ => .bad
theorem RD.isnon {g : G} {q : List Addr} {H : Hp} {x : V} {a : D} (r : RD g q H x a) : decide (x = .non) = (match a with | .non => true | _ => false) := by
  cases r <;> simp
theorem op_isND : OpR X (compareOp .Is) (LR (gOf X) E (isN false)) := op_isN.imp fun x y H Q w => by
  obtain ⟨q, st, a, b, rs, ra, rb, p⟩ := w
  cases b with
  | non =>
    refine ⟨rb.non_inv, ?_⟩
    rw [ra.isnon]
    have k := p q _ H Ext.refl rs (.bl _)
    cases a <;> exact k
  | _ => cases a <;> exact False.elim p
theorem op_notND : OpR X (compareOp .IsNot) (LR (gOf X) E (isN true)) := op_notN.imp fun x y H Q w => by
  obtain ⟨q, st, a, b, rs, ra, rb, p⟩ := w
  cases b with
  | non =>
    refine ⟨rb.non_inv, ?_⟩
    rw [ra.isnon]
    have k := p q _ H Ext.refl rs (.bl _)
    cases a <;> exact k
  | _ => cases a <;> exact False.elim p

/-! ### subscripts, slices -/
def ixD : D → D → Sto → R D
  | .tup xs, .int i, st => match atI xs i with
    | some d => .ok d st
    | none => .bad
  | .ref n, .int i, st => match (listAt st n).bind fun xs => atI xs i with
    | some d => .ok d st
    | none => .bad
  | .str z, .int i, st => if z.length ≤ sizeLine then match atI z.cps.toList i with
    | some c => .ok (.str ⟨#[c]⟩) st
    | none => .bad
    else .bad
  | _, _, _ => .bad
theorem RDs.atI {g : G} {q : List Addr} {H : Hp} {xs : List V} {ds : List D} {i : Int} {d : D} (r : RDs g q H xs ds) (h : atI ds i = some d) : ∃ v, L2.atI xs i = some v ∧ RD g q H v d := by
  unfold L2.atI at h ⊢
  rw [r.length]
  obtain ⟨j, h1, h2⟩ := Option.bind_eq_some_iff.mp h
  rw [h1]
  exact r.get h2
theorem ix_D : IxR X (LR (gOf X) E ixD) := ix_seq.imp fun x y H Q w => by
  obtain ⟨q, st, a, b, rs, ra, rb, p⟩ := w
  cases b with
  | int i =>
    cases a with
    | tup ds =>
      have p : (match atI ds i with | some d => .ok d st | none => .bad : R D).post _ _ := p
      split at p
      · rename_i d e
        obtain ⟨a, xs, rfl, hs, rx⟩ := ra.tup_inv
        obtain ⟨v, h1, h2⟩ := rx.atI e
        exact .inr (.inl ⟨a, xs, i, v, rfl, rb.int_inv, hs, h1, p q v H Ext.refl rs h2⟩)
      · exact False.elim p
    | ref n =>
      have p : (match (listAt st n).bind fun xs => atI xs i with | some d => .ok d st | none => .bad : R D).post _ _ := p
      split at p
      · rename_i d e
        obtain ⟨ds, e1, e2⟩ := Option.bind_eq_some_iff.mp e
        obtain ⟨a, xs, qa, hs, rx⟩ := rs.listAt e1
        obtain ⟨a', rfl, qa'⟩ := ra.ref_inv
        rw [qa] at qa'; cases qa'
        obtain ⟨v, h1, h2⟩ := rx.atI e2
        exact .inl ⟨a, xs, i, v, rfl, rb.int_inv, hs, h1, p q v H Ext.refl rs h2⟩
      · exact False.elim p
    | str z =>
      have p : (if z.length ≤ sizeLine then match atI z.cps.toList i with
        | some c => .ok (.str ⟨#[c]⟩) st
        | none => .bad
        else .bad : R D).post _ _ := p
      split at p
      · rename_i hz
        split at p
        · rename_i c e
          exact .inr (.inr ⟨z, i, c, ra.str_inv, rb.int_inv, hz, e, p q _ H Ext.refl rs (.str _)⟩)
        · exact False.elim p
      · exact False.elim p
    | _ => exact False.elim p
  | _ => cases a <;> exact False.elim p

/-- a part of a slice: none, or an int -/
abbrev OF := EnvD → Sto → R (Option Int)
def LO (g : G) (E : XK) (f : OF) : TO := fun sg H Q => ∃ q env st, RS g q H st ∧ RE g q H sg env ∧ (f env st).post (fun o st' => ∀ q' H', Ext q H q' H' → RS g q' H' st' → Q o H') (KX g q H E)
def nonO : OF := fun _ st => .ok none st
def someO (f : EF) : OF := fun env st => (f env st).bind fun d s => match d with
  | .int i => .ok (some i) s
  | _ => .bad
theorem lo_none : PO X none (LO (gOf X) E nonO) := po_none.imp fun sg H Q w => by
  obtain ⟨q, env, st, rs, re, p⟩ := w
  exact p q H Ext.refl rs
theorem lo_some {e : Expr} {f : EF} (h : PE X e (LE (gOf X) E f)) : PO X (some e) (LO (gOf X) E (someO f)) := (po_some h).imp fun sg H Q w => by
  obtain ⟨q, env, st, rs, re, p⟩ := w
  refine LE.chain rs re (R.post_bind.mp p) fun x s1 q1 v H1 p e1 rs1 re1 rx => ?_
  cases x with
  | int i => exact ⟨i, rx.int_inv, p q1 H1 e1 rs1⟩
  | _ => exact False.elim p
def cutD (xs : List D) (lo hi : Option Int) : List D := (xs.drop (HT.sIx xs.length 0 lo)).take (HT.sIx xs.length xs.length hi - HT.sIx xs.length 0 lo)
theorem RDs.cut {g : G} {q : List Addr} {H : Hp} {xs : List V} {ds : List D} (r : RDs g q H xs ds) (lo hi : Option Int) : RDs g q H (cutV xs lo hi) (cutD ds lo hi) := by
  unfold cutV cutD
  rw [r.length]
  exact (r.drop _).take _
def slD : D → Option Int → Option Int → Sto → R D
  | .tup xs, lo, hi, st => .ok (.tup (cutD xs lo hi)) st
  | .ref n, lo, hi, st => match listAt st n with
    | some xs => newO (.lst (cutD xs lo hi)) st
    | none => .bad
  | .str z, lo, hi, st => if z.length ≤ sizeLine then .ok (.str (cutS z lo hi)) st else .bad
  | _, _, _, _ => .bad
def slF (fa : EF) (fl fh : OF) : EF := fun env st => (fa env st).bind fun d s => (fl env s).bind fun lo s1 => (fh env s1).bind fun hi s2 => slD d lo hi s2
theorem slD_ok {g : G} {q : List Addr} {H : Hp} {Q : VK} {K' : Str → Sto → Prop} {x : V} {d : D} {lo hi : Option Int} {st : Sto} (rs : RS g q H st) (rx : RD g q H x d) (p : (slD d lo hi st).post (KV g q H Q) K') :
    rSlA g.K x lo hi H Q ∨ rSlL g.K x lo hi H Q ∨ rSlS x lo hi H Q := by
  cases d with
  | tup ds =>
    obtain ⟨a, xs, rfl, hs, r⟩ := rx.tup_inv
    refine .inl ⟨a, xs, rfl, hs, fun hw => ?_, fun _ t ht => ?_⟩
    · have e : cutV xs lo hi = xs := by
        unfold cutV
        rw [hw.1, hw.2, List.drop_zero, Nat.sub_zero, List.take_length]
      have rc := r.cut lo hi
      rw [e] at rc
      exact p q _ H Ext.refl rs (.tup hs rc)
    · obtain ⟨e2, rs2, r2⟩ := tup_new rs ht (r.cut lo hi)
      exact p _ _ _ e2 rs2 r2
  | ref n =>
    have p : (match listAt st n with | some xs => newO (.lst (cutD xs lo hi)) st | none => .bad : R D).post _ _ := p
    split at p
    · rename_i ds e
      obtain ⟨a, xs, qa, hs, r⟩ := rs.listAt e
      obtain ⟨a', rfl, qa'⟩ := rx.ref_inv
      rw [qa] at qa'; cases qa'
      refine .inr (.inl ⟨a, xs, rfl, hs, fun t ht => ?_⟩)
      obtain ⟨e2, rs2, r2⟩ := lst_new rs ht (r.cut lo hi)
      exact p _ _ _ e2 rs2 r2
    · exact False.elim p
  | str z =>
    have p : (if z.length ≤ sizeLine then .ok (.str (cutS z lo hi)) st else .bad : R D).post _ _ := p
    split at p
    · rename_i hz
      exact .inr (.inr ⟨z, rx.str_inv, hz, p q _ H Ext.refl rs (.str _)⟩)
    · exact False.elim p
  | _ => exact False.elim p
theorem le_slice {e : Expr} {lo hi : Option Expr} {fa : EF} {fl fh : OF} {pos p2 : Pos} (he : PE X e (LE (gOf X) E fa)) (hl : PO X lo (LO (gOf X) E fl)) (hh : PO X hi (LO (gOf X) E fh)) : PE X (.Subscript e (.Slice lo hi none p2) pos) (LE (gOf X) E (slF fa fl fh)) :=
  (pe_slice (sl_tupA.or (sl_list.or sl_str)) he hl hh).imp fun sg H Q w => by
    obtain ⟨q, env, st, rs, re, p⟩ := w
    refine LE.chain rs re (R.post_bind.mp p) fun d s1 q1 v H1 p e1 rs1 re1 rx => ?_
    refine ⟨q1, env, s1, rs1, re1, (R.post_bind.mp p).imp (fun o s2 p q2 H2 e2 rs2 => ?_) fun _ _ h => h.ext e1⟩
    refine ⟨q2, env, s2, rs2, re1.ext e2, (R.post_bind.mp p).imp (fun o' s3 p q3 H3 e3 rs3 => ?_) fun _ _ h => h.ext (e1.trans e2)⟩
    exact slD_ok rs3 (rx.ext (e2.trans e3)) (p.imp (fun _ _ h => h.ext (e1.trans (e2.trans e3))) fun _ _ h => h)

/-! ### len, tuple, list, min, max, abs -/
def lenD : List D → Sto → R D
  | [.tup xs], st => .ok (.int xs.length) st
  | [.str z], st => if z.length ≤ sizeLine then .ok (.int z.length) st else .bad
  | [.ref n], st => match listAt st n with
    | some xs => .ok (.int xs.length) st
    | none => .bad
  | _, _ => .bad
theorem RDs.one_inv {g : G} {q : List Addr} {H : Hp} {vs : List V} {d : D} (r : RDs g q H vs [d]) : ∃ v, vs = [v] ∧ RD g q H v d := by
  cases r with | cons r t => cases t; exact ⟨_, rfl, r⟩
theorem RDs.two_inv {g : G} {q : List Addr} {H : Hp} {vs : List V} {d e : D} (r : RDs g q H vs [d, e]) : ∃ v w, vs = [v, w] ∧ RD g q H v d ∧ RD g q H w e := by
  cases r with | cons r t => cases t with | cons r' t' => cases t'; exact ⟨_, _, rfl, r, r'⟩
theorem call_lenD : CallR X (.builtin "len") (LC (gOf X) E lenD) := call_len.imp fun vs H Q w => by
  obtain ⟨q, st, ds, rs, rd, p⟩ := w
  unfold lenD at p
  split at p
  · obtain ⟨v, rfl, r⟩ := rd.one_inv
    obtain ⟨a, xs, rfl, hs, rx⟩ := r.tup_inv
    exact ⟨_, xs.length, rfl, .inr ⟨xs, hs, rfl⟩, by rw [rx.length]; exact p q _ H Ext.refl rs (.int _)⟩
  · split at p
    · rename_i hz
      obtain ⟨v, rfl, r⟩ := rd.one_inv
      rw [r.str_inv]
      exact ⟨_, _, rfl, ⟨hz, rfl⟩, p q _ H Ext.refl rs (.int _)⟩
    · exact False.elim p
  · split at p
    · rename_i xs e
      obtain ⟨v, rfl, r⟩ := rd.one_inv
      obtain ⟨a, ys, qa, hs, rx⟩ := rs.listAt e
      obtain ⟨a', rfl, qa'⟩ := r.ref_inv
      rw [qa] at qa'; cases qa'
      exact ⟨_, ys.length, rfl, .inl ⟨ys, hs, rfl⟩, by rw [rx.length]; exact p q _ H Ext.refl rs (.int _)⟩
    · exact False.elim p
  · exact False.elim p
def tupleD : List D → Sto → R D
  | [.tup xs], st => .ok (.tup xs) st
  | [.ref n], st => match listAt st n with
    | some xs => .ok (.tup xs) st
    | none => .bad
  | _, _ => .bad
theorem call_tupleD : CallR X (.type "tuple") (LC (gOf X) E tupleD) := call_tuple_of.imp fun vs H Q w => by
  obtain ⟨q, st, ds, rs, rd, p⟩ := w
  unfold tupleD at p
  split at p
  · obtain ⟨v, rfl, r⟩ := rd.one_inv
    obtain ⟨a, xs, rfl, hs, rx⟩ := r.tup_inv
    exact ⟨a, xs, rfl, .inr ⟨hs, p q _ H Ext.refl rs (.tup hs rx)⟩⟩
  · split at p
    · rename_i xs e
      obtain ⟨v, rfl, r⟩ := rd.one_inv
      obtain ⟨a, ys, qa, hs, rx⟩ := rs.listAt e
      obtain ⟨a', rfl, qa'⟩ := r.ref_inv
      rw [qa] at qa'; cases qa'
      refine ⟨a, ys, rfl, .inl ⟨hs, fun t ht => ?_⟩⟩
      obtain ⟨e2, rs2, r2⟩ := tup_new rs ht rx
      exact p _ _ _ e2 rs2 r2
    · exact False.elim p
  · exact False.elim p
def listD : List D → Sto → R D
  | [.tup xs], st => newO (.lst xs) st
  | [.ref n], st => match listAt st n with
    | some xs => newO (.lst xs) st
    | none => .bad
  | _, _ => .bad
theorem call_listD : CallR X (.type "list") (LC (gOf X) E listD) := call_list_of.imp fun vs H Q w => by
  obtain ⟨q, st, ds, rs, rd, p⟩ := w
  unfold listD at p
  split at p
  · obtain ⟨v, rfl, r⟩ := rd.one_inv
    obtain ⟨a, xs, rfl, hs, rx⟩ := r.tup_inv
    refine ⟨a, xs, rfl, .inr hs, fun t ht => ?_⟩
    obtain ⟨e2, rs2, r2⟩ := lst_new rs ht rx
    exact p _ _ _ e2 rs2 r2
  · split at p
    · rename_i xs e
      obtain ⟨v, rfl, r⟩ := rd.one_inv
      obtain ⟨a, ys, qa, hs, rx⟩ := rs.listAt e
      obtain ⟨a', rfl, qa'⟩ := r.ref_inv
      rw [qa] at qa'; cases qa'
      refine ⟨a, ys, rfl, .inl hs, fun t ht => ?_⟩
      obtain ⟨e2, rs2, r2⟩ := lst_new rs ht rx
      exact p _ _ _ e2 rs2 r2
    · exact False.elim p
  · exact False.elim p
def int2D (f : Int → Int → Int) : List D → Sto → R D
  | [.int a, .int b], st => .ok (.int (f a b)) st
  | _, _ => .bad
theorem call_int2D {id : String} {f : Int → Int → Int} (h : CallR X (.builtin id) (fun xs H Q => ∃ i j, xs = [.int i, .int j] ∧ Q (.int (f i j)) H)) : CallR X (.builtin id) (LC (gOf X) E (int2D f)) := h.imp fun vs H Q w => by
  obtain ⟨q, st, ds, rs, rd, p⟩ := w
  unfold int2D at p
  split at p
  · obtain ⟨v, w', rfl, r1, r2⟩ := rd.two_inv
    exact ⟨_, _, by rw [r1.int_inv, r2.int_inv], p q _ H Ext.refl rs (.int _)⟩
  · exact False.elim p
abbrev minD := int2D fun i j => if j < i then j else i
abbrev maxD := int2D fun i j => if j > i then j else i
theorem call_minD (hc : X.calm = true) : CallR X (.builtin "min") (LC (gOf X) E minD) := call_int2D (call_min2 hc)
theorem call_maxD (hc : X.calm = true) : CallR X (.builtin "max") (LC (gOf X) E maxD) := call_int2D (call_max2 hc)
def bools : List D → Option (List Bool)
  | [] => some []
  | .bl b :: r => (bools r).map fun bs => b :: bs
  | _ :: _ => none
theorem RDs.bools {g : G} {q : List Addr} {H : Hp} : ∀ {vs : List V} {ds : List D} {bs : List Bool}, RDs g q H vs ds → bools ds = some bs → vs = bs.map V.bl
  | _, _, _, .nil, e => by cases e; rfl
  | _, _, bs, .cons (d := .bl b) r t, e => by
    unfold VL.bools at e
    obtain ⟨cs, h1, h2⟩ := Option.map_eq_some_iff.mp e
    subst h2
    rw [r.bl_inv, RDs.bools t h1]
    rfl
  | _, _, _, .cons (d := .non) r t, e => nomatch e
  | _, _, _, .cons (d := .int _) r t, e => nomatch e
  | _, _, _, .cons (d := .str _) r t, e => nomatch e
  | _, _, _, .cons (d := .tup _) r t, e => nomatch e
  | _, _, _, .cons (d := .ref _) r t, e => nomatch e
  | _, _, _, .cons (d := .glb _) r t, e => nomatch e
  | _, _, _, .cons (d := .ty _) r t, e => nomatch e
def allD : List D → Sto → R D
  | [.ref n], st => match (listAt st n).bind bools with
    | some bs => .ok (.bl (bs.all id)) st
    | none => .bad
  | _, _ => .bad
theorem call_allD (hc : X.calm = true) : CallR X (.builtin "all") (LC (gOf X) E allD) := (cr_all hc).imp fun vs H Q w => by
  obtain ⟨q, st, ds, rs, rd, p⟩ := w
  unfold allD at p
  split at p
  · split at p
    · rename_i bs e
      obtain ⟨xs, e1, e2⟩ := Option.bind_eq_some_iff.mp e
      obtain ⟨v, rfl, r⟩ := rd.one_inv
      obtain ⟨a, ys, qa, hs, rx⟩ := rs.listAt e1
      obtain ⟨a', rfl, qa'⟩ := r.ref_inv
      rw [qa] at qa'; cases qa'
      rw [rx.bools e2] at hs
      exact ⟨a, bs, rfl, hs, p q _ H Ext.refl rs (.bl _)⟩
    · exact False.elim p
  · exact False.elim p

/-! ### append -/
/-- a method of a built-in type: the receiver and the arguments -/
def LM (g : G) (E : XK) (f : D → List D → Sto → R D) : V → List V → Hp → VK → Prop := fun v vs H Q => ∃ q st d ds, RS g q H st ∧ RD g q H v d ∧ RDs g q H vs ds ∧ (f d ds st).post (KV g q H Q) (KX g q H E)
/-- the receiver's built-in type, as a method is looked up -/
def tyD (T : String) (d : D) (st : Sto) : Prop := match d with
  | .str _ => T = "str"
  | .ref n => (T = "list" ∧ (listAt st n).isSome = true) ∨ (T = "dict" ∧ ∃ kvs, st[n]? = some (.dic kvs))
  | _ => False
theorem tyD_is {g : G} {q : List Addr} {H : Hp} {st : Sto} {T : String} {pins : List (Addr × Obj)} {sg : L2.St} {s : Shared} {x : V} {d : D} {v : Value} (I : Inv X pins sg H s) (rs : RS (gOf X) q H st) (rx : RD (gOf X) q H x d) (r : RelV x v) (ty : tyD T d st) :
    s.TypeIs v T ∧ ∀ a, v = .ref a → ∃ ob, s.heap.get? a = some ob ∧ ob.dict = none := by
  cases d with
  | str z =>
    refine tyV_is (T := T) I r ?_
    rw [rx.str_inv]
    exact ty
  | ref n =>
    obtain ⟨a, rfl, qa⟩ := rx.ref_inv
    rcases ty with ⟨rfl, h⟩ | ⟨rfl, kvs, h⟩
    · obtain ⟨ds, h⟩ := Option.isSome_iff_exists.mp h
      obtain ⟨b, xs, qb, hs, _⟩ := rs.listAt h
      rw [qa] at qb; cases qb
      exact tyV_is (T := "list") I r (.inl ⟨rfl, xs, hs⟩)
    · obtain ⟨b, qb, hb⟩ := rs.get h
      rw [qa] at qb; cases qb
      rcases hb with ⟨gs, hk, _⟩ | ⟨_, xs, hk, _⟩
      · exact tyV_is (T := "dict") I r (.inr (.inr (.inl ⟨rfl, .inl ⟨gs, hk⟩⟩)))
      · cases r
        obtain ⟨⟨_, o, es, ep, e, ex, _⟩, _⟩ := I.hok a _ hk
        exact ⟨⟨o, e, ex.1⟩, fun b eb => by cases eb; exact ⟨o, e, ex.2.1⟩⟩
  | _ => exact False.elim ty
open Classical in
noncomputable def methF (T : String) (f : D → List D → Sto → R D) (fo : EF) (fa : AF) : EF := fun env st => (fo env st).bind fun d s => if tyD T d s then (fa env s).bind fun ds s' => f d ds s' else .bad
theorem le_bm {T id : String} {f : D → List D → Sto → R D} {o e : Expr} {es : List Expr} {name : Str} {apos cpos : Pos} {fo : EF} {fa : AF} (pa : PlainAttrs T) (slot : Slot T name id) (hty : typeOf (.builtin id) = pure (.type "method_descriptor")) (hm : MtR X id (LM (gOf X) E f)) (ho : PE X o (LE (gOf X) E fo)) (ha : PA X (e :: es) (LA (gOf X) E fa))
    (hbase : attributeBase o name X.env (eval o X.env) = eval o X.env := by rfl)
    (hfew : ((backTo cpos (starEach (e :: es) X.env)).all (fun x => !x.1) && (backToKw cpos (keywordEach [] X.env)).all (fun x => x.1.isSome)
      && decide ((e :: es).length + ([] : List Keyword).length + (if ([] : List Keyword).isEmpty then 0 else 1) < 30)) = true := by rfl)
    (hline : (apos.endLine == cpos.line) = true := by rfl) (hs : starEach (e :: es) X.env = (false, eval e X.env) :: starEach es X.env := by rfl) (hplain : (backTo cpos (starEach es X.env)).any (·.1) = false := by rfl) :
    PE X (.Call (.Attribute o name apos) (e :: es) [] cpos) (LE (gOf X) E (methF T f fo fa)) := by
  refine ⟨fun pins s sg H Q I w => ?_⟩
  obtain ⟨q, env, st, rs, re, p⟩ := w
  have w2 : LE (gOf X) E fo sg H (fun x H1 => ∃ q1 s1 d, RS (gOf X) q1 H1 s1 ∧ RD (gOf X) q1 H1 x d ∧ tyD T d s1 ∧ LA (gOf X) E fa sg H1 fun vs H2 => LM (gOf X) E f x vs H2 Q) := by
    refine LE.chain rs re (R.post_bind.mp p) fun d s1 q1 v H1 p e1 rs1 re1 rx => ?_
    by_cases ht : tyD T d s1
    · rw [if_pos ht] at p
      refine ⟨q1, s1, d, rs1, rx, ht, ?_⟩
      refine LA.chain rs1 re1 ((R.post_bind.mp p).imp (fun _ _ h => h) fun _ _ h => h.ext e1) fun ds s2 q2 vs H2 p e2 rs2 re2 rd => ?_
      exact ⟨q2, s2, d, ds, rs2, rx.ext e2, rd, p.imp (fun _ _ h => h.ext (e1.trans e2)) fun _ _ h => h.ext (e1.trans e2)⟩
    · rw [if_neg ht] at p
      exact False.elim p
  refine wpAny_Call_method_late hbase hfew hline rfl (thn (ho.run pins s sg H _ I w2) fun v s1 ⟨x, H1, I1, r1, q1, st1, d, rs1, rx, ty, w3⟩ => ?_)
  obtain ⟨h1, h2⟩ := tyD_is (g := gOf X) I1 rs1 rx r1 ty
  refine ⟨T, id, pa, slot, hty, h1, h2, ?_⟩
  have hA := ha.run cpos pins s1 sg H1 _ I1 w3
  rw [hs] at hA ⊢
  refine Calls.callWith_builtin (by show (false || (backTo cpos (starEach es X.env)).any (·.1)) = false; rw [hplain] <;> rfl) (Calls.evalArgs_plain ?_)
  exact thn hA fun us s2 ⟨vs, H2, I2, r2, q2⟩ => hm pins s2 sg H2 x vs v us Q I2 r1 r2 q2
theorem le_bm0 {T id : String} {f : D → List D → Sto → R D} {o : Expr} {name : Str} {apos cpos : Pos} {fo : EF} (pa : PlainAttrs T) (slot : Slot T name id) (hty : typeOf (.builtin id) = pure (.type "method_descriptor")) (hm : MtR X id (LM (gOf X) E f)) (ho : PE X o (LE (gOf X) E fo))
    (hbase : attributeBase o name X.env (eval o X.env) = eval o X.env := by rfl) (hline : (apos.endLine == cpos.line) = true := by rfl) : PE X (.Call (.Attribute o name apos) [] [] cpos) (LE (gOf X) E (methF T f fo nilA)) := by
  refine ⟨fun pins s sg H Q I w => ?_⟩
  obtain ⟨q, env, st, rs, re, p⟩ := w
  have w2 : LE (gOf X) E fo sg H (fun x H1 => ∃ q1 s1 d, RS (gOf X) q1 H1 s1 ∧ RD (gOf X) q1 H1 x d ∧ tyD T d s1 ∧ LM (gOf X) E f x [] H1 Q) := by
    refine LE.chain rs re (R.post_bind.mp p) fun d s1 q1 v H1 p e1 rs1 re1 rx => ?_
    by_cases ht : tyD T d s1
    · rw [if_pos ht] at p
      exact ⟨q1, s1, d, rs1, rx, ht, q1, s1, d, [], rs1, rx, .nil, (show (f d [] s1).post _ _ from p).imp (fun _ _ h => h.ext e1) fun _ _ h => h.ext e1⟩
    · rw [if_neg ht] at p
      exact False.elim p
  refine wpAny_Call_method0_late hbase hline (thn (ho.run pins s sg H _ I w2) fun v s1 ⟨x, H1, I1, r1, q1, st1, d, rs1, rx, ty, w3⟩ => ?_)
  obtain ⟨h1, h2⟩ := tyD_is (g := gOf X) I1 rs1 rx r1 ty
  exact ⟨T, id, pa, slot, hty, h1, h2, Calls.callWith_builtin rfl (PySem.evalArgs_none (hm pins s1 sg H1 x [] v [] Q I1 r1 .nil w3))⟩
def appD : D → List D → Sto → R D
  | .ref n, [d], st => match st[n]? with
    | some (.lst xs) => if xs.length < sizeLine then .ok .non (st.set n (.lst (xs ++ [d]))) else .bad
    | _ => .bad
  | _, _, _ => .bad
theorem lst_put {g : G} {q : List Addr} {H : Hp} {st : Sto} {n : Nat} {ds es : List D} {a : Addr} {xs ys : List V} (rs : RS g q H st) (h : st[n]? = some (.lst ds)) (qa : q[n]? = some a) (ha : H a = some (.lst xs)) (r : RDs g q H ys es) :
    RS g q (upd H a (.lst ys)) (st.set n (.lst es)) ∧ Ext q H q (upd H a (.lst ys)) := by
  have mu : Mut (H a) := by rw [ha]; trivial
  have ext : Ext q H q (upd H a (.lst ys)) := ⟨⟨[], by simp⟩, fun b zs h => by
    have hb : b ≠ a := fun e => by
      subst e
      rcases h with h | ⟨ob, h⟩
      · rw [h] at mu; exact mu
      · rw [h] at mu; exact mu
    rcases h with h | ⟨ob, h⟩
    · exact .inl (by rw [upd_ne hb]; exact h)
    · exact .inr ⟨ob, by rw [upd_ne hb]; exact h⟩⟩
  exact rs.put qa (fun zs e => by rw [h] at e; cases e) mu ⟨ys, upd_same, r.ext ext⟩
theorem mt_appD : MtR X "list.append" (LM (gOf X) E appD) := MtR.imp mt_append fun x vs H Q w => by
  obtain ⟨q, st, d, ds, rs, rx, rd, p⟩ := w
  unfold appD at p
  split at p
  · rename_i n e
    split at p
    · rename_i xs hx
      split at p
      · rename_i hz
        obtain ⟨y, rfl, ry⟩ := rd.one_inv
        obtain ⟨a, ys, qa, ha, r⟩ := rs.lstAt hx
        obtain ⟨a', rfl, qa'⟩ := rx.ref_inv
        rw [qa] at qa'; cases qa'
        obtain ⟨rs2, e2⟩ := lst_put rs hx qa ha (r.append (.cons ry .nil))
        exact ⟨a, ys, y, rfl, rfl, ha, by rw [r.length]; exact hz, p q _ _ e2 rs2 .non⟩
      · exact False.elim p
    · exact False.elim p
  · exact False.elim p
end
end VL

/-! VL4: walks, for, list comprehensions, the rule for a def. -/
namespace L2
open PySem PySem.Spec PyProof.Rows
theorem PI.imp {X : Cx} {tg e : Expr} {t t' : TI} (h : PI X tg e t) (i : ∀ sg H R, t' sg H R → t sg H R) : PI X tg e t' := ⟨fun pins s sg H R I w => h.run pins s sg H R I (i _ _ _ w)⟩
theorem PTs.imp {X : Cx} {e : List Expr} {t t' : TT} (h : PTs X e t) (i : ∀ sg H Q, t' sg H Q → t sg H Q) : PTs X e t' := ⟨fun pins s sg H Q I w => h.run pins s sg H Q I (i _ _ _ w)⟩
section
variable {X : Cx} {tg : Expr} {pins : List (Addr × Obj)} {σ : L2.St} {H : Hp} {s : Shared} {R : It → Hp → Prop} {a : Addr} {xs : List V}
theorem iter_l (I : Inv X pins σ H s) (hq : SqL X.K H a xs) (q : R (Itl X.K a) H) : wpAny (model X.prog X.w) X.A (pyIter (.ref a)) (PIE X pins σ tg R) X.xe s := by
  obtain ⟨its, rv, p, hz⟩ := I.list hq
  refine wpAny_pyIter_list p.isList ?_
  refine ⟨s.heap.objs.size, [s.heap.objs.size], _, _, H, rfl, I.kept (t' := s.toks) fun b o e => Heap.get?_push_of_some _ e, turn_list a _, ⟨_, Heap.get?_push_size _ rfl, rfl, rfl⟩, fun b hb => ?_, q⟩
  have e : b = s.heap.objs.size := by simpa using hb
  subst e
  exact I.fpOk (Nat.le_refl _) (I.hok.fresh (Nat.le_refl _))
theorem iter_t (I : Inv X pins σ H s) (hq : SqT X.K H a xs) (q : R (Itt X.K a) H) : wpAny (model X.prog X.w) X.A (pyIter (.ref a)) (PIE X pins σ tg R) X.xe s := by
  obtain ⟨its, rv, p, hz⟩ := I.tuple hq
  refine wpAny_pyIter_tuple (show s.heap.IsTuple a its.toArray from p) ?_
  refine ⟨s.heap.objs.size, [s.heap.objs.size], _, _, H, rfl, I.kept (t' := s.toks) fun b o e => Heap.get?_push_of_some _ e, turn_tuple a _, ⟨_, Heap.get?_push_size _ rfl, rfl, rfl⟩, fun b hb => ?_, q⟩
  have e : b = s.heap.objs.size := by simpa using hb
  subst e
  exact I.fpOk (Nat.le_refl _) (I.hok.fresh (Nat.le_refl _))
theorem iter_s {x : Str} {t : Tok} (I : Inv X pins σ H s) (q : R (Its x) H) : wpAny (model X.prog X.w) X.A (pyIter (.str x t)) (PIE X pins σ tg R) X.xe s := by
  cases ha : x.cps.all (· < 128)
  · exact wpAny_pyIter_wide ha (pi_one (tk := s.toks) I _ (turn_str _ x t "str_iterator" (.inr rfl)) ⟨_, Heap.get?_push_size _ rfl, rfl, rfl⟩ q)
  · exact wpAny_pyIter_ascii ha (pi_one (tk := s.toks) I _ (turn_str _ x t "str_ascii_iterator" (.inl rfl)) ⟨_, Heap.get?_push_size _ rfl, rfl, rfl⟩ q)
end
end L2
namespace VL
open PySem PySem.Spec PyProof.Rows L2 RZ RT

/-! ### what is walked: the items, and what must stand still meanwhile -/
abbrev Chk := List (Nat × O)
def ChkOk (c : Chk) (st : Sto) : Prop := ∀ p ∈ c, st[p.1]? = some p.2
theorem ChkOk.nil {st : Sto} : ChkOk [] st := fun _ h => nomatch h
theorem ChkOk.one {st : Sto} {n : Nat} {o : O} (h : st[n]? = some o) : ChkOk [(n, o)] st := fun p hp => by
  rw [List.mem_singleton] at hp
  subst hp
  exact h
def chkAt (st : Sto) (n : Nat) : Chk := match st[n]? with
  | some o => [(n, o)]
  | none => []
theorem chkAt_list {st st' : Sto} {n : Nat} {xs : List D} (h : listAt st n = some xs) (c : ChkOk (chkAt st n) st') : listAt st' n = some xs := by
  unfold listAt at h
  split at h
  · rename_i ys e
    cases h
    unfold chkAt at c
    rw [e] at c
    exact listAt_lst (c _ (List.mem_singleton.mpr rfl))
  · rename_i ys e
    cases h
    unfold chkAt at c
    rw [e] at c
    exact listAt_rl (c _ (List.mem_singleton.mpr rfl))
  · cases h
abbrev ItF := EnvD → Sto → R (List D × Chk)
def Walks (g : G) (J : It) (q : List Addr) (H : Hp) (p : List D × Chk) : Prop := ∀ i q' H' st', Ext q H q' H' → RS g q' H' st' → ChkOk p.2 st' →
  (p.1.length ≤ i → J.stop i H') ∧ ∀ d, p.1[i]? = some d → J.go i H' ∧ ∀ x H2, J.yld i H' x H2 → Ext q' H' q' H2 ∧ RS g q' H2 st' ∧ RD g q' H2 x d
def KI (g : G) (q : List Addr) (H : Hp) (R : It → Hp → Prop) : List D × Chk → Sto → Prop := fun p st => ∀ q' H' J, Ext q H q' H' → RS g q' H' st → Walks g J q' H' p → R J H'
theorem KI.ext {g : G} {q q' : List Addr} {H H' : Hp} {R : It → Hp → Prop} (e : Ext q H q' H') {p : List D × Chk} {st : Sto} (k : KI g q H R p st) : KI g q' H' R p st := fun q2 H2 J e2 r m => k q2 H2 J (e.trans e2) r m
def LI (g : G) (E : XK) (f : ItF) : TI := fun sg H R => ∃ q env st, RS g q H st ∧ RE g q H sg env ∧ (f env st).post (KI g q H R) (KX g q H E)
theorem RDs.inj_get {g : G} {q : List Addr} {H : Hp} {xs : List V} {ds : List D} (r : RDs g q H xs ds) {i : Nat} {x : V} {d : D} (h1 : xs[i]? = some x) (h2 : ds[i]? = some d) : RD g q H x d := by
  obtain ⟨v, h3, h4⟩ := r.get h2
  rw [h1] at h3; cases h3
  exact h4
theorem walks_l {g : G} {q : List Addr} {H : Hp} {n : Nat} {a : Addr} {ds : List D} {c : Chk} (qa : q[n]? = some a) (hc : ∀ st', ChkOk c st' → listAt st' n = some ds) : Walks g (Itl g.K a) q H (ds, c) := by
  intro i q' H' st' e rs ok
  obtain ⟨b, xs, qb, hs, r⟩ := rs.listAt (hc st' ok)
  rw [e.at qa] at qb; cases qb
  refine ⟨fun hi => ⟨xs, hs, by rw [r.length]; exact hi⟩, fun d hd => ?_⟩
  obtain ⟨x, hx, rx⟩ := r.get hd
  refine ⟨⟨xs, x, hs, hx⟩, fun y H2 ⟨e2, hy⟩ => ?_⟩
  subst e2
  exact ⟨Ext.refl, rs, r.inj_get (hy xs hs) hd⟩
theorem walks_t {g : G} {q : List Addr} {H : Hp} {a : Addr} {xs : List V} {ds : List D} {c : Chk} (hs : SqT g.K H a xs) (r : RDs g q H xs ds) : Walks g (Itt g.K a) q H (ds, c) := by
  intro i q' H' st' e rs ok
  have hs' := sqT_ext e hs
  have r' := r.ext e
  refine ⟨fun hi => ⟨xs, hs', by rw [r.length]; exact hi⟩, fun d hd => ?_⟩
  obtain ⟨x, hx, rx⟩ := r'.get hd
  refine ⟨⟨xs, x, hs', hx⟩, fun y H2 ⟨e2, hy⟩ => ?_⟩
  subst e2
  exact ⟨Ext.refl, rs, r'.inj_get (hy xs hs') hd⟩
def signs (x : Str) : List D := x.cps.toList.map fun c => .str ⟨#[c]⟩
theorem walks_s {g : G} {q : List Addr} {H : Hp} {x : Str} {c : Chk} : Walks g (Its x) q H (signs x, c) := by
  intro i q' H' st' e rs ok
  refine ⟨fun hi => ?_, fun d hd => ?_⟩
  · show x.cps.size ≤ i
    have : (signs x).length = x.cps.size := by simp [signs]
    rw [← this]; exact hi
  · have hd : (signs x)[i]? = some d := hd
    unfold signs at hd
    rw [List.getElem?_map] at hd
    obtain ⟨k, hk, rfl⟩ := Option.map_eq_some_iff.mp hd
    have hk' : x.cps[i]? = some k := by simpa using hk
    refine ⟨(Array.getElem?_eq_some_iff.mp hk').1, fun y H2 ⟨e2, k', h1, h2⟩ => ?_⟩
    subst e2
    rw [hk'] at h1; cases h1
    subst h2
    exact ⟨Ext.refl, rs, .str _⟩
/-- over a list, a tuple, a text -/
def itD (d : D) (st : Sto) : R (List D × Chk) := match d with
  | .tup ds => .ok (ds, []) st
  | .str x => .ok (signs x, []) st
  | .ref n => match listAt st n with
    | some ds => .ok (ds, chkAt st n) st
    | none => .bad
  | _ => .bad
def itF (f : EF) : ItF := fun env st => (f env st).bind itD
section
variable {X : Cx} {E : XK} {tg : Expr}
theorem li_seq {e : Expr} {f : EF} (he : PE X e (LE (gOf X) E f)) : PI X tg e (LI (gOf X) E (itF f)) := by
  refine ⟨fun pins s sg H RR I w => ?_⟩
  obtain ⟨q, env, st, rs, re, p⟩ := w
  have w2 : LE (gOf X) E f sg H (fun x H1 => ∃ q1 s1 d, RS (gOf X) q1 H1 s1 ∧ RD (gOf X) q1 H1 x d ∧ (itD d s1).post (KI (gOf X) q1 H1 RR) (KX (gOf X) q1 H1 E)) :=
    LE.chain rs re (R.post_bind.mp p) fun d s1 q1 v H1 p e1 rs1 re1 rx => ⟨q1, s1, d, rs1, rx, p.imp (fun _ _ h => h.ext e1) fun _ _ h => h.ext e1⟩
  refine thn (he.run pins s sg H _ I w2) fun v s1 ⟨x, H1, I1, r1, q1, st1, d, rs1, rx, p⟩ => ?_
  cases d with
  | tup ds =>
    obtain ⟨a, xs, rfl, hs, r⟩ := rx.tup_inv
    cases r1
    exact iter_t I1 hs (p q1 H1 _ Ext.refl rs1 (walks_t hs r))
  | str z =>
    rw [rx.str_inv] at r1
    obtain ⟨t, rfl⟩ := r1
    exact iter_s I1 (p q1 H1 _ Ext.refl rs1 walks_s)
  | ref n =>
    have p : (match listAt st1 n with | some ds => .ok (ds, chkAt st1 n) st1 | none => .bad : R (List D × Chk)).post _ _ := p
    split at p
    · rename_i ds e
      obtain ⟨a, xs, qa, hs, r⟩ := rs1.listAt e
      obtain ⟨a', rfl, qa'⟩ := rx.ref_inv
      rw [qa] at qa'; cases qa'
      cases r1
      exact iter_l I1 hs (p q1 H1 _ Ext.refl rs1 (walks_l qa fun st' ok => chkAt_list e ok))
    · exact False.elim p
  | _ => exact False.elim p
def intsD (lo c : Int) (n : Nat) : List D := (List.range n).map fun i => .int (lo + (i : Nat) * c)
theorem intsD_len {lo c : Int} {n : Nat} : (intsD lo c n).length = n := by simp [intsD]
theorem intsD_get {lo c : Int} {n i : Nat} {d : D} (h : (intsD lo c n)[i]? = some d) : i < n ∧ d = .int (lo + (i : Nat) * c) := by
  have h1 : i < n := by have l := (List.getElem?_eq_some_iff.mp h).1; rw [intsD_len] at l; exact l
  unfold intsD at h
  rw [List.getElem?_map, List.getElem?_range h1] at h
  exact ⟨h1, (Option.some.inj h).symm⟩
theorem walks_r {g : G} {q : List Addr} {H : Hp} {lo : Int} {n : Nat} {c : Chk} : Walks g (Itr lo n) q H (intsD lo 1 n, c) := by
  intro i q' H' st' e rs ok
  refine ⟨fun hi => ?_, fun d hd => ?_⟩
  · rw [intsD_len] at hi; exact hi
  · obtain ⟨h1, h2⟩ := intsD_get hd
    refine ⟨h1, fun y H2 ⟨e2, h3⟩ => ?_⟩
    subst e2
    subst h2 h3
    rw [Int.mul_one]
    exact ⟨Ext.refl, rs, .int _⟩
theorem walks_c {g : G} {q : List Addr} {H : Hp} {lo k : Int} {n : Nat} {c : Chk} : Walks g (Itc lo k n) q H (intsD lo k n, c) := by
  intro i q' H' st' e rs ok
  refine ⟨fun hi => ?_, fun d hd => ?_⟩
  · rw [intsD_len] at hi; exact hi
  · obtain ⟨h1, h2⟩ := intsD_get hd
    refine ⟨h1, fun y H2 ⟨e2, h3⟩ => ?_⟩
    subst e2
    subst h2 h3
    exact ⟨Ext.refl, rs, .int _⟩
def rng1D : List D → Sto → R (List D × Chk)
  | [.int j], st => if -(2 ^ 62) ≤ j ∧ j < 2 ^ 62 then .ok (intsD 0 1 j.toNat, []) st else .bad
  | _, _ => .bad
def rng2D : List D → Sto → R (List D × Chk)
  | [.int i, .int j], st => if -(2 ^ 62) ≤ i ∧ i < 2 ^ 62 ∧ -(2 ^ 62) ≤ j ∧ j < 2 ^ 62 then .ok (intsD i 1 (j - i).toNat, []) st else .bad
  | _, _ => .bad
def rng3D : List D → Sto → R (List D × Chk)
  | [.int i, .int j, .int c], st => if c ≠ 0 ∧ c.natAbs < 1073741824 ∧ Builtin.Range.small i j c = true ∧ 0 ≤ Builtin.Range.rangeSize i j c then .ok (intsD i c (Builtin.Range.rangeSize i j c).toNat, []) st else .bad
  | _, _ => .bad
def itA (f : List D → Sto → R (List D × Chk)) (fa : AF) : ItF := fun env st => (fa env st).bind f
theorem itA_le {f : List D → Sto → R (List D × Chk)} {fa : AF} {sg : L2.St} {H : Hp} {RR : It → Hp → Prop} (w : LI (gOf X) E (itA f fa) sg H RR) {T : List V → Hp → Prop}
    (k : ∀ q st ds vs H, RS (gOf X) q H st → RDs (gOf X) q H vs ds → (f ds st).post (KI (gOf X) q H RR) (KX (gOf X) q H E) → T vs H) : LA (gOf X) E fa sg H T := by
  obtain ⟨q, env, st, rs, re, p⟩ := w
  exact LA.chain rs re (R.post_bind.mp p) fun ds s1 q1 vs H1 p e1 rs1 re1 rx => k q1 s1 ds vs H1 rs1 rx (p.imp (fun _ _ h => h.ext e1) fun _ _ h => h.ext e1)
theorem RDs.three_inv {g : G} {q : List Addr} {H : Hp} {vs : List V} {d e f : D} (r : RDs g q H vs [d, e, f]) : ∃ v w u, vs = [v, w, u] ∧ RD g q H v d ∧ RD g q H w e ∧ RD g q H u f := by
  cases r with | cons r t => cases t with | cons r' t' => cases t' with | cons r2 t2 => cases t2; exact ⟨_, _, _, rfl, r, r', r2⟩
theorem li_rng1 {a : Expr} {fa : AF} {p pos : Pos} (hg : Gl X "range") (hm : X.mg "range" = none) (ha : PA X [a] (LA (gOf X) E fa)) (hs : starEach [a] X.env = [(false, eval a X.env)] := by rfl) : PI X tg (.Call (.Name "range" p) [a] [] pos) (LI (gOf X) E (itA rng1D fa)) :=
  (pi_range1 hg hm ha hs).imp fun sg H RR w => itA_le w fun q st ds vs H rs rd p => by
    unfold rng1D at p
    split at p
    · split at p
      · rename_i h
        obtain ⟨v, rfl, r⟩ := rd.one_inv
        rw [r.int_inv]
        exact ⟨_, rfl, h.1, h.2, p q H _ Ext.refl rs walks_r⟩
      · exact False.elim p
    · exact False.elim p
theorem li_rng2 {a b : Expr} {fa : AF} {p pos : Pos} (hg : Gl X "range") (hm : X.mg "range" = none) (ha : PA X [a, b] (LA (gOf X) E fa)) (hs : starEach [a, b] X.env = [(false, eval a X.env), (false, eval b X.env)] := by rfl) (hs2 : starEach [b] X.env = [(false, eval b X.env)] := by rfl) :
    PI X tg (.Call (.Name "range" p) [a, b] [] pos) (LI (gOf X) E (itA rng2D fa)) :=
  (pi_range2 hg hm ha hs hs2).imp fun sg H RR w => itA_le w fun q st ds vs H rs rd p => by
    unfold rng2D at p
    split at p
    · split at p
      · rename_i h
        obtain ⟨v, u, rfl, r, r'⟩ := rd.two_inv
        rw [r.int_inv, r'.int_inv]
        exact ⟨_, _, rfl, h, p q H _ Ext.refl rs walks_r⟩
      · exact False.elim p
    · exact False.elim p
theorem li_rng3 {a b c : Expr} {fa : AF} {pos : Pos} {e : Expr} (h : PI X tg e (iRng3 (LA (gOf X) E fa))) : PI X tg e (LI (gOf X) E (itA rng3D fa)) :=
  h.imp fun sg H RR w => itA_le w fun q st ds vs H rs rd p => by
    unfold rng3D at p
    split at p
    · split at p
      · rename_i h
        obtain ⟨v, u, z, rfl, r, r', r2⟩ := rd.three_inv
        rw [r.int_inv, r'.int_inv, r2.int_inv]
        exact ⟨_, _, _, _, rfl, ⟨h.1, h.2.1, h.2.2.1, (Int.toNat_of_nonneg h.2.2.2).symm⟩, p q H _ Ext.refl rs walks_c⟩
      · exact False.elim p
    · exact False.elim p
/-- pairs of two walked together -/
def pairD (p : D × D) : D := .tup [p.1, p.2]
theorem zip_get {xs ys : List D} {i : Nat} {d : D} (h : ((xs.zip ys).map pairD)[i]? = some d) : ∃ x y, xs[i]? = some x ∧ ys[i]? = some y ∧ d = .tup [x, y] := by
  rw [List.getElem?_map] at h
  obtain ⟨⟨x, y⟩, h1, rfl⟩ := Option.map_eq_some_iff.mp h
  obtain ⟨h2, h3⟩ := List.getElem?_zip_eq_some.mp h1
  exact ⟨x, y, h2, h3, rfl⟩
theorem walks_zt {g : G} {q : List Addr} {H : Hp} {a b : Addr} {xs ys : List V} {ds es : List D} {c : Chk} (ha : SqT g.K H a xs) (r : RDs g q H xs ds) (hb : SqT g.K H b ys) (r' : RDs g q H ys es) : Walks g (ItzT g.K a b) q H ((ds.zip es).map pairD, c) := by
  intro i q' H' st' e rs ok
  have ha' := sqT_ext e ha
  have hb' := sqT_ext e hb
  have r := r.ext e
  have r' := r'.ext e
  refine ⟨fun hi => ⟨xs, ys, ha', hb', ?_⟩, fun d hd => ?_⟩
  · have hi : ((ds.zip es).map pairD).length ≤ i := hi
    rw [List.length_map, List.length_zip] at hi
    rw [r.length, r'.length]
    omega
  · obtain ⟨x, y, h1, h2, rfl⟩ := zip_get hd
    obtain ⟨u, hu, ru⟩ := r.get h1
    obtain ⟨v, hv, rv⟩ := r'.get h2
    refine ⟨⟨xs, ys, u, v, ha', hb', hu, hv⟩, fun z H2 ⟨T, x1, y1, hz, nT, h3, h4, h5⟩ => ?_⟩
    subst hz h3
    have e1 := h4 xs ha'
    rw [hu] at e1; cases e1
    have e2 := h5 ys hb'
    rw [hv] at e2; cases e2
    exact tup_new rs nT (.cons ru (.cons rv .nil))
theorem walks_zl {g : G} {q : List Addr} {H : Hp} {m n : Nat} {a b : Addr} {ds es : List D} {c : Chk} (qa : q[m]? = some a) (qb : q[n]? = some b) (hc : ∀ st', ChkOk c st' → listAt st' m = some ds ∧ listAt st' n = some es) : Walks g (Itz g.K a b) q H ((ds.zip es).map pairD, c) := by
  intro i q' H' st' e rs ok
  obtain ⟨ha, hb⟩ := hc st' ok
  obtain ⟨a', xs, qa', ha', r⟩ := rs.listAt ha
  obtain ⟨b', ys, qb', hb', r'⟩ := rs.listAt hb
  rw [e.at qa] at qa'; cases qa'
  rw [e.at qb] at qb'; cases qb'
  refine ⟨fun hi => ⟨xs, ys, ha', hb', ?_⟩, fun d hd => ?_⟩
  · have hi : ((ds.zip es).map pairD).length ≤ i := hi
    rw [List.length_map, List.length_zip] at hi
    rw [r.length, r'.length]
    omega
  · obtain ⟨x, y, h1, h2, rfl⟩ := zip_get hd
    obtain ⟨u, hu, ru⟩ := r.get h1
    obtain ⟨v, hv, rv⟩ := r'.get h2
    refine ⟨⟨xs, ys, u, v, ha', hb', hu, hv⟩, fun z H2 ⟨T, x1, y1, hz, nT, h3, h4, h5⟩ => ?_⟩
    subst hz h3
    have e1 := h4 xs ha'
    rw [hu] at e1; cases e1
    have e2 := h5 ys hb'
    rw [hv] at e2; cases e2
    exact tup_new rs nT (.cons ru (.cons rv .nil))
def zipD : List D → Sto → R (List D × Chk)
  | [.tup ds, .tup es], st => .ok ((ds.zip es).map pairD, []) st
  | [.ref m, .ref n], st => match listAt st m, listAt st n with
    | some ds, some es => .ok ((ds.zip es).map pairD, chkAt st m ++ chkAt st n) st
    | _, _ => .bad
  | _, _ => .bad
theorem li_zip {e : Expr} {fa : AF} (h : PI X tg e (iZipA X.K (LA (gOf X) E fa))) : PI X tg e (LI (gOf X) E (itA zipD fa)) :=
  h.imp fun sg H RR w => itA_le w fun q st ds vs H rs rd p => by
    unfold zipD at p
    split at p
    · obtain ⟨v, u, rfl, r, r'⟩ := rd.two_inv
      obtain ⟨a, xs, rfl, ha, ra⟩ := r.tup_inv
      obtain ⟨b, ys, rfl, hb, rb⟩ := r'.tup_inv
      exact ⟨a, b, xs, ys, rfl, .inr ⟨ha, hb, p q H _ Ext.refl rs (walks_zt ha ra hb rb)⟩⟩
    · split at p
      · rename_i ds es e1 e2
        obtain ⟨v, u, rfl, r, r'⟩ := rd.two_inv
        obtain ⟨a, xs, qa, ha, _⟩ := rs.listAt e1
        obtain ⟨b, ys, qb, hb, _⟩ := rs.listAt e2
        obtain ⟨a', rfl, qa'⟩ := r.ref_inv
        obtain ⟨b', rfl, qb'⟩ := r'.ref_inv
        rw [qa] at qa'; cases qa'
        rw [qb] at qb'; cases qb'
        exact ⟨a, b, xs, ys, rfl, .inl ⟨ha, hb, p q H _ Ext.refl rs (walks_zl qa qb fun st' ok => ⟨chkAt_list e1 fun z hz => ok z (List.mem_append_left _ hz), chkAt_list e2 fun z hz => ok z (List.mem_append_right _ hz)⟩)⟩⟩
      · exact False.elim p
    · exact False.elim p

/-! ### for -/
open Classical in
noncomputable def forL (c : Chk) (gf : GF) (body : SF) : List D → EnvD → Sto → R Fl
  | [], env, st => if ChkOk c st then .ok (.nx env) st else .bad
  | x :: r, env, st => if ChkOk c st then (gf x env st).bind fun e s => (body e s).bind fun fl s' => match fl with
      | .nx e' => forL c gf body r e' s'
      | .ct e' => forL c gf body r e' s'
      | .bk e' => .ok (.nx e') s'
      | .rt d => .ok (.rt d) s'
    else .bad
noncomputable def forS (it : ItF) (gf : GF) (body : SF) : SF := fun env st => (it env st).bind fun p s => forL p.2 gf body p.1 env s
theorem drop_cons {A : Type} {l : List A} {i : Nat} {x : A} (h : l[i]? = some x) : l.drop i = x :: l.drop (i + 1) := by
  obtain ⟨hl, e⟩ := List.getElem?_eq_some_iff.mp h
  rw [List.drop_eq_getElem_cons hl, e]
theorem ls_for {iter : Expr} {body : List Stmt} {it : ItF} {gf : GF} {fb : SF} {pos : Pos} (hp : PassesOwn (model X.prog X.w) X.A X.env X.xe) (hc : X.calm = true) (hi : PI X tg iter (LI (gOf X) E it)) (hg : PG X tg (LG (gOf X) E gf)) (hb : PSs X body (LS (gOf X) E fb))
    (hs : ∀ x, foldedSetIterable iter X.env x = pure x := by intro _; rfl) : PS X (.For tg iter body [] pos) (LS (gOf X) E (forS it gf fb)) := (ps_for hp hc hi hg hb hs).imp fun T sg H w => by
  obtain ⟨q, env, st, rs, re, p⟩ := w
  refine ⟨q, env, st, rs, re, (R.post_bind.mp p).imp (fun pr s1 p q1 H1 J e1 rs1 wk => ?_) fun _ _ h => h⟩
  obtain ⟨ds, c⟩ := pr
  refine ⟨fun i m sg2 H2 => ∃ q2 env2 st2, RS (gOf X) q2 H2 st2 ∧ RE (gOf X) q2 H2 sg2 env2 ∧ Ext q1 H1 q2 H2 ∧ i ≤ ds.length ∧ m = ds.length - i ∧ (forL c gf fb (ds.drop i) env2 st2).post (KS (gOf X) q2 H2 T) (KX (gOf X) q2 H2 E),
    ⟨_, q1, env, s1, rs1, re.ext e1, Ext.refl, Nat.zero_le _, rfl, (show (forL c gf fb ds env s1).post _ _ from p).imp (fun _ _ h => h.ext e1) fun _ _ h => h.ext e1⟩, ?_⟩
  rintro i m sg2 H2 ⟨q2, env2, st2, rs2, re2, e2, hil, rfl, p⟩
  by_cases hlt : i < ds.length
  · have hd : ds[i]? = some ds[i] := List.getElem?_eq_getElem hlt
    rw [drop_cons hd] at p
    unfold forL at p
    by_cases ok : ChkOk c st2
    · rw [if_pos ok] at p
      obtain ⟨go, yld⟩ := (wk i q2 H2 st2 e2 rs2 ok).2 _ hd
      refine .inr ⟨go, fun sg3 H3 => ∃ q3 env3 st3, RS (gOf X) q3 H3 st3 ∧ RE (gOf X) q3 H3 sg3 env3 ∧ Ext q1 H1 q3 H3 ∧ (forL c gf fb (ds.drop (i + 1)) env3 st3).post (KS (gOf X) q3 H3 T) (KX (gOf X) q3 H3 E), ?_, fun x H3 y => ?_⟩
      · rintro sg3 H3 ⟨q3, env3, st3, rs3, re3, e3, p3⟩
        exact ⟨ds.length - (i + 1), by omega, q3, env3, st3, rs3, re3, e3, by omega, rfl, p3⟩
      · obtain ⟨e3, rs3, rx⟩ := yld x H3 y
        refine ⟨q2, _, env2, st2, rs3, re2.ext e3, rx, (R.post_bind.mp p).imp (fun en s4 p q4 H4 sg4 e4 rs4 re4 => ?_) fun _ _ h => h.ext e3⟩
        refine ⟨q4, en, s4, rs4, re4, (R.post_bind.mp p).imp (fun fl s5 p q5 H5 e5 rs5 => ?_) fun _ _ h => h.ext (e3.trans e4)⟩
        have e25 : Ext q2 H2 q5 H5 := e3.trans (e4.trans e5)
        cases fl with
        | nx e => exact fun sg5 re5 => ⟨q5, e, s5, rs5, re5, e2.trans e25, (show (forL c gf fb (ds.drop (i + 1)) e s5).post _ _ from p).imp (fun _ _ h => h.ext e25) fun _ _ h => h.ext e25⟩
        | ct e => exact fun sg5 re5 => ⟨q5, e, s5, rs5, re5, e2.trans e25, (show (forL c gf fb (ds.drop (i + 1)) e s5).post _ _ from p).imp (fun _ _ h => h.ext e25) fun _ _ h => h.ext e25⟩
        | bk e => exact fun sg5 re5 => p q5 H5 e25 rs5 sg5 re5
        | rt d => exact fun v rv => p q5 H5 e25 rs5 v rv
    · rw [if_neg ok] at p
      exact False.elim p
  · have e : i = ds.length := by omega
    subst e
    rw [List.drop_length] at p
    unfold forL at p
    by_cases ok : ChkOk c st2
    · rw [if_pos ok] at p
      exact .inl ⟨(wk _ q2 H2 st2 e2 rs2 ok).1 (Nat.le_refl _), p q2 H2 Ext.refl rs2 sg2 re2⟩
    · rw [if_neg ok] at p
      exact False.elim p

/-! ### list comprehensions -/
def wipeE (env : EnvD) : List Nat → EnvD
  | [] => env
  | v :: vs => (wipeE env vs).set v none
theorem RE.wipe {g : G} {q : List Addr} {H : Hp} {sg : L2.St} {env : EnvD} (r : RE g q H sg env) : ∀ vs : List Nat, RE g q H (wipe sg vs) (wipeE env vs)
  | [] => r
  | v :: vs => Paired.set_ (fun x e => nomatch e) v (RE.wipe r vs)
/-- a target that stores names of vs alone -/
def LGw (g : G) (E : XK) (vs : List Nat) (f : GF) : TG := fun v sg H Q => ∃ q d env st, RS g q H st ∧ RE g q H sg env ∧ RD g q H v d ∧ (f d env st).post (fun e st' => ∀ q' H' sg', Ext q H q' H' → RS g q' H' st' → RE g q' H' sg' e → wipe sg' vs = wipe sg vs → Q sg' H') (KX g q H E)
def LGws (g : G) (E : XK) (vs : List Nat) (f : List D → EnvD → Sto → R EnvD) : TGs := fun xs sg H Q => ∃ q ds env st, RS g q H st ∧ RE g q H sg env ∧ RDs g q H xs ds ∧ (f ds env st).post (fun e st' => ∀ q' H' sg', Ext q H q' H' → RS g q' H' st' → RE g q' H' sg' e → wipe sg' vs = wipe sg vs → Q sg' H') (KX g q H E)
theorem wipe_set {sg : L2.St} {i : Nat} {v : Option V} : ∀ {vs : List Nat}, i ∈ vs → wipe (sg.set i v) vs = wipe sg vs
  | j :: vs, h => by
    unfold wipe
    by_cases hj : i ∈ vs
    · rw [wipe_set hj]
    · have e : i = j := by
        rcases List.mem_cons.mp h with e | e
        · exact e
        · exact absurd e hj
      subst e
      have comm : ∀ {ws : List Nat}, i ∉ ws → wipe (sg.set i v) ws = (wipe sg ws).set i v := by
        intro ws
        induction ws with
        | nil => intro _; rfl
        | cons w ws ih =>
          intro hn
          unfold wipe
          rw [ih (fun z => hn (List.mem_cons_of_mem _ z))]
          exact List.set_comm _ _ (fun z => hn (by rw [z]; exact List.mem_cons_self))
      rw [comm hj, List.set_set]
theorem lgw_name {e : Expr} {i : Nat} {vs : List Nat} (h : PG X e (gName i)) (hi : i ∈ vs) : PG X e (LGw (gOf X) E vs (nameG i)) := h.imp fun v sg H Q w => by
  obtain ⟨q, d, env, st, rs, re, rd, p⟩ := w
  exact p q H _ Ext.refl rs (re.set rd) (wipe_set hi)
theorem lgws_nil {vs : List Nat} : PGs X [] (LGws (gOf X) E vs nilG) := pgs_nil.imp fun xs sg H Q w => by
  obtain ⟨q, ds, env, st, rs, re, rd, p⟩ := w
  cases rd with
  | nil => exact ⟨rfl, p q H sg Ext.refl rs re rfl⟩
  | cons _ _ => exact False.elim p
theorem lgws_cons {e : Expr} {es : List Expr} {f : GF} {r : List D → EnvD → Sto → R EnvD} {vs : List Nat} (h1 : PG X e (LGw (gOf X) E vs f)) (h2 : PGs X es (LGws (gOf X) E vs r))
    (hs : (assignEach (e :: es) X.env).map (·.2) = assign e X.env :: (assignEach es X.env).map (·.2) := by rfl) : PGs X (e :: es) (LGws (gOf X) E vs (consG f r)) := (pgs_cons h1 h2 hs).imp fun xs sg H Q w => by
  obtain ⟨q, ds, env, st, rs, re, rd, p⟩ := w
  cases rd with
  | nil => exact False.elim p
  | cons rd rds =>
    refine ⟨_, _, rfl, q, _, env, st, rs, re, rd, (R.post_bind.mp p).imp (fun e1 s1 p q1 H1 sg1 x1 rs1 re1 hw => ?_) fun _ _ h => h⟩
    exact ⟨q1, _, e1, s1, rs1, re1, rds.ext x1, (show (r _ e1 s1).post _ _ from p).imp (fun e2 s2 p q2 H2 sg2 x2 rs2 re2 hw2 => p q2 H2 sg2 (x1.trans x2) rs2 re2 (hw2.trans hw)) fun _ _ h => h.ext x1⟩
theorem lgw_tup {es : List Expr} {k : Nat} {f : List D → EnvD → Sto → R EnvD} {n : Nat} {vs : List Nat} {pos : Pos} (hc : X.calm = true) (h : PGs X es (LGws (gOf X) E vs f))
    (hn : (assignEach es X.env).length = n := by rfl) (hst : (assignEach es X.env).findIdx? (·.1) = none := by rfl) : PG X (.Tuple es k pos) (LGw (gOf X) E vs (tupG n f)) := (pg_tup hc h hn hst).imp fun v sg H Q w => by
  obtain ⟨q, d, env, st, rs, re, rd, p⟩ := w
  cases d with
  | tup ds =>
    obtain ⟨a, xs, rfl, hs, rx⟩ := rd.tup_inv
    by_cases hl : ds.length = n
    · have z : tupG n f (.tup ds) env st = f ds env st := if_pos hl
      rw [z] at p
      exact ⟨a, xs, rfl, hs, by rw [rx.length]; exact hl, q, ds, env, st, rs, re, rx, p⟩
    · have z : tupG n f (.tup ds) env st = .bad := if_neg hl
      rw [z] at p
      exact False.elim p
  | _ => exact False.elim p
open Classical in
noncomputable def lcL (c : Chk) (gf : GF) (tt : TF) (te : EF) (env : EnvD) (n : Nat) : List D → Sto → R Unit
  | [], st => if ChkOk c st then .ok () st else .bad
  | x :: r, st => if ChkOk c st then (gf x env st).noex.bind fun e s => (tt e s).noex.bind fun b s1 => if b = true then (te e s1).noex.bind fun d s2 => match s2[n]? with
        | some (.lst acc) => if acc.length < sizeLine then lcL c gf tt te env n r (s2.set n (.lst (acc ++ [d]))) else .bad
        | _ => .bad
      else lcL c gf tt te env n r s1
    else .bad
noncomputable def lcF (it : ItF) (vs : List Nat) (gf : GF) (tt : TF) (te : EF) : EF := fun env st => (it env st).bind fun p s => (lcL p.2 gf tt te (wipeE env vs) s.length p.1 (s ++ [.lst []])).bind fun _ s' => .ok (.ref s.length) s'
def yesT : TF := fun _ st => .ok true st
theorem lts_nil : PTs X [] (LT (gOf X) E yesT) := pts_nil.imp fun sg H Q w => by
  obtain ⟨q, env, st, rs, re, p⟩ := w
  exact p q H Ext.refl rs
theorem lts_one {c : Expr} {t : TF} (h : PT X c (LT (gOf X) E t)) : PTs X [c] (LT (gOf X) E t) := pts_one h
theorem lc_le {it : ItF} {vs : List Nat} {gf : GF} {tt : TF} {te : EF} {sg : L2.St} {H : Hp} {Q : VK} (w : LE (gOf X) E (lcF it vs gf tt te) sg H Q) : tLc (LI (gOf X) E it) (LGw (gOf X) E0 vs gf) (LT (gOf X) E0 tt) (LE (gOf X) E0 te) vs sg H Q := by
  obtain ⟨q, env, st, rs, re, p⟩ := w
  refine ⟨q, env, st, rs, re, (R.post_bind.mp p).imp (fun pr s1 p q1 H1 J e1 rs1 wk D hD => ?_) fun _ _ h => h⟩
  obtain ⟨ds, c⟩ := pr
  have p := R.post_bind.mp p
  obtain ⟨e2, rs2, r2⟩ := lst_new (xs := []) (ds := []) rs1 hD .nil
  have qD : (q1 ++ [D])[s1.length]? = some D := by rw [← rs1.len]; simp
  refine ⟨fun i m H3 => ∃ q3 st3, RS (gOf X) q3 H3 st3 ∧ Ext (q1 ++ [D]) (upd H1 D (.lst [])) q3 H3 ∧ i ≤ ds.length ∧ m = ds.length - i ∧ (lcL c gf tt te (wipeE env vs) s1.length (ds.drop i) st3).post (fun _ st' => KV (gOf X) q3 H3 Q (.ref s1.length) st') (KX (gOf X) q3 H3 E),
    ⟨_, q1 ++ [D], s1 ++ [O.lst []], rs2, Ext.refl, Nat.zero_le _, rfl, (show (lcL c gf tt te (wipeE env vs) s1.length ds (s1 ++ [.lst []])).post _ _ from p).imp (fun _ _ h => KV.ext (e1.trans e2) h) fun _ _ h => h.ext (e1.trans e2)⟩, ?_⟩
  rintro i m H3 ⟨q3, st3, rs3, e3, hil, rfl, p⟩
  have reW : RE (gOf X) q3 H3 (wipe sg vs) (wipeE env vs) := (re.ext (e1.trans (e2.trans e3))).wipe vs
  by_cases hlt : i < ds.length
  · have hd : ds[i]? = some ds[i] := List.getElem?_eq_getElem hlt
    rw [drop_cons hd] at p
    unfold lcL at p
    by_cases ok : ChkOk c st3
    · rw [if_pos ok] at p
      obtain ⟨go, yld⟩ := (wk i q3 H3 st3 (e2.trans e3) rs3 ok).2 _ hd
      refine .inr ⟨go, fun H4 => ∃ q4 st4, RS (gOf X) q4 H4 st4 ∧ Ext (q1 ++ [D]) (upd H1 D (.lst [])) q4 H4 ∧ (lcL c gf tt te (wipeE env vs) s1.length (ds.drop (i + 1)) st4).post (fun _ st' => KV (gOf X) q4 H4 Q (.ref s1.length) st') (KX (gOf X) q4 H4 E), ?_, fun x H4 y => ?_⟩
      · rintro H4 ⟨q4, st4, rs4, e4, p4⟩
        exact ⟨ds.length - (i + 1), by omega, q4, st4, rs4, e4, by omega, rfl, p4⟩
      · obtain ⟨e4, rs4, rx⟩ := yld x H4 y
        refine ⟨q3, _, _, st3, rs4, reW.ext e4, rx, R.post_noex ((R.post_bind.mp p).imp (fun en s5 p q5 H5 sg5 e5 rs5 re5 hw => ?_) fun _ _ h => h)⟩
        have hww : wipe (wipe sg vs) vs = wipe sg vs := by
          have all : ∀ (ws : List Nat) (s0 : L2.St), (∀ v ∈ ws, s0.set v none = s0) → wipe s0 ws = s0 := by
            intro ws
            induction ws with
            | nil => intro s0 _; rfl
            | cons v ws ih =>
              intro s0 h
              unfold wipe
              rw [ih s0 fun u hu => h u (List.mem_cons_of_mem _ hu)]
              exact h v List.mem_cons_self
          have fix : ∀ (ws : List Nat) (v : Nat), v ∈ ws → (wipe sg ws).set v none = wipe sg ws := by
            intro ws
            induction ws with
            | nil => intro v h; cases h
            | cons u ws ih =>
              intro v h
              unfold wipe
              by_cases e : v = u
              · subst e; rw [List.set_set]
              · rw [List.set_comm _ _ (fun z => e z.symm), ih v (by
                  rcases List.mem_cons.mp h with z | z
                  · exact absurd z e
                  · exact z)]
          exact all vs _ (fix vs)
        refine ⟨hw.trans hww, q5, en, s5, rs5, re5, R.post_noex ((R.post_bind.mp p).imp (fun b s6 p q6 H6 e6 rs6 => ?_) fun _ _ h => h)⟩
        have re6 := re5.ext e6
        have e36 : Ext q3 H3 q6 H6 := e4.trans (e5.trans e6)
        cases b with
        | false =>
          exact iteF ⟨q6, s6, rs6, e3.trans e36, (show (lcL c gf tt te (wipeE env vs) s1.length (ds.drop (i + 1)) s6).post _ _ from p).imp (fun _ _ h => KV.ext e36 h) fun _ _ h => h.ext e36⟩
        | true =>
          refine iteT ⟨q6, en, s6, rs6, re6, R.post_noex ((R.post_bind.mp (show ((te en s6).noex.bind _).post _ _ from p)).imp (fun d s7 p q7 y7 H7 e7 rs7 ry => ?_) fun _ _ h => h)⟩
          have e37 : Ext q3 H3 q7 H7 := e36.trans e7
          have qD7 : q7[s1.length]? = some D := e37.at (e3.at qD)
          split at p
          · rename_i acc hacc
            split at p
            · rename_i hz
              obtain ⟨a, xs, qa, ha, r⟩ := rs7.lstAt hacc
              rw [qD7] at qa; cases qa
              obtain ⟨rs8, e8⟩ := lst_put rs7 hacc qD7 ha (r.append (.cons ry .nil))
              exact ⟨xs, ha, by rw [r.length]; exact hz, q7, _, rs8, e3.trans (e37.trans e8), p.imp (fun _ _ h => KV.ext (e37.trans e8) h) fun _ _ h => h.ext (e37.trans e8)⟩
            · exact False.elim p
          · exact False.elim p
    · rw [if_neg ok] at p
      exact False.elim p
  · have e : i = ds.length := by omega
    subst e
    rw [List.drop_length] at p
    unfold lcL at p
    by_cases ok : ChkOk c st3
    · rw [if_pos ok] at p
      exact .inl ⟨(wk _ q3 H3 st3 (e2.trans e3) rs3 ok).1 (Nat.le_refl _), p q3 _ H3 Ext.refl rs3 (.ref (e3.at qD))⟩
    · rw [if_neg ok] at p
      exact False.elim p
theorem le_lc {elt iter : Expr} {ifs : List Expr} {scope : Scope} {own : List (Str × Nat)} {pos : Pos} {it : ItF} {gf : GF} {tt : TF} {te : EF} (hc : X.calm = true) (hN : X.N.Nodup) (hi : PI X tg iter (LI (gOf X) E it)) (ok : BlkOk X.N X.env.scope scope own)
    (hg : ∀ (s : Shared) (H : Hp) (C : Addr) (cl : List (Str × Addr)) (fp : List Addr), PG (X.blk s H scope (compEnvC scope cl C X.env) fp) tg (LGw (gOf X) E0 (own.map (·.2)) gf)) (ht : ∀ (s : Shared) (H : Hp) (C : Addr) (cl : List (Str × Addr)) (fp : List Addr), PTs (X.blk s H scope (compEnvC scope cl C X.env) fp) ifs (LT (gOf X) E0 tt))
    (he : ∀ (s : Shared) (H : Hp) (C : Addr) (cl : List (Str × Addr)) (fp : List Addr), PE (X.blk s H scope (compEnvC scope cl C X.env) fp) elt (LE (gOf X) E0 te)) (hs : ∀ x, foldedSetIterable iter X.env x = pure x := by intro _; rfl) :
    PE X (.ListComp elt [⟨tg, iter, ifs, 0⟩] scope pos) (LE (gOf X) E (lcF it (own.map (·.2)) gf tt te)) := (pe_lc hc hN hi ok hg ht he hs).imp fun _ _ _ w => lc_le w
theorem ls_setLc {i : Nat} {y : Str} {py : Pos} {elt iter : Expr} {ifs : List Expr} {scope : Scope} {own : List (Str × Nat)} {pos spos : Pos} {it : ItF} {gf : GF} {tt : TF} {te : EF} (hc : X.calm = true) (hN : X.N.Nodup) (hsw : swapsWith (.ListComp elt [⟨tg, iter, ifs, 0⟩] scope pos) (some (.Name y py)) spos.line X.env = pure true) (hi : PI X tg iter (LI (gOf X) E it)) (ok : BlkOk X.N X.env.scope scope own)
    (hg : ∀ (s : Shared) (H : Hp) (C : Addr) (cl : List (Str × Addr)) (fp : List Addr), PG (X.blk s H scope (compEnvC scope cl C X.env) fp) tg (LGw (gOf X) E0 (own.map (·.2)) gf)) (ht : ∀ (s : Shared) (H : Hp) (C : Addr) (cl : List (Str × Addr)) (fp : List Addr), PTs (X.blk s H scope (compEnvC scope cl C X.env) fp) ifs (LT (gOf X) E0 tt))
    (he : ∀ (s : Shared) (H : Hp) (C : Addr) (cl : List (Str × Addr)) (fp : List Addr), PE (X.blk s H scope (compEnvC scope cl C X.env) fp) elt (LE (gOf X) E0 te)) (hy : X.N[i]? = some y := by rfl) (hyl : X.env.scope.names.lookup y = some .local := by rfl) (hs : ∀ x, foldedSetIterable iter X.env x = pure x := by intro _; rfl) :
    PS X (.Assign [.Name y py] (.ListComp elt [⟨tg, iter, ifs, 0⟩] scope pos) spos) (LS (gOf X) E (setS i (lcF it (own.map (·.2)) gf tt te))) :=
  (ps_setLc hc hN hy hyl hsw hi ok hg ht he hs).imp fun T sg H w => by
    obtain ⟨q, env, st, rs, re, p⟩ := w
    have h : LE (gOf X) E (lcF it (own.map (·.2)) gf tt te) sg H (fun x H1 => gName i x sg H1 T.nx) :=
      LE.chain rs re (R.post_bind.mp p) fun x s1 q1 v H1 p e1 rs1 re1 rx => p q1 H1 e1 rs1 _ (re1.set rx)
    exact lc_le h
end

/-! ### a def that lets nothing out -/
def Sp0 (g : G) (n : Nat) (f : Fn) : Sp := fun vs H Q _ => vs.length = n ∧ LC g E0 f vs H Q
section
variable {P : Program} {w : World} {K : PySem.W.Frag} {mg : Str → Option Value} {base : Heap}
theorem fn0 {x qual : Str} {st : Stmt} {f : Addr} {fd : FuncData} {N ps : List Str} {k n m : Nat} {fb : SF} (F : Fun K x qual st f fd) (S : FnScope N ps (defScope st)) (hn : N.length = n) (hm : ps.length = m)
    (body : ∀ (cdv : Value) (A : Around) (outer : List Env) (s : Shared) (H : Hp) (E : XK), Room k (A.deeper (envOfC qual (defScope st) s.heap.objs.size f cdv)) →
      PSs (cxOf CX0 P w K mg base N qual (defScope st) f cdv A outer s H E).nox (defBody st) (LS ⟨P, w, K, mg⟩ E0 fb)) : FnOk P w K mg base CX0 (k + 1) f fd ps (Sp0 ⟨P, w, K, mg⟩ m (fnF n fb)) :=
  F.ok S (fun vs H Q E h => h.1.trans hm.symm) fun cdv A outer s H vs Q E hr h => ⟨_, body cdv A outer s H E hr, fn_le hn h.2⟩
end
section
variable {X : Cx}
theorem le_call0 {k n : Nat} {f : Addr} {fd : FuncData} {ps : List Str} {fn : Fn} {x : Str} {p pos : Pos} {e : Expr} {es : List Expr} {fa : AF} (F : FnOk X.prog X.w X.K X.mg X.base CX0 k f fd ps (Sp0 (gOf X) n fn)) (hr : Room k X.A) (hm : X.mg x = some (.ref f)) (hk : PySem.W.keepIn X.K (.ref f) = true) (hb : Binds X.K fd ps [])
    (ha : PA X (e :: es) (LA (gOf X) E0 fa)) (hla : ∀ env st ds s, fa env st = .ok ds s → ds.length = n) (hg : Gl X x := by rfl) (hdb : (x == ("__debug__" : Str)) = false := by decide) (he : starEach (e :: es) X.env = (false, eval e X.env) :: starEach es X.env := by rfl) (hpl : (backTo pos (starEach es X.env)).any (·.1) = false := by rfl) :
    PE X (.Call (.Name x p) (e :: es) [] pos) (LE (gOf X) E0 (callF fn fa)) :=
  (pe_call F hr hg hm hk hb .nil pass0 ha hdb he hpl).imp fun sg H Q w => by
    obtain ⟨q, env, st, rs, re, p⟩ := w
    have p := R.post_bind.mp p
    have p' : (fa env st).post (fun ds s => ds.length = n ∧ (fn ds s).post (KV (gOf X) q H Q) (KX (gOf X) q H E0)) (KX (gOf X) q H E0) := by
      cases hfa : fa env st with
      | ok ds s => rw [hfa] at p; exact ⟨hla _ _ _ _ hfa, p⟩
      | ex c s => rw [hfa] at p; exact p
      | bad => rw [hfa] at p; exact p
    refine LA.chain rs re p' fun xs s1 q1 vs H1 p e1 rs1 re1 rx => ?_
    rw [List.append_nil]
    exact ⟨by rw [rx.length]; exact p.1, q1, s1, xs, rs1, rx, p.2.imp (fun _ _ h => h.ext e1) fun _ _ h => h.ext e1⟩
theorem le_call00 {k : Nat} {f : Addr} {fd : FuncData} {ps : List Str} {fn : Fn} {x : Str} {p pos : Pos} (F : FnOk X.prog X.w X.K X.mg X.base CX0 k f fd ps (Sp0 (gOf X) 0 fn)) (hr : Room k X.A) (hm : X.mg x = some (.ref f)) (hk : PySem.W.keepIn X.K (.ref f) = true) (hb : Binds X.K fd ps [])
    (hg : Gl X x := by rfl) (hdb : (x == ("__debug__" : Str)) = false := by decide) : PE X (.Call (.Name x p) [] [] pos) (LE (gOf X) E0 (callF fn nilA)) :=
  (pe_call0 F hr hg hm hk hb .nil pass0 hdb).imp fun sg H Q w => by
    obtain ⟨q, env, st, rs, re, p⟩ := w
    exact ⟨rfl, q, st, [], rs, .nil, p⟩
end

/-! ### the law's end -/
def spLaw (K : PySem.W.Frag) : Sp := fun vs H Q _ => ∃ (a : Addr) (ns : List Int), vs = [.ref a] ∧ SqL K H a (ns.map V.int) ∧ ns.length ≤ 63 ∧ Only H ∧ ∀ H', Q (.bl true) H'
theorem law_end {g : G} {f : Fn} (h : ∀ ns : List Int, ns.length ≤ 63 → ∃ st, f [.ref 0] [.rl (ns.map D.int)] = .ok (.bl true) st) : ∀ vs H Q E, spLaw g.K vs H Q E → Sp0 g 1 f vs H Q E := by
  intro vs H Q E ⟨a, ns, hv, hS, hl, hO, k⟩
  subst hv
  obtain ⟨st, h⟩ := h ns hl
  have ro : RoL g.K H a (ns.map V.int) := by
    rcases hS with (hS | ⟨ob, hS⟩) | hS
    · rcases hO a with z | ⟨o, xs, z⟩
      · rw [hS] at z; cases z
      · rw [hS] at z; cases z
    · exact .inl ⟨ob, hS⟩
    · exact .inr hS
  refine ⟨rfl, [a], [.rl (ns.map D.int)], [.ref 0], ⟨rfl, fun m n b h1 h2 => ?_, fun n b o h1 h2 => ?_⟩, .cons (.ref rfl) .nil, ?_⟩
  · have l1 := (List.getElem?_eq_some_iff.mp h1).1
    have l2 := (List.getElem?_eq_some_iff.mp h2).1
    simp at l1 l2
    exact .inl (by omega)
  · have l1 := (List.getElem?_eq_some_iff.mp h1).1
    simp at l1
    subst l1
    simp at h1 h2
    subst h1 h2
    exact ⟨_, ro, RDs.ints⟩
  · rw [h]
    intro q' v H' _ _ r
    rw [r.bl_inv]
    exact k H'
end VL

/-! VL5: isinstance; names of types. -/
namespace VL
open PySem PySem.Spec PyProof.Rows L2
/-- a datum's built-in type -/
def tyOfD (d : D) (st : Sto) : Option String := match d with
  | .non => some "NoneType"
  | .bl _ => some "bool"
  | .int _ => some "int"
  | .str _ => some "str"
  | .tup _ => some "tuple"
  | .ref n => match st[n]? with
    | some (.lst _) => some "list"
    | some (.rl _) => some "list"
    | some (.dic _) => some "dict"
    | _ => none
  | _ => none
def isiD : List D → Sto → R D
  | [d, .ty T], st => match (tyOfD d st).bind fun a => kitB a T with
    | some b => .ok (.bl b) st
    | none => .bad
  | _, _ => .bad
section
variable {X : Cx} {E : XK}
theorem le_ty {x : Str} {T : String} {pos : Pos} (hg : Gl X x) (hm : X.mg x = none) (hv : bootBuiltins x = some (.type T)) (hn : x ≠ "__name__" := by decide) (hd : (x == ("__debug__" : Str)) = false := by decide) : PE X (.Name x pos) (LE (gOf X) E (cF (.ty T))) :=
  le_c (pe_bltn (v := .ty T) hg hm hv rfl hn hd) fun _ _ => .ty T
theorem kit_D {pins : List (Addr × Obj)} {sg : L2.St} {q : List Addr} {H : Hp} {s : Shared} {st : Sto} {x : V} {d : D} {u : Value} {a : String} (I : L2.Inv X pins sg H s) (rs : RS (gOf X) q H st) (rx : RD (gOf X) q H x d) (r : RelV x u) (h : tyOfD d st = some a) :
    ∃ P : Heap → Prop, PySem.W.KitX X.K u (.type a) P ∧ P s.heap ∧ u ≠ .builtin "__main__.__loader__#opaque" := by
  cases d with
  | non => rw [rx.non_inv] at r; cases h; exact kit_of I r (.base .non)
  | bl b => rw [rx.bl_inv] at r; cases h; exact kit_of I r (.base (.bl b))
  | int i => rw [rx.int_inv] at r; cases h; exact kit_of I r (.base (.int i))
  | str z => rw [rx.str_inv] at r; cases h; exact kit_of I r (.base (.str z))
  | tup ds =>
    obtain ⟨p, xs, rfl, hs, _⟩ := rx.tup_inv
    cases h
    rcases hs with (hs | ⟨ob, hs⟩) | ⟨o, its, n, hk, hc, _⟩
    · exact kit_of I r (.base (.tup hs))
    · exact kit_of I r (.fTuple hs)
    · exact kit_of I r (.kTuple hk hc)
  | ref n =>
    obtain ⟨p, rfl, qp⟩ := rx.ref_inv
    unfold tyOfD at h
    simp only at h
    split at h
    · rename_i xs e
      cases h
      obtain ⟨b, ys, qb, hb, _⟩ := rs.lstAt e
      rw [qp] at qb; cases qb
      exact kit_of I r (.base (.lst hb))
    · rename_i xs e
      cases h
      obtain ⟨b, qb, ys, hb, _⟩ := rs.get e
      rw [qp] at qb; cases qb
      rcases hb with ⟨ob, hb⟩ | ⟨o, its, n, hk, hc, _⟩
      · exact kit_of I r (.base (.frz hb))
      · exact kit_of I r (.kList hk hc)
    · rename_i kvs e
      cases h
      obtain ⟨b, qb, hb⟩ := rs.get e
      rw [qp] at qb; cases qb
      rcases hb with ⟨gs, hk, _⟩ | ⟨_, xs, hk, _⟩
      · exact kit_of I r (.base (.dK hk))
      · cases r
        obtain ⟨⟨_, o, es, ep, e, ex, _⟩, _⟩ := I.hok p _ hk
        exact ⟨_, PySem.W.kitx_dict, ⟨o, e, ex.1⟩, fun z => nomatch z⟩
    · cases h
  | _ => cases h
theorem call_isiD : CallR X (.builtin "isinstance") (LC (gOf X) E isiD) := by
  intro pins s sg H vs us Q I r w
  obtain ⟨q, st, ds, rs, rd, p⟩ := w
  unfold isiD at p
  split at p
  · rename_i d T
    split at p
    · rename_i b e
      obtain ⟨a, h1, h2⟩ := Option.bind_eq_some_iff.mp e
      obtain ⟨x, c, rfl, rx, rc⟩ := rd.two_inv
      rw [rc.ty_inv] at r
      obtain ⟨u1, u2, rfl, r1, r2⟩ := vals2 r
      cases (show u2 = Value.type T from r2)
      obtain ⟨P, Z, hp, hx⟩ := kit_D I rs rx r1 h1
      exact PySem.W.kia_one Z I.kIn hp (kit_ty h2) hx fun tk => ⟨.bl b, H, I.tok tk, rfl, p q _ H Ext.refl rs (.bl b)⟩
    · exact False.elim p
  · exact False.elim p
end
end VL

/-! VL6: in; enumerate, reversed; t[::-1]; a def that calls itself. -/
namespace PySem
open Sem (wp)
theorem vl_enum_newT (l : Addr) (items : Array Value) (n : Nat) (dct : Option Addr) (sl : Array (Option Value)) :
    Meets (Builtin.«enumerate.__new__» ⟨[.type "enumerate", .ref l], []⟩) (fun _ R s => s.heap.get? l = some { cls := .type "tuple", dict := dct, data := .seq items n, slots := sl } ∧
      R (.ok (.ret (.ref (s.heap.push { cls := .type "tuple_iterator", data := .fields #[.ref l, .int 0 0] }).objs.size)))
        { s with heap := (s.heap.push { cls := .type "tuple_iterator", data := .fields #[.ref l, .int 0 0] }).push { cls := .type "enumerate", data := .fields #[.none, .bool false, .ref s.heap.objs.size, rawInt 0, .none, .none] } }) :=
  .of_wp fun prog w A R s h => by
    obtain ⟨hp, g, d, tk, os⟩ := s; obtain ⟨hl, h⟩ := h
    have hsub := sub_enumerate
    have hL : Heap.IsTuple (Shared.heap ⟨hp, g, d, tk, os⟩) l items := ⟨_, hl, rfl, n, rfl⟩
    wp_walk using wpAny_loadPart' hl
    refine wpAny_stack_any fun st => wpAny_pure ?_
    split
    · rename_i c _ _ _ _ _
      cases (c == Value.type "enumerate")
      · wp_walk using wpAny_loadPart' hl, wpAny_pyIter_tuple hL
        exact ⟨_, rfl, h⟩
      · wp_walk using wpAny_loadPart' hl, wpAny_pyIter_tuple hL
        exact ⟨_, rfl, h⟩
    · wp_walk using wpAny_loadPart' hl, wpAny_pyIter_tuple hL
      exact ⟨_, rfl, h⟩
section
variable {prog : Program} {w : World} {A : Around} {E : Value → Shared → Prop} {s : Shared}
theorem vl_enum_tuple {l : Addr} {items : Array Value} {Q : Value → Shared → Prop} (hL : s.heap.IsTuple l items)
    (h : ∀ h', IsEnum h' (s.heap.objs.size + 1) s.heap.objs.size 0 .none → h'.IsTupleIter s.heap.objs.size l 0 → h'.objs.size = s.heap.objs.size + 2 →
      (∀ b o, s.heap.get? b = some o → h'.get? b = some o) → Q (.ref (s.heap.objs.size + 1)) { s with heap := h' }) :
    wpAny (model prog w) A (call (.type "enumerate") [.ref l]) Q E s := by
  obtain ⟨⟨c, dct, dt, sl⟩, hl, hc, n, hd⟩ := hL
  replace hc : c = .type "tuple" := hc
  replace hd : dt = .seq items n := hd
  subst hc hd
  refine callType_new F.called_enumerate (by decide) (F.typeCall_enumerate_1 _) (F.newCall_enumerate_1 _) (fun obj => F.args_object_init_2 obj _) F.entry_enumerate_new
    (vl_enum_newT l items n dct sl) ⟨hl, ?_⟩
  have hz : (s.heap.push { cls := .type "tuple_iterator", data := .fields #[.ref l, .int 0 0] }).objs.size = s.heap.objs.size + 1 := Heap.size_push ..
  show _ ∧ _
  rw [hz]
  have he : IsEnum ((s.heap.push { cls := .type "tuple_iterator", data := .fields #[.ref l, .int 0 0] }).push
      { cls := .type "enumerate", data := .fields #[.none, .bool false, .ref s.heap.objs.size, rawInt 0, .none, .none] }) (s.heap.objs.size + 1) s.heap.objs.size 0 .none := by
    have := Heap.get?_push_size (s.heap.push { cls := .type "tuple_iterator", data := .fields #[.ref l, .int 0 0] })
      (o := { cls := .type "enumerate", data := .fields #[.none, .bool false, .ref s.heap.objs.size, rawInt 0, .none, .none] }) rfl
    rw [hz] at this; exact this
  exact ⟨⟨_, he, rfl⟩, h _ he ⟨_, Heap.get?_push_of_some _ (Heap.get?_push_size _ rfl), rfl, rfl⟩ (by rw [Heap.size_push, hz]) fun b o x => Heap.get?_push_of_some _ (Heap.get?_push_of_some _ x)⟩
end
end PySem
namespace L2
open PySem PySem.Spec PyProof.Rows
/-! ### enumerate(tuple) -/
def IteT (K : PySem.W.Frag) (a : Addr) : It :=
  ⟨fun i H => ∃ (xs : List V) (x : V), SqT K H a xs ∧ xs[i]? = some x, fun i H v H' => ∃ T x, v = .ref T ∧ H T = none ∧ H' = upd H T (.tup [.int (i : Nat), x]) ∧ ∀ xs, SqT K H a xs → xs[i]? = some x, fun i H => ∃ xs : List V, SqT K H a xs ∧ xs.length ≤ i⟩
theorem turn_enumT {P : Program} {w : World} {K : PySem.W.Frag} {elts : List Expr} {kk : Nat} {tpos : Pos} (a e it : Addr) (hai : a ≠ it) (hae : a ≠ e) :
    Turn P w K (.Tuple elts kk tpos) (IteT K a) [e, it] e (fun i h => (∃ old, IsEnum h e it ((i : Nat) : Int) old) ∧ h.IsTupleIter it a i ∧ e ≠ it) where
  mem := by simp
  obj := fun i h st b hb => by
    obtain ⟨⟨old, he⟩, ⟨o, ho, hc, hd⟩, _⟩ := st
    have e' : b = e ∨ b = it := by simpa using hb
    rcases e' with z | z
    · rw [z]; exact ⟨_, he, fun v q => nomatch q⟩
    · rw [z]; exact ⟨o, ho, fun v q => by rw [hd] at q; cases q⟩
  keep := fun i h h' st k => let ⟨⟨old, he⟩, hi, hne⟩ := st; ⟨⟨old, k e (by simp) _ he⟩, hi.at fun o q => k it (by simp) o q, hne⟩
  item := by
    intro X hP hw hK hc i pins s σ H E I hf st hg
    subst hP hw hK
    obtain ⟨⟨old, he⟩, hit, hne⟩ := st
    obtain ⟨xs, x, hq, hx⟩ := hg
    obtain ⟨its, rv, p, hz⟩ := I.tuple hq
    obtain ⟨u, hu, ru⟩ := rv.get hx
    have hel : e < s.heap.objs.size := Heap.lt_size he
    have hil : it < s.heap.objs.size := by obtain ⟨_, q, _⟩ := hit; exact Heap.lt_size q
    have D := Draws.tuple (prog := X.prog) (w := X.w) (A := X.A.in1) (show X.A.in1.handled = none from I.ok.hd hc) it a hai its.toArray
    have pt : s.heap.IsTuple a its.toArray := p
    have hlt : i < its.toArray.size := by
      have := (List.getElem?_eq_some_iff.mp hu).1
      simpa using this
    refine wpAny_pyNext_enum_itemD D he ⟨hit, pt⟩ hlt hne (by simp only [List.mem_cons, List.not_mem_nil, or_false, not_or]; exact ⟨hne, Ne.symm hae⟩) fun x2 h' tk hP ho hst hT hsz hk => ?_
    have ex : x2 = u := by
      have : its.toArray[i]? = some u := by simpa using hu
      rw [this] at hP
      exact (Option.some.inj hP).symm
    subst ex
    obtain ⟨hit', _⟩ := hst
    refine ⟨_, rfl, wpAny_letOwnedTupleGo_enum (s := { s with heap := h', toks := tk + 1 }) ho fun h'' he' sb => ?_⟩
    have hT2 : h''.get? s.heap.objs.size = some { cls := .type "tuple", data := .seq #[.int i tk, x2] } := (sb.2 _ (Nat.ne_of_gt hel)).trans hT
    have new : ObjOk X.prog X.w (upd H s.heap.objs.size (.tup [.int (i : Nat), x])) h'' s.heap.objs.size (.tup [.int (i : Nat), x]) :=
      ⟨by show 2 ≤ sizeLine; decide, [.int i tk, x2], .cons ⟨_, rfl⟩ (.cons ru .nil), ⟨_, hT2, rfl, _, rfl⟩⟩
    have I1 : Inv X pins σ (upd H s.heap.objs.size (.tup [.int (i : Nat), x])) { s with heap := h'', toks := tk + 1 } :=
      I.turnedNew (ch := [e, it]) (fun b ob hb q => (sb.2 b (fun z => hb (by simp [z]))).trans (hk b ob (fun z => hb (by simp [z])) (fun z => hb (by simp [z])) q)) hf (Nat.le_refl _) new
    refine ⟨.ref s.heap.objs.size, _, I1, rfl, ⟨_, x, rfl, I.hok.fresh (Nat.le_refl _), rfl, fun ys hy => by rw [I.tuple_inj hy hq]; exact hx⟩, ⟨⟨x2, ?_⟩, hit'.at fun o q => (sb.2 it (Ne.symm hne)).trans q, hne⟩, fun b hb => ?_⟩
    · have e1 : ((i + 1 : Nat) : Int) = (i : Int) + 1 := by omega
      rw [e1]; exact he'
    · have hb' : b < s.heap.objs.size := by
        have e' : b = e ∨ b = it := by simpa using hb
        rcases e' with z | z
        · rw [z]; exact hel
        · rw [z]; exact hil
      rw [upd_ne (Nat.ne_of_lt hb')]
      exact (hf b hb).1
  done := by
    intro X hP hw hK hc i pins s σ H E I hf st hg
    subst hP hw hK
    obtain ⟨⟨old, he⟩, hit, hne⟩ := st
    obtain ⟨xs, hq, hx⟩ := hg
    obtain ⟨its, rv, p, hz⟩ := I.tuple hq
    obtain ⟨f0, f1, f2, f3, f4, f5⟩ := hf it (by simp)
    have hl := rv.length
    have hT : s.TypeIs (.ref e) "enumerate" := ⟨_, he, rfl⟩
    unfold pyNext
    refine wpAny_bind (wpAny_attempt (wpAny_callSpecial?_slot (name := Str.ofString "__next__") hT F.slot_enumerate_next
      (wpAny_call_entry F.slot_enumerate_next hT F.entry_enumerate_next ?_ (F.args_enumerate_next_1 _))))
    show wpAny _ _ (field (.ref e) 2 >>= _) _ _ _
    refine wpAny_bind (wpAny_field he rfl (x := .ref it) rfl ?_)
    refine wpAny_bind (wpAny_nextOf_tuple_end (I.ok.hd hc) hit (show s.heap.IsTuple a its.toArray from p) (by simp; omega) fun h' x he' hx' => ?_)
    obtain ⟨o, ho, hc'⟩ := hx'
    refine wpAny_bind (wpAny_isInstance (T := "StopIteration") (b := true) ⟨o, ho, hc'⟩ isSubtype_stop ?_)
    exact wpAny_pure ⟨rfl, I.turned (t' := s.toks) (fun b o hb q => he' b o hb q) f0 f1 f3 f4 f5⟩
  self := fun A i s Q E st h => let ⟨⟨_, he⟩, _⟩ := st; wpAny_pyIter_enum he h
def iEnumA (K : PySem.W.Frag) (ta : TA) : TI := fun σ H R => ta σ H fun vs H1 => ∃ a xs, vs = [.ref a] ∧ ((SqL K H1 a xs ∧ R (Ite K a) H1) ∨ (SqT K H1 a xs ∧ R (IteT K a) H1))
theorem pi_enumA {X : Cx} {e : Expr} {ta : TA} {p pos tpos : Pos} {elts : List Expr} {kk : Nat} (hg : Gl X "enumerate") (hm : X.mg "enumerate" = none) (ha : PA X [e] ta) (hs : starEach [e] X.env = [(false, eval e X.env)] := by rfl) :
    PI X (.Tuple elts kk tpos) (.Call (.Name "enumerate" p) [e] [] pos) (iEnumA X.K ta) := by
  refine ⟨fun pins s σ H R I h => ?_⟩
  refine Call_ (ld_blt I hg hm boot_enumerate (PyProof.Rows.callWith_type1 (thn (ha.run pos pins s σ H _ I h) fun us s1 ⟨vs, H1, I1, r1, q1⟩ => ?_) hs rfl))
  obtain ⟨a, xs, ex, hq⟩ := q1
  subst ex
  cases r1 with
  | cons r rr =>
    cases rr
    cases r
    rcases hq with ⟨hq, q⟩ | ⟨hq, q⟩
    · obtain ⟨its, rv, p', hz⟩ := I1.list hq
      refine call_enumerate_list p'.isList fun h' he hit hsz hk => wpAny_pyIter_enum he ?_
      have I2 : Inv X pins σ H1 { s1 with heap := h' } := I1.kept (t' := s1.toks) hk
      refine ⟨s1.heap.objs.size + 1, [s1.heap.objs.size + 1, s1.heap.objs.size], _, _, H1, rfl, I2, turn_enum a (s1.heap.objs.size + 1) s1.heap.objs.size, ⟨⟨.none, he⟩, hit, Nat.succ_ne_self _⟩, fun b hb => ?_, q⟩
      have e' : b = s1.heap.objs.size + 1 ∨ b = s1.heap.objs.size := by simpa using hb
      have hle : s1.heap.objs.size ≤ b := by
        rcases e' with z | z
        · rw [z]; exact Nat.le_add_right _ _
        · rw [z]; exact Nat.le_refl _
      exact I1.fpOk hle (I1.hok.fresh hle)
    · obtain ⟨its, rv, p', hz⟩ := I1.tuple hq
      have pt : s1.heap.IsTuple a its.toArray := p'
      have hal : a < s1.heap.objs.size := by obtain ⟨o, ho, _⟩ := id p'; exact Heap.lt_size ho
      refine vl_enum_tuple pt fun h' he hit hsz hk => wpAny_pyIter_enum he ?_
      have I2 : Inv X pins σ H1 { s1 with heap := h' } := I1.kept (t' := s1.toks) hk
      refine ⟨s1.heap.objs.size + 1, [s1.heap.objs.size + 1, s1.heap.objs.size], _, _, H1, rfl, I2, turn_enumT a (s1.heap.objs.size + 1) s1.heap.objs.size (Nat.ne_of_lt hal) (Nat.ne_of_lt (Nat.lt_succ_of_lt hal)), ⟨⟨.none, he⟩, hit, Nat.succ_ne_self _⟩, fun b hb => ?_, q⟩
      have e' : b = s1.heap.objs.size + 1 ∨ b = s1.heap.objs.size := by simpa using hb
      have hle : s1.heap.objs.size ≤ b := by
        rcases e' with z | z
        · rw [z]; exact Nat.le_add_right _ _
        · rw [z]; exact Nat.le_refl _
      exact I1.fpOk hle (I1.hok.fresh hle)
end L2
namespace VL
open PySem PySem.Spec PyProof.Rows L2 RZ RT
section
variable {X : Cx} {E : XK} {tg : Expr}
/-- (0, x), (1, y), .. -/
def numbered (ds : List D) : List D := (ds.zipIdx).map fun p => .tup [.int (p.2 : Nat), p.1]
theorem numbered_get {ds : List D} {i : Nat} {d : D} (h : (numbered ds)[i]? = some d) : ∃ x, ds[i]? = some x ∧ d = .tup [.int (i : Nat), x] := by
  unfold numbered at h
  rw [List.getElem?_map, List.getElem?_zipIdx] at h
  cases e : ds[i]? with
  | none => rw [e] at h; simp at h
  | some x =>
    rw [e] at h
    simp at h
    exact ⟨x, rfl, h.symm⟩
theorem numbered_len {ds : List D} : (numbered ds).length = ds.length := by simp [numbered]
theorem walks_et {g : G} {q : List Addr} {H : Hp} {a : Addr} {xs : List V} {ds : List D} {c : Chk} (hs : SqT g.K H a xs) (r : RDs g q H xs ds) : Walks g (IteT g.K a) q H (numbered ds, c) := by
  intro i q' H' st' e rs ok
  have hs' := sqT_ext e hs
  have r' := r.ext e
  refine ⟨fun hi => ⟨xs, hs', by rw [r.length]; rw [numbered_len] at hi; exact hi⟩, fun d hd => ?_⟩
  obtain ⟨x, hx, rfl⟩ := numbered_get hd
  obtain ⟨u, hu, ru⟩ := r'.get hx
  refine ⟨⟨xs, u, hs', hu⟩, fun y H2 ⟨T, z, hz, nT, h3, h4⟩ => ?_⟩
  subst hz h3
  have e1 := h4 xs hs'
  rw [hu] at e1; cases e1
  exact tup_new rs nT (.cons (.int _) (.cons ru .nil))
theorem walks_el {g : G} {q : List Addr} {H : Hp} {n : Nat} {a : Addr} {ds : List D} {c : Chk} (qa : q[n]? = some a) (hc : ∀ st', ChkOk c st' → listAt st' n = some ds) : Walks g (Ite g.K a) q H (numbered ds, c) := by
  intro i q' H' st' e rs ok
  obtain ⟨b, xs, qb, hs, r⟩ := rs.listAt (hc st' ok)
  rw [e.at qa] at qb; cases qb
  refine ⟨fun hi => ⟨xs, hs, by rw [r.length]; rw [numbered_len] at hi; exact hi⟩, fun d hd => ?_⟩
  obtain ⟨x, hx, rfl⟩ := numbered_get hd
  obtain ⟨u, hu, ru⟩ := r.get hx
  refine ⟨⟨xs, u, hs, hu⟩, fun y H2 ⟨T, z, hz, nT, h3, h4⟩ => ?_⟩
  subst hz h3
  have e1 := h4 xs hs
  rw [hu] at e1; cases e1
  exact tup_new rs nT (.cons (.int _) (.cons ru .nil))
def enumD : List D → Sto → R (List D × Chk)
  | [.tup ds], st => .ok (numbered ds, []) st
  | [.ref n], st => match listAt st n with
    | some ds => .ok (numbered ds, chkAt st n) st
    | none => .bad
  | _, _ => .bad
theorem li_enum {e : Expr} {fa : AF} (h : PI X tg e (iEnumA X.K (LA (gOf X) E fa))) : PI X tg e (LI (gOf X) E (itA enumD fa)) :=
  h.imp fun sg H RR w => itA_le w fun q st ds vs H rs rd p => by
    unfold enumD at p
    split at p
    · obtain ⟨v, rfl, r⟩ := rd.one_inv
      obtain ⟨a, xs, rfl, ha, ra⟩ := r.tup_inv
      exact ⟨a, xs, rfl, .inr ⟨ha, p q H _ Ext.refl rs (walks_et ha ra)⟩⟩
    · split at p
      · rename_i ds e1
        obtain ⟨v, rfl, r⟩ := rd.one_inv
        obtain ⟨a, xs, qa, ha, _⟩ := rs.listAt e1
        obtain ⟨a', rfl, qa'⟩ := r.ref_inv
        rw [qa] at qa'; cases qa'
        exact ⟨a, xs, rfl, .inl ⟨ha, p q H _ Ext.refl rs (walks_el qa fun st' ok => chkAt_list e1 ok)⟩⟩
      · exact False.elim p
    · exact False.elim p
/-! ### in -/
def flatD : D → Bool
  | .non => true
  | .bl _ => true
  | .int _ => true
  | .str _ => true
  | _ => false
def eqF : D → D → Bool
  | .non, .non => true
  | .bl a, .bl b => a == b
  | .bl a, .int b => (if a then 1 else 0) == b
  | .int a, .bl b => a == (if b then 1 else 0)
  | .int a, .int b => a == b
  | .str a, .str b => a == b
  | _, _ => false
theorem flat_of {g : G} {q : List Addr} {H : Hp} {v : V} {d : D} (r : RD g q H v d) (h : flatD d = true) : flatV v = true := by cases r <;> first | rfl | cases h
theorem eqF_of {g : G} {q : List Addr} {H : Hp} {v w : V} {d e : D} (r : RD g q H v d) (r' : RD g q H w e) (h : flatD d = true) (h' : flatD e = true) : eqV v w = eqF d e := by
  cases r <;> first | (cases h; done) | (cases r' <;> first | rfl | (cases h'; done))
theorem all_flat {g : G} {q : List Addr} {H : Hp} : ∀ {vs : List V} {ds : List D}, RDs g q H vs ds → ds.all flatD = true → vs.all flatV = true
  | _, _, .nil, _ => rfl
  | _, _, .cons r t, h => by
    rw [List.all_cons, Bool.and_eq_true] at h
    rw [List.all_cons, flat_of r h.1, all_flat t h.2]
    rfl
theorem any_eqF {g : G} {q : List Addr} {H : Hp} {v : V} {d : D} (r : RD g q H v d) (h : flatD d = true) : ∀ {vs : List V} {ds : List D}, RDs g q H vs ds → ds.all flatD = true → (vs.any fun y => eqV y v) = ds.any fun y => eqF y d
  | _, _, .nil, _ => rfl
  | _, _, .cons r' t, h' => by
    rw [List.all_cons, Bool.and_eq_true] at h'
    rw [List.any_cons, List.any_cons, eqF_of r' r h'.1 h, any_eqF r h t h'.2]
/-- x in a list or tuple of flat items -/
def inL (neg : Bool) (x : D) (ds : List D) (st : Sto) : R D := if flatD x = true ∧ ds.all flatD = true then .ok (.bl (if neg then !(ds.any fun y => eqF y x) else ds.any fun y => eqF y x)) st else .bad
def inSq (neg : Bool) : D → D → Sto → R D
  | x, .tup ds, st => inL neg x ds st
  | x, .ref n, st => match listAt st n with
    | some ds => inL neg x ds st
    | none => .bad
  | _, _, _ => .bad
theorem inL_of {g : G} {q : List Addr} {H : Hp} {Q : VK} {K' : Str → Sto → Prop} {neg : Bool} {v : V} {x : D} {p : Addr} {xs : List V} {ds : List D} {st : Sto} (rs : RS g q H st) (rx : RD g q H v x) (hs : SqL g.K H p xs ∨ SqT g.K H p xs) (r : RDs g q H xs ds) (k : (inL neg x ds st).post (KV g q H Q) K') : rIn g.K neg v (.ref p) H Q := by
  unfold inL at k
  split at k
  · rename_i h
    refine ⟨p, xs, rfl, hs, flat_of rx h.1, all_flat r h.2, ?_⟩
    unfold inV
    rw [any_eqF rx h.1 r h.2]
    exact k q _ H Ext.refl rs (.bl _)
  · exact False.elim k
theorem inSq_of {neg : Bool} {x y : V} {H : Hp} {Q : VK} (w : LR (gOf X) E (inSq neg) x y H Q) : rIn X.K neg x y H Q := by
  obtain ⟨q, st, a, b, rs, ra, rb, p⟩ := w
  cases b with
  | tup ds =>
    obtain ⟨p', xs, rfl, hs, r⟩ := rb.tup_inv
    exact inL_of (g := gOf X) rs ra (.inr hs) r (show (inL neg a ds st).post _ _ by cases a <;> exact p)
  | ref n =>
    have p : (match listAt st n with | some ds => inL neg a ds st | none => .bad : R D).post (KV (gOf X) q H Q) (KX (gOf X) q H E) := by cases a <;> exact p
    split at p
    · rename_i ds e
      obtain ⟨p', xs, qa, hs, r⟩ := rs.listAt e
      obtain ⟨p2, rfl, qb⟩ := rb.ref_inv
      rw [qa] at qb; cases qb
      exact inL_of (g := gOf X) rs ra (.inl hs) r p
    · exact False.elim p
  | _ => cases a <;> exact False.elim p
theorem op_inD : OpR X (compareOp .In) (LR (gOf X) E (inSq false)) := op_in_seq.imp fun _ _ _ _ w => inSq_of w
theorem op_notInD : OpR X (compareOp .NotIn) (LR (gOf X) E (inSq true)) := op_notIn_seq.imp fun _ _ _ _ w => inSq_of w
/-! ### reversed -/
theorem walks_rl {g : G} {q : List Addr} {H : Hp} {n : Nat} {a : Addr} {ds : List D} {c : Chk} (qa : q[n]? = some a) (hc : ∀ st', ChkOk c st' → listAt st' n = some ds) : Walks g (Itv g.K a ds.length) q H (ds.reverse, c) := by
  intro i q' H' st' e rs ok
  obtain ⟨b, xs, qb, hs, r⟩ := rs.listAt (hc st' ok)
  rw [e.at qa] at qb; cases qb
  refine ⟨fun hi => by rw [List.length_reverse] at hi; exact hi, fun d hd => ?_⟩
  have hl := (List.getElem?_eq_some_iff.mp hd).1
  rw [List.length_reverse] at hl
  have hd2 : ds[ds.length - 1 - i]? = some d := by
    have hd : ds.reverse[i]? = some d := hd
    rw [List.getElem?_reverse hl] at hd
    exact hd
  obtain ⟨x, hx, rx⟩ := r.get hd2
  refine ⟨⟨hl, xs, x, hs, hx⟩, fun y H2 ⟨e2, hy⟩ => ?_⟩
  subst e2
  exact ⟨Ext.refl, rs, r.inj_get (hy xs hs) hd2⟩
theorem walks_rt {g : G} {q : List Addr} {H : Hp} {a : Addr} {xs : List V} {ds : List D} {c : Chk} (hs : SqT g.K H a xs) (r : RDs g q H xs ds) : Walks g (ItvT g.K a ds.length) q H (ds.reverse, c) := by
  intro i q' H' st' e rs ok
  have hs' := sqT_ext e hs
  have r' := r.ext e
  refine ⟨fun hi => by rw [List.length_reverse] at hi; exact hi, fun d hd => ?_⟩
  have hl := (List.getElem?_eq_some_iff.mp hd).1
  rw [List.length_reverse] at hl
  have hd2 : ds[ds.length - 1 - i]? = some d := by
    have hd : ds.reverse[i]? = some d := hd
    rw [List.getElem?_reverse hl] at hd
    exact hd
  obtain ⟨x, hx, rx⟩ := r'.get hd2
  refine ⟨⟨hl, xs, x, hs', hx⟩, fun y H2 ⟨e2, hy⟩ => ?_⟩
  subst e2
  exact ⟨Ext.refl, rs, r'.inj_get (hy xs hs') hd2⟩
def revD (d : D) (st : Sto) : R (List D × Chk) := match d with
  | .tup ds => .ok (ds.reverse, []) st
  | .ref n => match listAt st n with
    | some ds => .ok (ds.reverse, chkAt st n) st
    | none => .bad
  | _ => .bad
theorem li_rev {e : Expr} {f : EF} (h : PI X tg e (iRevA X.K (LE (gOf X) E f))) : PI X tg e (LI (gOf X) E (fun env st => (f env st).bind revD)) :=
  h.imp fun sg H RR w => by
    obtain ⟨q, env, st, rs, re, p⟩ := w
    refine LE.chain rs re (R.post_bind.mp p) fun d s1 q1 v H1 p e1 rs1 re1 rx => ?_
    cases d with
    | tup ds =>
      obtain ⟨a, xs, rfl, ha, ra⟩ := rx.tup_inv
      exact ⟨a, xs, rfl, .inr ⟨ha, by rw [ra.length]; exact p q1 H1 _ e1 rs1 (walks_rt ha ra)⟩⟩
    | ref n =>
      have p : (match listAt s1 n with | some ds => .ok (ds.reverse, chkAt s1 n) s1 | none => .bad : R (List D × Chk)).post _ _ := p
      split at p
      · rename_i ds e
        obtain ⟨a, xs, qa, ha, ra⟩ := rs1.listAt e
        obtain ⟨a', rfl, qa'⟩ := rx.ref_inv
        rw [qa] at qa'; cases qa'
        exact ⟨a, xs, rfl, .inl ⟨ha, by rw [ra.length]; exact p q1 H1 _ e1 rs1 (walks_rl qa fun st' ok => chkAt_list e ok)⟩⟩
      · exact False.elim p
    | _ => exact False.elim p
end
/-! ### a def that calls itself: at depth 0 nothing is told -/
theorem fn_bad {P : Program} {w : World} {K : PySem.W.Frag} {mg : Str → Option Value} {base : Heap} {k n : Nat} {f : Addr} {fd : FuncData} {ps : List Str} {g : G} (hn : ps.length = n) : FnOk P w K mg base CX0 k f fd ps (Sp0 g n fun _ _ => .bad) :=
  ⟨fun vs H Q E h => h.1.trans hn.symm, fun A outer s H args us vs Q E hr he hb hv h => by
    obtain ⟨_, q, st, ds, _, _, p⟩ := h
    exact False.elim p⟩
end VL

/-! VL7: t[::-1] of tuples and lists. -/
namespace HT
open PySem PySem.Spec PyProof.Rows
section
variable {prog : Program} {w : World} {A : Around} {E : Value → Shared → Prop} {s : Shared}
theorem vl_applied_back {sl : Addr} {vl vu vk : Value} {n : Nat} {Q : Int × Int × Nat → Shared → Prop} (hs : s.heap.IsSliceOf sl vl vu vk) (pl : IsPart vl none) (pu : IsPart vu none) (pk : IsPart vk (some (-1)))
    (h : Q ((n : Int) - 1, -1, n) s) : wpAny (model prog w) A (Builtin.Slice.sliceApplied (.ref sl) (pure (n : Int))) Q E s := by
  obtain ⟨os, hos, hcs, hds⟩ := id hs
  unfold Builtin.Slice.sliceApplied Builtin.Slice.sliceFields
  refine wpAny_bind (wpAny_bind (wpAny_field hos hds (x := vl) rfl (wpAny_bind (wpAny_field hos hds (x := vu) rfl (wpAny_bind (wpAny_field hos hds (x := vk) rfl (wpAny_pure ?_)))))))
  refine wpAny_bind (slicePart_ pk ?_)
  show wpAny _ _ (if ((-1 : Int) == 0) = true then _ else _) _ _ s
  rw [if_neg (by decide)]
  refine wpAny_bind (slicePart_ pl (wpAny_bind (slicePart_ pu (wpAny_bind (wpAny_pure ?_)))))
  show wpAny _ _ (match Builtin.Slice.sliceAdjust none none (-1) (n : Int) with | (lo, hi) => pure (lo, (-1 : Int), Builtin.Slice.slicePlaces lo hi (-1))) _ _ s
  have e : Builtin.Slice.sliceAdjust none none (-1) (n : Int) = ((n : Int) - 1, -1) := rfl
  rw [e]
  have e2 : Builtin.Slice.slicePlaces ((n : Int) - 1) (-1) (-1) = n := by
    unfold Builtin.Slice.slicePlaces
    rw [if_neg (by decide)]
    split
    · simp
    · omega
  show wpAny _ _ (pure ((n : Int) - 1, (-1 : Int), Builtin.Slice.slicePlaces ((n : Int) - 1) (-1) (-1))) _ _ s
  rw [e2]
  exact wpAny_pure h
theorem vl_pick_back (xs : Array Value) : ((List.range xs.size).filterMap fun (m : Nat) => xs[(((xs.size : Int) - 1) + (m : Int) * -1).toNat]?).toArray = xs.toList.reverse.toArray := by
  have e : (fun (m : Nat) => xs[(((xs.size : Int) - 1) + (m : Int) * -1).toNat]?) = (fun i => xs[i]?) ∘ fun m => xs.size - 1 - m := by
    funext m
    have : (((xs.size : Int) - 1) + (m : Int) * -1).toNat = xs.size - 1 - m := by omega
    show xs[(((xs.size : Int) - 1) + (m : Int) * -1).toNat]? = xs[xs.size - 1 - m]?
    rw [this]
  rw [e, ← List.filterMap_map, PySem.W.krv_range, List.filterMap_reverse]
  have := PySem.W.krv_all xs
  rw [this]
theorem getItem_tuple_back {t sl : Addr} {items : Array Value} {vl vu vk : Value} {Q : Value → Shared → Prop} (ht : IsTup s.heap t items) (hs : s.heap.IsSliceOf sl vl vu vk) (pl : IsPart vl none) (pu : IsPart vu none) (pk : IsPart vk (some (-1)))
    (h : Q (.ref s.heap.objs.size) { s with heap := s.heap.push { cls := .type "tuple", data := .seq items.toList.reverse.toArray } })
    (hsz : items.size ≤ sizeLine) : wpAny (model prog w) A (getItem (.ref t) (.ref sl)) Q E s := by
  have htake : sizeOk (.seq items.toList.reverse.toArray) := by
    show items.toList.reverse.toArray.size ≤ sizeLine
    rw [List.size_toArray, List.length_reverse, Array.length_toList]
    exact hsz
  obtain ⟨os, hos, hcs, hds⟩ := id hs
  have hTs : s.TypeIs (.ref sl) "slice" := ⟨os, hos, hcs⟩
  unfold getItem
  try with_reducible refine wpAny_holding ?_
  first | refine wpAny_bind (wpAny_pure ?_) | skip
  refine wpAny_bind (wpAny_sequenceKey ht.typeIs (by decide) ?_)
  refine wpAny_bind (wpAny_callSpecial?_slot (name := Str.ofString "__getitem__") ht.typeIs PyProof.Rows.slot_tuple_getitem
    (wpAny_call_entry PyProof.Rows.slot_tuple_getitem ht.typeIs entry_tuple_getitem ?_ (args_tuple_getitem _ _)))
  show wpAny _ _ (Builtin.Tuple.tupleItemsOf (.ref t) >>= _) _ _ s
  refine wpAny_bind (tupleItemsOf_ ht ?_)
  refine wpAny_bind (wpAny_typeOf hTs ?_)
  rw [if_pos (by decide)]
  refine wpAny_bind (vl_applied_back hs pl pu pk ?_)
  have hno : ¬ ((((items.size : Int) - 1) == 0 && (-1 : Int) == 1 && items.size == items.size) = true) := by
    intro q
    rw [Bool.and_eq_true, Bool.and_eq_true] at q
    exact absurd q.1.2 (by decide)
  show wpAny _ _ (if (((items.size : Int) - 1) == 0 && (-1 : Int) == 1 && items.size == items.size) = true then _ else _) _ _ s
  rw [if_neg hno, vl_pick_back]
  first
    | exact wpAny_bind (m := Builtin.Tuple.tupleExact _) (wpAny_newObj_type (wpAny_pure ⟨_, rfl, wpAny_pure h⟩) htake)
    | exact wpAny_bind (m := Builtin.Tuple.tupleExact _) (wpAny_newObj_type (wpAny_bind (wpAny_pure (wpAny_pure ⟨_, rfl, wpAny_pure h⟩))) htake)
    | exact wpAny_bind (wpAny_bind (m := Builtin.Tuple.tupleExact _) (wpAny_newObj_type (wpAny_pure (wpAny_pure ⟨_, rfl, wpAny_pure h⟩)) htake))
    | exact wpAny_bind (wpAny_bind (m := Builtin.Tuple.tupleExact _) (wpAny_newObj_type (wpAny_pure ⟨_, rfl, wpAny_pure h⟩) htake))
end
end HT
namespace L2
open PySem PySem.Spec PyProof.Rows
def tRevA (K : PySem.W.Frag) (te : TE) : TE := fun σ H Q => te σ H fun x H1 => ∃ a xs, x = .ref a ∧ ((SqL K H1 a xs ∧ ∀ p, H1 p = none → Q (.ref p) (upd H1 p (.lst xs.reverse))) ∨ (SqT K H1 a xs ∧ ∀ p, H1 p = none → Q (.ref p) (upd H1 p (.tup xs.reverse))))
theorem pe_revA {X : Cx} {e : Expr} {te : TE} {k : Nat} {p1 p2 p3 pos : Pos} (he : PE X e te) : PE X (.Subscript e (.Slice none none (some (.UnaryOp .USub (.Constant (.int 1) k p1) p2)) p3) pos) (tRevA X.K te) := by
  refine ⟨fun pins s σ H Q I h => ?_⟩
  refine Subscript_ (thn (he.run pins s σ H _ I h) fun v s1 ⟨x, H1, I1, r1, q1⟩ => ?_)
  obtain ⟨a, xs, ex, hx⟩ := q1
  subst ex
  cases r1
  have hst : PO X (some (.UnaryOp .USub (.Constant (.int 1) k p1) p2)) (tPart (tUn (rU fun i => .int (-i)) (tC (.int 1)))) := po_some (pe_un un_neg pe_int)
  refine wpAny_Slice (thn (po_none.run pins s1 σ H1 (fun o H2 => o = none ∧ H2 = H1) I1 ⟨rfl, rfl⟩) fun vl s2 ⟨l, H2, I2, pl, el, e2⟩ => ?_)
  subst el e2
  refine thn (po_none.run pins s2 σ H2 (fun o H3 => o = none ∧ H3 = H2) I2 ⟨rfl, rfl⟩) fun vu s3 ⟨u, H3, I3, pu, eu, e3⟩ => ?_
  subst eu e3
  refine thn (hst.run pins s3 σ H3 (fun o H4 => o = some (-1) ∧ H4 = H3) I3 ⟨1, rfl, -1, rfl, rfl, rfl⟩) fun vs s4 ⟨o, H4, I4, ps, eo, e4⟩ => ?_
  subst eo e4
  have I5 : Inv X pins σ H4 { s4 with heap := s4.heap.push { cls := .type "slice", data := .fields #[vl, vu, vs] } } := I4.kept (t' := s4.toks) fun b ob q => Heap.get?_push_of_some _ q
  rcases hx with ⟨hx, q⟩ | ⟨hx, q⟩
  · obtain ⟨its, r, ht, hz⟩ := I5.list hx
    have hlen := r.length
    show wpAny (model X.prog X.w) X.A (subscriptTail e (.Slice none none (some (.UnaryOp .USub (.Constant (.int 1) k p1) p2)) p3) (.ref a) (.ref s4.heap.objs.size)) (EP X pins σ Q) X.xe { s4 with heap := s4.heap.push { cls := .type "slice", data := .fields #[vl, vu, vs] } }
    refine tail_any (ops := [.ref a, .ref s4.heap.objs.size]) ht.isList.typeIs (PySem.slot_list_getitem.lookup) ?_ (by with_unfolding_all rfl)
    refine wpAny_getItem_list_slice ht.isList (Heap.IsSliceOf.new _ vl vu vs) pl pu ps (by decide) ?_ (by rw [List.size_toArray]; omega)
    rw [PySem.W.krv_pick]
    refine ⟨.ref _, _, I5.laid (t' := s4.toks) (o := .lst xs.reverse) (fun b ob q => Heap.get?_push_of_some _ q) (Nat.le_refl _) ?_, rfl, q _ (I5.hok.fresh (Nat.le_refl _))⟩
    exact ⟨by rw [List.length_reverse]; exact hz, _, 0, r.reverse, Heap.get?_push_size _ rfl⟩
  · obtain ⟨its, r, ht, hz⟩ := I5.tuple hx
    have hlen := r.length
    show wpAny (model X.prog X.w) X.A (subscriptTail e (.Slice none none (some (.UnaryOp .USub (.Constant (.int 1) k p1) p2)) p3) (.ref a) (.ref s4.heap.objs.size)) (EP X pins σ Q) X.xe { s4 with heap := s4.heap.push { cls := .type "slice", data := .fields #[vl, vu, vs] } }
    refine tail_any (ops := [.ref a, .ref s4.heap.objs.size]) ht.typeIs (PyProof.Rows.slot_tuple_getitem.lookup) ?_ (by with_unfolding_all rfl)
    refine HT.getItem_tuple_back ht (Heap.IsSliceOf.new _ vl vu vs) pl pu ps ?_ (by rw [List.size_toArray]; omega)
    refine ⟨.ref _, _, I5.laid (t' := s4.toks) (o := .tup xs.reverse) (fun b ob q => Heap.get?_push_of_some _ q) (Nat.le_refl _) ?_, rfl, q _ (I5.hok.fresh (Nat.le_refl _))⟩
    exact ⟨by rw [List.length_reverse]; exact hz, _, r.reverse, IsTup.new _ _⟩
end L2
namespace VL
open PySem PySem.Spec PyProof.Rows L2
section
variable {X : Cx} {E : XK}
def backD (d : D) (st : Sto) : R D := match d with
  | .tup ds => .ok (.tup ds.reverse) st
  | .ref n => match listAt st n with
    | some ds => newO (.lst ds.reverse) st
    | none => .bad
  | _ => .bad
theorem le_back {e : Expr} {f : EF} {k : Nat} {p1 p2 p3 pos : Pos} (he : PE X e (LE (gOf X) E f)) : PE X (.Subscript e (.Slice none none (some (.UnaryOp .USub (.Constant (.int 1) k p1) p2)) p3) pos) (LE (gOf X) E (un1 backD f)) := (pe_revA he).imp fun sg H Q w => by
  obtain ⟨q, env, st, rs, re, p⟩ := w
  refine LE.chain rs re (R.post_bind.mp p) fun d s1 q1 v H1 p e1 rs1 re1 rx => ?_
  cases d with
  | tup ds =>
    obtain ⟨a, xs, rfl, ha, ra⟩ := rx.tup_inv
    refine ⟨a, xs, rfl, .inr ⟨ha, fun t ht => ?_⟩⟩
    obtain ⟨e2, rs2, r2⟩ := tup_new rs1 ht ra.reverse
    exact p _ _ _ (e1.trans e2) rs2 r2
  | ref n =>
    have p : (match listAt s1 n with | some ds => newO (.lst ds.reverse) s1 | none => .bad : R D).post _ _ := p
    split at p
    · rename_i ds e
      obtain ⟨a, xs, qa, ha, ra⟩ := rs1.listAt e
      obtain ⟨a', rfl, qa'⟩ := rx.ref_inv
      rw [qa] at qa'; cases qa'
      refine ⟨a, xs, rfl, .inl ⟨ha, fun t ht => ?_⟩⟩
      obtain ⟨e2, rs2, r2⟩ := lst_new rs1 ht ra.reverse
      exact p _ _ _ (e1.trans e2) rs2 r2
    · exact False.elim p
  | _ => exact False.elim p
end
end VL

/-! VLM: reckoning with the functions: loops, comprehensions, stores that grow, sizes of ints. -/
namespace VL
open PySem L2

theorem log2_lt {n k : Nat} (h : n < 2 ^ k) (hk : 0 < k) : n.log2 < k := by
  by_cases h0 : n = 0
  · subst h0; simpa using hk
  · exact (Nat.log2_lt h0).mpr h
/-- an int below 2 ^ 1000 in size; sums and products of such -/
def Sm (k : Nat) (a : Int) : Prop := a.natAbs < 2 ^ k
instance {k : Nat} {a : Int} : Decidable (Sm k a) := inferInstanceAs (Decidable (a.natAbs < 2 ^ k))
theorem Sm.log {k : Nat} {a : Int} (h : Sm k a) (hk : 0 < k) : a.natAbs.log2 < k := log2_lt h hk
theorem Sm.of {k : Nat} {a b : Int} (h0 : 0 ≤ a) (h : a < b) (hb : b ≤ 2 ^ k) : Sm k a := by
  unfold Sm
  have e : ((a.natAbs : Nat) : Int) < ((2 ^ k : Nat) : Int) := by
    rw [Int.natAbs_of_nonneg h0]
    have : ((2 ^ k : Nat) : Int) = (2 : Int) ^ k := by push_cast; rfl
    rw [this]
    omega
  exact Int.ofNat_lt.mp e
theorem Sm.mod {k : Nat} {a m : Int} (hm : 0 < m) (hk : m ≤ 2 ^ k) : Sm k (a % m) := Sm.of (Int.emod_nonneg a (by omega)) (Int.emod_lt_of_pos a hm) hk
theorem Sm.mul {j k : Nat} {a b : Int} (ha : Sm j a) (hb : Sm k b) : Sm (j + k) (a * b) := by
  unfold Sm at *
  rw [Int.natAbs_mul, Nat.pow_add]
  exact Nat.mul_lt_mul'' ha hb
theorem Sm.add {k : Nat} {a b : Int} (ha : Sm k a) (hb : Sm k b) : Sm (k + 1) (a + b) := by
  unfold Sm at *
  have := Int.natAbs_add_le a b
  rw [Nat.pow_succ]
  omega
theorem Sm.neg {k : Nat} {a : Int} (ha : Sm k a) : Sm k (-a) := by unfold Sm at *; rw [Int.natAbs_neg]; exact ha
theorem Sm.sub {k : Nat} {a b : Int} (ha : Sm k a) (hb : Sm k b) : Sm (k + 1) (a - b) := by rw [Int.sub_eq_add_neg]; exact ha.add hb.neg
theorem Sm.mono {j k : Nat} {a : Int} (h : Sm j a) (hk : j ≤ k) : Sm k a := Nat.lt_of_lt_of_le h (Nat.pow_le_pow_right (by decide) hk)
/-- the product of two such is within the model's line -/
theorem mul_ok {j k : Nat} {a b : Int} (ha : Sm j a) (hb : Sm k b) (h : j + k ≤ 900000 := by decide) (hj : 0 < j := by decide) (hk : 0 < k := by decide) : decide (MulOk a b) = true := by
  have h1 := ha.log hj
  have h2 := hb.log hk
  exact decide_eq_true (.inl (by omega))
theorem mul_okR {a b : Int} (hb : Sm 64 b) : decide (MulOk a b) = true := decide_eq_true (.inr (.inr hb))
theorem mul_okL {a b : Int} (ha : Sm 64 a) : decide (MulOk a b) = true := decide_eq_true (.inr (.inl ha))
theorem mulD_ok {j k : Nat} {a b : Int} {st : Sto} (ha : Sm j a) (hb : Sm k b) (h : j + k ≤ 900000 := by decide) (hj : 0 < j := by decide) (hk : 0 < k := by decide) : mulD (.int a) (.int b) st = .ok (.int (a * b)) st := by
  show (if decide (MulOk a b) = true then _ else _) = _
  rw [mul_ok ha hb h hj hk, if_pos rfl]

/-! ### stores that grow -/
theorem get_app {st j : Sto} {n : Nat} {o : O} (h : st[n]? = some o) : (st ++ j)[n]? = some o := by
  rw [List.getElem?_append_left (List.getElem?_eq_some_iff.mp h).1]; exact h
theorem listAt_app {st j : Sto} {n : Nat} {xs : List D} (h : listAt st n = some xs) : listAt (st ++ j) n = some xs := by
  unfold listAt at *
  split at h
  · rename_i e; rw [get_app e]; exact h
  · rename_i e; rw [get_app e]; exact h
  · cases h
theorem get_last {st : Sto} {o : O} : (st ++ [o])[st.length]? = some o := by simp
theorem set_last {st : Sto} {o u : O} : (st ++ [o]).set st.length u = st ++ [u] := by simp
theorem listAt_last {st : Sto} {xs : List D} : listAt (st ++ [.lst xs]) st.length = some xs := listAt_lst get_last
/-- st' has all that st has -/
def Le (st st' : Sto) : Prop := ∃ j, st' = st ++ j
theorem Le.refl (st : Sto) : Le st st := ⟨[], by simp⟩
theorem Le.trans {a b c : Sto} (h : Le a b) (k : Le b c) : Le a c := by
  obtain ⟨j, rfl⟩ := h
  obtain ⟨l, rfl⟩ := k
  exact ⟨j ++ l, by simp⟩
theorem Le.app (st j : Sto) : Le st (st ++ j) := ⟨j, rfl⟩
theorem Le.get {a b : Sto} (h : Le a b) {n : Nat} {o : O} (e : a[n]? = some o) : b[n]? = some o := by obtain ⟨j, rfl⟩ := h; exact get_app e
theorem Le.listAt {a b : Sto} (h : Le a b) {n : Nat} {xs : List D} (e : listAt a n = some xs) : VL.listAt b n = some xs := by obtain ⟨j, rfl⟩ := h; exact listAt_app e
theorem Le.len {a b : Sto} (h : Le a b) : a.length ≤ b.length := by obtain ⟨j, rfl⟩ := h; simp

/-! ### loops -/
theorem forL_nil {c : Chk} {gf : GF} {b : SF} {env : EnvD} {st : Sto} (h : ChkOk c st) : forL c gf b [] env st = .ok (.nx env) st := by unfold forL; rw [if_pos h]
theorem forL_cons {c : Chk} {gf : GF} {b : SF} {x : D} {r : List D} {env : EnvD} {st : Sto} (h : ChkOk c st) : forL c gf b (x :: r) env st = (gf x env st).bind fun e s => (b e s).bind fun fl s' => match fl with
      | .nx e' => forL c gf b r e' s'
      | .ct e' => forL c gf b r e' s'
      | .bk e' => .ok (.nx e') s'
      | .rt d => .ok (.rt d) s' := by
  rw [forL, if_pos h]
  all_goals rfl
/-- a loop whose turns all go on -/
theorem forL_inv {c : Chk} {gf : GF} {b : SF} {ds : List D} {env : EnvD} {st : Sto} (I : Nat → EnvD → Sto → Prop) (h0 : I 0 env st) (hc : ∀ i env st, I i env st → ChkOk c st)
    (hs : ∀ i x env st, ds[i]? = some x → I i env st → ∃ e s e' s', gf x env st = .ok e s ∧ b e s = .ok (.nx e') s' ∧ I (i + 1) e' s') : ∃ e' s', forL c gf b ds env st = .ok (.nx e') s' ∧ I ds.length e' s' := by
  have all : ∀ (r : List D) (i : Nat) (env : EnvD) (st : Sto), i ≤ ds.length → ds.drop i = r → I i env st → ∃ e' s', forL c gf b r env st = .ok (.nx e') s' ∧ I ds.length e' s' := by
    intro r
    induction r with
    | nil =>
      intro i env st hi hd h
      have hl : ds.length ≤ i := List.drop_eq_nil_iff.mp hd
      have e : i = ds.length := by omega
      subst e
      exact ⟨env, st, forL_nil (hc _ _ _ h), h⟩
    | cons x r ih =>
      intro i env st hi hd h
      have hx : ds[i]? = some x := by
        have := congrArg (fun l => l[0]?) hd
        simpa using this
      obtain ⟨e, s, e', s', h1, h2, h3⟩ := hs i x env st hx h
      rw [forL_cons (hc _ _ _ h), h1, R.bind_ok, h2, R.bind_ok]
      refine ih (i + 1) e' s' ?_ ?_ h3
      · have := (List.getElem?_eq_some_iff.mp hx).1
        omega
      · have := congrArg List.tail hd
        simpa using this
  exact all ds 0 env st (Nat.zero_le _) (by simp) h0
/-- a loop that looks for the first item of which p is so, and leaves there -/
theorem forL_first {c : Chk} {gf : GF} {b : SF} {p : D → Bool} {r : D → D} {st : Sto} (hc : ChkOk c st) : ∀ {ds : List D} {env : EnvD} (J : EnvD → Prop), J env →
    (∀ x ∈ ds, ∀ env, J env → ∃ e, gf x env st = .ok e st ∧ (p x = true → b e st = .ok (.rt (r x)) st) ∧ (p x = false → ∃ e', b e st = .ok (.nx e') st ∧ J e')) →
    (∃ x, ds.find? p = some x ∧ forL c gf b ds env st = .ok (.rt (r x)) st) ∨ (ds.find? p = none ∧ ∃ e', forL c gf b ds env st = .ok (.nx e') st ∧ J e')
  | [], env, J, h0, _ => .inr ⟨rfl, env, forL_nil hc, h0⟩
  | x :: ds, env, J, h0, hs => by
    obtain ⟨e, h1, h2, h3⟩ := hs x List.mem_cons_self env h0
    rw [forL_cons hc, h1, R.bind_ok]
    cases hp : p x with
    | true => exact .inl ⟨x, by rw [List.find?_cons, hp], by rw [h2 hp, R.bind_ok]⟩
    | false =>
      obtain ⟨e', h4, h5⟩ := h3 hp
      rw [h4, R.bind_ok, List.find?_cons, hp]
      exact forL_first hc J h5 fun y hy => hs y (List.mem_cons_of_mem _ hy)
/-- a loop that goes on as long as each turn does, and leaves with False at the first turn that does not: all turns go on -/
theorem forS_ok {it : ItF} {gf : GF} {b : SF} {env : EnvD} {st : Sto} {ds : List D} {c : Chk} {s : Sto} {r : R Fl} (h : it env st = .ok (ds, c) s) (h2 : forL c gf b ds env s = r) : forS it gf b env st = r := by
  unfold forS; rw [h, R.bind_ok]; exact h2

/-! ### comprehensions -/
theorem lcL_nil {c : Chk} {gf : GF} {tt : TF} {te : EF} {env : EnvD} {n : Nat} {st : Sto} (h : ChkOk c st) : lcL c gf tt te env n [] st = .ok () st := by unfold lcL; rw [if_pos h]
theorem lcL_cons {c : Chk} {gf : GF} {tt : TF} {te : EF} {env : EnvD} {n : Nat} {x : D} {r : List D} {st : Sto} (h : ChkOk c st) : lcL c gf tt te env n (x :: r) st = (gf x env st).noex.bind fun e s => (tt e s).noex.bind fun b s1 => if b = true then (te e s1).noex.bind fun d s2 => match s2[n]? with
        | some (.lst acc) => if acc.length < sizeLine then lcL c gf tt te env n r (s2.set n (.lst (acc ++ [d]))) else .bad
        | _ => .bad
      else lcL c gf tt te env n r s1 := by
  rw [lcL, if_pos h]
  all_goals rfl
/-- a comprehension whose element lays nothing -/
theorem lcL_map {c : Chk} {gf : GF} {te : EF} {env : EnvD} {s : Sto} {h : D → D} (hc : ∀ acc, ChkOk c (s ++ [.lst acc])) : ∀ {ds : List D} {acc : List D}, acc.length + ds.length ≤ sizeLine →
    (∀ x ∈ ds, ∀ acc, ∃ e, gf x env (s ++ [.lst acc]) = .ok e (s ++ [.lst acc]) ∧ te e (s ++ [.lst acc]) = .ok (h x) (s ++ [.lst acc])) →
    lcL c gf yesT te env s.length ds (s ++ [.lst acc]) = .ok () (s ++ [.lst (acc ++ ds.map h)])
  | [], acc, _, _ => by rw [lcL_nil (hc acc)]; simp
  | x :: ds, acc, hl, hb => by
    obtain ⟨e, h1, h2⟩ := hb x List.mem_cons_self acc
    rw [List.length_cons] at hl
    rw [lcL_cons (hc acc), h1, R.noex_ok, R.bind_ok]
    show (R.noex (R.ok true _)).bind _ = _
    rw [R.noex_ok, R.bind_ok, if_pos rfl, h2, R.noex_ok, R.bind_ok, get_last]
    simp only
    rw [if_pos (by omega), set_last, lcL_map hc (by rw [List.length_append, List.length_singleton]; omega) fun y hy => hb y (List.mem_cons_of_mem _ hy)]
    simp
theorem lcF_map {it : ItF} {vs : List Nat} {gf : GF} {te : EF} {env : EnvD} {st s : Sto} {ds : List D} {c : Chk} (h : D → D) (hit : it env st = .ok (ds, c) s) (hc : ∀ acc, ChkOk c (s ++ [.lst acc])) (hl : ds.length ≤ sizeLine)
    (hb : ∀ x ∈ ds, ∀ acc, ∃ e, gf x (wipeE env vs) (s ++ [.lst acc]) = .ok e (s ++ [.lst acc]) ∧ te e (s ++ [.lst acc]) = .ok (h x) (s ++ [.lst acc])) :
    lcF it vs gf yesT te env st = .ok (.ref s.length) (s ++ [.lst (ds.map h)]) := by
  unfold lcF
  rw [hit, R.bind_ok, lcL_map hc (by simpa using hl) hb, R.bind_ok, List.nil_append]
theorem pow62 : (2 : Int) ^ 62 = 4611686018427387904 := by decide
theorem rng1_ok {w : Nat} {st : Sto} (h : w < 4611686018427387904) : rng1D [.int (w : Int)] st = .ok (intsD 0 1 w, []) st := by
  simp only [rng1D]
  rw [pow62, if_pos ⟨by omega, by omega⟩, Int.toNat_natCast]
theorem lenD_list {st : Sto} {n : Nat} {xs : List D} (h : listAt st n = some xs) : lenD [.ref n] st = .ok (.int xs.length) st := by simp only [lenD, h]
theorem lenD_tup {st : Sto} {xs : List D} : lenD [.tup xs] st = .ok (.int xs.length) st := rfl
theorem tupleD_list {st : Sto} {n : Nat} {xs : List D} (h : listAt st n = some xs) : tupleD [.ref n] st = .ok (.tup xs) st := by simp only [tupleD, h]
theorem tyD_list {st : Sto} {n : Nat} {xs : List D} (h : listAt st n = some xs) : tyD "list" (.ref n) st := .inl ⟨rfl, by rw [h]; rfl⟩
theorem appD_ok {st : Sto} {n : Nat} {xs : List D} {d : D} (h : st[n]? = some (.lst xs)) (hz : xs.length < sizeLine) : appD (.ref n) [d] st = .ok .non (st.set n (.lst (xs ++ [d]))) := by
  simp only [appD, h]
  rw [if_pos hz]
theorem ixD_list {st : Sto} {n k : Nat} {xs : List D} {d : D} (h : listAt st n = some xs) (hk : xs[k]? = some d) : ixD (.ref n) (.int (k : Int)) st = .ok d st := by
  simp only [ixD, h, Option.bind_some, atI_nat hk]
theorem ixD_tup {st : Sto} {k : Nat} {xs : List D} {d : D} (hk : xs[k]? = some d) : ixD (.tup xs) (.int (k : Int)) st = .ok d st := by
  simp only [ixD, atI_nat hk]
theorem itD_list {st : Sto} {n : Nat} {xs : List D} (h : listAt st n = some xs) : itD (.ref n) st = .ok (xs, chkAt st n) st := by simp only [itD, h]
theorem itD_tup {st : Sto} {xs : List D} : itD (.tup xs) st = .ok (xs, []) st := rfl
theorem chkAt_ok {st st' : Sto} {n : Nat} {o : O} (h : st[n]? = some o) (h' : st'[n]? = some o) : ChkOk (chkAt st n) st' := by
  unfold chkAt; rw [h]; exact ChkOk.one h'
theorem isN_f {d : D} {st : Sto} : isN false d .non st = .ok (.bl (match d with | .non => true | _ => false)) st := by cases d <;> rfl
theorem isN_t {d : D} {st : Sto} : isN true d .non st = .ok (.bl (match d with | .non => false | _ => true)) st := by cases d <;> rfl
theorem cutD_to {xs : List D} {k : Nat} : cutD xs none (some (k : Int)) = xs.take k := by
  unfold cutD
  rw [HT.sIx_none, HT.sIx_nat, List.drop_zero, Nat.sub_zero]
  by_cases h : k ≤ xs.length
  · rw [Nat.min_eq_left h]
  · rw [Nat.min_eq_right (by omega), List.take_length, List.take_of_length_le (by omega)]
theorem cutD_from {xs : List D} {k : Nat} : cutD xs (some (k : Int)) none = xs.drop k := by
  unfold cutD
  rw [HT.sIx_none, HT.sIx_nat]
  by_cases h : k ≤ xs.length
  · rw [Nat.min_eq_left h]
    exact List.take_of_length_le (by rw [List.length_drop]; omega)
  · rw [Nat.min_eq_right (by omega), List.drop_length, List.drop_of_length_le (by omega)]
    simp
theorem cutD_part {xs : List D} {j k : Nat} : cutD xs (some (j : Int)) (some (k : Int)) = (xs.take k).drop j := by
  unfold cutD
  rw [HT.sIx_nat, HT.sIx_nat, List.drop_take]
  by_cases h : j ≤ xs.length
  · rw [Nat.min_eq_left h]
    by_cases h2 : k ≤ xs.length
    · rw [Nat.min_eq_left h2]
    · rw [Nat.min_eq_right (by omega)]
      rw [List.take_of_length_le (by rw [List.length_drop]; omega), List.take_of_length_le (by rw [List.length_drop]; omega)]
  · rw [Nat.min_eq_right (by omega : xs.length ≤ j), List.drop_length, List.drop_of_length_le (by omega)]
    simp
def N7 : List String := ["NoneType", "bool", "int", "str", "tuple", "list", "dict"]
def T6 : List String := ["int", "bool", "tuple", "list", "dict", "str"]
theorem kit_all : ∀ a ∈ N7, ∀ T ∈ T6, kitB a T = some (a == T || (a == "bool" && T == "int")) := by decide +kernel
theorem tyOfD_mem {d : D} {st : Sto} {a : String} (h : tyOfD d st = some a) : a ∈ N7 := by
  cases d with
  | ref n =>
    simp only [tyOfD] at h
    split at h <;> first | (cases h; done) | (cases h; decide)
  | _ => first | (cases h; done) | (cases h; decide)
/-- isinstance(d, T) -/
def isT (d : D) (st : Sto) (T : String) : Bool := match tyOfD d st with
  | some a => a == T || (a == "bool" && T == "int")
  | none => false
theorem isi_ok {d : D} {st : Sto} {T : String} (h : (tyOfD d st).isSome = true) (hT : T ∈ T6) : isiD [d, .ty T] st = .ok (.bl (isT d st T)) st := by
  obtain ⟨a, ha⟩ := Option.isSome_iff_exists.mp h
  simp only [isiD, ha, Option.bind_some, kit_all a (tyOfD_mem ha) T hT, isT]
/-- a datum of a told type, here and in each later store -/
def Good (d : D) (st : Sto) : Prop := ∀ j, (tyOfD d (st ++ j)).isSome = true ∧ tyOfD d (st ++ j) = tyOfD d st
theorem Good.here {d : D} {st : Sto} (h : Good d st) : (tyOfD d st).isSome = true := by have := (h []).1; rwa [List.append_nil] at this
theorem Good.app {d : D} {st : Sto} (h : Good d st) (j : Sto) : Good d (st ++ j) := fun k => by
  rw [List.append_assoc]
  exact ⟨(h (j ++ k)).1, (h (j ++ k)).2.trans (h j).2.symm⟩
theorem Good.le {d : D} {st st' : Sto} (h : Good d st) (l : Le st st') : Good d st' := by obtain ⟨j, rfl⟩ := l; exact h.app j
theorem Good.ref {n : Nat} {st : Sto} {o : O} (h : st[n]? = some o) (h2 : (tyOfD (.ref n) st).isSome = true) : Good (.ref n) st := fun j => by
  have e : tyOfD (.ref n) (st ++ j) = tyOfD (.ref n) st := by simp only [tyOfD, get_app h, h]
  exact ⟨by rw [e]; exact h2, e⟩
theorem Good.non {st : Sto} : Good .non st := fun _ => ⟨rfl, rfl⟩
theorem Good.bl {st : Sto} {b : Bool} : Good (.bl b) st := fun _ => ⟨rfl, rfl⟩
theorem Good.int {st : Sto} {b : Int} : Good (.int b) st := fun _ => ⟨rfl, rfl⟩
theorem Good.str {st : Sto} {b : Str} : Good (.str b) st := fun _ => ⟨rfl, rfl⟩
theorem Good.tup {st : Sto} {b : List D} : Good (.tup b) st := fun _ => ⟨rfl, rfl⟩
/-- a loop whose turns all go on, while the store only grows -/
theorem forL_le {c : Chk} {gf : GF} {b : SF} {ds : List D} {env : EnvD} {st : Sto} (hc : ChkOk c st) (J : EnvD → Prop) (h0 : J env)
    (hs : ∀ x ∈ ds, ∀ env s, J env → Le st s → ∃ e s1 e' s', gf x env s = .ok e s1 ∧ b e s1 = .ok (.nx e') s' ∧ J e' ∧ Le s s') : ∃ e' s', forL c gf b ds env st = .ok (.nx e') s' ∧ J e' ∧ Le st s' := by
  obtain ⟨e', s', h1, h2, h3⟩ := forL_inv (c := c) (gf := gf) (b := b) (ds := ds) (env := env) (st := st) (fun _ e s => J e ∧ Le st s) ⟨h0, Le.refl st⟩ (fun _ _ s h p hp => h.2.get (hc p hp)) fun i x e s hx ⟨hj, hl⟩ => by
    obtain ⟨e1, s1, e2, s2, h1, h2, h3, h4⟩ := hs x (List.mem_of_getElem? hx) e s hj hl
    exact ⟨e1, s1, e2, s2, h1, h2, h3, hl.trans h4⟩
  exact ⟨e', s', h1, h2, h3⟩
theorem addD_tup {xs ys : List D} {st : Sto} (h : xs.length + ys.length ≤ sizeLine) : addD (.tup xs) (.tup ys) st = .ok (.tup (xs ++ ys)) st := by simp only [addD]; rw [if_pos h]
theorem addD_lst {m n : Nat} {xs ys : List D} {st : Sto} (h1 : st[m]? = some (.lst xs)) (h2 : st[n]? = some (.lst ys)) (h : xs.length + ys.length ≤ sizeLine) : addD (.ref m) (.ref n) st = .ok (.ref st.length) (st ++ [.lst (xs ++ ys)]) := by
  simp only [addD, h1, h2]; rw [if_pos h]; rfl
theorem slD_list {n : Nat} {xs : List D} {lo hi : Option Int} {st : Sto} (h : listAt st n = some xs) : slD (.ref n) lo hi st = .ok (.ref st.length) (st ++ [.lst (cutD xs lo hi)]) := by
  simp only [slD, h]; rfl
theorem allD_ok {n : Nat} {bs : List Bool} {st : Sto} (h : listAt st n = some (bs.map D.bl)) : allD [.ref n] st = .ok (.bl (bs.all id)) st := by
  have e : ∀ bs : List Bool, bools (bs.map D.bl) = some bs := by
    intro bs
    induction bs with
    | nil => rfl
    | cons b bs ih => rw [List.map_cons, bools, ih]; rfl
  simp only [allD, h, Option.bind_some, e]
theorem sizeLine_eq' : sizeLine = 16777216 := by decide
/-! ### comprehensions whose elements lay objects of their own -/
theorem Le.set {a s : Sto} {n : Nat} {o : O} (h : Le a s) (hn : a.length ≤ n) : Le a (s.set n o) := by
  obtain ⟨j, rfl⟩ := h
  exact ⟨j.set (n - a.length) o, by rw [List.set_append_right _ _ hn]⟩
theorem lcL_grow {c : Chk} {gf : GF} {tt : TF} {te : EF} {env : EnvD} {s : Sto} {h : D → D} {p : D → Bool} (hc : ∀ S, Le s S → ChkOk c S) : ∀ {ds acc : List D} {j : Sto}, acc.length + ds.length ≤ sizeLine →
    (∀ x ∈ ds, ∀ S, Le s S → ∃ e j1, gf x env S = .ok e S ∧ tt e S = .ok (p x) (S ++ j1) ∧ (p x = true → ∃ j2, te e (S ++ j1) = .ok (h x) (S ++ j1 ++ j2))) →
    ∃ j', lcL c gf tt te env s.length ds (s ++ .lst acc :: j) = .ok () (s ++ .lst (acc ++ (ds.filter p).map h) :: j')
  | [], acc, j, _, _ => ⟨j, by rw [lcL_nil (hc _ (Le.app _ _))]; simp⟩
  | x :: ds, acc, j, hl, hb => by
    have hle : Le s (s ++ .lst acc :: j) := Le.app _ _
    obtain ⟨e, j1, h1, h2, h3⟩ := hb x List.mem_cons_self _ hle
    rw [List.length_cons] at hl
    rw [lcL_cons (hc _ hle), h1, R.noex_ok, R.bind_ok, h2, R.noex_ok, R.bind_ok]
    cases hp : p x with
    | false =>
      rw [if_neg Bool.false_ne_true, List.filter_cons, if_neg (by rw [hp]; exact Bool.false_ne_true), List.append_assoc, List.cons_append]
      exact lcL_grow hc (by omega) fun y hy => hb y (List.mem_cons_of_mem _ hy)
    | true =>
      obtain ⟨j2, h4⟩ := h3 hp
      rw [if_pos rfl, h4, R.noex_ok, R.bind_ok, List.filter_cons, if_pos hp, List.map_cons]
      have g : (s ++ O.lst acc :: j ++ j1 ++ j2)[s.length]? = some (.lst acc) := by
        rw [List.append_assoc, List.append_assoc, List.getElem?_append_right (Nat.le_refl _), Nat.sub_self]; rfl
      have st : (s ++ O.lst acc :: j ++ j1 ++ j2).set s.length (.lst (acc ++ [h x])) = s ++ O.lst (acc ++ [h x]) :: (j ++ j1 ++ j2) := by
        rw [List.append_assoc, List.append_assoc, List.set_append_right _ _ (Nat.le_refl _), Nat.sub_self]; simp
      rw [g]
      simp only
      rw [if_pos (by omega), st]
      obtain ⟨j', h5⟩ := lcL_grow (acc := acc ++ [h x]) (j := j ++ j1 ++ j2) hc (by rw [List.length_append, List.length_singleton]; omega) fun y hy => hb y (List.mem_cons_of_mem _ hy)
      exact ⟨j', by rw [h5]; simp⟩
theorem lcF_grow {it : ItF} {vs : List Nat} {gf : GF} {tt : TF} {te : EF} {env : EnvD} {st s : Sto} {ds : List D} {c : Chk} (h : D → D) (p : D → Bool) (hit : it env st = .ok (ds, c) s) (hc : ∀ S, Le s S → ChkOk c S) (hl : ds.length ≤ sizeLine)
    (hb : ∀ x ∈ ds, ∀ S, Le s S → ∃ e j1, gf x (wipeE env vs) S = .ok e S ∧ tt e S = .ok (p x) (S ++ j1) ∧ (p x = true → ∃ j2, te e (S ++ j1) = .ok (h x) (S ++ j1 ++ j2))) :
    ∃ j, lcF it vs gf tt te env st = .ok (.ref s.length) (s ++ .lst ((ds.filter p).map h) :: j) := by
  obtain ⟨j, e⟩ := lcL_grow (acc := []) (j := []) hc (by simpa using hl) hb
  exact ⟨j, by unfold lcF; rw [hit, R.bind_ok, e, R.bind_ok, List.nil_append]⟩
/-- .. without a test -/
theorem lcF_all {it : ItF} {vs : List Nat} {gf : GF} {te : EF} {env : EnvD} {st s : Sto} {ds : List D} {c : Chk} (h : D → D) (hit : it env st = .ok (ds, c) s) (hc : ∀ S, Le s S → ChkOk c S) (hl : ds.length ≤ sizeLine)
    (hb : ∀ x ∈ ds, ∀ S, Le s S → ∃ e j, gf x (wipeE env vs) S = .ok e S ∧ te e S = .ok (h x) (S ++ j)) :
    ∃ j, lcF it vs gf yesT te env st = .ok (.ref s.length) (s ++ .lst (ds.map h) :: j) := by
  obtain ⟨j, e⟩ := lcF_grow (tt := yesT) (te := te) (gf := gf) (vs := vs) h (fun _ => true) hit hc hl fun x hx S hS => by
    obtain ⟨e, j, h1, h2⟩ := hb x hx S hS
    exact ⟨e, [], h1, by rw [List.append_nil]; rfl, fun _ => ⟨j, by rw [List.append_nil]; exact h2⟩⟩
  exact ⟨j, by rw [e, List.filter_eq_self.mpr fun _ _ => rfl]⟩
theorem chk_nil {s : Sto} : ∀ S, Le s S → ChkOk [] S := fun _ _ => ChkOk.nil
theorem ChkOk.app {c d : Chk} {S : Sto} (h : ChkOk c S) (k : ChkOk d S) : ChkOk (c ++ d) S := fun p hp => (List.mem_append.mp hp).elim (h p) (k p)
theorem chk_at {s : Sto} {n : Nat} : ∀ S, Le s S → ChkOk (chkAt s n) S := fun S l => by
  unfold chkAt
  split
  · rename_i o h; exact ChkOk.one (l.get h)
  · exact ChkOk.nil
theorem get_at {s j : Sto} {o : O} : (s ++ o :: j)[s.length]? = some o := by rw [List.getElem?_append_right (Nat.le_refl _), Nat.sub_self]; rfl
theorem listAt_at {s j : Sto} {xs : List D} : listAt (s ++ .lst xs :: j) s.length = some xs := listAt_lst get_at
theorem set_at {s j : Sto} {o u : O} : (s ++ o :: j).set s.length u = s ++ u :: j := by rw [List.set_append_right _ _ (Nat.le_refl _), Nat.sub_self]; rfl
theorem Le.def {a b : Sto} (h : Le a b) : ∃ j, b = a ++ j := h
theorem eqF_str {a b : Str} : eqF (.str a) (.str b) = decide (a = b) := by
  show (a == b) = _
  rfl
theorem inL_ok {neg : Bool} {x : D} {ds : List D} {st : Sto} (h : flatD x = true) (h2 : ds.all flatD = true) : inL neg x ds st = .ok (.bl (if neg then !(ds.any fun y => eqF y x) else ds.any fun y => eqF y x)) st := by unfold inL; rw [if_pos ⟨h, h2⟩]
theorem numbered_mem {ds : List D} {d : D} (h : d ∈ numbered ds) : ∃ i x, i < ds.length ∧ ds[i]? = some x ∧ d = .tup [.int (i : Nat), x] := by
  obtain ⟨i, hi⟩ := List.getElem?_of_mem h
  obtain ⟨x, h1, h2⟩ := numbered_get hi
  exact ⟨i, x, (List.getElem?_eq_some_iff.mp h1).1, h1, h2⟩
theorem lcF_any {it : ItF} {vs : List Nat} {gf : GF} {te : EF} {env : EnvD} {st s : Sto} {ds : List D} {c : Chk} {A : Type} (f : A → D) (T : D → A → Prop) (hit : it env st = .ok (ds, c) s) (hc : ∀ S, Le s S → ChkOk c S) (hl : ds.length ≤ sizeLine)
    (hb : ∀ x ∈ ds, ∃ a, T x a ∧ ∀ S, Le s S → ∃ e j, gf x (wipeE env vs) S = .ok e S ∧ te e S = .ok (f a) (S ++ j)) :
    ∃ l : List A, l.length = ds.length ∧ (∃ j, lcF it vs gf yesT te env st = .ok (.ref s.length) (s ++ .lst (l.map f) :: j)) ∧ ∀ a ∈ l, ∃ x ∈ ds, T x a := by
  classical
  by_cases ha : Nonempty A
  · obtain ⟨a0⟩ := ha
    let g : D → A := fun x => if h : ∃ a, T x a ∧ ∀ S, Le s S → ∃ e j, gf x (wipeE env vs) S = .ok e S ∧ te e S = .ok (f a) (S ++ j) then h.choose else a0
    have hg : ∀ x ∈ ds, T x (g x) ∧ ∀ S, Le s S → ∃ e j, gf x (wipeE env vs) S = .ok e S ∧ te e S = .ok (f (g x)) (S ++ j) := by
      intro x hx
      show T x (dite _ _ _) ∧ ∀ S, Le s S → ∃ e j, _ ∧ te e S = .ok (f (dite _ _ _)) (S ++ j)
      rw [dif_pos (hb x hx)]
      exact (hb x hx).choose_spec
    refine ⟨ds.map g, List.length_map _, ?_, fun a ha => ?_⟩
    · obtain ⟨j, e⟩ := lcF_all (fun x => f (g x)) hit hc hl fun x hx => (hg x hx).2
      exact ⟨j, by rw [e, List.map_map]; rfl⟩
    · obtain ⟨x, hx, rfl⟩ := List.mem_map.mp ha
      exact ⟨x, hx, (hg x hx).1⟩
  · have : ds = [] := by
      cases ds with
      | nil => rfl
      | cons x r => obtain ⟨a, _⟩ := hb x List.mem_cons_self; exact absurd ⟨a⟩ ha
    subst this
    obtain ⟨j, e⟩ := lcF_all (vs := vs) (gf := gf) (te := te) (fun x => x) hit hc hl fun x hx => nomatch hx
    exact ⟨[], rfl, ⟨j, e⟩, fun a ha => nomatch ha⟩
theorem minD_ok {a b : Int} {st : Sto} : minD [.int a, .int b] st = .ok (.int (min a b)) st := by
  show R.ok (D.int (if b < a then b else a)) st = _
  congr 2
  rw [Int.min_def]
  split <;> split <;> omega
theorem maxD_ok {a b : Int} {st : Sto} : maxD [.int a, .int b] st = .ok (.int (max a b)) st := by
  show R.ok (D.int (if b > a then b else a)) st = _
  congr 2
  rw [Int.max_def]
  split <;> split <;> omega
def varK (st : Sto) (o : Option (Option D)) : R D := match o with
  | some (some d) => .ok d st
  | _ => .bad
theorem varK_ap {st : Sto} {d : D} : varK st (some (some d)) = .ok d st := rfl
def eqK (o : Option Bool) (st : Sto) : R D := match o with
  | some c => .ok (.bl c) st
  | none => .bad
def neK (o : Option Bool) (st : Sto) : R D := match o with
  | some c => .ok (.bl (!c)) st
  | none => .bad
/-! ### evaluation, step by step (no binder in sight) -/
section
variable {f fa fb fo : EF} {fr : AF} {t u : TF} {a b : SF} {i n : Nat} {d e : D} {env env' : EnvD} {st s : Sto}
theorem varF_ap : varF i env st = varK st env[i]? := rfl
theorem cF_ap : cF d env st = .ok d st := rfl
def opK (g : D → D → Sto → R D) (fb : EF) (env : EnvD) (x : D) (s : Sto) : R D := (fb env s).bind (g x)
theorem opF_ap {g : D → D → Sto → R D} : opF g fa fb env st = (fa env st).bind (opK g fb env) := rfl
theorem opK_ap {g : D → D → Sto → R D} : opK g fb env d s = (fb env s).bind (g d) := rfl
def boolK (d : D) (s : Sto) : R Bool := match d with
  | .bl b => .ok b s
  | _ => .bad
theorem bF_ap : bF f env st = (f env st).bind boolK := rfl
theorem boolK_ap {c : Bool} : boolK (.bl c) s = .ok c s := rfl
def andK (u : TF) (env : EnvD) (c : Bool) (s : Sto) : R Bool := if c = true then u env s else .ok false s
def orK (u : TF) (env : EnvD) (c : Bool) (s : Sto) : R Bool := if c = true then .ok true s else u env s
def notK (c : Bool) (s : Sto) : R Bool := .ok (!c) s
theorem andT_ap : andT t u env st = (t env st).bind (andK u env) := rfl
theorem andK_ap {c : Bool} : andK u env c s = if c = true then u env s else .ok false s := rfl
theorem orT_ap : orT t u env st = (t env st).bind (orK u env) := rfl
theorem orK_ap {c : Bool} : orK u env c s = if c = true then .ok true s else u env s := rfl
theorem notT_ap : notT t env st = (t env st).bind notK := rfl
theorem notK_ap {c : Bool} : notK c s = .ok (!c) s := rfl
theorem yesT_ap : yesT env st = .ok true st := rfl
def andVK (f : EF) (env : EnvD) (c : Bool) (s : Sto) : R D := if c = true then f env s else .ok (.bl false) s
def orVK (f : EF) (env : EnvD) (c : Bool) (s : Sto) : R D := if c = true then .ok (.bl true) s else f env s
def notVK (c : Bool) (s : Sto) : R D := .ok (.bl (!c)) s
theorem andV_ap : andV fa fb env st = (bF fa env st).bind (andVK fb env) := rfl
theorem andVK_ap {c : Bool} : andVK f env c s = if c = true then f env s else .ok (.bl false) s := rfl
theorem orV_ap : orV fa fb env st = (bF fa env st).bind (orVK fb env) := rfl
theorem orVK_ap {c : Bool} : orVK f env c s = if c = true then .ok (.bl true) s else f env s := rfl
theorem notV_ap : notV fa env st = (bF fa env st).bind notVK := rfl
theorem notVK_ap {c : Bool} : notVK c s = .ok (.bl (!c)) s := rfl
def ifFK (fa fb : EF) (env : EnvD) (c : Bool) (s : Sto) : R D := if c = true then fa env s else fb env s
theorem ifF_ap : ifF t fa fb env st = (t env st).bind (ifFK fa fb env) := rfl
theorem ifFK_ap {c : Bool} : ifFK fa fb env c s = if c = true then fa env s else fb env s := rfl
theorem nilA_ap : nilA env st = .ok [] st := rfl
def consK (fr : AF) (env : EnvD) (x : D) (s : Sto) : R (List D) := (fr env s).bind fun xs s' => .ok (x :: xs) s'
def consJ (x : D) (xs : List D) (s : Sto) : R (List D) := .ok (x :: xs) s
theorem consA_ap : consA f fr env st = (f env st).bind (consK fr env) := rfl
theorem consK_ap : consK fr env d s = (fr env s).bind (consJ d) := rfl
theorem consJ_ap {ds : List D} : consJ d ds s = .ok (d :: ds) s := rfl
def tupK (xs : List D) (s : Sto) : R D := if xs.length ≤ sizeLine then .ok (.tup xs) s else .bad
def lstK (xs : List D) (s : Sto) : R D := if xs.length ≤ sizeLine then newO (.lst xs) s else .bad
theorem tupA_ap : tupA fr env st = (fr env st).bind tupK := rfl
theorem tupK_ap {xs : List D} : tupK xs s = if xs.length ≤ sizeLine then .ok (.tup xs) s else .bad := rfl
theorem lstA_ap : lstA fr env st = (fr env st).bind lstK := rfl
theorem lstK_ap {xs : List D} : lstK xs s = if xs.length ≤ sizeLine then newO (.lst xs) s else .bad := rfl
theorem newO_ap {o : O} : newO o st = .ok (.ref st.length) (st ++ [o]) := rfl
theorem dicF_ap : dicF env st = .ok (.ref st.length) (st ++ [.dic []]) := rfl
theorem callF_ap {g : List D → Sto → R D} : callF g fr env st = (fr env st).bind g := rfl
theorem un1_ap {g : D → Sto → R D} : un1 g f env st = (f env st).bind g := rfl
open Classical in
noncomputable def methK (T : String) (g : D → List D → Sto → R D) (fr : AF) (env : EnvD) (d : D) (s : Sto) : R D := if tyD T d s then (fr env s).bind (g d) else .bad
open Classical in
theorem methF_ap {T : String} {g : D → List D → Sto → R D} : methF T g fo fr env st = (fo env st).bind (methK T g fr env) := rfl
open Classical in
theorem methK_ap {T : String} {g : D → List D → Sto → R D} : methK T g fr env d s = if tyD T d s then (fr env s).bind (g d) else .bad := rfl
theorem nonO_ap : nonO env st = .ok none st := rfl
def someK (d : D) (s : Sto) : R (Option Int) := match d with
  | .int i => .ok (some i) s
  | _ => .bad
theorem someO_ap : someO f env st = (f env st).bind someK := rfl
theorem someK_ap {k : Int} : someK (.int k) s = .ok (some k) s := rfl
def slK (fl fh : OF) (env : EnvD) (d : D) (s : Sto) : R D := (fl env s).bind fun lo s1 => (fh env s1).bind fun hi s2 => slD d lo hi s2
def slJ (fh : OF) (env : EnvD) (d : D) (lo : Option Int) (s : Sto) : R D := (fh env s).bind fun hi s2 => slD d lo hi s2
theorem slF_ap {fl fh : OF} : slF f fl fh env st = (f env st).bind (slK fl fh env) := rfl
theorem slK_ap {fl fh : OF} : slK fl fh env d s = (fl env s).bind (slJ fh env d) := rfl
theorem slJ_ap {fh : OF} {lo : Option Int} : slJ fh env d lo s = (fh env s).bind (slD d lo) := rfl
theorem itF_ap : itF f env st = (f env st).bind itD := rfl
theorem itA_ap {g : List D → Sto → R (List D × Chk)} : itA g fr env st = (fr env st).bind g := rfl
theorem nilS_ap : nilS env st = .ok (.nx env) st := rfl
theorem bkS_ap : bkS env st = .ok (.bk env) st := rfl
theorem ctS_ap : ctS env st = .ok (.ct env) st := rfl
def seqK (b : SF) (fl : Fl) (s : Sto) : R Fl := match fl with
  | .nx e => b e s
  | fl => .ok fl s
theorem seqS_ap : seqS a b env st = (a env st).bind (seqK b) := rfl
theorem seqK_nx : seqK b (.nx env) s = b env s := rfl
theorem seqK_rt : seqK b (.rt d) s = .ok (.rt d) s := rfl
theorem seqK_bk : seqK b (.bk env) s = .ok (.bk env) s := rfl
theorem seqK_ct : seqK b (.ct env) s = .ok (.ct env) s := rfl
def dropK (env : EnvD) (_ : D) (s : Sto) : R Fl := .ok (.nx env) s
theorem dropS_ap : dropS f env st = (f env st).bind (dropK env) := rfl
theorem dropK_ap : dropK env d s = .ok (.nx env) s := rfl
def retK (d : D) (s : Sto) : R Fl := .ok (.rt d) s
theorem retS_ap : retS f env st = (f env st).bind retK := rfl
theorem retK_ap : retK d s = .ok (.rt d) s := rfl
theorem retN_ap : retN env st = .ok (.rt .non) st := rfl
def ifK (a b : SF) (env : EnvD) (c : Bool) (s : Sto) : R Fl := if c = true then a env s else b env s
theorem ifS_ap : ifS t a b env st = (t env st).bind (ifK a b env) := rfl
theorem ifK_ap {c : Bool} : ifK a b env c s = if c = true then a env s else b env s := rfl
def setK (i : Nat) (env : EnvD) (d : D) (s : Sto) : R Fl := .ok (.nx (env.set i (some d))) s
theorem setS_ap : setS i f env st = (f env st).bind (setK i env) := rfl
theorem setK_ap : setK i env d s = .ok (.nx (env.set i (some d))) s := rfl
def asgK (gf : GF) (env : EnvD) (d : D) (s : Sto) : R Fl := (gf d env s).bind fun e s' => .ok (.nx e) s'
def asgJ (e : EnvD) (s : Sto) : R Fl := .ok (.nx e) s
theorem asgS_ap {gf : GF} : asgS f gf env st = (f env st).bind (asgK gf env) := rfl
theorem asgK_ap {gf : GF} : asgK gf env d s = (gf d env s).bind asgJ := rfl
theorem asgJ_ap : asgJ env s = .ok (.nx env) s := rfl
theorem nameG_ap : nameG i d env st = .ok (env.set i (some d)) st := rfl
theorem nilG_ap : nilG [] env st = .ok env st := rfl
def consGK (r : List D → EnvD → Sto → R EnvD) (ds : List D) (e : EnvD) (s : Sto) : R EnvD := r ds e s
theorem consG_ap {g : GF} {r : List D → EnvD → Sto → R EnvD} {ds : List D} : consG g r (d :: ds) env st = (g d env st).bind (consGK r ds) := rfl
theorem consGK_ap {r : List D → EnvD → Sto → R EnvD} {ds : List D} : consGK r ds env s = r ds env s := rfl
theorem tupG_ap {g : List D → EnvD → Sto → R EnvD} {ds : List D} : tupG n g (.tup ds) env st = if ds.length = n then g ds env st else .bad := rfl
def fnK (fl : Fl) (s : Sto) : R D := match fl with
  | .nx _ => .ok .non s
  | .rt d => .ok d s
  | _ => .bad
theorem fnF_ap {ds : List D} : fnF n a ds st = (a (startE n ds) st).bind fnK := rfl
theorem fnK_nx : fnK (.nx env) s = .ok .non s := rfl
theorem fnK_rt : fnK (.rt d) s = .ok d s := rfl
noncomputable def forK (gf : GF) (b : SF) (env : EnvD) (p : List D × Chk) (s : Sto) : R Fl := forL p.2 gf b p.1 env s
theorem forS_ap {it : ItF} {gf : GF} : forS it gf b env st = (it env st).bind (forK gf b env) := rfl
theorem forK_ap {gf : GF} {ds : List D} {c : Chk} : forK gf b env (ds, c) s = forL c gf b ds env s := rfl
theorem intD_ap {c : Int → Int → Bool} {g : Int → Int → D} {j k : Int} : intD c g (.int j) (.int k) st = if c j k = true then .ok (g j k) st else .bad := rfl
theorem negD_ap {k : Int} : negD (.int k) st = .ok (.int (-k)) st := rfl
theorem addI_ap {j k : Int} : addD (.int j) (.int k) st = .ok (.int (j + k)) st := rfl
theorem bind_ok_ {A B : Type} {x : A} {k : A → Sto → R B} : (R.ok x s).bind k = k x s := rfl
theorem bind_ex_ {A B : Type} {c : Str} {k : A → Sto → R B} : (R.ex c s : R A).bind k = .ex c s := rfl
theorem eqD_ap : eqD d e st = eqK (eqP d e) st := by unfold eqD eqK; rfl
theorem eqK_ap {c : Bool} : eqK (some c) st = .ok (.bl c) st := rfl
theorem neD_ap : neD d e st = neK (eqP d e) st := by unfold neD neK; rfl
theorem neK_ap {c : Bool} : neK (some c) st = .ok (.bl (!c)) st := rfl
theorem eqP_str {x y : Str} : eqP (.str x) (.str y) = some (decide (x = y)) := rfl
theorem eqP_int {x y : Int} : eqP (.int x) (.int y) = some (decide (x = y)) := rfl
theorem eqP_bl {x y : Bool} : eqP (.bl x) (.bl y) = some (decide (x = y)) := rfl
theorem eqP_non : eqP .non .non = some true := rfl
theorem eqP_ni {x : Int} : eqP .non (.int x) = some false := rfl
theorem eqP_in {x : Int} : eqP (.int x) .non = some false := rfl
theorem inS_tup {neg : Bool} {ds : List D} : inSq neg d (.tup ds) st = inL neg d ds st := by cases d <;> rfl
end
theorem subD_ap {a b : Int} {st : Sto} : subD (.int a) (.int b) st = .ok (.int (a - b)) st := rfl
theorem ltD_ap {a b : Int} {st : Sto} : ltD (.int a) (.int b) st = .ok (.bl (decide (a < b))) st := rfl
theorem leD_ap {a b : Int} {st : Sto} : leD (.int a) (.int b) st = .ok (.bl (decide (a ≤ b))) st := rfl
theorem gtD_ap {a b : Int} {st : Sto} : gtD (.int a) (.int b) st = .ok (.bl (decide (a > b))) st := rfl
theorem geD_ap {a b : Int} {st : Sto} : geD (.int a) (.int b) st = .ok (.bl (decide (a ≥ b))) st := rfl
theorem mulD_ap {a b : Int} {st : Sto} (h : MulOk a b) : mulD (.int a) (.int b) st = .ok (.int (a * b)) st := by
  show (if decide (MulOk a b) = true then _ else _) = _
  rw [if_pos (decide_eq_true h)]
theorem modD_ap {a b : Int} {st : Sto} (h : 0 < b) : modD (.int a) (.int b) st = .ok (.int (a % b)) st := by
  show (if decide (0 < b) = true then _ else _) = _
  rw [if_pos (decide_eq_true h)]
theorem divD_ap {a b : Int} {st : Sto} (h : 0 < b) (h2 : b.natAbs.log2 < 9000) : divD (.int a) (.int b) st = .ok (.int (a / b)) st := by
  show (if decide (0 < b ∧ b.natAbs.log2 < 9000) = true then _ else _) = _
  rw [if_pos (decide_eq_true ⟨h, h2⟩)]
theorem powD_ap {a b : Int} {st : Sto} (h : 0 ≤ b ∧ b ≤ 1000000 ∧ a.natAbs < 2 ^ 64) : powD (.int a) (.int b) st = .ok (.int (a ^ b.toNat)) st := by
  show (if decide (0 ≤ b ∧ b ≤ 1000000 ∧ a.natAbs < 2 ^ 64) = true then _ else _) = _
  rw [if_pos (decide_eq_true h)]
theorem tupK_ok {xs : List D} {st : Sto} (h : xs.length ≤ sizeLine) : tupK xs st = .ok (.tup xs) st := by rw [tupK_ap, if_pos h]
theorem lstK_ok {xs : List D} {st : Sto} (h : xs.length ≤ sizeLine) : lstK xs st = .ok (.ref st.length) (st ++ [.lst xs]) := by rw [lstK_ap, if_pos h]; rfl
theorem methK_ok {T : String} {g : D → List D → Sto → R D} {fr : AF} {env : EnvD} {d : D} {s : Sto} (h : tyD T d s) : methK T g fr env d s = (fr env s).bind (g d) := by rw [methK_ap, if_pos h]
theorem tupG_ok {n : Nat} {g : List D → EnvD → Sto → R EnvD} {ds : List D} {env : EnvD} {st : Sto} (h : ds.length = n) : tupG n g (.tup ds) env st = g ds env st := by rw [tupG_ap, if_pos h]
theorem eqS_t {x : Str} {st : Sto} : eqD (.str x) (.str x) st = .ok (.bl true) st := by rw [eqD_ap, eqP_str, decide_eq_true rfl]; rfl
theorem eqS_f {x y : Str} {st : Sto} (h : x ≠ y) : eqD (.str x) (.str y) st = .ok (.bl false) st := by rw [eqD_ap, eqP_str, decide_eq_false h]; rfl
theorem neS_t {x : Str} {st : Sto} : neD (.str x) (.str x) st = .ok (.bl false) st := by rw [neD_ap, eqP_str, decide_eq_true rfl]; rfl
theorem neS_f {x y : Str} {st : Sto} (h : x ≠ y) : neD (.str x) (.str y) st = .ok (.bl true) st := by rw [neD_ap, eqP_str, decide_eq_false h]; rfl
theorem eqI_ap {x y : Int} {st : Sto} : eqD (.int x) (.int y) st = .ok (.bl (decide (x = y))) st := rfl
theorem neI_ap {x y : Int} {st : Sto} : neD (.int x) (.int y) st = .ok (.bl (!decide (x = y))) st := rfl
/-- x among texts -/
def isTx : List D → Bool
  | [] => true
  | .str _ :: r => isTx r
  | _ => false
theorem isTx_flat : ∀ {ds : List D}, isTx ds = true → ds.all flatD = true
  | [], _ => rfl
  | .str x :: r, h => by rw [List.all_cons, isTx_flat (ds := r) h]; rfl
  | .non :: r, h => by cases h
  | .bl _ :: r, h => by cases h
  | .int _ :: r, h => by cases h
  | .tup _ :: r, h => by cases h
  | .ref _ :: r, h => by cases h
  | .glb _ :: r, h => by cases h
  | .ty _ :: r, h => by cases h
theorem inT_nil {neg : Bool} {x : Str} {st : Sto} : inSq neg (.str x) (.tup []) st = .ok (.bl neg) st := by
  show inL neg (.str x) [] st = _
  rw [inL_ok rfl rfl]; cases neg <;> rfl
theorem inT_hit {neg : Bool} {x : Str} {ds : List D} {st : Sto} (h : isTx ds = true) : inSq neg (.str x) (.tup (.str x :: ds)) st = .ok (.bl (!neg)) st := by
  show inL neg (.str x) (.str x :: ds) st = _
  rw [inL_ok rfl (by rw [List.all_cons, isTx_flat h]; rfl), List.any_cons, eqF_str, decide_eq_true rfl, Bool.true_or]
  cases neg <;> rfl
theorem inT_miss {neg : Bool} {x y : Str} {ds : List D} {st : Sto} (h : x ≠ y) : inSq neg (.str x) (.tup (.str y :: ds)) st = inSq neg (.str x) (.tup ds) st := by
  show inL neg (.str x) (.str y :: ds) st = inL neg (.str x) ds st
  unfold inL
  rw [List.all_cons, List.any_cons, eqF_str, decide_eq_false (fun e => h e.symm), Bool.false_or]
  rfl
end VL

namespace Law
open PySem PySem.Spec PyProof.Rows L2 VL RZ RT
/-! ### the functions -/
noncomputable def b_needs_of : SF :=
    (seqS (setS 1 (opF ixD (varF 0) (cF (.int 0))))
    (seqS (setS 2 (opF ixD (varF 0) (cF (.int 1))))
    (seqS (ifS (bF (opF (inSq false) (varF 1) (tupA (consA (cF (.str "join")) (consA (cF (.str "left")) (consA (cF (.str "both")) (consA (cF (.str "either")) (consA (cF (.str "less")) nilA)))))))) (retS (lstA (consA (tupA (consA (cF (.str "rows")) (consA (cF (.int 0)) nilA))) (consA (tupA (consA (cF (.str "rows")) (consA (cF (.int 1)) nilA))) nilA)))) nilS)
    (seqS (ifS (bF (opF eqD (varF 1) (cF (.str "notin")))) (retS (lstA (consA (tupA (consA (cF (.str "rows")) (consA (cF (.int 0)) nilA))) (consA (tupA (consA (cF (.str "cut")) (consA (cF (.int 1)) (consA (callF tupleD (consA (lcF (itF (opF ixD (varF 2) (cF (.int 0)))) [3] (nameG 3) yesT (opF ixD (varF 3) (cF (.int 1)))) nilA)) nilA)))) nilA)))) nilS)
    (seqS (ifS (bF (opF eqD (varF 1) (cF (.str "count")))) (retS (lstA (consA (tupA (consA (cF (.str "cut")) (consA (cF (.int 0)) (consA (opF ixD (varF 2) (cF (.int 0))) nilA)))) nilA))) nilS)
    (seqS (ifS (bF (opF eqD (varF 1) (cF (.str "sum")))) (retS (lstA (consA (tupA (consA (cF (.str "cut")) (consA (cF (.int 0)) (consA (opF ixD (varF 2) (cF (.int 1))) nilA)))) (consA (tupA (consA (cF (.str "sums")) (consA (cF (.int 0)) (consA (opF ixD (varF 2) (cF (.int 1))) (consA (opF ixD (varF 2) (cF (.int 0))) nilA))))) nilA)))) nilS)
    (seqS (ifS (bF (opF (inSq false) (varF 1) (tupA (consA (cF (.str "least")) (consA (cF (.str "most")) nilA))))) (retS (lstA (consA (tupA (consA (cF (.str "cut")) (consA (cF (.int 0)) (consA (opF addD (opF ixD (varF 2) (cF (.int 1))) (tupA (consA (opF ixD (varF 2) (cF (.int 0))) nilA))) nilA)))) nilA))) nilS)
    (seqS (ifS (bF (opF (inSq false) (varF 1) (tupA (consA (cF (.str "once")) (consA (cF (.str "first")) nilA))))) (retS (lstA (consA (tupA (consA (cF (.str "rows")) (consA (cF (.int 0)) nilA))) nilA))) nilS)
    (retS (lstA nilA))))))))))
noncomputable def f_needs_of : Fn := fnF 4 b_needs_of
noncomputable def b__law_cell_at : SF :=
    (seqS (ifS (bF (opF ltD (varF 1) (callF lenD (consA (varF 0) nilA)))) (retS (opF ixD (varF 0) (varF 1))) nilS)
    (retS (cF (.int 0))))
noncomputable def f__law_cell_at : Fn := fnF 2 b__law_cell_at
noncomputable def b__law_whole : SF :=
    (retS (andV (callF isiD (consA (varF 0) (consA (cF (.ty "int")) nilA))) (notV (callF isiD (consA (varF 0) (consA (cF (.ty "bool")) nilA))))))
noncomputable def f__law_whole : Fn := fnF 1 b__law_whole
noncomputable def b__law_mixed : SF :=
    (retS (opF addD (opF modD (opF mulD (varF 0) (cF (.int 69621))) (cF (.int 2147483629))) (opF mulD (cF (.int 2147483629)) (opF modD (varF 0) (opF powD (cF (.int 10)) (cF (.int 30)))))))
noncomputable def f__law_mixed : Fn := fnF 1 b__law_mixed
noncomputable def l0__law_digits : SF :=
    (seqS (dropS (methF "list" appD (varF 3) (consA (opF modD (varF 0) (varF 2)) nilA)))
    (setS 0 (opF divD (varF 0) (varF 2))))
noncomputable def b__law_digits : SF :=
    (seqS (setS 3 (lstA nilA))
    (seqS (forS (itA rng1D (consA (varF 1) nilA)) (nameG 4) (l0__law_digits))
    (retS (varF 3))))
noncomputable def f__law_digits : Fn := fnF 5 b__law_digits
noncomputable def b__law_node : SF :=
    (seqS (setS 2 (callF tupleD (consA (callF f__law_digits (consA (opF divD (varF 0) (cF (.int 4096))) (consA (opF modD (varF 0) (cF (.int 13))) (consA (cF (.int 12)) nilA)))) nilA)))
    (seqS (setS 3 (opF modD (opF divD (varF 0) (cF (.int 13))) (cF (.int 12))))
    (seqS (setS 4 (callF tupleD (consA (lcF (itA enumD (consA (varF 2) nilA)) [7, 8] (tupG 2 (consG (nameG 7) (consG (nameG 8) nilG))) yesT (tupA (consA (varF 8) (consA (opF modD (opF addD (opF mulD (varF 8) (cF (.int 5))) (varF 7)) (cF (.int 12))) nilA)))) nilA)))
    (seqS (setS 5 (tupA (consA (opF modD (opF divD (varF 0) (cF (.int 156))) (cF (.int 200))) nilA)))
    (seqS (ifS (bF (opF (inSq false) (varF 1) (tupA (consA (cF (.str "join")) (consA (cF (.str "left")) (consA (cF (.str "notin")) (consA (cF (.str "pour")) (consA (cF (.str "both")) (consA (cF (.str "either")) (consA (cF (.str "less")) nilA)))))))))) (setS 5 (tupA (consA (opF modD (opF divD (varF 0) (cF (.int 156))) (cF (.int 200))) (consA (opF modD (opF divD (varF 0) (cF (.int 7))) (cF (.int 200))) nilA)))) nilS)
    (seqS (ifS (bF (opF eqD (varF 1) (cF (.str "table")))) (retS (tupA (consA (tupA (consA (varF 1) (consA (tupA (consA (cF (.str "ab")) (consA (opF addD (cF (.int 1)) (varF 3)) nilA))) (consA (tupA nilA) nilA)))) (consA (lstA nilA) nilA)))) nilS)
    (seqS (ifS (bF (opF eqD (varF 1) (cF (.str "sieve")))) (retS (tupA (consA (tupA (consA (varF 1) (consA (tupA (consA (tupA (consA (cF (.str "below")) (consA (tupA (consA (cF (.str "at")) (consA (varF 3) nilA))) (consA (tupA (consA (cF (.str "num")) (consA (opF modD (varF 0) (opF powD (cF (.int 10)) (cF (.int 30)))) nilA))) nilA)))) nilA)) (consA (varF 5) nilA)))) (consA (lstA nilA) nilA)))) nilS)
    (seqS (ifS (bF (opF eqD (varF 1) (cF (.str "cols")))) (retS (tupA (consA (tupA (consA (varF 1) (consA (tupA (consA (tupA (consA (tupA (consA (cF (.str "at")) (consA (varF 3) nilA))) (consA (tupA (consA (cF (.str "gap")) nilA)) nilA))) nilA)) (consA (varF 5) nilA)))) (consA (lstA nilA) nilA)))) nilS)
    (seqS (ifS (bF (opF eqD (varF 1) (cF (.str "pour")))) (retS (tupA (consA (tupA (consA (varF 1) (consA (tupA nilA) (consA (varF 5) nilA)))) (consA (lstA nilA) nilA)))) nilS)
    (seqS (ifS (bF (opF eqD (varF 1) (cF (.str "join")))) (retS (tupA (consA (tupA (consA (varF 1) (consA (tupA (consA (varF 4) nilA)) (consA (varF 5) nilA)))) (consA (lstA (consA (tupA (consA (cF (.str "rows")) (consA (cF (.int 0)) nilA))) (consA (tupA (consA (cF (.str "rows")) (consA (cF (.int 1)) nilA))) nilA))) nilA)))) nilS)
    (seqS (ifS (bF (opF eqD (varF 1) (cF (.str "left")))) (retS (tupA (consA (tupA (consA (varF 1) (consA (tupA (consA (varF 4) (consA (cF (.int 11)) nilA))) (consA (varF 5) nilA)))) (consA (lstA (consA (tupA (consA (cF (.str "rows")) (consA (cF (.int 0)) nilA))) (consA (tupA (consA (cF (.str "rows")) (consA (cF (.int 1)) nilA))) nilA))) nilA)))) nilS)
    (seqS (ifS (bF (opF eqD (varF 1) (cF (.str "notin")))) (retS (tupA (consA (tupA (consA (varF 1) (consA (tupA (consA (varF 4) nilA)) (consA (varF 5) nilA)))) (consA (lstA (consA (tupA (consA (cF (.str "rows")) (consA (cF (.int 0)) nilA))) (consA (tupA (consA (cF (.str "cut")) (consA (cF (.int 1)) (consA (callF tupleD (consA (lcF (itF (varF 4)) [9] (nameG 9) yesT (opF ixD (varF 9) (cF (.int 1)))) nilA)) nilA)))) nilA))) nilA)))) nilS)
    (seqS (ifS (bF (opF eqD (varF 1) (cF (.str "once")))) (retS (tupA (consA (tupA (consA (varF 1) (consA (tupA nilA) (consA (varF 5) nilA)))) (consA (lstA (consA (tupA (consA (cF (.str "rows")) (consA (cF (.int 0)) nilA))) nilA)) nilA)))) nilS)
    (seqS (ifS (bF (opF eqD (varF 1) (cF (.str "first")))) (seqS (setS 6 (callF tupleD (consA (lcF (itA enumD (consA (un1 backD (varF 2)) nilA)) [7, 8] (tupG 2 (consG (nameG 7) (consG (nameG 8) nilG))) yesT (tupA (consA (varF 8) (consA (opF eqD (opF modD (opF divD (varF 0) (opF addD (varF 7) (cF (.int 2)))) (cF (.int 2))) (cF (.int 0))) nilA)))) nilA)))
    (retS (tupA (consA (tupA (consA (varF 1) (consA (tupA (consA (opF modD (varF 0) (cF (.int 61))) (consA (varF 2) (consA (varF 6) nilA)))) (consA (varF 5) nilA)))) (consA (lstA (consA (tupA (consA (cF (.str "rows")) (consA (cF (.int 0)) nilA))) nilA)) nilA))))) nilS)
    (seqS (ifS (bF (opF eqD (varF 1) (cF (.str "count")))) (retS (tupA (consA (tupA (consA (varF 1) (consA (tupA (consA (varF 2) nilA)) (consA (varF 5) nilA)))) (consA (lstA (consA (tupA (consA (cF (.str "cut")) (consA (cF (.int 0)) (consA (varF 2) nilA)))) nilA)) nilA)))) nilS)
    (seqS (ifS (bF (opF eqD (varF 1) (cF (.str "sum")))) (retS (tupA (consA (tupA (consA (varF 1) (consA (tupA (consA (varF 3) (consA (varF 2) nilA))) (consA (varF 5) nilA)))) (consA (lstA (consA (tupA (consA (cF (.str "cut")) (consA (cF (.int 0)) (consA (varF 2) nilA)))) (consA (tupA (consA (cF (.str "sums")) (consA (cF (.int 0)) (consA (varF 2) (consA (varF 3) nilA))))) nilA))) nilA)))) nilS)
    (seqS (ifS (orT (bF (opF eqD (varF 1) (cF (.str "least")))) (bF (opF eqD (varF 1) (cF (.str "most"))))) (retS (tupA (consA (tupA (consA (varF 1) (consA (tupA (consA (varF 3) (consA (varF 2) nilA))) (consA (varF 5) nilA)))) (consA (lstA (consA (tupA (consA (cF (.str "cut")) (consA (cF (.int 0)) (consA (opF addD (varF 2) (tupA (consA (varF 3) nilA))) nilA)))) nilA)) nilA)))) nilS)
    (retS (tupA (consA (tupA (consA (varF 1) (consA (tupA nilA) (consA (varF 5) nilA)))) (consA (lstA (consA (tupA (consA (cF (.str "rows")) (consA (cF (.int 0)) nilA))) (consA (tupA (consA (cF (.str "rows")) (consA (cF (.int 1)) nilA))) nilA))) nilA)))))))))))))))))))))
noncomputable def f__law_node : Fn := fnF 10 b__law_node
noncomputable def b__law_alike (r__law_alike : Fn) : SF :=
    (seqS (ifS (orT (bF (callF isiD (consA (varF 1) (consA (cF (.ty "tuple")) nilA)))) (bF (callF isiD (consA (varF 1) (consA (cF (.ty "list")) nilA))))) (seqS (ifS (andT (bF (callF isiD (consA (varF 1) (consA (cF (.ty "tuple")) nilA)))) (notT (bF (callF isiD (consA (varF 0) (consA (cF (.ty "tuple")) nilA)))))) (retS (cF (.bl false))) nilS)
    (seqS (ifS (andT (bF (callF isiD (consA (varF 1) (consA (cF (.ty "list")) nilA)))) (notT (bF (callF isiD (consA (varF 0) (consA (cF (.ty "list")) nilA)))))) (retS (cF (.bl false))) nilS)
    (seqS (ifS (bF (opF neD (callF lenD (consA (varF 0) nilA)) (callF lenD (consA (varF 1) nilA)))) (retS (cF (.bl false))) nilS)
    (retS (callF allD (consA (lcF (itA zipD (consA (varF 0) (consA (varF 1) nilA))) [2, 3] (tupG 2 (consG (nameG 2) (consG (nameG 3) nilG))) yesT (callF r__law_alike (consA (varF 2) (consA (varF 3) nilA)))) nilA)))))) nilS)
    (seqS (ifS (bF (callF isiD (consA (varF 1) (consA (cF (.ty "bool")) nilA)))) (retS (andV (callF isiD (consA (varF 0) (consA (cF (.ty "bool")) nilA))) (opF eqD (varF 0) (varF 1)))) nilS)
    (seqS (ifS (bF (callF isiD (consA (varF 1) (consA (cF (.ty "str")) nilA)))) (retS (andV (callF isiD (consA (varF 0) (consA (cF (.ty "str")) nilA))) (opF eqD (varF 0) (varF 1)))) nilS)
    (retS (andV (callF f__law_whole (consA (varF 0) nilA)) (opF eqD (varF 0) (varF 1)))))))
noncomputable def f__law_alike : Nat → Fn
  | 0 => fun _ _ => .bad
  | d + 1 => fnF 4 (b__law_alike (f__law_alike d))
noncomputable def l0_law : SF :=
    (seqS (setS 3 (callF f__law_cell_at (consA (varF 0) (consA (varF 2) nilA))))
    (seqS (asgS (callF f__law_node (consA (callF f__law_mixed (consA (opF addD (opF mulD (cF (.int 64)) (varF 3)) (varF 2)) nilA)) (consA (opF ixD (varF 1) (opF modD (varF 3) (cF (.int 16)))) nilA))) (tupG 2 (consG (nameG 5) (consG (nameG 6) nilG))))
    (seqS (setS 4 (callF f_needs_of (consA (varF 5) nilA)))
    (seqS (ifS (notT (bF (callF (f__law_alike 8) (consA (varF 4) (consA (varF 6) nilA))))) (retS (cF (.bl false))) nilS)
    (seqS (dropS (methF "list" appD (varF 4) (consA (tupA (consA (cF (.str "rows")) (consA (cF (.int 5)) nilA))) nilA)))
    (ifS (notT (bF (callF (f__law_alike 8) (consA (callF f_needs_of (consA (varF 5) nilA)) (consA (varF 6) nilA))))) (retS (cF (.bl false))) nilS))))))
noncomputable def b_law : SF :=
    (seqS (setS 1 (lstA (consA (cF (.str "sieve")) (consA (cF (.str "cols")) (consA (cF (.str "join")) (consA (cF (.str "left")) (consA (cF (.str "notin")) (consA (cF (.str "pour")) (consA (cF (.str "both")) (consA (cF (.str "either")) (consA (cF (.str "less")) (consA (cF (.str "once")) (consA (cF (.str "count")) (consA (cF (.str "sum")) (consA (cF (.str "least")) (consA (cF (.str "most")) (consA (cF (.str "first")) (consA (cF (.str "table")) nilA))))))))))))))))))
    (seqS (forS (itA rng1D (consA (callF maxD (consA (cF (.int 1)) (consA (callF minD (consA (callF lenD (consA (varF 0) nilA)) (consA (cF (.int 64)) nilA))) nilA))) nilA)) (nameG 2) (l0_law))
    (retS (cF (.bl true)))))
noncomputable def f_law : Fn := fnF 7 b_law
end Law
namespace Law
open PySem L2 VL
/-! what the laws' own helpers tell: cell_at, truth, mixed, cell, row -/
theorem cell_at_ok {st : Sto} {n : Nat} {ns : List Int} {k : Nat} (h : listAt st n = some (ns.map VL.D.int)) : f__law_cell_at [.ref n, .int k] st = .ok (.int (ns.getD k 0)) st := by
  have hl : lenD [VL.D.ref n] st = .ok (.int ns.length) st := by
    show (match listAt st n with | some xs => R.ok (VL.D.int xs.length) st | none => .bad) = _
    rw [h]; simp
  by_cases hk : k < ns.length
  · have e1 : decide ((k : Int) < (ns.length : Int)) = true := decide_eq_true (by omega)
    have e2 : (ns.map VL.D.int)[k]? = some (.int ns[k]) := by rw [List.getElem?_map, List.getElem?_eq_getElem hk]; rfl
    have hi : ixD (.ref n) (.int (k : Int)) st = .ok (.int ns[k]) st := by
      show (match (listAt st n).bind fun xs => atI xs (k : Int) with | some d => R.ok d st | none => .bad) = _
      rw [h, Option.bind_some, atI_nat e2]
    simp -implicitDefEqProofs only [varF_ap, cF_ap, opF_ap, opK_ap, bF_ap, boolK_ap, andT_ap, andK_ap, orT_ap, orK_ap, notT_ap, notK_ap, yesT_ap, andV_ap, andVK_ap, orV_ap, orVK_ap, notV_ap, notVK_ap, ifF_ap, ifFK_ap, nilA_ap, consA_ap, consK_ap, consJ_ap, tupA_ap, tupK_ap, lstA_ap, lstK_ap, newO_ap, dicF_ap, callF_ap, un1_ap, methF_ap, methK_ap, nonO_ap, someO_ap, someK_ap, slF_ap, slK_ap, slJ_ap, itF_ap, itA_ap, nilS_ap, bkS_ap, ctS_ap, seqS_ap, seqK_nx, seqK_rt, seqK_bk, seqK_ct, dropS_ap, dropK_ap, retS_ap, retK_ap, retN_ap, ifS_ap, ifK_ap, setS_ap, setK_ap, asgS_ap, asgK_ap, asgJ_ap, nameG_ap, nilG_ap, consG_ap, consGK_ap, tupG_ap, fnF_ap, fnK_nx, fnK_rt, forS_ap, forK_ap, intD_ap, negD_ap, addI_ap, varK_ap, startE, yes2, isN, List.map_cons, List.map_nil, List.length_cons, List.length_nil, List.replicate, List.append_nil, List.cons_append, List.nil_append, List.getElem?_cons_zero, List.getElem?_cons_succ, List.set_cons_zero, List.set_cons_succ, R.bind_ok, R.bind_ex, R.bind_bad, R.noex_ok, if_true, if_false, Bool.false_eq_true, Bool.true_eq_false, ite_true, ite_false, reduceIte, Nat.reduceAdd, Nat.reduceSub, Nat.zero_add, Nat.sub_self, Nat.sub_zero, decide_true, decide_false, Bool.not_true, Bool.not_false, f__law_cell_at, b__law_cell_at, hl, e1, hi]
    rw [List.getD_eq_getElem?_getD, List.getElem?_eq_getElem hk]; rfl
  · have e1 : decide ((k : Int) < (ns.length : Int)) = false := decide_eq_false (by omega)
    simp -implicitDefEqProofs only [varF_ap, cF_ap, opF_ap, opK_ap, bF_ap, boolK_ap, andT_ap, andK_ap, orT_ap, orK_ap, notT_ap, notK_ap, yesT_ap, andV_ap, andVK_ap, orV_ap, orVK_ap, notV_ap, notVK_ap, ifF_ap, ifFK_ap, nilA_ap, consA_ap, consK_ap, consJ_ap, tupA_ap, tupK_ap, lstA_ap, lstK_ap, newO_ap, dicF_ap, callF_ap, un1_ap, methF_ap, methK_ap, nonO_ap, someO_ap, someK_ap, slF_ap, slK_ap, slJ_ap, itF_ap, itA_ap, nilS_ap, bkS_ap, ctS_ap, seqS_ap, seqK_nx, seqK_rt, seqK_bk, seqK_ct, dropS_ap, dropK_ap, retS_ap, retK_ap, retN_ap, ifS_ap, ifK_ap, setS_ap, setK_ap, asgS_ap, asgK_ap, asgJ_ap, nameG_ap, nilG_ap, consG_ap, consGK_ap, tupG_ap, fnF_ap, fnK_nx, fnK_rt, forS_ap, forK_ap, intD_ap, negD_ap, addI_ap, varK_ap, startE, yes2, isN, List.map_cons, List.map_nil, List.length_cons, List.length_nil, List.replicate, List.append_nil, List.cons_append, List.nil_append, List.getElem?_cons_zero, List.getElem?_cons_succ, List.set_cons_zero, List.set_cons_succ, R.bind_ok, R.bind_ex, R.bind_bad, R.noex_ok, if_true, if_false, Bool.false_eq_true, Bool.true_eq_false, ite_true, ite_false, reduceIte, Nat.reduceAdd, Nat.reduceSub, Nat.zero_add, Nat.sub_self, Nat.sub_zero, decide_true, decide_false, Bool.not_true, Bool.not_false, f__law_cell_at, b__law_cell_at, hl, e1]
    rw [List.getD_eq_getElem?_getD, List.getElem?_eq_none (by omega)]; rfl
end Law

namespace Law
open PySem L2 VL
/-! mixed2: the second mixing; digits -/
def mixed (c : Int) : Int := c * 69621 % 2147483629 + 2147483629 * (c % 10 ^ 30)
theorem mixed_ok {c : Int} {st : Sto} : f__law_mixed [.int c] st = .ok (.int (mixed c)) st := by
  have p1 : decide ((0 : Int) ≤ 30 ∧ (30 : Int) ≤ 1000000 ∧ (10 : Int).natAbs < 2 ^ 64) = true := by decide
  have m1 : decide ((0 : Int) < 10 ^ 30) = true := by decide
  have m2 : decide ((0 : Int) < 2147483629) = true := by decide
  have e : ((10 : Int) ^ (30 : Int).toNat) = 10 ^ 30 := rfl
  have q1 : decide (MulOk c 69621) = true := mul_okR (by decide)
  have q2 : decide (MulOk 2147483629 (c % 10 ^ 30)) = true := mul_okL (by decide)
  simp -implicitDefEqProofs only [varF_ap, cF_ap, opF_ap, opK_ap, bF_ap, boolK_ap, andT_ap, andK_ap, orT_ap, orK_ap, notT_ap, notK_ap, yesT_ap, andV_ap, andVK_ap, orV_ap, orVK_ap, notV_ap, notVK_ap, ifF_ap, ifFK_ap, nilA_ap, consA_ap, consK_ap, consJ_ap, tupA_ap, tupK_ap, lstA_ap, lstK_ap, newO_ap, dicF_ap, callF_ap, un1_ap, methF_ap, methK_ap, nonO_ap, someO_ap, someK_ap, slF_ap, slK_ap, slJ_ap, itF_ap, itA_ap, nilS_ap, bkS_ap, ctS_ap, seqS_ap, seqK_nx, seqK_rt, seqK_bk, seqK_ct, dropS_ap, dropK_ap, retS_ap, retK_ap, retN_ap, ifS_ap, ifK_ap, setS_ap, setK_ap, asgS_ap, asgK_ap, asgJ_ap, nameG_ap, nilG_ap, consG_ap, consGK_ap, tupG_ap, fnF_ap, fnK_nx, fnK_rt, forS_ap, forK_ap, intD_ap, negD_ap, addI_ap, varK_ap, startE, yes2, isN, List.map_cons, List.map_nil, List.length_cons, List.length_nil, List.replicate, List.append_nil, List.cons_append, List.nil_append, List.getElem?_cons_zero, List.getElem?_cons_succ, List.set_cons_zero, List.set_cons_succ, R.bind_ok, R.bind_ex, R.bind_bad, R.noex_ok, if_true, if_false, Bool.false_eq_true, Bool.true_eq_false, ite_true, ite_false, reduceIte, Nat.reduceAdd, Nat.reduceSub, Nat.zero_add, Nat.sub_self, Nat.sub_zero, decide_true, decide_false, Bool.not_true, Bool.not_false, f__law_mixed, b__law_mixed, p1, e, m1, m2, q1, q2]
  rfl
theorem mixed_nonneg (c : Int) : 0 ≤ mixed c := by
  unfold mixed
  have h1 := Int.emod_nonneg (c * 69621) (show (2147483629 : Int) ≠ 0 by decide)
  have h2 := Int.emod_nonneg c (show (10 ^ 30 : Int) ≠ 0 by decide)
  have h3 := Int.mul_nonneg (show (0 : Int) ≤ 2147483629 by decide) h2
  omega
def digs (top : Int) : Nat → Int → List Int
  | 0, _ => []
  | k + 1, n => n % top :: digs top k (n / top)
def dshift (top : Int) : Nat → Int → Int
  | 0, n => n
  | k + 1, n => dshift top k n / top
theorem dshift_s (top : Int) (k : Nat) (n : Int) : dshift top (k + 1) n = dshift top k n / top := rfl
theorem dshift_succ (top : Int) : ∀ k n, dshift top (k + 1) n = dshift top k (n / top)
  | 0, _ => rfl
  | k + 1, n => by
    show dshift top (k + 1) n / top = dshift top k (n / top) / top
    rw [dshift_succ top k n]
theorem digs_succ (top : Int) : ∀ k n, digs top (k + 1) n = digs top k n ++ [dshift top k n % top]
  | 0, n => rfl
  | k + 1, n => by
    rw [digs, digs_succ top k, ← dshift_succ]
    rfl
theorem digs_len (top : Int) : ∀ k n, (digs top k n).length = k
  | 0, _ => rfl
  | k + 1, n => by rw [digs, List.length_cons, digs_len top k]
theorem digs_bd {top : Int} (h : 0 < top) : ∀ k n, ∀ d ∈ digs top k n, 0 ≤ d ∧ d < top
  | 0, _, d, hd => by cases hd
  | k + 1, n, d, hd => by
    rw [digs] at hd
    rcases List.mem_cons.mp hd with hd | hd
    · rw [hd]; exact ⟨Int.emod_nonneg _ (by omega), Int.emod_lt_of_pos _ h⟩
    · exact digs_bd h k _ d hd
def digsD (top : Int) (k : Nat) (n : Int) : List VL.D := (digs top k n).map .int
theorem digsD_len (top : Int) (k : Nat) (n : Int) : (digsD top k n).length = k := by rw [digsD, List.length_map, digs_len]
theorem digits_turn {m top : Int} {w x : VL.D} {st : Sto} {acc : List VL.D} (hz : acc.length < sizeLine) (ht : 0 < top) (ht2 : top.natAbs.log2 < 9000) :
    l0__law_digits [some (.int m), some w, some (.int top), some (.ref st.length), some x] (st ++ [.lst acc]) = .ok (.nx [some (.int (m / top)), some w, some (.int top), some (.ref st.length), some x]) (st ++ [.lst (acc ++ [.int (m % top)])]) := by
  have v9 : decide ((0 : Int) < top ∧ top.natAbs.log2 < 9000) = true := decide_eq_true ⟨ht, ht2⟩
  have m9 : decide ((0 : Int) < top) = true := decide_eq_true ht
  have t : tyD "list" (VL.D.ref st.length) (st ++ [.lst acc]) := tyD_list listAt_last
  have a : appD (.ref st.length) [.int (m % top)] (st ++ [.lst acc]) = .ok .non (st ++ [.lst (acc ++ [.int (m % top)])]) := by
    rw [appD_ok get_last hz, set_last]
  unfold l0__law_digits
  simp -implicitDefEqProofs only [varF_ap, cF_ap, opF_ap, opK_ap, bF_ap, boolK_ap, andT_ap, andK_ap, orT_ap, orK_ap, notT_ap, notK_ap, yesT_ap, andV_ap, andVK_ap, orV_ap, orVK_ap, notV_ap, notVK_ap, ifF_ap, ifFK_ap, nilA_ap, consA_ap, consK_ap, consJ_ap, tupA_ap, tupK_ap, lstA_ap, lstK_ap, newO_ap, dicF_ap, callF_ap, un1_ap, methF_ap, methK_ap, nonO_ap, someO_ap, someK_ap, slF_ap, slK_ap, slJ_ap, itF_ap, itA_ap, nilS_ap, bkS_ap, ctS_ap, seqS_ap, seqK_nx, seqK_rt, seqK_bk, seqK_ct, dropS_ap, dropK_ap, retS_ap, retK_ap, retN_ap, ifS_ap, ifK_ap, setS_ap, setK_ap, asgS_ap, asgK_ap, asgJ_ap, nameG_ap, nilG_ap, consG_ap, consGK_ap, tupG_ap, fnF_ap, fnK_nx, fnK_rt, forS_ap, forK_ap, intD_ap, negD_ap, addI_ap, varK_ap, startE, yes2, isN, List.map_cons, List.map_nil, List.length_cons, List.length_nil, List.replicate, List.append_nil, List.cons_append, List.nil_append, List.getElem?_cons_zero, List.getElem?_cons_succ, List.set_cons_zero, List.set_cons_succ, R.bind_ok, R.bind_ex, R.bind_bad, R.noex_ok, if_true, if_false, Bool.false_eq_true, Bool.true_eq_false, ite_true, ite_false, reduceIte, Nat.reduceAdd, Nat.reduceSub, Nat.zero_add, Nat.sub_self, Nat.sub_zero, decide_true, decide_false, Bool.not_true, Bool.not_false, methF, m9, v9, t, a]
theorem digits_ok {n top : Int} {k : Nat} {st : Sto} (ht : 0 < top) (ht2 : top.natAbs.log2 < 9000) (hk : k ≤ 10000) : f__law_digits [.int n, .int k, .int top] st = .ok (.ref st.length) (st ++ [.lst (digsD top k n)]) := by
  have r1 : rng1D [.int (k : Int)] (st ++ [.lst []]) = .ok (intsD 0 1 k, []) (st ++ [.lst []]) := rng1_ok (by omega)
  obtain ⟨e', s', h1, z, rfl, rfl⟩ := forL_inv (c := []) (gf := nameG 4) (b := l0__law_digits) (ds := intsD 0 1 k) (env := [some (.int n), some (.int k), some (.int top), some (.ref st.length), none]) (st := st ++ [.lst []])
    (fun i env s => ∃ z, env = [some (.int (dshift top i n)), some (.int k), some (.int top), some (.ref st.length), z] ∧ s = st ++ [.lst (digsD top i n)]) ⟨none, rfl, rfl⟩ (fun _ _ _ _ => ChkOk.nil) (fun i x env s hx ⟨z, he, hs⟩ => by
      subst he hs
      have hi := (List.getElem?_eq_some_iff.mp hx).1
      rw [intsD_len] at hi
      refine ⟨_, _, _, _, rfl, digits_turn (by rw [digsD_len, sizeLine_eq']; omega) ht ht2, some x, by rw [dshift_s], ?_⟩
      unfold digsD
      rw [digs_succ, List.map_append]
      rfl)
  rw [intsD_len] at h1
  have h0 : (0 : Nat) ≤ sizeLine := Nat.zero_le _
  simp -implicitDefEqProofs only [varF_ap, cF_ap, opF_ap, opK_ap, bF_ap, boolK_ap, andT_ap, andK_ap, orT_ap, orK_ap, notT_ap, notK_ap, yesT_ap, andV_ap, andVK_ap, orV_ap, orVK_ap, notV_ap, notVK_ap, ifF_ap, ifFK_ap, nilA_ap, consA_ap, consK_ap, consJ_ap, tupA_ap, tupK_ap, lstA_ap, lstK_ap, newO_ap, dicF_ap, callF_ap, un1_ap, methF_ap, methK_ap, nonO_ap, someO_ap, someK_ap, slF_ap, slK_ap, slJ_ap, itF_ap, itA_ap, nilS_ap, bkS_ap, ctS_ap, seqS_ap, seqK_nx, seqK_rt, seqK_bk, seqK_ct, dropS_ap, dropK_ap, retS_ap, retK_ap, retN_ap, ifS_ap, ifK_ap, setS_ap, setK_ap, asgS_ap, asgK_ap, asgJ_ap, nameG_ap, nilG_ap, consG_ap, consGK_ap, tupG_ap, fnF_ap, fnK_nx, fnK_rt, forS_ap, forK_ap, intD_ap, negD_ap, addI_ap, varK_ap, startE, yes2, isN, List.map_cons, List.map_nil, List.length_cons, List.length_nil, List.replicate, List.append_nil, List.cons_append, List.nil_append, List.getElem?_cons_zero, List.getElem?_cons_succ, List.set_cons_zero, List.set_cons_succ, R.bind_ok, R.bind_ex, R.bind_bad, R.noex_ok, if_true, if_false, Bool.false_eq_true, Bool.true_eq_false, ite_true, ite_false, reduceIte, Nat.reduceAdd, Nat.reduceSub, Nat.zero_add, Nat.sub_self, Nat.sub_zero, decide_true, decide_false, Bool.not_true, Bool.not_false, f__law_digits, b__law_digits, forS, r1, h0, h1]
end Law

namespace Law
open PySem L2 VL
def wholeD : VL.D → Bool
  | .int _ => true
  | _ => false
theorem isT_int {d : VL.D} {st : Sto} (g : Good d st) : (isT d st "int" && !isT d st "bool") = wholeD d := by
  cases d with
  | ref n =>
    have h := g.here
    unfold isT
    simp only [tyOfD] at h ⊢
    split at h <;> first | (cases h; done) | (simp_all [wholeD])
  | glb x => have h := g.here; cases h
  | ty x => have h := g.here; cases h
  | _ => simp [isT, tyOfD, wholeD]
theorem isT_tup {d : VL.D} {st : Sto} (g : Good d st) : isT d st "tuple" = (match d with | .tup _ => true | _ => false) := by
  cases d with
  | ref n =>
    have h := g.here
    unfold isT
    simp only [tyOfD] at h ⊢
    split at h <;> first | (cases h; done) | simp_all
  | glb x => have h := g.here; cases h
  | ty x => have h := g.here; cases h
  | _ => simp [isT, tyOfD]
end Law

namespace Law
open PySem L2 VL
theorem whole_ok {d : VL.D} {st : Sto} (g : Good d st) : f__law_whole [d] st = .ok (.bl (wholeD d)) st := by
  have h1 : isiD [d, .ty "int"] st = .ok (.bl (isT d st "int")) st := isi_ok g.here (by decide)
  have h2 : isiD [d, .ty "bool"] st = .ok (.bl (isT d st "bool")) st := isi_ok g.here (by decide)
  have e := isT_int g
  cases hi : isT d st "int" with
  | true => rw [hi] at h1 e; simp -implicitDefEqProofs only [varF_ap, cF_ap, opF_ap, opK_ap, bF_ap, boolK_ap, andT_ap, andK_ap, orT_ap, orK_ap, notT_ap, notK_ap, yesT_ap, andV_ap, andVK_ap, orV_ap, orVK_ap, notV_ap, notVK_ap, ifF_ap, ifFK_ap, nilA_ap, consA_ap, consK_ap, consJ_ap, tupA_ap, tupK_ap, lstA_ap, lstK_ap, newO_ap, dicF_ap, callF_ap, un1_ap, methF_ap, methK_ap, nonO_ap, someO_ap, someK_ap, slF_ap, slK_ap, slJ_ap, itF_ap, itA_ap, nilS_ap, bkS_ap, ctS_ap, seqS_ap, seqK_nx, seqK_rt, seqK_bk, seqK_ct, dropS_ap, dropK_ap, retS_ap, retK_ap, retN_ap, ifS_ap, ifK_ap, setS_ap, setK_ap, asgS_ap, asgK_ap, asgJ_ap, nameG_ap, nilG_ap, consG_ap, consGK_ap, tupG_ap, fnF_ap, fnK_nx, fnK_rt, forS_ap, forK_ap, intD_ap, negD_ap, addI_ap, varK_ap, startE, yes2, isN, List.map_cons, List.map_nil, List.length_cons, List.length_nil, List.replicate, List.append_nil, List.cons_append, List.nil_append, List.getElem?_cons_zero, List.getElem?_cons_succ, List.set_cons_zero, List.set_cons_succ, R.bind_ok, R.bind_ex, R.bind_bad, R.noex_ok, if_true, if_false, Bool.false_eq_true, Bool.true_eq_false, ite_true, ite_false, reduceIte, Nat.reduceAdd, Nat.reduceSub, Nat.zero_add, Nat.sub_self, Nat.sub_zero, decide_true, decide_false, Bool.not_true, Bool.not_false, f__law_whole, b__law_whole, h1, h2]; rw [← e]; simp
  | false => rw [hi] at h1 e; simp -implicitDefEqProofs only [varF_ap, cF_ap, opF_ap, opK_ap, bF_ap, boolK_ap, andT_ap, andK_ap, orT_ap, orK_ap, notT_ap, notK_ap, yesT_ap, andV_ap, andVK_ap, orV_ap, orVK_ap, notV_ap, notVK_ap, ifF_ap, ifFK_ap, nilA_ap, consA_ap, consK_ap, consJ_ap, tupA_ap, tupK_ap, lstA_ap, lstK_ap, newO_ap, dicF_ap, callF_ap, un1_ap, methF_ap, methK_ap, nonO_ap, someO_ap, someK_ap, slF_ap, slK_ap, slJ_ap, itF_ap, itA_ap, nilS_ap, bkS_ap, ctS_ap, seqS_ap, seqK_nx, seqK_rt, seqK_bk, seqK_ct, dropS_ap, dropK_ap, retS_ap, retK_ap, retN_ap, ifS_ap, ifK_ap, setS_ap, setK_ap, asgS_ap, asgK_ap, asgJ_ap, nameG_ap, nilG_ap, consG_ap, consGK_ap, tupG_ap, fnF_ap, fnK_nx, fnK_rt, forS_ap, forK_ap, intD_ap, negD_ap, addI_ap, varK_ap, startE, yes2, isN, List.map_cons, List.map_nil, List.length_cons, List.length_nil, List.replicate, List.append_nil, List.cons_append, List.nil_append, List.getElem?_cons_zero, List.getElem?_cons_succ, List.set_cons_zero, List.set_cons_succ, R.bind_ok, R.bind_ex, R.bind_bad, R.noex_ok, if_true, if_false, Bool.false_eq_true, Bool.true_eq_false, ite_true, ite_false, reduceIte, Nat.reduceAdd, Nat.reduceSub, Nat.zero_add, Nat.sub_self, Nat.sub_zero, decide_true, decide_false, Bool.not_true, Bool.not_false, f__law_whole, b__law_whole, h1]; rw [← e]; simp
end Law

namespace Law
open PySem L2 VL
/-! alike: a datum is alike itself -/
/-- pure data of so many levels -/
def Pl : Nat → VL.D → Prop
  | 0, _ => False
  | _ + 1, .int _ => True
  | _ + 1, .str _ => True
  | _ + 1, .bl _ => True
  | n + 1, .tup xs => xs.length ≤ 10000 ∧ ∀ x ∈ xs, Pl n x
  | _, _ => False
theorem zip_self {xs : List VL.D} : xs.zip xs = xs.map fun x => (x, x) := by
  induction xs with
  | nil => rfl
  | cons x xs ih => rw [List.zip_cons_cons, ih, List.map_cons]
theorem alike_all {d : Nat} {a b : VL.D} {xs : List VL.D} {st : Sto} {c : Chk} (ih : ∀ (x : VL.D) (S : Sto), Pl d x → ∃ j, f__law_alike d [x, x] S = .ok (.bl true) (S ++ j)) (hz : zipD [a, b] st = .ok ((xs.zip xs).map pairD, c) st) (hc : ∀ S, Le st S → ChkOk c S) (h : ∀ x ∈ xs, Pl d x) (hl : xs.length ≤ 10000) :
    ∃ j, (lcF (itA zipD (consA (varF 0) (consA (varF 1) nilA))) [2, 3] (tupG 2 (consG (nameG 2) (consG (nameG 3) nilG))) yesT (callF (f__law_alike d) (consA (varF 2) (consA (varF 3) nilA)))) [some a, some b, none, none] st = .ok (.ref st.length) (st ++ .lst (xs.map fun _ => .bl true) :: j) := by
  have hit : (itA zipD (consA (varF 0) (consA (varF 1) nilA))) [some a, some b, none, none] st = .ok ((xs.zip xs).map pairD, c) st := by simp -implicitDefEqProofs only [varF_ap, cF_ap, opF_ap, opK_ap, bF_ap, boolK_ap, andT_ap, andK_ap, orT_ap, orK_ap, notT_ap, notK_ap, yesT_ap, andV_ap, andVK_ap, orV_ap, orVK_ap, notV_ap, notVK_ap, ifF_ap, ifFK_ap, nilA_ap, consA_ap, consK_ap, consJ_ap, tupA_ap, tupK_ap, lstA_ap, lstK_ap, newO_ap, dicF_ap, callF_ap, un1_ap, methF_ap, methK_ap, nonO_ap, someO_ap, someK_ap, slF_ap, slK_ap, slJ_ap, itF_ap, itA_ap, nilS_ap, bkS_ap, ctS_ap, seqS_ap, seqK_nx, seqK_rt, seqK_bk, seqK_ct, dropS_ap, dropK_ap, retS_ap, retK_ap, retN_ap, ifS_ap, ifK_ap, setS_ap, setK_ap, asgS_ap, asgK_ap, asgJ_ap, nameG_ap, nilG_ap, consG_ap, consGK_ap, tupG_ap, fnF_ap, fnK_nx, fnK_rt, forS_ap, forK_ap, intD_ap, negD_ap, addI_ap, varK_ap, startE, yes2, isN, List.map_cons, List.map_nil, List.length_cons, List.length_nil, List.replicate, List.append_nil, List.cons_append, List.nil_append, List.getElem?_cons_zero, List.getElem?_cons_succ, List.set_cons_zero, List.set_cons_succ, R.bind_ok, R.bind_ex, R.bind_bad, R.noex_ok, if_true, if_false, Bool.false_eq_true, Bool.true_eq_false, ite_true, ite_false, reduceIte, Nat.reduceAdd, Nat.reduceSub, Nat.zero_add, Nat.sub_self, Nat.sub_zero, decide_true, decide_false, Bool.not_true, Bool.not_false, hz]
  obtain ⟨j, e⟩ := lcF_all (vs := [2, 3]) (gf := tupG 2 (consG (nameG 2) (consG (nameG 3) nilG))) (te := callF (f__law_alike d) (consA (varF 2) (consA (varF 3) nilA))) (fun _ => .bl true) hit hc (by rw [zip_self, List.length_map, List.length_map, sizeLine_eq']; omega) fun x hx S hS => by
    rw [zip_self, List.map_map] at hx
    obtain ⟨y, hy, rfl⟩ := List.mem_map.mp hx
    obtain ⟨j, hj⟩ := ih y S (h y hy)
    exact ⟨_, j, rfl, by simp -implicitDefEqProofs only [varF_ap, cF_ap, opF_ap, opK_ap, bF_ap, boolK_ap, andT_ap, andK_ap, orT_ap, orK_ap, notT_ap, notK_ap, yesT_ap, andV_ap, andVK_ap, orV_ap, orVK_ap, notV_ap, notVK_ap, ifF_ap, ifFK_ap, nilA_ap, consA_ap, consK_ap, consJ_ap, tupA_ap, tupK_ap, lstA_ap, lstK_ap, newO_ap, dicF_ap, callF_ap, un1_ap, methF_ap, methK_ap, nonO_ap, someO_ap, someK_ap, slF_ap, slK_ap, slJ_ap, itF_ap, itA_ap, nilS_ap, bkS_ap, ctS_ap, seqS_ap, seqK_nx, seqK_rt, seqK_bk, seqK_ct, dropS_ap, dropK_ap, retS_ap, retK_ap, retN_ap, ifS_ap, ifK_ap, setS_ap, setK_ap, asgS_ap, asgK_ap, asgJ_ap, nameG_ap, nilG_ap, consG_ap, consGK_ap, tupG_ap, fnF_ap, fnK_nx, fnK_rt, forS_ap, forK_ap, intD_ap, negD_ap, addI_ap, varK_ap, startE, yes2, isN, List.map_cons, List.map_nil, List.length_cons, List.length_nil, List.replicate, List.append_nil, List.cons_append, List.nil_append, List.getElem?_cons_zero, List.getElem?_cons_succ, List.set_cons_zero, List.set_cons_succ, R.bind_ok, R.bind_ex, R.bind_bad, R.noex_ok, if_true, if_false, Bool.false_eq_true, Bool.true_eq_false, ite_true, ite_false, reduceIte, Nat.reduceAdd, Nat.reduceSub, Nat.zero_add, Nat.sub_self, Nat.sub_zero, decide_true, decide_false, Bool.not_true, Bool.not_false, wipeE, hj]⟩
  exact ⟨j, by rw [e, zip_self, List.map_map, List.map_map]; rfl⟩
theorem all_true {xs : List VL.D} : (xs.map fun _ => VL.D.bl true) = (xs.map fun _ => true).map VL.D.bl := by rw [List.map_map]; rfl
theorem alike_self : ∀ (d : Nat) (x : VL.D) (st : Sto), Pl d x → ∃ j, f__law_alike d [x, x] st = .ok (.bl true) (st ++ j)
  | 0, _, _, h => h.elim
  | d + 1, .tup xs, st, h => by
    have i1 : isiD [.tup xs, .ty "tuple"] st = .ok (.bl true) st := rfl
    have i2 : isiD [.tup xs, .ty "list"] st = .ok (.bl false) st := rfl
    obtain ⟨j, e⟩ := alike_all (a := .tup xs) (b := .tup xs) (c := []) (alike_self d) (show zipD [.tup xs, .tup xs] st = _ from rfl) chk_nil h.2 h.1
    have al : allD [.ref st.length] (st ++ .lst (xs.map fun _ => .bl true) :: j) = .ok (.bl true) (st ++ .lst (xs.map fun _ => .bl true) :: j) := by
      rw [allD_ok (bs := xs.map fun _ => true) (by rw [listAt_at, all_true])]
      simp
    exact ⟨.lst (xs.map fun _ => .bl true) :: j, by simp -implicitDefEqProofs +decide only [varF_ap, cF_ap, opF_ap, opK_ap, bF_ap, boolK_ap, andT_ap, andK_ap, orT_ap, orK_ap, notT_ap, notK_ap, yesT_ap, andV_ap, andVK_ap, orV_ap, orVK_ap, notV_ap, notVK_ap, ifF_ap, ifFK_ap, nilA_ap, consA_ap, consK_ap, consJ_ap, tupA_ap, lstA_ap, newO_ap, dicF_ap, callF_ap, un1_ap, methF_ap, nonO_ap, someO_ap, someK_ap, slF_ap, slK_ap, slJ_ap, itF_ap, itA_ap, nilS_ap, bkS_ap, ctS_ap, seqS_ap, seqK_nx, seqK_rt, seqK_bk, seqK_ct, dropS_ap, dropK_ap, retS_ap, retK_ap, retN_ap, ifS_ap, ifK_ap, setS_ap, setK_ap, asgS_ap, asgK_ap, asgJ_ap, nameG_ap, nilG_ap, consG_ap, consGK_ap, fnF_ap, fnK_nx, fnK_rt, forS_ap, forK_ap, negD_ap, addI_ap, varK_ap, startE, yes2, isN, List.map_cons, List.map_nil, List.length_cons, List.length_nil, List.replicate, List.append_nil, List.cons_append, List.nil_append, List.getElem?_cons_zero, List.getElem?_cons_succ, List.set_cons_zero, List.set_cons_succ, R.bind_ok, R.bind_ex, R.bind_bad, R.noex_ok, if_true, if_false, Bool.false_eq_true, Bool.true_eq_false, ite_true, ite_false, reduceIte, Nat.reduceAdd, Nat.reduceSub, Nat.zero_add, Nat.sub_self, Nat.sub_zero, decide_true, decide_false, Bool.not_true, Bool.not_false, subD_ap, ltD_ap, leD_ap, gtD_ap, geD_ap, mulD_ap, modD_ap, divD_ap, powD_ap, tupK_ok, lstK_ok, methK_ok, tupG_ok, eqS_t, eqS_f, neS_t, neS_f, eqI_ap, neI_ap, inT_nil, inT_hit, inT_miss, ne_eq, not_false_eq_true, f__law_alike, b__law_alike, lenD_tup, i1, i2, e, al]⟩
  | d + 1, .int i, st, _ => by
    have i1 : isiD [.int i, .ty "tuple"] st = .ok (.bl false) st := rfl
    have i2 : isiD [.int i, .ty "list"] st = .ok (.bl false) st := rfl
    have i3 : isiD [.int i, .ty "bool"] st = .ok (.bl false) st := rfl
    have i4 : isiD [.int i, .ty "str"] st = .ok (.bl false) st := rfl
    have w : f__law_whole [.int i] st = .ok (.bl true) st := whole_ok Good.int
    exact ⟨[], by simp -implicitDefEqProofs +decide only [varF_ap, cF_ap, opF_ap, opK_ap, bF_ap, boolK_ap, andT_ap, andK_ap, orT_ap, orK_ap, notT_ap, notK_ap, yesT_ap, andV_ap, andVK_ap, orV_ap, orVK_ap, notV_ap, notVK_ap, ifF_ap, ifFK_ap, nilA_ap, consA_ap, consK_ap, consJ_ap, tupA_ap, lstA_ap, newO_ap, dicF_ap, callF_ap, un1_ap, methF_ap, nonO_ap, someO_ap, someK_ap, slF_ap, slK_ap, slJ_ap, itF_ap, itA_ap, nilS_ap, bkS_ap, ctS_ap, seqS_ap, seqK_nx, seqK_rt, seqK_bk, seqK_ct, dropS_ap, dropK_ap, retS_ap, retK_ap, retN_ap, ifS_ap, ifK_ap, setS_ap, setK_ap, asgS_ap, asgK_ap, asgJ_ap, nameG_ap, nilG_ap, consG_ap, consGK_ap, fnF_ap, fnK_nx, fnK_rt, forS_ap, forK_ap, negD_ap, addI_ap, varK_ap, startE, yes2, isN, List.map_cons, List.map_nil, List.length_cons, List.length_nil, List.replicate, List.append_nil, List.cons_append, List.nil_append, List.getElem?_cons_zero, List.getElem?_cons_succ, List.set_cons_zero, List.set_cons_succ, R.bind_ok, R.bind_ex, R.bind_bad, R.noex_ok, if_true, if_false, Bool.false_eq_true, Bool.true_eq_false, ite_true, ite_false, reduceIte, Nat.reduceAdd, Nat.reduceSub, Nat.zero_add, Nat.sub_self, Nat.sub_zero, decide_true, decide_false, Bool.not_true, Bool.not_false, subD_ap, ltD_ap, leD_ap, gtD_ap, geD_ap, mulD_ap, modD_ap, divD_ap, powD_ap, tupK_ok, lstK_ok, methK_ok, tupG_ok, eqS_t, eqS_f, neS_t, neS_f, eqI_ap, neI_ap, inT_nil, inT_hit, inT_miss, ne_eq, not_false_eq_true, f__law_alike, b__law_alike, i1, i2, i3, i4, w]⟩
  | d + 1, .str i, st, _ => by
    have i1 : isiD [.str i, .ty "tuple"] st = .ok (.bl false) st := rfl
    have i2 : isiD [.str i, .ty "list"] st = .ok (.bl false) st := rfl
    have i3 : isiD [.str i, .ty "bool"] st = .ok (.bl false) st := rfl
    have i4 : isiD [.str i, .ty "str"] st = .ok (.bl true) st := rfl
    exact ⟨[], by simp -implicitDefEqProofs +decide only [varF_ap, cF_ap, opF_ap, opK_ap, bF_ap, boolK_ap, andT_ap, andK_ap, orT_ap, orK_ap, notT_ap, notK_ap, yesT_ap, andV_ap, andVK_ap, orV_ap, orVK_ap, notV_ap, notVK_ap, ifF_ap, ifFK_ap, nilA_ap, consA_ap, consK_ap, consJ_ap, tupA_ap, lstA_ap, newO_ap, dicF_ap, callF_ap, un1_ap, methF_ap, nonO_ap, someO_ap, someK_ap, slF_ap, slK_ap, slJ_ap, itF_ap, itA_ap, nilS_ap, bkS_ap, ctS_ap, seqS_ap, seqK_nx, seqK_rt, seqK_bk, seqK_ct, dropS_ap, dropK_ap, retS_ap, retK_ap, retN_ap, ifS_ap, ifK_ap, setS_ap, setK_ap, asgS_ap, asgK_ap, asgJ_ap, nameG_ap, nilG_ap, consG_ap, consGK_ap, fnF_ap, fnK_nx, fnK_rt, forS_ap, forK_ap, negD_ap, addI_ap, varK_ap, startE, yes2, isN, List.map_cons, List.map_nil, List.length_cons, List.length_nil, List.replicate, List.append_nil, List.cons_append, List.nil_append, List.getElem?_cons_zero, List.getElem?_cons_succ, List.set_cons_zero, List.set_cons_succ, R.bind_ok, R.bind_ex, R.bind_bad, R.noex_ok, if_true, if_false, Bool.false_eq_true, Bool.true_eq_false, ite_true, ite_false, reduceIte, Nat.reduceAdd, Nat.reduceSub, Nat.zero_add, Nat.sub_self, Nat.sub_zero, decide_true, decide_false, Bool.not_true, Bool.not_false, subD_ap, ltD_ap, leD_ap, gtD_ap, geD_ap, mulD_ap, modD_ap, divD_ap, powD_ap, tupK_ok, lstK_ok, methK_ok, tupG_ok, eqS_t, eqS_f, neS_t, neS_f, eqI_ap, neI_ap, inT_nil, inT_hit, inT_miss, ne_eq, not_false_eq_true, f__law_alike, b__law_alike, i1, i2, i3, i4]⟩
  | d + 1, .bl i, st, _ => by
    have i1 : isiD [.bl i, .ty "tuple"] st = .ok (.bl false) st := rfl
    have i2 : isiD [.bl i, .ty "list"] st = .ok (.bl false) st := rfl
    have i3 : isiD [.bl i, .ty "bool"] st = .ok (.bl true) st := rfl
    have q : eqD (.bl i) (.bl i) st = .ok (.bl true) st := by rw [eqD_ap, eqP_bl]; simp [eqK]
    exact ⟨[], by simp -implicitDefEqProofs +decide only [varF_ap, cF_ap, opF_ap, opK_ap, bF_ap, boolK_ap, andT_ap, andK_ap, orT_ap, orK_ap, notT_ap, notK_ap, yesT_ap, andV_ap, andVK_ap, orV_ap, orVK_ap, notV_ap, notVK_ap, ifF_ap, ifFK_ap, nilA_ap, consA_ap, consK_ap, consJ_ap, tupA_ap, lstA_ap, newO_ap, dicF_ap, callF_ap, un1_ap, methF_ap, nonO_ap, someO_ap, someK_ap, slF_ap, slK_ap, slJ_ap, itF_ap, itA_ap, nilS_ap, bkS_ap, ctS_ap, seqS_ap, seqK_nx, seqK_rt, seqK_bk, seqK_ct, dropS_ap, dropK_ap, retS_ap, retK_ap, retN_ap, ifS_ap, ifK_ap, setS_ap, setK_ap, asgS_ap, asgK_ap, asgJ_ap, nameG_ap, nilG_ap, consG_ap, consGK_ap, fnF_ap, fnK_nx, fnK_rt, forS_ap, forK_ap, negD_ap, addI_ap, varK_ap, startE, yes2, isN, List.map_cons, List.map_nil, List.length_cons, List.length_nil, List.replicate, List.append_nil, List.cons_append, List.nil_append, List.getElem?_cons_zero, List.getElem?_cons_succ, List.set_cons_zero, List.set_cons_succ, R.bind_ok, R.bind_ex, R.bind_bad, R.noex_ok, if_true, if_false, Bool.false_eq_true, Bool.true_eq_false, ite_true, ite_false, reduceIte, Nat.reduceAdd, Nat.reduceSub, Nat.zero_add, Nat.sub_self, Nat.sub_zero, decide_true, decide_false, Bool.not_true, Bool.not_false, subD_ap, ltD_ap, leD_ap, gtD_ap, geD_ap, mulD_ap, modD_ap, divD_ap, powD_ap, tupK_ok, lstK_ok, methK_ok, tupG_ok, eqS_t, eqS_f, neS_t, neS_f, eqI_ap, neI_ap, inT_nil, inT_hit, inT_miss, ne_eq, not_false_eq_true, f__law_alike, b__law_alike, i1, i2, i3, q]⟩
theorem alike_list {d m n : Nat} {xs : List VL.D} {st : Sto} (hm : listAt st m = some xs) (hn : listAt st n = some xs) (h : ∀ x ∈ xs, Pl d x) (hl : xs.length ≤ 10000) : ∃ j, f__law_alike (d + 1) [.ref m, .ref n] st = .ok (.bl true) (st ++ j) := by
  have ty : ∀ {k : Nat}, listAt st k = some xs → tyOfD (.ref k) st = some "list" := by
    intro k hk
    unfold listAt at hk
    unfold tyOfD
    split at hk <;> first | (cases hk; done) | simp_all
  have i1 : ∀ {k : Nat}, listAt st k = some xs → isiD [.ref k, .ty "tuple"] st = .ok (.bl false) st := fun hk => by simp only [isiD, ty hk]; rfl
  have i2 : ∀ {k : Nat}, listAt st k = some xs → isiD [.ref k, .ty "list"] st = .ok (.bl true) st := fun hk => by simp only [isiD, ty hk]; rfl
  have hz : zipD [.ref m, .ref n] st = .ok ((xs.zip xs).map pairD, chkAt st m ++ chkAt st n) st := by simp only [zipD, hm, hn]
  obtain ⟨j, e⟩ := alike_all (a := .ref m) (b := .ref n) (alike_self d) hz (fun S hS => (chk_at S hS).app (chk_at S hS)) h hl
  have al : allD [.ref st.length] (st ++ .lst (xs.map fun _ => .bl true) :: j) = .ok (.bl true) (st ++ .lst (xs.map fun _ => .bl true) :: j) := by
    rw [allD_ok (bs := xs.map fun _ => true) (by rw [listAt_at, all_true])]
    simp
  exact ⟨.lst (xs.map fun _ => .bl true) :: j, by simp -implicitDefEqProofs +decide only [varF_ap, cF_ap, opF_ap, opK_ap, bF_ap, boolK_ap, andT_ap, andK_ap, orT_ap, orK_ap, notT_ap, notK_ap, yesT_ap, andV_ap, andVK_ap, orV_ap, orVK_ap, notV_ap, notVK_ap, ifF_ap, ifFK_ap, nilA_ap, consA_ap, consK_ap, consJ_ap, tupA_ap, lstA_ap, newO_ap, dicF_ap, callF_ap, un1_ap, methF_ap, nonO_ap, someO_ap, someK_ap, slF_ap, slK_ap, slJ_ap, itF_ap, itA_ap, nilS_ap, bkS_ap, ctS_ap, seqS_ap, seqK_nx, seqK_rt, seqK_bk, seqK_ct, dropS_ap, dropK_ap, retS_ap, retK_ap, retN_ap, ifS_ap, ifK_ap, setS_ap, setK_ap, asgS_ap, asgK_ap, asgJ_ap, nameG_ap, nilG_ap, consG_ap, consGK_ap, fnF_ap, fnK_nx, fnK_rt, forS_ap, forK_ap, negD_ap, addI_ap, varK_ap, startE, yes2, isN, List.map_cons, List.map_nil, List.length_cons, List.length_nil, List.replicate, List.append_nil, List.cons_append, List.nil_append, List.getElem?_cons_zero, List.getElem?_cons_succ, List.set_cons_zero, List.set_cons_succ, R.bind_ok, R.bind_ex, R.bind_bad, R.noex_ok, if_true, if_false, Bool.false_eq_true, Bool.true_eq_false, ite_true, ite_false, reduceIte, Nat.reduceAdd, Nat.reduceSub, Nat.zero_add, Nat.sub_self, Nat.sub_zero, decide_true, decide_false, Bool.not_true, Bool.not_false, subD_ap, ltD_ap, leD_ap, gtD_ap, geD_ap, mulD_ap, modD_ap, divD_ap, powD_ap, tupK_ok, lstK_ok, methK_ok, tupG_ok, eqS_t, eqS_f, neS_t, neS_f, eqI_ap, neI_ap, inT_nil, inT_hit, inT_miss, ne_eq, not_false_eq_true, f__law_alike, b__law_alike, lenD_list hm, lenD_list hn, i1 hn, i1 hm, i2 hn, i2 hm, e, al]⟩
end Law

namespace Law
open PySem L2 VL
def prD (l : List (Int × Int)) : List VL.D := l.map fun p => .tup [.int p.1, .int p.2]
def words : List Str := ["sieve", "cols", "join", "left", "notin", "pour", "both", "either", "less", "once", "count", "sum", "least", "most", "first", "table"]
theorem digs_at {k i : Nat} {n : Int} {y : VL.D} (h : (digsD 12 k n)[i]? = some y) : ∃ x, y = .int x := by
  unfold digsD at h
  rw [List.getElem?_map] at h
  cases e : (digs 12 k n)[i]? with
  | none => rw [e] at h; cases h
  | some x => rw [e] at h; cases h; exact ⟨x, rfl⟩
theorem pairs_ok {a b c d e f : Option VL.D} {u v w : Option VL.D} {k : Nat} {n : Int} (hk : k ≤ 12) (st : Sto) : ∃ l : List (Int × Int), l.length = k ∧ ∃ j, lcF (itA enumD (consA (varF 2) nilA)) [7, 8] (tupG 2 (consG (nameG 7) (consG (nameG 8) nilG))) yesT (tupA (consA (varF 8) (consA (opF modD (opF addD (opF mulD (varF 8) (cF (.int 5))) (varF 7)) (cF (.int 12))) nilA))) [a, b, some (.tup (digsD 12 k n)), c, d, e, f, u, v, w] st
      = .ok (.ref st.length) (st ++ .lst (prD l) :: j) := by
  have hit : (itA enumD (consA (varF 2) nilA)) [a, b, some (.tup (digsD 12 k n)), c, d, e, f, u, v, w] st = .ok (numbered (digsD 12 k n), []) st := by simp -implicitDefEqProofs only [varF_ap, cF_ap, opF_ap, opK_ap, bF_ap, boolK_ap, andT_ap, andK_ap, orT_ap, orK_ap, notT_ap, notK_ap, yesT_ap, andV_ap, andVK_ap, orV_ap, orVK_ap, notV_ap, notVK_ap, ifF_ap, ifFK_ap, nilA_ap, consA_ap, consK_ap, consJ_ap, tupA_ap, tupK_ap, lstA_ap, lstK_ap, newO_ap, dicF_ap, callF_ap, un1_ap, methF_ap, methK_ap, nonO_ap, someO_ap, someK_ap, slF_ap, slK_ap, slJ_ap, itF_ap, itA_ap, nilS_ap, bkS_ap, ctS_ap, seqS_ap, seqK_nx, seqK_rt, seqK_bk, seqK_ct, dropS_ap, dropK_ap, retS_ap, retK_ap, retN_ap, ifS_ap, ifK_ap, setS_ap, setK_ap, asgS_ap, asgK_ap, asgJ_ap, nameG_ap, nilG_ap, consG_ap, consGK_ap, tupG_ap, fnF_ap, fnK_nx, fnK_rt, forS_ap, forK_ap, intD_ap, negD_ap, addI_ap, varK_ap, startE, yes2, isN, List.map_cons, List.map_nil, List.length_cons, List.length_nil, List.replicate, List.append_nil, List.cons_append, List.nil_append, List.getElem?_cons_zero, List.getElem?_cons_succ, List.set_cons_zero, List.set_cons_succ, R.bind_ok, R.bind_ex, R.bind_bad, R.noex_ok, if_true, if_false, Bool.false_eq_true, Bool.true_eq_false, ite_true, ite_false, reduceIte, Nat.reduceAdd, Nat.reduceSub, Nat.zero_add, Nat.sub_self, Nat.sub_zero, decide_true, decide_false, Bool.not_true, Bool.not_false, enumD]
  obtain ⟨l, h1, h2, _⟩ := lcF_any (vs := [7, 8]) (gf := tupG 2 (consG (nameG 7) (consG (nameG 8) nilG))) (te := tupA (consA (varF 8) (consA (opF modD (opF addD (opF mulD (varF 8) (cF (.int 5))) (varF 7)) (cF (.int 12))) nilA))) (fun p : Int × Int => .tup [.int p.1, .int p.2]) (fun _ _ => True) hit chk_nil (by rw [numbered_len, digsD_len, sizeLine_eq']; omega) fun x hx => by
    obtain ⟨i, y, hi, hy, rfl⟩ := numbered_mem hx
    obtain ⟨z, rfl⟩ := digs_at hy
    have d12 : decide ((0 : Int) < 12) = true := by decide
    have q : decide (MulOk z 5) = true := mul_okR (by decide)
    refine ⟨(z, (z * 5 + i) % 12), trivial, fun S _ => ⟨_, [], rfl, ?_⟩⟩
    have h2 : (2 : Nat) ≤ sizeLine := by decide
    simp -implicitDefEqProofs only [varF_ap, cF_ap, opF_ap, opK_ap, bF_ap, boolK_ap, andT_ap, andK_ap, orT_ap, orK_ap, notT_ap, notK_ap, yesT_ap, andV_ap, andVK_ap, orV_ap, orVK_ap, notV_ap, notVK_ap, ifF_ap, ifFK_ap, nilA_ap, consA_ap, consK_ap, consJ_ap, tupA_ap, tupK_ap, lstA_ap, lstK_ap, newO_ap, dicF_ap, callF_ap, un1_ap, methF_ap, methK_ap, nonO_ap, someO_ap, someK_ap, slF_ap, slK_ap, slJ_ap, itF_ap, itA_ap, nilS_ap, bkS_ap, ctS_ap, seqS_ap, seqK_nx, seqK_rt, seqK_bk, seqK_ct, dropS_ap, dropK_ap, retS_ap, retK_ap, retN_ap, ifS_ap, ifK_ap, setS_ap, setK_ap, asgS_ap, asgK_ap, asgJ_ap, nameG_ap, nilG_ap, consG_ap, consGK_ap, tupG_ap, fnF_ap, fnK_nx, fnK_rt, forS_ap, forK_ap, intD_ap, negD_ap, addI_ap, varK_ap, startE, yes2, isN, List.map_cons, List.map_nil, List.length_cons, List.length_nil, List.replicate, List.append_nil, List.cons_append, List.nil_append, List.getElem?_cons_zero, List.getElem?_cons_succ, List.set_cons_zero, List.set_cons_succ, R.bind_ok, R.bind_ex, R.bind_bad, R.noex_ok, if_true, if_false, Bool.false_eq_true, Bool.true_eq_false, ite_true, ite_false, reduceIte, Nat.reduceAdd, Nat.reduceSub, Nat.zero_add, Nat.sub_self, Nat.sub_zero, decide_true, decide_false, Bool.not_true, Bool.not_false, wipeE, q, d12, h2, addD]
  exact ⟨l, by rw [h1, numbered_len, digsD_len], h2⟩
theorem seconds_ok {env : EnvD} {i : Nat} {l : List (Int × Int)} {it : ItF} {st : Sto} (hit : it env st = .ok (prD l, []) st) (hl : l.length ≤ 12) (hi : i < env.length) : ∃ j, lcF it [i] (nameG i) yesT (opF ixD (varF i) (cF (.int 1))) env st = .ok (.ref st.length) (st ++ .lst (l.map fun p => .int p.2) :: j) := by
  obtain ⟨j, e⟩ := lcF_all (vs := [i]) (gf := nameG i) (te := opF ixD (varF i) (cF (.int 1))) (fun d => match d with | .tup [_, y] => y | _ => .non) hit chk_nil (by unfold prD; rw [List.length_map, sizeLine_eq']; omega) fun x hx S hS => by
    unfold prD at hx
    obtain ⟨⟨p, q⟩, _, rfl⟩ := List.mem_map.mp hx
    have g : (wipeE env [i]).length = env.length := by simp [wipeE]
    refine ⟨_, [], rfl, ?_⟩
    have e1 : ((wipeE env [i]).set i (some (VL.D.tup [.int p, .int q])))[i]? = some (some (.tup [.int p, .int q])) := by rw [List.getElem?_set_self (by rw [g]; exact hi)]
    have e2 : ixD (VL.D.tup [.int p, .int q]) (.int 1) S = .ok (.int q) S := rfl
    simp -implicitDefEqProofs only [varF_ap, cF_ap, opF_ap, opK_ap, bF_ap, boolK_ap, andT_ap, andK_ap, orT_ap, orK_ap, notT_ap, notK_ap, yesT_ap, andV_ap, andVK_ap, orV_ap, orVK_ap, notV_ap, notVK_ap, ifF_ap, ifFK_ap, nilA_ap, consA_ap, consK_ap, consJ_ap, tupA_ap, tupK_ap, lstA_ap, lstK_ap, newO_ap, dicF_ap, callF_ap, un1_ap, methF_ap, methK_ap, nonO_ap, someO_ap, someK_ap, slF_ap, slK_ap, slJ_ap, itF_ap, itA_ap, nilS_ap, bkS_ap, ctS_ap, seqS_ap, seqK_nx, seqK_rt, seqK_bk, seqK_ct, dropS_ap, dropK_ap, retS_ap, retK_ap, retN_ap, ifS_ap, ifK_ap, setS_ap, setK_ap, asgS_ap, asgK_ap, asgJ_ap, nameG_ap, nilG_ap, consG_ap, consGK_ap, tupG_ap, fnF_ap, fnK_nx, fnK_rt, forS_ap, forK_ap, intD_ap, negD_ap, addI_ap, varK_ap, startE, yes2, isN, List.map_cons, List.map_nil, List.length_cons, List.length_nil, List.replicate, List.append_nil, List.cons_append, List.nil_append, List.getElem?_cons_zero, List.getElem?_cons_succ, List.set_cons_zero, List.set_cons_succ, R.bind_ok, R.bind_ex, R.bind_bad, R.noex_ok, if_true, if_false, Bool.false_eq_true, Bool.true_eq_false, ite_true, ite_false, reduceIte, Nat.reduceAdd, Nat.reduceSub, Nat.zero_add, Nat.sub_self, Nat.sub_zero, decide_true, decide_false, Bool.not_true, Bool.not_false, e1, e2]
  exact ⟨j, by rw [e]; unfold prD; rw [List.map_map]; rfl⟩
def Pi (ds : List VL.D) : Prop := ∃ l : List Int, ds = l.map .int
theorem order_ok {b c d e f : Option VL.D} {u v w : Option VL.D} {k : Nat} {m n : Int} (hk : k ≤ 12) (st : Sto) : ∃ l : List (Int × Bool), l.length = k ∧ ∃ j, lcF (itA enumD (consA (un1 backD (varF 2)) nilA)) [7, 8] (tupG 2 (consG (nameG 7) (consG (nameG 8) nilG))) yesT (tupA (consA (varF 8) (consA (opF eqD (opF modD (opF divD (varF 0) (opF addD (varF 7) (cF (.int 2)))) (cF (.int 2))) (cF (.int 0))) nilA))) [some (.int m), b, some (.tup (digsD 12 k n)), c, d, e, f, u, v, w] st
      = .ok (.ref st.length) (st ++ .lst (l.map fun p => .tup [.int p.1, .bl p.2]) :: j) := by
  have bk : backD (.tup (digsD 12 k n)) st = .ok (.tup (digsD 12 k n).reverse) st := rfl
  have hit : (itA enumD (consA (un1 backD (varF 2)) nilA)) [some (.int m), b, some (.tup (digsD 12 k n)), c, d, e, f, u, v, w] st = .ok (numbered (digsD 12 k n).reverse, []) st := by simp -implicitDefEqProofs only [varF_ap, cF_ap, opF_ap, opK_ap, bF_ap, boolK_ap, andT_ap, andK_ap, orT_ap, orK_ap, notT_ap, notK_ap, yesT_ap, andV_ap, andVK_ap, orV_ap, orVK_ap, notV_ap, notVK_ap, ifF_ap, ifFK_ap, nilA_ap, consA_ap, consK_ap, consJ_ap, tupA_ap, tupK_ap, lstA_ap, lstK_ap, newO_ap, dicF_ap, callF_ap, un1_ap, methF_ap, methK_ap, nonO_ap, someO_ap, someK_ap, slF_ap, slK_ap, slJ_ap, itF_ap, itA_ap, nilS_ap, bkS_ap, ctS_ap, seqS_ap, seqK_nx, seqK_rt, seqK_bk, seqK_ct, dropS_ap, dropK_ap, retS_ap, retK_ap, retN_ap, ifS_ap, ifK_ap, setS_ap, setK_ap, asgS_ap, asgK_ap, asgJ_ap, nameG_ap, nilG_ap, consG_ap, consGK_ap, tupG_ap, fnF_ap, fnK_nx, fnK_rt, forS_ap, forK_ap, intD_ap, negD_ap, addI_ap, varK_ap, startE, yes2, isN, List.map_cons, List.map_nil, List.length_cons, List.length_nil, List.replicate, List.append_nil, List.cons_append, List.nil_append, List.getElem?_cons_zero, List.getElem?_cons_succ, List.set_cons_zero, List.set_cons_succ, R.bind_ok, R.bind_ex, R.bind_bad, R.noex_ok, if_true, if_false, Bool.false_eq_true, Bool.true_eq_false, ite_true, ite_false, reduceIte, Nat.reduceAdd, Nat.reduceSub, Nat.zero_add, Nat.sub_self, Nat.sub_zero, decide_true, decide_false, Bool.not_true, Bool.not_false, enumD, bk]
  obtain ⟨l, h1, h2, _⟩ := lcF_any (vs := [7, 8]) (gf := tupG 2 (consG (nameG 7) (consG (nameG 8) nilG))) (te := tupA (consA (varF 8) (consA (opF eqD (opF modD (opF divD (varF 0) (opF addD (varF 7) (cF (.int 2)))) (cF (.int 2))) (cF (.int 0))) nilA))) (fun p : Int × Bool => .tup [.int p.1, .bl p.2]) (fun _ _ => True) hit chk_nil (by rw [numbered_len, List.length_reverse, digsD_len, sizeLine_eq']; omega) fun x hx => by
    obtain ⟨i, y, hi, hy, rfl⟩ := numbered_mem hx
    rw [List.length_reverse, digsD_len] at hi
    obtain ⟨z, rfl⟩ : ∃ z, y = .int z := by
      have := List.mem_reverse.mp (List.mem_of_getElem? hy)
      unfold digsD at this
      obtain ⟨z, _, rfl⟩ := List.mem_map.mp this
      exact ⟨z, rfl⟩
    have d2 : decide ((0 : Int) < 2) = true := by decide
    have v2 : decide ((0 : Int) < (i : Int) + 2 ∧ ((i : Int) + 2).natAbs.log2 < 9000) = true := decide_eq_true ⟨by omega, by
      have : ((i : Int) + 2).natAbs.log2 < 5 := log2_lt (by omega) (by decide)
      omega⟩
    refine ⟨(z, decide (m / ((i : Int) + 2) % 2 = 0)), trivial, fun S _ => ⟨_, [], rfl, ?_⟩⟩
    have h2 : (2 : Nat) ≤ sizeLine := by decide
    simp -implicitDefEqProofs only [varF_ap, cF_ap, opF_ap, opK_ap, bF_ap, boolK_ap, andT_ap, andK_ap, orT_ap, orK_ap, notT_ap, notK_ap, yesT_ap, andV_ap, andVK_ap, orV_ap, orVK_ap, notV_ap, notVK_ap, ifF_ap, ifFK_ap, nilA_ap, consA_ap, consK_ap, consJ_ap, tupA_ap, tupK_ap, lstA_ap, lstK_ap, newO_ap, dicF_ap, callF_ap, un1_ap, methF_ap, methK_ap, nonO_ap, someO_ap, someK_ap, slF_ap, slK_ap, slJ_ap, itF_ap, itA_ap, nilS_ap, bkS_ap, ctS_ap, seqS_ap, seqK_nx, seqK_rt, seqK_bk, seqK_ct, dropS_ap, dropK_ap, retS_ap, retK_ap, retN_ap, ifS_ap, ifK_ap, setS_ap, setK_ap, asgS_ap, asgK_ap, asgJ_ap, nameG_ap, nilG_ap, consG_ap, consGK_ap, tupG_ap, fnF_ap, fnK_nx, fnK_rt, forS_ap, forK_ap, intD_ap, negD_ap, addI_ap, varK_ap, startE, yes2, isN, List.map_cons, List.map_nil, List.length_cons, List.length_nil, List.replicate, List.append_nil, List.cons_append, List.nil_append, List.getElem?_cons_zero, List.getElem?_cons_succ, List.set_cons_zero, List.set_cons_succ, R.bind_ok, R.bind_ex, R.bind_bad, R.noex_ok, if_true, if_false, Bool.false_eq_true, Bool.true_eq_false, ite_true, ite_false, reduceIte, Nat.reduceAdd, Nat.reduceSub, Nat.zero_add, Nat.sub_self, Nat.sub_zero, decide_true, decide_false, Bool.not_true, Bool.not_false, wipeE, d2, v2, h2, addD, eqD, eqP, sEq]
  exact ⟨l, by rw [h1, numbered_len, List.length_reverse, digsD_len], h2⟩
theorem sz {n : Nat} (h : n ≤ 100) : (n ≤ sizeLine) = True := eq_true (by rw [sizeLine_eq']; omega)
theorem Pl_ints {d : Nat} {l : List Int} (h : l.length ≤ 100) : Pl (d + 2) (.tup (l.map .int)) := ⟨by rw [List.length_map]; omega, fun x hx => by obtain ⟨i, _, rfl⟩ := List.mem_map.mp hx; trivial⟩
theorem Pl_digs {d k : Nat} {n : Int} (h : k ≤ 12) : Pl (d + 2) (.tup (digsD 12 k n)) := Pl_ints (by rw [digs_len]; omega)
/-- what a node needs is told so -/
def Needs (nd : VL.D) (due : List VL.D) : Prop := (∀ x ∈ due, Pl 5 x) ∧ due.length ≤ 100 ∧ ∀ S : Sto, ∃ k j, f_needs_of [nd] S = .ok (.ref k) (S ++ j) ∧ S.length ≤ k ∧ (S ++ j)[k]? = some (.lst due)
theorem needs_at {nd : VL.D} {due : List VL.D} {S : Sto} {j : Sto} (h : f_needs_of [nd] S = .ok (.ref (S ++ j).length) (S ++ j ++ [.lst due])) : ∃ k j, f_needs_of [nd] S = .ok (.ref k) (S ++ j) ∧ S.length ≤ k ∧ (S ++ j)[k]? = some (.lst due) :=
  ⟨_, _, by rw [h, List.append_assoc], by simp, by rw [← List.append_assoc]; exact get_last⟩
theorem ixt {xs : List VL.D} {k : Nat} {d : VL.D} {st : Sto} (h : xs[k]? = some d) : ixD (.tup xs) (.int k) st = .ok d st := ixD_tup h
theorem ix0 {a : VL.D} {xs : List VL.D} {st : Sto} : ixD (.tup (a :: xs)) (.int 0) st = .ok a st := ixD_tup (k := 0) rfl
theorem ix1 {a b : VL.D} {xs : List VL.D} {st : Sto} : ixD (.tup (a :: b :: xs)) (.int 1) st = .ok b st := ixD_tup (k := 1) rfl
theorem needs_none {w : Str} {b c : VL.D} (hw : w ∈ (["sieve", "cols", "pour", "table"] : List Str)) : Needs (.tup [.str w, b, c]) [] := by
  refine ⟨fun x hx => (nomatch hx), by simp, fun S => needs_at (j := []) ?_⟩
  simp only [List.mem_cons, List.not_mem_nil, or_false] at hw
  rcases hw with rfl | rfl | rfl | rfl <;> simp -implicitDefEqProofs +decide only [varF_ap, cF_ap, opF_ap, opK_ap, bF_ap, boolK_ap, andT_ap, andK_ap, orT_ap, orK_ap, notT_ap, notK_ap, yesT_ap, andV_ap, andVK_ap, orV_ap, orVK_ap, notV_ap, notVK_ap, ifF_ap, ifFK_ap, nilA_ap, consA_ap, consK_ap, consJ_ap, tupA_ap, lstA_ap, newO_ap, dicF_ap, callF_ap, un1_ap, methF_ap, nonO_ap, someO_ap, someK_ap, slF_ap, slK_ap, slJ_ap, itF_ap, itA_ap, nilS_ap, bkS_ap, ctS_ap, seqS_ap, seqK_nx, seqK_rt, seqK_bk, seqK_ct, dropS_ap, dropK_ap, retS_ap, retK_ap, retN_ap, ifS_ap, ifK_ap, setS_ap, setK_ap, asgS_ap, asgK_ap, asgJ_ap, nameG_ap, nilG_ap, consG_ap, consGK_ap, fnF_ap, fnK_nx, fnK_rt, forS_ap, forK_ap, negD_ap, addI_ap, varK_ap, startE, yes2, isN, List.map_cons, List.map_nil, List.length_cons, List.length_nil, List.replicate, List.append_nil, List.cons_append, List.nil_append, List.getElem?_cons_zero, List.getElem?_cons_succ, List.set_cons_zero, List.set_cons_succ, R.bind_ok, R.bind_ex, R.bind_bad, R.noex_ok, if_true, if_false, Bool.false_eq_true, Bool.true_eq_false, ite_true, ite_false, reduceIte, Nat.reduceAdd, Nat.reduceSub, Nat.zero_add, Nat.sub_self, Nat.sub_zero, decide_true, decide_false, Bool.not_true, Bool.not_false, subD_ap, ltD_ap, leD_ap, gtD_ap, geD_ap, mulD_ap, modD_ap, divD_ap, powD_ap, tupK_ok, lstK_ok, methK_ok, tupG_ok, eqS_t, eqS_f, neS_t, neS_f, eqI_ap, neI_ap, inT_nil, inT_hit, inT_miss, ne_eq, not_false_eq_true, f_needs_of, b_needs_of, ix0, ix1, sz (by decide : 0 ≤ 100), sz (by decide : 2 ≤ 100), sz (by decide : 5 ≤ 100)]
def rowsD (k : Int) : VL.D := .tup [.str "rows", .int k]
theorem needs_two {w : Str} {b c : VL.D} (hw : w ∈ (["join", "left", "both", "either", "less"] : List Str)) : Needs (.tup [.str w, b, c]) [rowsD 0, rowsD 1] := by
  refine ⟨fun x hx => ?_, by simp, fun S => needs_at (j := []) ?_⟩
  · simp only [List.mem_cons, List.not_mem_nil, or_false] at hx
    rcases hx with rfl | rfl <;> exact ⟨by simp [rowsD], fun y hy => by simp only [List.mem_cons, List.not_mem_nil, or_false] at hy; rcases hy with rfl | rfl <;> trivial⟩
  simp only [List.mem_cons, List.not_mem_nil, or_false] at hw
  rcases hw with rfl | rfl | rfl | rfl | rfl <;> simp -implicitDefEqProofs +decide only [varF_ap, cF_ap, opF_ap, opK_ap, bF_ap, boolK_ap, andT_ap, andK_ap, orT_ap, orK_ap, notT_ap, notK_ap, yesT_ap, andV_ap, andVK_ap, orV_ap, orVK_ap, notV_ap, notVK_ap, ifF_ap, ifFK_ap, nilA_ap, consA_ap, consK_ap, consJ_ap, tupA_ap, lstA_ap, newO_ap, dicF_ap, callF_ap, un1_ap, methF_ap, nonO_ap, someO_ap, someK_ap, slF_ap, slK_ap, slJ_ap, itF_ap, itA_ap, nilS_ap, bkS_ap, ctS_ap, seqS_ap, seqK_nx, seqK_rt, seqK_bk, seqK_ct, dropS_ap, dropK_ap, retS_ap, retK_ap, retN_ap, ifS_ap, ifK_ap, setS_ap, setK_ap, asgS_ap, asgK_ap, asgJ_ap, nameG_ap, nilG_ap, consG_ap, consGK_ap, fnF_ap, fnK_nx, fnK_rt, forS_ap, forK_ap, negD_ap, addI_ap, varK_ap, startE, yes2, isN, List.map_cons, List.map_nil, List.length_cons, List.length_nil, List.replicate, List.append_nil, List.cons_append, List.nil_append, List.getElem?_cons_zero, List.getElem?_cons_succ, List.set_cons_zero, List.set_cons_succ, R.bind_ok, R.bind_ex, R.bind_bad, R.noex_ok, if_true, if_false, Bool.false_eq_true, Bool.true_eq_false, ite_true, ite_false, reduceIte, Nat.reduceAdd, Nat.reduceSub, Nat.zero_add, Nat.sub_self, Nat.sub_zero, decide_true, decide_false, Bool.not_true, Bool.not_false, subD_ap, ltD_ap, leD_ap, gtD_ap, geD_ap, mulD_ap, modD_ap, divD_ap, powD_ap, tupK_ok, lstK_ok, methK_ok, tupG_ok, eqS_t, eqS_f, neS_t, neS_f, eqI_ap, neI_ap, inT_nil, inT_hit, inT_miss, ne_eq, not_false_eq_true, f_needs_of, b_needs_of, ix0, ix1, rowsD, sz (by decide : 0 ≤ 100), sz (by decide : 2 ≤ 100), sz (by decide : 5 ≤ 100)]
theorem needs_one {w : Str} {b c : VL.D} (hw : w ∈ (["once", "first"] : List Str)) : Needs (.tup [.str w, b, c]) [rowsD 0] := by
  refine ⟨fun x hx => ?_, by simp, fun S => needs_at (j := []) ?_⟩
  · simp only [List.mem_cons, List.not_mem_nil, or_false] at hx
    rcases hx with rfl <;> exact ⟨by simp [rowsD], fun y hy => by simp only [List.mem_cons, List.not_mem_nil, or_false] at hy; rcases hy with rfl | rfl <;> trivial⟩
  simp only [List.mem_cons, List.not_mem_nil, or_false] at hw
  rcases hw with rfl | rfl <;> simp -implicitDefEqProofs +decide only [varF_ap, cF_ap, opF_ap, opK_ap, bF_ap, boolK_ap, andT_ap, andK_ap, orT_ap, orK_ap, notT_ap, notK_ap, yesT_ap, andV_ap, andVK_ap, orV_ap, orVK_ap, notV_ap, notVK_ap, ifF_ap, ifFK_ap, nilA_ap, consA_ap, consK_ap, consJ_ap, tupA_ap, lstA_ap, newO_ap, dicF_ap, callF_ap, un1_ap, methF_ap, nonO_ap, someO_ap, someK_ap, slF_ap, slK_ap, slJ_ap, itF_ap, itA_ap, nilS_ap, bkS_ap, ctS_ap, seqS_ap, seqK_nx, seqK_rt, seqK_bk, seqK_ct, dropS_ap, dropK_ap, retS_ap, retK_ap, retN_ap, ifS_ap, ifK_ap, setS_ap, setK_ap, asgS_ap, asgK_ap, asgJ_ap, nameG_ap, nilG_ap, consG_ap, consGK_ap, fnF_ap, fnK_nx, fnK_rt, forS_ap, forK_ap, negD_ap, addI_ap, varK_ap, startE, yes2, isN, List.map_cons, List.map_nil, List.length_cons, List.length_nil, List.replicate, List.append_nil, List.cons_append, List.nil_append, List.getElem?_cons_zero, List.getElem?_cons_succ, List.set_cons_zero, List.set_cons_succ, R.bind_ok, R.bind_ex, R.bind_bad, R.noex_ok, if_true, if_false, Bool.false_eq_true, Bool.true_eq_false, ite_true, ite_false, reduceIte, Nat.reduceAdd, Nat.reduceSub, Nat.zero_add, Nat.sub_self, Nat.sub_zero, decide_true, decide_false, Bool.not_true, Bool.not_false, subD_ap, ltD_ap, leD_ap, gtD_ap, geD_ap, mulD_ap, modD_ap, divD_ap, powD_ap, tupK_ok, lstK_ok, methK_ok, tupG_ok, eqS_t, eqS_f, neS_t, neS_f, eqI_ap, neI_ap, inT_nil, inT_hit, inT_miss, ne_eq, not_false_eq_true, f_needs_of, b_needs_of, ix0, ix1, rowsD, sz (by decide : 0 ≤ 100), sz (by decide : 1 ≤ 100), sz (by decide : 2 ≤ 100), sz (by decide : 5 ≤ 100)]
theorem needs_notin {l : List (Int × Int)} {c : VL.D} (hl : l.length ≤ 12) : Needs (.tup [.str "notin", .tup [.tup (prD l)], c]) [rowsD 0, .tup [.str "cut", .int 1, .tup (l.map fun p => .int p.2)]] := by
  refine ⟨fun x hx => ?_, by simp, fun S => ?_⟩
  · simp only [List.mem_cons, List.not_mem_nil, or_false] at hx
    rcases hx with rfl | rfl
    · exact ⟨by simp [rowsD], fun y hy => by simp only [List.mem_cons, List.not_mem_nil, or_false] at hy; rcases hy with rfl | rfl <;> trivial⟩
    · refine ⟨by simp, fun y hy => ?_⟩
      simp only [List.mem_cons, List.not_mem_nil, or_false] at hy
      rcases hy with rfl | rfl | rfl
      · trivial
      · trivial
      · exact ⟨by rw [List.length_map]; omega, fun x hx => by obtain ⟨i, _, rfl⟩ := List.mem_map.mp hx; trivial⟩
  · obtain ⟨j, e⟩ := seconds_ok (env := [some (.tup [.str "notin", .tup [.tup (prD l)], c]), some (.str "notin"), some (.tup [.tup (prD l)]), none]) (i := 3) (it := itF (opF ixD (varF 2) (cF (.int 0)))) (st := S) (l := l) (by simp -implicitDefEqProofs only [varF_ap, cF_ap, opF_ap, opK_ap, bF_ap, boolK_ap, andT_ap, andK_ap, orT_ap, orK_ap, notT_ap, notK_ap, yesT_ap, andV_ap, andVK_ap, orV_ap, orVK_ap, notV_ap, notVK_ap, ifF_ap, ifFK_ap, nilA_ap, consA_ap, consK_ap, consJ_ap, tupA_ap, tupK_ap, lstA_ap, lstK_ap, newO_ap, dicF_ap, callF_ap, un1_ap, methF_ap, methK_ap, nonO_ap, someO_ap, someK_ap, slF_ap, slK_ap, slJ_ap, itF_ap, itA_ap, nilS_ap, bkS_ap, ctS_ap, seqS_ap, seqK_nx, seqK_rt, seqK_bk, seqK_ct, dropS_ap, dropK_ap, retS_ap, retK_ap, retN_ap, ifS_ap, ifK_ap, setS_ap, setK_ap, asgS_ap, asgK_ap, asgJ_ap, nameG_ap, nilG_ap, consG_ap, consGK_ap, tupG_ap, fnF_ap, fnK_nx, fnK_rt, forS_ap, forK_ap, intD_ap, negD_ap, addI_ap, varK_ap, startE, yes2, isN, List.map_cons, List.map_nil, List.length_cons, List.length_nil, List.replicate, List.append_nil, List.cons_append, List.nil_append, List.getElem?_cons_zero, List.getElem?_cons_succ, List.set_cons_zero, List.set_cons_succ, R.bind_ok, R.bind_ex, R.bind_bad, R.noex_ok, if_true, if_false, Bool.false_eq_true, Bool.true_eq_false, ite_true, ite_false, reduceIte, Nat.reduceAdd, Nat.reduceSub, Nat.zero_add, Nat.sub_self, Nat.sub_zero, decide_true, decide_false, Bool.not_true, Bool.not_false, ix0, itD_tup]) hl (by simp)
    have tp : tupleD [VL.D.ref S.length] (S ++ .lst (l.map fun p => .int p.2) :: j) = .ok (.tup (l.map fun p => .int p.2)) (S ++ .lst (l.map fun p => .int p.2) :: j) := tupleD_list listAt_at
    refine needs_at (j := .lst (l.map fun p => .int p.2) :: j) ?_
    simp -implicitDefEqProofs +decide only [varF_ap, cF_ap, opF_ap, opK_ap, bF_ap, boolK_ap, andT_ap, andK_ap, orT_ap, orK_ap, notT_ap, notK_ap, yesT_ap, andV_ap, andVK_ap, orV_ap, orVK_ap, notV_ap, notVK_ap, ifF_ap, ifFK_ap, nilA_ap, consA_ap, consK_ap, consJ_ap, tupA_ap, lstA_ap, newO_ap, dicF_ap, callF_ap, un1_ap, methF_ap, nonO_ap, someO_ap, someK_ap, slF_ap, slK_ap, slJ_ap, itF_ap, itA_ap, nilS_ap, bkS_ap, ctS_ap, seqS_ap, seqK_nx, seqK_rt, seqK_bk, seqK_ct, dropS_ap, dropK_ap, retS_ap, retK_ap, retN_ap, ifS_ap, ifK_ap, setS_ap, setK_ap, asgS_ap, asgK_ap, asgJ_ap, nameG_ap, nilG_ap, consG_ap, consGK_ap, fnF_ap, fnK_nx, fnK_rt, forS_ap, forK_ap, negD_ap, addI_ap, varK_ap, startE, yes2, isN, List.map_cons, List.map_nil, List.length_cons, List.length_nil, List.replicate, List.append_nil, List.cons_append, List.nil_append, List.getElem?_cons_zero, List.getElem?_cons_succ, List.set_cons_zero, List.set_cons_succ, R.bind_ok, R.bind_ex, R.bind_bad, R.noex_ok, if_true, if_false, Bool.false_eq_true, Bool.true_eq_false, ite_true, ite_false, reduceIte, Nat.reduceAdd, Nat.reduceSub, Nat.zero_add, Nat.sub_self, Nat.sub_zero, decide_true, decide_false, Bool.not_true, Bool.not_false, subD_ap, ltD_ap, leD_ap, gtD_ap, geD_ap, mulD_ap, modD_ap, divD_ap, powD_ap, tupK_ok, lstK_ok, methK_ok, tupG_ok, eqS_t, eqS_f, neS_t, neS_f, eqI_ap, neI_ap, inT_nil, inT_hit, inT_miss, ne_eq, not_false_eq_true, f_needs_of, b_needs_of, ix0, ix1, rowsD, e, tp, sz (by decide : 0 ≤ 100), sz (by decide : 1 ≤ 100), sz (by decide : 2 ≤ 100), sz (by decide : 3 ≤ 100), sz (by decide : 5 ≤ 100)]
theorem cut_Pl {k : Int} {x : VL.D} (h : Pl 4 x) : Pl 5 (.tup [.str "cut", .int k, x]) := ⟨by simp, fun y hy => by
  simp only [List.mem_cons, List.not_mem_nil, or_false] at hy
  rcases hy with rfl | rfl | rfl
  · trivial
  · trivial
  · exact h⟩
theorem needs_count {x : VL.D} {c : VL.D} (hx : Pl 4 x) : Needs (.tup [.str "count", .tup [x], c]) [.tup [.str "cut", .int 0, x]] := by
  refine ⟨fun y hy => ?_, by simp, fun S => needs_at (j := []) ?_⟩
  · simp only [List.mem_cons, List.not_mem_nil, or_false] at hy
    rcases hy with rfl
    exact cut_Pl hx
  · simp -implicitDefEqProofs +decide only [varF_ap, cF_ap, opF_ap, opK_ap, bF_ap, boolK_ap, andT_ap, andK_ap, orT_ap, orK_ap, notT_ap, notK_ap, yesT_ap, andV_ap, andVK_ap, orV_ap, orVK_ap, notV_ap, notVK_ap, ifF_ap, ifFK_ap, nilA_ap, consA_ap, consK_ap, consJ_ap, tupA_ap, lstA_ap, newO_ap, dicF_ap, callF_ap, un1_ap, methF_ap, nonO_ap, someO_ap, someK_ap, slF_ap, slK_ap, slJ_ap, itF_ap, itA_ap, nilS_ap, bkS_ap, ctS_ap, seqS_ap, seqK_nx, seqK_rt, seqK_bk, seqK_ct, dropS_ap, dropK_ap, retS_ap, retK_ap, retN_ap, ifS_ap, ifK_ap, setS_ap, setK_ap, asgS_ap, asgK_ap, asgJ_ap, nameG_ap, nilG_ap, consG_ap, consGK_ap, fnF_ap, fnK_nx, fnK_rt, forS_ap, forK_ap, negD_ap, addI_ap, varK_ap, startE, yes2, isN, List.map_cons, List.map_nil, List.length_cons, List.length_nil, List.replicate, List.append_nil, List.cons_append, List.nil_append, List.getElem?_cons_zero, List.getElem?_cons_succ, List.set_cons_zero, List.set_cons_succ, R.bind_ok, R.bind_ex, R.bind_bad, R.noex_ok, if_true, if_false, Bool.false_eq_true, Bool.true_eq_false, ite_true, ite_false, reduceIte, Nat.reduceAdd, Nat.reduceSub, Nat.zero_add, Nat.sub_self, Nat.sub_zero, decide_true, decide_false, Bool.not_true, Bool.not_false, subD_ap, ltD_ap, leD_ap, gtD_ap, geD_ap, mulD_ap, modD_ap, divD_ap, powD_ap, tupK_ok, lstK_ok, methK_ok, tupG_ok, eqS_t, eqS_f, neS_t, neS_f, eqI_ap, neI_ap, inT_nil, inT_hit, inT_miss, ne_eq, not_false_eq_true, f_needs_of, b_needs_of, ix0, ix1, sz (by decide : 0 ≤ 100), sz (by decide : 1 ≤ 100), sz (by decide : 2 ≤ 100), sz (by decide : 3 ≤ 100), sz (by decide : 5 ≤ 100)]
theorem needs_sum {p : Int} {x : VL.D} {c : VL.D} (hx : Pl 4 x) : Needs (.tup [.str "sum", .tup [.int p, x], c]) [.tup [.str "cut", .int 0, x], .tup [.str "sums", .int 0, x, .int p]] := by
  refine ⟨fun y hy => ?_, by simp, fun S => needs_at (j := []) ?_⟩
  · simp only [List.mem_cons, List.not_mem_nil, or_false] at hy
    rcases hy with rfl | rfl
    · exact cut_Pl hx
    · refine ⟨by simp, fun y hy => ?_⟩
      simp only [List.mem_cons, List.not_mem_nil, or_false] at hy
      rcases hy with rfl | rfl | rfl | rfl
      · trivial
      · trivial
      · exact hx
      · trivial
  · simp -implicitDefEqProofs +decide only [varF_ap, cF_ap, opF_ap, opK_ap, bF_ap, boolK_ap, andT_ap, andK_ap, orT_ap, orK_ap, notT_ap, notK_ap, yesT_ap, andV_ap, andVK_ap, orV_ap, orVK_ap, notV_ap, notVK_ap, ifF_ap, ifFK_ap, nilA_ap, consA_ap, consK_ap, consJ_ap, tupA_ap, lstA_ap, newO_ap, dicF_ap, callF_ap, un1_ap, methF_ap, nonO_ap, someO_ap, someK_ap, slF_ap, slK_ap, slJ_ap, itF_ap, itA_ap, nilS_ap, bkS_ap, ctS_ap, seqS_ap, seqK_nx, seqK_rt, seqK_bk, seqK_ct, dropS_ap, dropK_ap, retS_ap, retK_ap, retN_ap, ifS_ap, ifK_ap, setS_ap, setK_ap, asgS_ap, asgK_ap, asgJ_ap, nameG_ap, nilG_ap, consG_ap, consGK_ap, fnF_ap, fnK_nx, fnK_rt, forS_ap, forK_ap, negD_ap, addI_ap, varK_ap, startE, yes2, isN, List.map_cons, List.map_nil, List.length_cons, List.length_nil, List.replicate, List.append_nil, List.cons_append, List.nil_append, List.getElem?_cons_zero, List.getElem?_cons_succ, List.set_cons_zero, List.set_cons_succ, R.bind_ok, R.bind_ex, R.bind_bad, R.noex_ok, if_true, if_false, Bool.false_eq_true, Bool.true_eq_false, ite_true, ite_false, reduceIte, Nat.reduceAdd, Nat.reduceSub, Nat.zero_add, Nat.sub_self, Nat.sub_zero, decide_true, decide_false, Bool.not_true, Bool.not_false, subD_ap, ltD_ap, leD_ap, gtD_ap, geD_ap, mulD_ap, modD_ap, divD_ap, powD_ap, tupK_ok, lstK_ok, methK_ok, tupG_ok, eqS_t, eqS_f, neS_t, neS_f, eqI_ap, neI_ap, inT_nil, inT_hit, inT_miss, ne_eq, not_false_eq_true, f_needs_of, b_needs_of, ix0, ix1, sz (by decide : 0 ≤ 100), sz (by decide : 1 ≤ 100), sz (by decide : 2 ≤ 100), sz (by decide : 3 ≤ 100), sz (by decide : 4 ≤ 100), sz (by decide : 5 ≤ 100)]
theorem needs_most {p : Int} {l : List Int} {c : VL.D} {w : Str} (hw : w ∈ (["least", "most"] : List Str)) (hl : l.length ≤ 12) : Needs (.tup [.str w, .tup [.int p, .tup (l.map .int)], c]) [.tup [.str "cut", .int 0, .tup (l.map .int ++ [.int p])]] := by
  refine ⟨fun y hy => ?_, by simp, fun S => needs_at (j := []) ?_⟩
  · simp only [List.mem_cons, List.not_mem_nil, or_false] at hy
    rcases hy with rfl
    refine cut_Pl ⟨by rw [List.length_append, List.length_map, List.length_singleton]; omega, fun x hx => ?_⟩
    rcases List.mem_append.mp hx with hx | hx
    · obtain ⟨i, _, rfl⟩ := List.mem_map.mp hx; trivial
    · rw [List.mem_singleton] at hx; subst hx; trivial
  · have a : ∀ S, addD (.tup (l.map .int)) (.tup [.int p]) S = .ok (.tup (l.map .int ++ [.int p])) S := fun S => addD_tup (by rw [List.length_map, List.length_singleton, sizeLine_eq']; omega)
    simp only [List.mem_cons, List.not_mem_nil, or_false] at hw
    rcases hw with rfl | rfl <;> simp -implicitDefEqProofs +decide only [varF_ap, cF_ap, opF_ap, opK_ap, bF_ap, boolK_ap, andT_ap, andK_ap, orT_ap, orK_ap, notT_ap, notK_ap, yesT_ap, andV_ap, andVK_ap, orV_ap, orVK_ap, notV_ap, notVK_ap, ifF_ap, ifFK_ap, nilA_ap, consA_ap, consK_ap, consJ_ap, tupA_ap, lstA_ap, newO_ap, dicF_ap, callF_ap, un1_ap, methF_ap, nonO_ap, someO_ap, someK_ap, slF_ap, slK_ap, slJ_ap, itF_ap, itA_ap, nilS_ap, bkS_ap, ctS_ap, seqS_ap, seqK_nx, seqK_rt, seqK_bk, seqK_ct, dropS_ap, dropK_ap, retS_ap, retK_ap, retN_ap, ifS_ap, ifK_ap, setS_ap, setK_ap, asgS_ap, asgK_ap, asgJ_ap, nameG_ap, nilG_ap, consG_ap, consGK_ap, fnF_ap, fnK_nx, fnK_rt, forS_ap, forK_ap, negD_ap, addI_ap, varK_ap, startE, yes2, isN, List.map_cons, List.map_nil, List.length_cons, List.length_nil, List.replicate, List.append_nil, List.cons_append, List.nil_append, List.getElem?_cons_zero, List.getElem?_cons_succ, List.set_cons_zero, List.set_cons_succ, R.bind_ok, R.bind_ex, R.bind_bad, R.noex_ok, if_true, if_false, Bool.false_eq_true, Bool.true_eq_false, ite_true, ite_false, reduceIte, Nat.reduceAdd, Nat.reduceSub, Nat.zero_add, Nat.sub_self, Nat.sub_zero, decide_true, decide_false, Bool.not_true, Bool.not_false, subD_ap, ltD_ap, leD_ap, gtD_ap, geD_ap, mulD_ap, modD_ap, divD_ap, powD_ap, tupK_ok, lstK_ok, methK_ok, tupG_ok, eqS_t, eqS_f, neS_t, neS_f, eqI_ap, neI_ap, inT_nil, inT_hit, inT_miss, ne_eq, not_false_eq_true, f_needs_of, b_needs_of, ix0, ix1, a, sz (by decide : 0 ≤ 100), sz (by decide : 1 ≤ 100), sz (by decide : 2 ≤ 100), sz (by decide : 3 ≤ 100), sz (by decide : 4 ≤ 100), sz (by decide : 5 ≤ 100)]
theorem node_ok {n : Int} {w : Str} (hw : w ∈ words) (st : Sto) : ∃ nd due j, f__law_node [.int n, .str w] st = .ok (.tup [nd, .ref (st ++ j).length]) (st ++ j ++ [.lst due]) ∧ Needs nd due := by
  obtain ⟨k, hk, hk12⟩ : ∃ k : Nat, n % 13 = k ∧ k ≤ 12 := ⟨(n % 13).toNat, by omega, by omega⟩
  have dg := digits_ok (n := n / 4096) (top := 12) (k := k) (st := st) (by decide) (by decide) (by omega)
  obtain ⟨b, hb⟩ : ∃ b, b = digsD 12 k (n / 4096) := ⟨_, rfl⟩
  have tp1 : tupleD [VL.D.ref st.length] (st ++ [.lst b]) = .ok (.tup b) (st ++ [.lst b]) := tupleD_list listAt_last
  have vd : ∀ x : Int, 0 < x → x < 10000 → decide ((0 : Int) < x ∧ x.natAbs.log2 < 9000) = true := fun x h1 h2 => decide_eq_true ⟨h1, by
    have : x.natAbs.log2 < 14 := log2_lt (by omega) (by decide)
    omega⟩
  have v1 := vd 4096 (by decide) (by decide)
  have v2 := vd 13 (by decide) (by decide)
  have v3 := vd 156 (by decide) (by decide)
  have v4 := vd 7 (by decide) (by decide)
  have d13 : decide ((0 : Int) < 13) = true := by decide
  have d12 : decide ((0 : Int) < 12) = true := by decide
  have d200 : decide ((0 : Int) < 200) = true := by decide
  have d61 : decide ((0 : Int) < 61) = true := by decide
  have p1 : decide ((0 : Int) ≤ 30 ∧ (30 : Int) ≤ 1000000 ∧ (10 : Int).natAbs < 2 ^ 64) = true := by decide
  have m1 : decide ((0 : Int) < 10 ^ (30 : Int).toNat) = true := by decide
  obtain ⟨l, hl, j1, e1⟩ := pairs_ok (a := some (.int n)) (b := some (.str w)) (c := some (.int (n / 13 % 12))) (d := none) (e := none) (f := none) (u := none) (v := none) (w := none) (n := n / 4096) hk12 (st ++ [.lst b])
  have tp2 : tupleD [VL.D.ref (st ++ [O.lst b]).length] (st ++ [.lst b] ++ .lst (prD l) :: j1) = .ok (.tup (prD l)) (st ++ [.lst b] ++ .lst (prD l) :: j1) := tupleD_list listAt_at
  obtain ⟨S, hS⟩ : ∃ S, S = st ++ [.lst b] ++ .lst (prD l) :: j1 := ⟨_, rfl⟩
  have hSj : S = st ++ ([.lst b] ++ .lst (prD l) :: j1) := by rw [hS, List.append_assoc]
  rw [← hb] at e1 dg
  rw [← hS] at e1 tp2
  have z0 := sz (by decide : 0 ≤ 100)
  have z1 := sz (by decide : 1 ≤ 100)
  have z2 := sz (by decide : 2 ≤ 100)
  have z3 := sz (by decide : 3 ≤ 100)
  have z4 := sz (by decide : 4 ≤ 100)
  have z5 := sz (by decide : 5 ≤ 100)
  have z7 := sz (by decide : 7 ≤ 100)
  have plb : Pl 4 (.tup b) := by rw [hb]; exact Pl_digs hk12
  obtain ⟨bl, hbl, hblen⟩ : ∃ bl : List Int, b = bl.map .int ∧ bl.length ≤ 12 := ⟨digs 12 k (n / 4096), hb, by rw [digs_len]; exact hk12⟩
  have plain : ∀ nd due, f__law_node [.int n, .str w] st = .ok (.tup [nd, .ref S.length]) (S ++ [.lst due]) → Needs nd due → ∃ nd due j, f__law_node [.int n, .str w] st = .ok (.tup [nd, .ref (st ++ j).length]) (st ++ j ++ [.lst due]) ∧ Needs nd due := fun nd due h1 h2 => ⟨nd, due, _, by rw [h1, hSj], h2⟩
  have hw' := hw
  unfold words at hw'
  simp only [List.mem_cons, List.not_mem_nil, or_false] at hw'
  rcases hw' with rfl | rfl | rfl | rfl | rfl | rfl | rfl | rfl | rfl | rfl | rfl | rfl | rfl | rfl | rfl | rfl
  · refine plain (.tup [.str "sieve", .tup [.tup [.str "below", .tup [.str "at", .int (n / 13 % 12)], .tup [.str "num", .int (n % 10 ^ (30 : Int).toNat)]]], .tup [.int (n / 156 % 200)]]) [] ?_ (needs_none (by simp))
    simp -implicitDefEqProofs +decide only [varF_ap, cF_ap, opF_ap, opK_ap, bF_ap, boolK_ap, andT_ap, andK_ap, orT_ap, orK_ap, notT_ap, notK_ap, yesT_ap, andV_ap, andVK_ap, orV_ap, orVK_ap, notV_ap, notVK_ap, ifF_ap, ifFK_ap, nilA_ap, consA_ap, consK_ap, consJ_ap, tupA_ap, lstA_ap, newO_ap, dicF_ap, callF_ap, un1_ap, methF_ap, nonO_ap, someO_ap, someK_ap, slF_ap, slK_ap, slJ_ap, itF_ap, itA_ap, nilS_ap, bkS_ap, ctS_ap, seqS_ap, seqK_nx, seqK_rt, seqK_bk, seqK_ct, dropS_ap, dropK_ap, retS_ap, retK_ap, retN_ap, ifS_ap, ifK_ap, setS_ap, setK_ap, asgS_ap, asgK_ap, asgJ_ap, nameG_ap, nilG_ap, consG_ap, consGK_ap, fnF_ap, fnK_nx, fnK_rt, forS_ap, forK_ap, negD_ap, addI_ap, varK_ap, startE, yes2, isN, List.map_cons, List.map_nil, List.length_cons, List.length_nil, List.replicate, List.append_nil, List.cons_append, List.nil_append, List.getElem?_cons_zero, List.getElem?_cons_succ, List.set_cons_zero, List.set_cons_succ, R.bind_ok, R.bind_ex, R.bind_bad, R.noex_ok, if_true, if_false, Bool.false_eq_true, Bool.true_eq_false, ite_true, ite_false, reduceIte, Nat.reduceAdd, Nat.reduceSub, Nat.zero_add, Nat.sub_self, Nat.sub_zero, decide_true, decide_false, Bool.not_true, Bool.not_false, subD_ap, ltD_ap, leD_ap, gtD_ap, geD_ap, mulD_ap, modD_ap, divD_ap, powD_ap, tupK_ok, lstK_ok, methK_ok, tupG_ok, eqS_t, eqS_f, neS_t, neS_f, eqI_ap, neI_ap, inT_nil, inT_hit, inT_miss, ne_eq, not_false_eq_true, f__law_node, b__law_node, hk, v1, v2, v3, v4, d13, d12, d200, dg, tp1, e1, tp2, z0, z1, z2, z3, z4, z5, z7, p1, m1]
  · refine plain (.tup [.str "cols", .tup [.tup [.tup [.str "at", .int (n / 13 % 12)], .tup [.str "gap"]]], .tup [.int (n / 156 % 200)]]) [] ?_ (needs_none (by simp))
    simp -implicitDefEqProofs +decide only [varF_ap, cF_ap, opF_ap, opK_ap, bF_ap, boolK_ap, andT_ap, andK_ap, orT_ap, orK_ap, notT_ap, notK_ap, yesT_ap, andV_ap, andVK_ap, orV_ap, orVK_ap, notV_ap, notVK_ap, ifF_ap, ifFK_ap, nilA_ap, consA_ap, consK_ap, consJ_ap, tupA_ap, lstA_ap, newO_ap, dicF_ap, callF_ap, un1_ap, methF_ap, nonO_ap, someO_ap, someK_ap, slF_ap, slK_ap, slJ_ap, itF_ap, itA_ap, nilS_ap, bkS_ap, ctS_ap, seqS_ap, seqK_nx, seqK_rt, seqK_bk, seqK_ct, dropS_ap, dropK_ap, retS_ap, retK_ap, retN_ap, ifS_ap, ifK_ap, setS_ap, setK_ap, asgS_ap, asgK_ap, asgJ_ap, nameG_ap, nilG_ap, consG_ap, consGK_ap, fnF_ap, fnK_nx, fnK_rt, forS_ap, forK_ap, negD_ap, addI_ap, varK_ap, startE, yes2, isN, List.map_cons, List.map_nil, List.length_cons, List.length_nil, List.replicate, List.append_nil, List.cons_append, List.nil_append, List.getElem?_cons_zero, List.getElem?_cons_succ, List.set_cons_zero, List.set_cons_succ, R.bind_ok, R.bind_ex, R.bind_bad, R.noex_ok, if_true, if_false, Bool.false_eq_true, Bool.true_eq_false, ite_true, ite_false, reduceIte, Nat.reduceAdd, Nat.reduceSub, Nat.zero_add, Nat.sub_self, Nat.sub_zero, decide_true, decide_false, Bool.not_true, Bool.not_false, subD_ap, ltD_ap, leD_ap, gtD_ap, geD_ap, mulD_ap, modD_ap, divD_ap, powD_ap, tupK_ok, lstK_ok, methK_ok, tupG_ok, eqS_t, eqS_f, neS_t, neS_f, eqI_ap, neI_ap, inT_nil, inT_hit, inT_miss, ne_eq, not_false_eq_true, f__law_node, b__law_node, hk, v1, v2, v3, v4, d13, d12, d200, dg, tp1, e1, tp2, z0, z1, z2, z3, z4, z5, z7]
  · refine plain (.tup [.str "join", .tup [.tup (prD l)], .tup [.int (n / 156 % 200), .int (n / 7 % 200)]]) [rowsD 0, rowsD 1] ?_ (needs_two (by simp))
    simp -implicitDefEqProofs +decide only [varF_ap, cF_ap, opF_ap, opK_ap, bF_ap, boolK_ap, andT_ap, andK_ap, orT_ap, orK_ap, notT_ap, notK_ap, yesT_ap, andV_ap, andVK_ap, orV_ap, orVK_ap, notV_ap, notVK_ap, ifF_ap, ifFK_ap, nilA_ap, consA_ap, consK_ap, consJ_ap, tupA_ap, lstA_ap, newO_ap, dicF_ap, callF_ap, un1_ap, methF_ap, nonO_ap, someO_ap, someK_ap, slF_ap, slK_ap, slJ_ap, itF_ap, itA_ap, nilS_ap, bkS_ap, ctS_ap, seqS_ap, seqK_nx, seqK_rt, seqK_bk, seqK_ct, dropS_ap, dropK_ap, retS_ap, retK_ap, retN_ap, ifS_ap, ifK_ap, setS_ap, setK_ap, asgS_ap, asgK_ap, asgJ_ap, nameG_ap, nilG_ap, consG_ap, consGK_ap, fnF_ap, fnK_nx, fnK_rt, forS_ap, forK_ap, negD_ap, addI_ap, varK_ap, startE, yes2, isN, List.map_cons, List.map_nil, List.length_cons, List.length_nil, List.replicate, List.append_nil, List.cons_append, List.nil_append, List.getElem?_cons_zero, List.getElem?_cons_succ, List.set_cons_zero, List.set_cons_succ, R.bind_ok, R.bind_ex, R.bind_bad, R.noex_ok, if_true, if_false, Bool.false_eq_true, Bool.true_eq_false, ite_true, ite_false, reduceIte, Nat.reduceAdd, Nat.reduceSub, Nat.zero_add, Nat.sub_self, Nat.sub_zero, decide_true, decide_false, Bool.not_true, Bool.not_false, subD_ap, ltD_ap, leD_ap, gtD_ap, geD_ap, mulD_ap, modD_ap, divD_ap, powD_ap, tupK_ok, lstK_ok, methK_ok, tupG_ok, eqS_t, eqS_f, neS_t, neS_f, eqI_ap, neI_ap, inT_nil, inT_hit, inT_miss, ne_eq, not_false_eq_true, f__law_node, b__law_node, rowsD, hk, v1, v2, v3, v4, d13, d12, d200, dg, tp1, e1, tp2, z0, z1, z2, z3, z4, z5, z7]
  · refine plain (.tup [.str "left", .tup [.tup (prD l), .int 11], .tup [.int (n / 156 % 200), .int (n / 7 % 200)]]) [rowsD 0, rowsD 1] ?_ (needs_two (by simp))
    simp -implicitDefEqProofs +decide only [varF_ap, cF_ap, opF_ap, opK_ap, bF_ap, boolK_ap, andT_ap, andK_ap, orT_ap, orK_ap, notT_ap, notK_ap, yesT_ap, andV_ap, andVK_ap, orV_ap, orVK_ap, notV_ap, notVK_ap, ifF_ap, ifFK_ap, nilA_ap, consA_ap, consK_ap, consJ_ap, tupA_ap, lstA_ap, newO_ap, dicF_ap, callF_ap, un1_ap, methF_ap, nonO_ap, someO_ap, someK_ap, slF_ap, slK_ap, slJ_ap, itF_ap, itA_ap, nilS_ap, bkS_ap, ctS_ap, seqS_ap, seqK_nx, seqK_rt, seqK_bk, seqK_ct, dropS_ap, dropK_ap, retS_ap, retK_ap, retN_ap, ifS_ap, ifK_ap, setS_ap, setK_ap, asgS_ap, asgK_ap, asgJ_ap, nameG_ap, nilG_ap, consG_ap, consGK_ap, fnF_ap, fnK_nx, fnK_rt, forS_ap, forK_ap, negD_ap, addI_ap, varK_ap, startE, yes2, isN, List.map_cons, List.map_nil, List.length_cons, List.length_nil, List.replicate, List.append_nil, List.cons_append, List.nil_append, List.getElem?_cons_zero, List.getElem?_cons_succ, List.set_cons_zero, List.set_cons_succ, R.bind_ok, R.bind_ex, R.bind_bad, R.noex_ok, if_true, if_false, Bool.false_eq_true, Bool.true_eq_false, ite_true, ite_false, reduceIte, Nat.reduceAdd, Nat.reduceSub, Nat.zero_add, Nat.sub_self, Nat.sub_zero, decide_true, decide_false, Bool.not_true, Bool.not_false, subD_ap, ltD_ap, leD_ap, gtD_ap, geD_ap, mulD_ap, modD_ap, divD_ap, powD_ap, tupK_ok, lstK_ok, methK_ok, tupG_ok, eqS_t, eqS_f, neS_t, neS_f, eqI_ap, neI_ap, inT_nil, inT_hit, inT_miss, ne_eq, not_false_eq_true, f__law_node, b__law_node, rowsD, hk, v1, v2, v3, v4, d13, d12, d200, dg, tp1, e1, tp2, z0, z1, z2, z3, z4, z5, z7]
  · obtain ⟨j2, e2⟩ := seconds_ok (env := [some (.int n), some (.str "notin"), some (.tup b), some (.int (n / 13 % 12)), some (.tup (prD l)), some (.tup [.int (n / 156 % 200), .int (n / 7 % 200)]), none, none, none, none]) (i := 9) (it := itF (varF 4)) (st := S) (l := l) (by simp -implicitDefEqProofs only [varF_ap, cF_ap, opF_ap, opK_ap, bF_ap, boolK_ap, andT_ap, andK_ap, orT_ap, orK_ap, notT_ap, notK_ap, yesT_ap, andV_ap, andVK_ap, orV_ap, orVK_ap, notV_ap, notVK_ap, ifF_ap, ifFK_ap, nilA_ap, consA_ap, consK_ap, consJ_ap, tupA_ap, tupK_ap, lstA_ap, lstK_ap, newO_ap, dicF_ap, callF_ap, un1_ap, methF_ap, methK_ap, nonO_ap, someO_ap, someK_ap, slF_ap, slK_ap, slJ_ap, itF_ap, itA_ap, nilS_ap, bkS_ap, ctS_ap, seqS_ap, seqK_nx, seqK_rt, seqK_bk, seqK_ct, dropS_ap, dropK_ap, retS_ap, retK_ap, retN_ap, ifS_ap, ifK_ap, setS_ap, setK_ap, asgS_ap, asgK_ap, asgJ_ap, nameG_ap, nilG_ap, consG_ap, consGK_ap, tupG_ap, fnF_ap, fnK_nx, fnK_rt, forS_ap, forK_ap, intD_ap, negD_ap, addI_ap, varK_ap, startE, yes2, isN, List.map_cons, List.map_nil, List.length_cons, List.length_nil, List.replicate, List.append_nil, List.cons_append, List.nil_append, List.getElem?_cons_zero, List.getElem?_cons_succ, List.set_cons_zero, List.set_cons_succ, R.bind_ok, R.bind_ex, R.bind_bad, R.noex_ok, if_true, if_false, Bool.false_eq_true, Bool.true_eq_false, ite_true, ite_false, reduceIte, Nat.reduceAdd, Nat.reduceSub, Nat.zero_add, Nat.sub_self, Nat.sub_zero, decide_true, decide_false, Bool.not_true, Bool.not_false, itD_tup]) (by omega) (by simp)
    have tp3 : tupleD [VL.D.ref S.length] (S ++ .lst (l.map fun p => .int p.2) :: j2) = .ok (.tup (l.map fun p => .int p.2)) (S ++ .lst (l.map fun p => .int p.2) :: j2) := tupleD_list listAt_at
    refine ⟨(.tup [.str "notin", .tup [.tup (prD l)], .tup [.int (n / 156 % 200), .int (n / 7 % 200)]]), [rowsD 0, .tup [.str "cut", .int 1, .tup (l.map fun p => .int p.2)]], [.lst b] ++ .lst (prD l) :: j1 ++ .lst (l.map fun p => .int p.2) :: j2, ?_, needs_notin (by omega)⟩
    rw [← List.append_assoc, ← hSj]
    simp -implicitDefEqProofs +decide only [varF_ap, cF_ap, opF_ap, opK_ap, bF_ap, boolK_ap, andT_ap, andK_ap, orT_ap, orK_ap, notT_ap, notK_ap, yesT_ap, andV_ap, andVK_ap, orV_ap, orVK_ap, notV_ap, notVK_ap, ifF_ap, ifFK_ap, nilA_ap, consA_ap, consK_ap, consJ_ap, tupA_ap, lstA_ap, newO_ap, dicF_ap, callF_ap, un1_ap, methF_ap, nonO_ap, someO_ap, someK_ap, slF_ap, slK_ap, slJ_ap, itF_ap, itA_ap, nilS_ap, bkS_ap, ctS_ap, seqS_ap, seqK_nx, seqK_rt, seqK_bk, seqK_ct, dropS_ap, dropK_ap, retS_ap, retK_ap, retN_ap, ifS_ap, ifK_ap, setS_ap, setK_ap, asgS_ap, asgK_ap, asgJ_ap, nameG_ap, nilG_ap, consG_ap, consGK_ap, fnF_ap, fnK_nx, fnK_rt, forS_ap, forK_ap, negD_ap, addI_ap, varK_ap, startE, yes2, isN, List.map_cons, List.map_nil, List.length_cons, List.length_nil, List.replicate, List.append_nil, List.cons_append, List.nil_append, List.getElem?_cons_zero, List.getElem?_cons_succ, List.set_cons_zero, List.set_cons_succ, R.bind_ok, R.bind_ex, R.bind_bad, R.noex_ok, if_true, if_false, Bool.false_eq_true, Bool.true_eq_false, ite_true, ite_false, reduceIte, Nat.reduceAdd, Nat.reduceSub, Nat.zero_add, Nat.sub_self, Nat.sub_zero, decide_true, decide_false, Bool.not_true, Bool.not_false, subD_ap, ltD_ap, leD_ap, gtD_ap, geD_ap, mulD_ap, modD_ap, divD_ap, powD_ap, tupK_ok, lstK_ok, methK_ok, tupG_ok, eqS_t, eqS_f, neS_t, neS_f, eqI_ap, neI_ap, inT_nil, inT_hit, inT_miss, ne_eq, not_false_eq_true, f__law_node, b__law_node, rowsD, hk, v1, v2, v3, v4, d13, d12, d200, dg, tp1, e1, tp2, z0, z1, z2, z3, z4, z5, z7, e2, tp3]
  · refine plain (.tup [.str "pour", .tup [], .tup [.int (n / 156 % 200), .int (n / 7 % 200)]]) [] ?_ (needs_none (by simp))
    simp -implicitDefEqProofs +decide only [varF_ap, cF_ap, opF_ap, opK_ap, bF_ap, boolK_ap, andT_ap, andK_ap, orT_ap, orK_ap, notT_ap, notK_ap, yesT_ap, andV_ap, andVK_ap, orV_ap, orVK_ap, notV_ap, notVK_ap, ifF_ap, ifFK_ap, nilA_ap, consA_ap, consK_ap, consJ_ap, tupA_ap, lstA_ap, newO_ap, dicF_ap, callF_ap, un1_ap, methF_ap, nonO_ap, someO_ap, someK_ap, slF_ap, slK_ap, slJ_ap, itF_ap, itA_ap, nilS_ap, bkS_ap, ctS_ap, seqS_ap, seqK_nx, seqK_rt, seqK_bk, seqK_ct, dropS_ap, dropK_ap, retS_ap, retK_ap, retN_ap, ifS_ap, ifK_ap, setS_ap, setK_ap, asgS_ap, asgK_ap, asgJ_ap, nameG_ap, nilG_ap, consG_ap, consGK_ap, fnF_ap, fnK_nx, fnK_rt, forS_ap, forK_ap, negD_ap, addI_ap, varK_ap, startE, yes2, isN, List.map_cons, List.map_nil, List.length_cons, List.length_nil, List.replicate, List.append_nil, List.cons_append, List.nil_append, List.getElem?_cons_zero, List.getElem?_cons_succ, List.set_cons_zero, List.set_cons_succ, R.bind_ok, R.bind_ex, R.bind_bad, R.noex_ok, if_true, if_false, Bool.false_eq_true, Bool.true_eq_false, ite_true, ite_false, reduceIte, Nat.reduceAdd, Nat.reduceSub, Nat.zero_add, Nat.sub_self, Nat.sub_zero, decide_true, decide_false, Bool.not_true, Bool.not_false, subD_ap, ltD_ap, leD_ap, gtD_ap, geD_ap, mulD_ap, modD_ap, divD_ap, powD_ap, tupK_ok, lstK_ok, methK_ok, tupG_ok, eqS_t, eqS_f, neS_t, neS_f, eqI_ap, neI_ap, inT_nil, inT_hit, inT_miss, ne_eq, not_false_eq_true, f__law_node, b__law_node, hk, v1, v2, v3, v4, d13, d12, d200, dg, tp1, e1, tp2, z0, z1, z2, z3, z4, z5, z7]
  · refine plain (.tup [.str "both", .tup [], .tup [.int (n / 156 % 200), .int (n / 7 % 200)]]) [rowsD 0, rowsD 1] ?_ (needs_two (by simp))
    simp -implicitDefEqProofs +decide only [varF_ap, cF_ap, opF_ap, opK_ap, bF_ap, boolK_ap, andT_ap, andK_ap, orT_ap, orK_ap, notT_ap, notK_ap, yesT_ap, andV_ap, andVK_ap, orV_ap, orVK_ap, notV_ap, notVK_ap, ifF_ap, ifFK_ap, nilA_ap, consA_ap, consK_ap, consJ_ap, tupA_ap, lstA_ap, newO_ap, dicF_ap, callF_ap, un1_ap, methF_ap, nonO_ap, someO_ap, someK_ap, slF_ap, slK_ap, slJ_ap, itF_ap, itA_ap, nilS_ap, bkS_ap, ctS_ap, seqS_ap, seqK_nx, seqK_rt, seqK_bk, seqK_ct, dropS_ap, dropK_ap, retS_ap, retK_ap, retN_ap, ifS_ap, ifK_ap, setS_ap, setK_ap, asgS_ap, asgK_ap, asgJ_ap, nameG_ap, nilG_ap, consG_ap, consGK_ap, fnF_ap, fnK_nx, fnK_rt, forS_ap, forK_ap, negD_ap, addI_ap, varK_ap, startE, yes2, isN, List.map_cons, List.map_nil, List.length_cons, List.length_nil, List.replicate, List.append_nil, List.cons_append, List.nil_append, List.getElem?_cons_zero, List.getElem?_cons_succ, List.set_cons_zero, List.set_cons_succ, R.bind_ok, R.bind_ex, R.bind_bad, R.noex_ok, if_true, if_false, Bool.false_eq_true, Bool.true_eq_false, ite_true, ite_false, reduceIte, Nat.reduceAdd, Nat.reduceSub, Nat.zero_add, Nat.sub_self, Nat.sub_zero, decide_true, decide_false, Bool.not_true, Bool.not_false, subD_ap, ltD_ap, leD_ap, gtD_ap, geD_ap, mulD_ap, modD_ap, divD_ap, powD_ap, tupK_ok, lstK_ok, methK_ok, tupG_ok, eqS_t, eqS_f, neS_t, neS_f, eqI_ap, neI_ap, inT_nil, inT_hit, inT_miss, ne_eq, not_false_eq_true, f__law_node, b__law_node, rowsD, hk, v1, v2, v3, v4, d13, d12, d200, dg, tp1, e1, tp2, z0, z1, z2, z3, z4, z5, z7]
  · refine plain (.tup [.str "either", .tup [], .tup [.int (n / 156 % 200), .int (n / 7 % 200)]]) [rowsD 0, rowsD 1] ?_ (needs_two (by simp))
    simp -implicitDefEqProofs +decide only [varF_ap, cF_ap, opF_ap, opK_ap, bF_ap, boolK_ap, andT_ap, andK_ap, orT_ap, orK_ap, notT_ap, notK_ap, yesT_ap, andV_ap, andVK_ap, orV_ap, orVK_ap, notV_ap, notVK_ap, ifF_ap, ifFK_ap, nilA_ap, consA_ap, consK_ap, consJ_ap, tupA_ap, lstA_ap, newO_ap, dicF_ap, callF_ap, un1_ap, methF_ap, nonO_ap, someO_ap, someK_ap, slF_ap, slK_ap, slJ_ap, itF_ap, itA_ap, nilS_ap, bkS_ap, ctS_ap, seqS_ap, seqK_nx, seqK_rt, seqK_bk, seqK_ct, dropS_ap, dropK_ap, retS_ap, retK_ap, retN_ap, ifS_ap, ifK_ap, setS_ap, setK_ap, asgS_ap, asgK_ap, asgJ_ap, nameG_ap, nilG_ap, consG_ap, consGK_ap, fnF_ap, fnK_nx, fnK_rt, forS_ap, forK_ap, negD_ap, addI_ap, varK_ap, startE, yes2, isN, List.map_cons, List.map_nil, List.length_cons, List.length_nil, List.replicate, List.append_nil, List.cons_append, List.nil_append, List.getElem?_cons_zero, List.getElem?_cons_succ, List.set_cons_zero, List.set_cons_succ, R.bind_ok, R.bind_ex, R.bind_bad, R.noex_ok, if_true, if_false, Bool.false_eq_true, Bool.true_eq_false, ite_true, ite_false, reduceIte, Nat.reduceAdd, Nat.reduceSub, Nat.zero_add, Nat.sub_self, Nat.sub_zero, decide_true, decide_false, Bool.not_true, Bool.not_false, subD_ap, ltD_ap, leD_ap, gtD_ap, geD_ap, mulD_ap, modD_ap, divD_ap, powD_ap, tupK_ok, lstK_ok, methK_ok, tupG_ok, eqS_t, eqS_f, neS_t, neS_f, eqI_ap, neI_ap, inT_nil, inT_hit, inT_miss, ne_eq, not_false_eq_true, f__law_node, b__law_node, rowsD, hk, v1, v2, v3, v4, d13, d12, d200, dg, tp1, e1, tp2, z0, z1, z2, z3, z4, z5, z7]
  · refine plain (.tup [.str "less", .tup [], .tup [.int (n / 156 % 200), .int (n / 7 % 200)]]) [rowsD 0, rowsD 1] ?_ (needs_two (by simp))
    simp -implicitDefEqProofs +decide only [varF_ap, cF_ap, opF_ap, opK_ap, bF_ap, boolK_ap, andT_ap, andK_ap, orT_ap, orK_ap, notT_ap, notK_ap, yesT_ap, andV_ap, andVK_ap, orV_ap, orVK_ap, notV_ap, notVK_ap, ifF_ap, ifFK_ap, nilA_ap, consA_ap, consK_ap, consJ_ap, tupA_ap, lstA_ap, newO_ap, dicF_ap, callF_ap, un1_ap, methF_ap, nonO_ap, someO_ap, someK_ap, slF_ap, slK_ap, slJ_ap, itF_ap, itA_ap, nilS_ap, bkS_ap, ctS_ap, seqS_ap, seqK_nx, seqK_rt, seqK_bk, seqK_ct, dropS_ap, dropK_ap, retS_ap, retK_ap, retN_ap, ifS_ap, ifK_ap, setS_ap, setK_ap, asgS_ap, asgK_ap, asgJ_ap, nameG_ap, nilG_ap, consG_ap, consGK_ap, fnF_ap, fnK_nx, fnK_rt, forS_ap, forK_ap, negD_ap, addI_ap, varK_ap, startE, yes2, isN, List.map_cons, List.map_nil, List.length_cons, List.length_nil, List.replicate, List.append_nil, List.cons_append, List.nil_append, List.getElem?_cons_zero, List.getElem?_cons_succ, List.set_cons_zero, List.set_cons_succ, R.bind_ok, R.bind_ex, R.bind_bad, R.noex_ok, if_true, if_false, Bool.false_eq_true, Bool.true_eq_false, ite_true, ite_false, reduceIte, Nat.reduceAdd, Nat.reduceSub, Nat.zero_add, Nat.sub_self, Nat.sub_zero, decide_true, decide_false, Bool.not_true, Bool.not_false, subD_ap, ltD_ap, leD_ap, gtD_ap, geD_ap, mulD_ap, modD_ap, divD_ap, powD_ap, tupK_ok, lstK_ok, methK_ok, tupG_ok, eqS_t, eqS_f, neS_t, neS_f, eqI_ap, neI_ap, inT_nil, inT_hit, inT_miss, ne_eq, not_false_eq_true, f__law_node, b__law_node, rowsD, hk, v1, v2, v3, v4, d13, d12, d200, dg, tp1, e1, tp2, z0, z1, z2, z3, z4, z5, z7]
  · refine plain (.tup [.str "once", .tup [], .tup [.int (n / 156 % 200)]]) [rowsD 0] ?_ (needs_one (by simp))
    simp -implicitDefEqProofs +decide only [varF_ap, cF_ap, opF_ap, opK_ap, bF_ap, boolK_ap, andT_ap, andK_ap, orT_ap, orK_ap, notT_ap, notK_ap, yesT_ap, andV_ap, andVK_ap, orV_ap, orVK_ap, notV_ap, notVK_ap, ifF_ap, ifFK_ap, nilA_ap, consA_ap, consK_ap, consJ_ap, tupA_ap, lstA_ap, newO_ap, dicF_ap, callF_ap, un1_ap, methF_ap, nonO_ap, someO_ap, someK_ap, slF_ap, slK_ap, slJ_ap, itF_ap, itA_ap, nilS_ap, bkS_ap, ctS_ap, seqS_ap, seqK_nx, seqK_rt, seqK_bk, seqK_ct, dropS_ap, dropK_ap, retS_ap, retK_ap, retN_ap, ifS_ap, ifK_ap, setS_ap, setK_ap, asgS_ap, asgK_ap, asgJ_ap, nameG_ap, nilG_ap, consG_ap, consGK_ap, fnF_ap, fnK_nx, fnK_rt, forS_ap, forK_ap, negD_ap, addI_ap, varK_ap, startE, yes2, isN, List.map_cons, List.map_nil, List.length_cons, List.length_nil, List.replicate, List.append_nil, List.cons_append, List.nil_append, List.getElem?_cons_zero, List.getElem?_cons_succ, List.set_cons_zero, List.set_cons_succ, R.bind_ok, R.bind_ex, R.bind_bad, R.noex_ok, if_true, if_false, Bool.false_eq_true, Bool.true_eq_false, ite_true, ite_false, reduceIte, Nat.reduceAdd, Nat.reduceSub, Nat.zero_add, Nat.sub_self, Nat.sub_zero, decide_true, decide_false, Bool.not_true, Bool.not_false, subD_ap, ltD_ap, leD_ap, gtD_ap, geD_ap, mulD_ap, modD_ap, divD_ap, powD_ap, tupK_ok, lstK_ok, methK_ok, tupG_ok, eqS_t, eqS_f, neS_t, neS_f, eqI_ap, neI_ap, inT_nil, inT_hit, inT_miss, ne_eq, not_false_eq_true, f__law_node, b__law_node, rowsD, hk, v1, v2, v3, v4, d13, d12, d200, dg, tp1, e1, tp2, z0, z1, z2, z3, z4, z5, z7]
  · refine plain (.tup [.str "count", .tup [.tup b], .tup [.int (n / 156 % 200)]]) [.tup [.str "cut", .int 0, .tup b]] ?_ (needs_count plb)
    simp -implicitDefEqProofs +decide only [varF_ap, cF_ap, opF_ap, opK_ap, bF_ap, boolK_ap, andT_ap, andK_ap, orT_ap, orK_ap, notT_ap, notK_ap, yesT_ap, andV_ap, andVK_ap, orV_ap, orVK_ap, notV_ap, notVK_ap, ifF_ap, ifFK_ap, nilA_ap, consA_ap, consK_ap, consJ_ap, tupA_ap, lstA_ap, newO_ap, dicF_ap, callF_ap, un1_ap, methF_ap, nonO_ap, someO_ap, someK_ap, slF_ap, slK_ap, slJ_ap, itF_ap, itA_ap, nilS_ap, bkS_ap, ctS_ap, seqS_ap, seqK_nx, seqK_rt, seqK_bk, seqK_ct, dropS_ap, dropK_ap, retS_ap, retK_ap, retN_ap, ifS_ap, ifK_ap, setS_ap, setK_ap, asgS_ap, asgK_ap, asgJ_ap, nameG_ap, nilG_ap, consG_ap, consGK_ap, fnF_ap, fnK_nx, fnK_rt, forS_ap, forK_ap, negD_ap, addI_ap, varK_ap, startE, yes2, isN, List.map_cons, List.map_nil, List.length_cons, List.length_nil, List.replicate, List.append_nil, List.cons_append, List.nil_append, List.getElem?_cons_zero, List.getElem?_cons_succ, List.set_cons_zero, List.set_cons_succ, R.bind_ok, R.bind_ex, R.bind_bad, R.noex_ok, if_true, if_false, Bool.false_eq_true, Bool.true_eq_false, ite_true, ite_false, reduceIte, Nat.reduceAdd, Nat.reduceSub, Nat.zero_add, Nat.sub_self, Nat.sub_zero, decide_true, decide_false, Bool.not_true, Bool.not_false, subD_ap, ltD_ap, leD_ap, gtD_ap, geD_ap, mulD_ap, modD_ap, divD_ap, powD_ap, tupK_ok, lstK_ok, methK_ok, tupG_ok, eqS_t, eqS_f, neS_t, neS_f, eqI_ap, neI_ap, inT_nil, inT_hit, inT_miss, ne_eq, not_false_eq_true, f__law_node, b__law_node, rowsD, hk, v1, v2, v3, v4, d13, d12, d200, dg, tp1, e1, tp2, z0, z1, z2, z3, z4, z5, z7]
  · refine plain (.tup [.str "sum", .tup [.int (n / 13 % 12), .tup b], .tup [.int (n / 156 % 200)]]) [.tup [.str "cut", .int 0, .tup b], .tup [.str "sums", .int 0, .tup b, .int (n / 13 % 12)]] ?_ (needs_sum plb)
    simp -implicitDefEqProofs +decide only [varF_ap, cF_ap, opF_ap, opK_ap, bF_ap, boolK_ap, andT_ap, andK_ap, orT_ap, orK_ap, notT_ap, notK_ap, yesT_ap, andV_ap, andVK_ap, orV_ap, orVK_ap, notV_ap, notVK_ap, ifF_ap, ifFK_ap, nilA_ap, consA_ap, consK_ap, consJ_ap, tupA_ap, lstA_ap, newO_ap, dicF_ap, callF_ap, un1_ap, methF_ap, nonO_ap, someO_ap, someK_ap, slF_ap, slK_ap, slJ_ap, itF_ap, itA_ap, nilS_ap, bkS_ap, ctS_ap, seqS_ap, seqK_nx, seqK_rt, seqK_bk, seqK_ct, dropS_ap, dropK_ap, retS_ap, retK_ap, retN_ap, ifS_ap, ifK_ap, setS_ap, setK_ap, asgS_ap, asgK_ap, asgJ_ap, nameG_ap, nilG_ap, consG_ap, consGK_ap, fnF_ap, fnK_nx, fnK_rt, forS_ap, forK_ap, negD_ap, addI_ap, varK_ap, startE, yes2, isN, List.map_cons, List.map_nil, List.length_cons, List.length_nil, List.replicate, List.append_nil, List.cons_append, List.nil_append, List.getElem?_cons_zero, List.getElem?_cons_succ, List.set_cons_zero, List.set_cons_succ, R.bind_ok, R.bind_ex, R.bind_bad, R.noex_ok, if_true, if_false, Bool.false_eq_true, Bool.true_eq_false, ite_true, ite_false, reduceIte, Nat.reduceAdd, Nat.reduceSub, Nat.zero_add, Nat.sub_self, Nat.sub_zero, decide_true, decide_false, Bool.not_true, Bool.not_false, subD_ap, ltD_ap, leD_ap, gtD_ap, geD_ap, mulD_ap, modD_ap, divD_ap, powD_ap, tupK_ok, lstK_ok, methK_ok, tupG_ok, eqS_t, eqS_f, neS_t, neS_f, eqI_ap, neI_ap, inT_nil, inT_hit, inT_miss, ne_eq, not_false_eq_true, f__law_node, b__law_node, rowsD, hk, v1, v2, v3, v4, d13, d12, d200, dg, tp1, e1, tp2, z0, z1, z2, z3, z4, z5, z7]
  · have a : ∀ S, addD (.tup b) (.tup [.int (n / 13 % 12)]) S = .ok (.tup (b ++ [.int (n / 13 % 12)])) S := fun S => addD_tup (by rw [hbl, List.length_map, List.length_singleton, sizeLine_eq']; omega)
    refine plain (.tup [.str "least", .tup [.int (n / 13 % 12), .tup b], .tup [.int (n / 156 % 200)]]) [.tup [.str "cut", .int 0, .tup (b ++ [.int (n / 13 % 12)])]] ?_ (by rw [hbl]; exact needs_most (by simp) hblen)
    simp -implicitDefEqProofs +decide only [varF_ap, cF_ap, opF_ap, opK_ap, bF_ap, boolK_ap, andT_ap, andK_ap, orT_ap, orK_ap, notT_ap, notK_ap, yesT_ap, andV_ap, andVK_ap, orV_ap, orVK_ap, notV_ap, notVK_ap, ifF_ap, ifFK_ap, nilA_ap, consA_ap, consK_ap, consJ_ap, tupA_ap, lstA_ap, newO_ap, dicF_ap, callF_ap, un1_ap, methF_ap, nonO_ap, someO_ap, someK_ap, slF_ap, slK_ap, slJ_ap, itF_ap, itA_ap, nilS_ap, bkS_ap, ctS_ap, seqS_ap, seqK_nx, seqK_rt, seqK_bk, seqK_ct, dropS_ap, dropK_ap, retS_ap, retK_ap, retN_ap, ifS_ap, ifK_ap, setS_ap, setK_ap, asgS_ap, asgK_ap, asgJ_ap, nameG_ap, nilG_ap, consG_ap, consGK_ap, fnF_ap, fnK_nx, fnK_rt, forS_ap, forK_ap, negD_ap, addI_ap, varK_ap, startE, yes2, isN, List.map_cons, List.map_nil, List.length_cons, List.length_nil, List.replicate, List.append_nil, List.cons_append, List.nil_append, List.getElem?_cons_zero, List.getElem?_cons_succ, List.set_cons_zero, List.set_cons_succ, R.bind_ok, R.bind_ex, R.bind_bad, R.noex_ok, if_true, if_false, Bool.false_eq_true, Bool.true_eq_false, ite_true, ite_false, reduceIte, Nat.reduceAdd, Nat.reduceSub, Nat.zero_add, Nat.sub_self, Nat.sub_zero, decide_true, decide_false, Bool.not_true, Bool.not_false, subD_ap, ltD_ap, leD_ap, gtD_ap, geD_ap, mulD_ap, modD_ap, divD_ap, powD_ap, tupK_ok, lstK_ok, methK_ok, tupG_ok, eqS_t, eqS_f, neS_t, neS_f, eqI_ap, neI_ap, inT_nil, inT_hit, inT_miss, ne_eq, not_false_eq_true, f__law_node, b__law_node, rowsD, hk, v1, v2, v3, v4, d13, d12, d200, dg, tp1, e1, tp2, z0, z1, z2, z3, z4, z5, z7, a]
  · have a : ∀ S, addD (.tup b) (.tup [.int (n / 13 % 12)]) S = .ok (.tup (b ++ [.int (n / 13 % 12)])) S := fun S => addD_tup (by rw [hbl, List.length_map, List.length_singleton, sizeLine_eq']; omega)
    refine plain (.tup [.str "most", .tup [.int (n / 13 % 12), .tup b], .tup [.int (n / 156 % 200)]]) [.tup [.str "cut", .int 0, .tup (b ++ [.int (n / 13 % 12)])]] ?_ (by rw [hbl]; exact needs_most (by simp) hblen)
    simp -implicitDefEqProofs +decide only [varF_ap, cF_ap, opF_ap, opK_ap, bF_ap, boolK_ap, andT_ap, andK_ap, orT_ap, orK_ap, notT_ap, notK_ap, yesT_ap, andV_ap, andVK_ap, orV_ap, orVK_ap, notV_ap, notVK_ap, ifF_ap, ifFK_ap, nilA_ap, consA_ap, consK_ap, consJ_ap, tupA_ap, lstA_ap, newO_ap, dicF_ap, callF_ap, un1_ap, methF_ap, nonO_ap, someO_ap, someK_ap, slF_ap, slK_ap, slJ_ap, itF_ap, itA_ap, nilS_ap, bkS_ap, ctS_ap, seqS_ap, seqK_nx, seqK_rt, seqK_bk, seqK_ct, dropS_ap, dropK_ap, retS_ap, retK_ap, retN_ap, ifS_ap, ifK_ap, setS_ap, setK_ap, asgS_ap, asgK_ap, asgJ_ap, nameG_ap, nilG_ap, consG_ap, consGK_ap, fnF_ap, fnK_nx, fnK_rt, forS_ap, forK_ap, negD_ap, addI_ap, varK_ap, startE, yes2, isN, List.map_cons, List.map_nil, List.length_cons, List.length_nil, List.replicate, List.append_nil, List.cons_append, List.nil_append, List.getElem?_cons_zero, List.getElem?_cons_succ, List.set_cons_zero, List.set_cons_succ, R.bind_ok, R.bind_ex, R.bind_bad, R.noex_ok, if_true, if_false, Bool.false_eq_true, Bool.true_eq_false, ite_true, ite_false, reduceIte, Nat.reduceAdd, Nat.reduceSub, Nat.zero_add, Nat.sub_self, Nat.sub_zero, decide_true, decide_false, Bool.not_true, Bool.not_false, subD_ap, ltD_ap, leD_ap, gtD_ap, geD_ap, mulD_ap, modD_ap, divD_ap, powD_ap, tupK_ok, lstK_ok, methK_ok, tupG_ok, eqS_t, eqS_f, neS_t, neS_f, eqI_ap, neI_ap, inT_nil, inT_hit, inT_miss, ne_eq, not_false_eq_true, f__law_node, b__law_node, rowsD, hk, v1, v2, v3, v4, d13, d12, d200, dg, tp1, e1, tp2, z0, z1, z2, z3, z4, z5, z7, a]
  · obtain ⟨lo, hlo, j2, e2⟩ := order_ok (m := n) (b := some (.str "first")) (c := some (.int (n / 13 % 12))) (d := some (.tup (prD l))) (e := some (.tup [.int (n / 156 % 200)])) (f := none) (u := none) (v := none) (w := none) (n := n / 4096) hk12 S
    rw [← hb] at e2
    have tp3 : tupleD [VL.D.ref S.length] (S ++ .lst (lo.map fun p => .tup [.int p.1, .bl p.2]) :: j2) = .ok (.tup (lo.map fun p => .tup [.int p.1, .bl p.2])) (S ++ .lst (lo.map fun p => .tup [.int p.1, .bl p.2]) :: j2) := tupleD_list listAt_at
    refine ⟨(.tup [.str "first", .tup [.int (n % 61), .tup b, .tup (lo.map fun p => .tup [.int p.1, .bl p.2])], .tup [.int (n / 156 % 200)]]), [rowsD 0], [.lst b] ++ .lst (prD l) :: j1 ++ .lst (lo.map fun p => .tup [.int p.1, .bl p.2]) :: j2, ?_, needs_one (by simp)⟩
    rw [← List.append_assoc, ← hSj]
    simp -implicitDefEqProofs +decide only [varF_ap, cF_ap, opF_ap, opK_ap, bF_ap, boolK_ap, andT_ap, andK_ap, orT_ap, orK_ap, notT_ap, notK_ap, yesT_ap, andV_ap, andVK_ap, orV_ap, orVK_ap, notV_ap, notVK_ap, ifF_ap, ifFK_ap, nilA_ap, consA_ap, consK_ap, consJ_ap, tupA_ap, lstA_ap, newO_ap, dicF_ap, callF_ap, un1_ap, methF_ap, nonO_ap, someO_ap, someK_ap, slF_ap, slK_ap, slJ_ap, itF_ap, itA_ap, nilS_ap, bkS_ap, ctS_ap, seqS_ap, seqK_nx, seqK_rt, seqK_bk, seqK_ct, dropS_ap, dropK_ap, retS_ap, retK_ap, retN_ap, ifS_ap, ifK_ap, setS_ap, setK_ap, asgS_ap, asgK_ap, asgJ_ap, nameG_ap, nilG_ap, consG_ap, consGK_ap, fnF_ap, fnK_nx, fnK_rt, forS_ap, forK_ap, negD_ap, addI_ap, varK_ap, startE, yes2, isN, List.map_cons, List.map_nil, List.length_cons, List.length_nil, List.replicate, List.append_nil, List.cons_append, List.nil_append, List.getElem?_cons_zero, List.getElem?_cons_succ, List.set_cons_zero, List.set_cons_succ, R.bind_ok, R.bind_ex, R.bind_bad, R.noex_ok, if_true, if_false, Bool.false_eq_true, Bool.true_eq_false, ite_true, ite_false, reduceIte, Nat.reduceAdd, Nat.reduceSub, Nat.zero_add, Nat.sub_self, Nat.sub_zero, decide_true, decide_false, Bool.not_true, Bool.not_false, subD_ap, ltD_ap, leD_ap, gtD_ap, geD_ap, mulD_ap, modD_ap, divD_ap, powD_ap, tupK_ok, lstK_ok, methK_ok, tupG_ok, eqS_t, eqS_f, neS_t, neS_f, eqI_ap, neI_ap, inT_nil, inT_hit, inT_miss, ne_eq, not_false_eq_true, f__law_node, b__law_node, rowsD, hk, v1, v2, v3, v4, d13, d12, d200, d61, dg, tp1, e1, tp2, z0, z1, z2, z3, z4, z5, z7, e2, tp3]
  · refine plain (.tup [.str "table", .tup [.str "ab", .int (1 + n / 13 % 12)], .tup []]) [] ?_ (needs_none (by simp))
    simp -implicitDefEqProofs +decide only [varF_ap, cF_ap, opF_ap, opK_ap, bF_ap, boolK_ap, andT_ap, andK_ap, orT_ap, orK_ap, notT_ap, notK_ap, yesT_ap, andV_ap, andVK_ap, orV_ap, orVK_ap, notV_ap, notVK_ap, ifF_ap, ifFK_ap, nilA_ap, consA_ap, consK_ap, consJ_ap, tupA_ap, lstA_ap, newO_ap, dicF_ap, callF_ap, un1_ap, methF_ap, nonO_ap, someO_ap, someK_ap, slF_ap, slK_ap, slJ_ap, itF_ap, itA_ap, nilS_ap, bkS_ap, ctS_ap, seqS_ap, seqK_nx, seqK_rt, seqK_bk, seqK_ct, dropS_ap, dropK_ap, retS_ap, retK_ap, retN_ap, ifS_ap, ifK_ap, setS_ap, setK_ap, asgS_ap, asgK_ap, asgJ_ap, nameG_ap, nilG_ap, consG_ap, consGK_ap, fnF_ap, fnK_nx, fnK_rt, forS_ap, forK_ap, negD_ap, addI_ap, varK_ap, startE, yes2, isN, List.map_cons, List.map_nil, List.length_cons, List.length_nil, List.replicate, List.append_nil, List.cons_append, List.nil_append, List.getElem?_cons_zero, List.getElem?_cons_succ, List.set_cons_zero, List.set_cons_succ, R.bind_ok, R.bind_ex, R.bind_bad, R.noex_ok, if_true, if_false, Bool.false_eq_true, Bool.true_eq_false, ite_true, ite_false, reduceIte, Nat.reduceAdd, Nat.reduceSub, Nat.zero_add, Nat.sub_self, Nat.sub_zero, decide_true, decide_false, Bool.not_true, Bool.not_false, subD_ap, ltD_ap, leD_ap, gtD_ap, geD_ap, mulD_ap, modD_ap, divD_ap, powD_ap, tupK_ok, lstK_ok, methK_ok, tupG_ok, eqS_t, eqS_f, neS_t, neS_f, eqI_ap, neI_ap, inT_nil, inT_hit, inT_miss, ne_eq, not_false_eq_true, f__law_node, b__law_node, addD, hk, v1, v2, v3, v4, d13, d12, d200, dg, tp1, e1, tp2, z0, z1, z2, z3, z4, z5, z7]
theorem Pl.up : ∀ {n : Nat} {x : VL.D}, Pl n x → Pl (n + 1) x
  | 0, _, h => h.elim
  | _ + 1, .int _, _ => trivial
  | _ + 1, .str _, _ => trivial
  | _ + 1, .bl _, _ => trivial
  | n + 1, .tup xs, h => ⟨h.1, fun x hx => (h.2 x hx).up⟩
theorem listAt_get {S : Sto} {k : Nat} {xs : List VL.D} (h : S[k]? = some (.lst xs)) : listAt S k = some xs := listAt_lst h
theorem turn_ok {ns : List Int} {i : Nat} {y3 y4 y5 y6 : Option VL.D} {s1 S : Sto} (h1 : s1 = [.rl (ns.map VL.D.int), .lst (words.map VL.D.str)]) (hS : Le s1 S) :
    ∃ e' S', l0_law [some (.ref 0), some (.ref 1), some (.int i), y3, y4, y5, y6] S = .ok (.nx e') S' ∧ (∃ y2 y3 y4 y5 y6, e' = [some (.ref 0), some (.ref 1), y2, y3, y4, y5, y6]) ∧ Le S S' := by
  have g0 : listAt s1 0 = some (ns.map VL.D.int) := by rw [h1]; rfl
  have g1 : listAt s1 1 = some (words.map VL.D.str) := by rw [h1]; rfl
  have c1 : f__law_cell_at [.ref 0, .int i] S = .ok (.int (ns.getD i 0)) S := cell_at_ok (hS.listAt g0)
  obtain ⟨c, hc⟩ : ∃ c, c = ns.getD i 0 := ⟨_, rfl⟩
  rw [← hc] at c1
  have q1 : decide (MulOk 64 c) = true := mul_okL (by decide)
  have mx := mixed_ok (c := 64 * c + i) (st := S)
  have d16 : decide ((0 : Int) < 16) = true := by decide
  obtain ⟨k, hk, hk16⟩ : ∃ k : Nat, c % 16 = k ∧ k < 16 := ⟨(c % 16).toNat, by omega, by omega⟩
  have hkw : k < words.length := hk16
  have hw : words[k] ∈ words := List.getElem_mem hkw
  obtain ⟨w, ew⟩ : ∃ w, w = words[k] := ⟨_, rfl⟩
  rw [← ew] at hw
  have ix : ixD (.ref 1) (.int (k : Int)) S = .ok (.str w) S := ixD_list (hS.listAt g1) (by rw [List.getElem?_map, List.getElem?_eq_getElem hkw, ew]; rfl)
  obtain ⟨nd, due, j, n1, pl, hl, need⟩ := node_ok (n := mixed (64 * c + i)) hw S
  obtain ⟨S2, e2⟩ : ∃ S2, S2 = S ++ j ++ [.lst due] := ⟨_, rfl⟩
  have due2 : S2[(S ++ j).length]? = some (.lst due) := by rw [e2]; exact get_last
  have le2 : Le S S2 := by rw [e2, List.append_assoc]; exact Le.app _ _
  rw [← e2] at n1
  obtain ⟨m, hm⟩ : ∃ m, m = (S ++ j).length := ⟨_, rfl⟩
  rw [← hm] at due2 n1
  obtain ⟨k1, j1, f1, lk, g3⟩ := need S2
  have hml : m < S2.length := (List.getElem?_eq_some_iff.mp due2).1
  obtain ⟨S3, e3⟩ : ∃ S3, S3 = S2 ++ j1 := ⟨_, rfl⟩
  rw [← e3] at f1 g3
  have le3 : Le S2 S3 := by rw [e3]; exact Le.app _ _
  obtain ⟨j2, a1⟩ := alike_list (d := 7) (listAt_get g3) (listAt_get (le3.get due2)) (fun x hx => (pl x hx).up.up) (by omega)
  obtain ⟨S4, e4⟩ : ∃ S4, S4 = S3 ++ j2 := ⟨_, rfl⟩
  rw [← e4] at a1
  have le4 : Le S3 S4 := by rw [e4]; exact Le.app _ _
  have g4 := le4.get g3
  have ty : tyD "list" (VL.D.ref k1) S4 := tyD_list (listAt_get g4)
  have ap := appD_ok (d := .tup [.str "rows", .int 5]) g4 (by rw [sizeLine_eq']; omega)
  obtain ⟨S5, e5⟩ : ∃ S5, S5 = S4.set k1 (.lst (due ++ [.tup [.str "rows", .int 5]])) := ⟨_, rfl⟩
  rw [← e5] at ap
  have le5 : Le S2 S5 := by rw [e5]; exact (le3.trans le4).set lk
  obtain ⟨k2, j6, f2, lk2, g6⟩ := need S5
  obtain ⟨S6, e6⟩ : ∃ S6, S6 = S5 ++ j6 := ⟨_, rfl⟩
  rw [← e6] at f2 g6
  have le6 : Le S5 S6 := by rw [e6]; exact Le.app _ _
  obtain ⟨j7, a2⟩ := alike_list (d := 7) (listAt_get g6) (listAt_get (le6.get (le5.get due2))) (fun x hx => (pl x hx).up.up) (by omega)
  have z2 := sz (by decide : 2 ≤ 100)
  refine ⟨[some (.ref 0), some (.ref 1), some (.int i), some (.int c), some (.ref k1), some nd, some (.ref m)], S6 ++ j7, ?_, ⟨_, _, _, _, _, rfl⟩, le2.trans (le5.trans (le6.trans (Le.app _ _)))⟩
  simp -implicitDefEqProofs only [varF_ap, cF_ap, opF_ap, opK_ap, bF_ap, boolK_ap, andT_ap, andK_ap, orT_ap, orK_ap, notT_ap, notK_ap, yesT_ap, andV_ap, andVK_ap, orV_ap, orVK_ap, notV_ap, notVK_ap, ifF_ap, ifFK_ap, nilA_ap, consA_ap, consK_ap, consJ_ap, tupA_ap, tupK_ap, lstA_ap, lstK_ap, newO_ap, dicF_ap, callF_ap, un1_ap, methF_ap, methK_ap, nonO_ap, someO_ap, someK_ap, slF_ap, slK_ap, slJ_ap, itF_ap, itA_ap, nilS_ap, bkS_ap, ctS_ap, seqS_ap, seqK_nx, seqK_rt, seqK_bk, seqK_ct, dropS_ap, dropK_ap, retS_ap, retK_ap, retN_ap, ifS_ap, ifK_ap, setS_ap, setK_ap, asgS_ap, asgK_ap, asgJ_ap, nameG_ap, nilG_ap, consG_ap, consGK_ap, tupG_ap, fnF_ap, fnK_nx, fnK_rt, forS_ap, forK_ap, intD_ap, negD_ap, addI_ap, varK_ap, startE, yes2, isN, List.map_cons, List.map_nil, List.length_cons, List.length_nil, List.replicate, List.append_nil, List.cons_append, List.nil_append, List.getElem?_cons_zero, List.getElem?_cons_succ, List.set_cons_zero, List.set_cons_succ, R.bind_ok, R.bind_ex, R.bind_bad, R.noex_ok, if_true, if_false, Bool.false_eq_true, Bool.true_eq_false, ite_true, ite_false, reduceIte, Nat.reduceAdd, Nat.reduceSub, Nat.zero_add, Nat.sub_self, Nat.sub_zero, decide_true, decide_false, Bool.not_true, Bool.not_false, l0_law, c1, q1, addD, mx, d16, hk, ix, n1, f1, a1, methF, z2, ty, ap, f2, a2]
theorem true_law : ∀ ns : List Int, ns.length ≤ 63 → ∃ st, f_law [.ref 0] [.rl (ns.map VL.D.int)] = .ok (.bl true) st := by
  intro ns hl
  obtain ⟨s0, es0⟩ : ∃ s0 : Sto, s0 = [.rl (ns.map VL.D.int)] := ⟨_, rfl⟩
  have h0 : listAt s0 0 = some (ns.map VL.D.int) := by rw [es0]; rfl
  obtain ⟨s1, e1⟩ : ∃ s1, s1 = s0 ++ [O.lst (words.map VL.D.str)] := ⟨_, rfl⟩
  have e1' : s1 = [.rl (ns.map VL.D.int), .lst (words.map VL.D.str)] := by rw [e1, es0]; rfl
  have h1 : listAt s1 0 = some (ns.map VL.D.int) := by rw [e1]; exact listAt_app h0
  have len : lenD [VL.D.ref 0] s1 = .ok (.int ns.length) s1 := by rw [lenD_list h1, List.length_map]
  obtain ⟨n, hn, hn64⟩ : ∃ n : Nat, max 1 (min (ns.length : Int) 64) = n ∧ n ≤ 64 := ⟨max 1 (min ns.length 64), by omega, by omega⟩
  have mn : minD [VL.D.int ns.length, .int 64] s1 = .ok (.int (min (ns.length : Int) 64)) s1 := minD_ok
  have mx : maxD [VL.D.int 1, .int (min (ns.length : Int) 64)] s1 = .ok (.int n) s1 := by rw [← hn]; exact maxD_ok
  have r1 : rng1D [.int (n : Int)] s1 = .ok (intsD 0 1 n, []) s1 := rng1_ok (by omega)
  have z16 := sz (by decide : 16 ≤ 100)
  obtain ⟨e', s', hf, _, _⟩ := forL_le (c := []) (gf := nameG 2) (b := l0_law) (ds := intsD 0 1 n) (env := [some (.ref 0), some (.ref 1), none, none, none, none, none]) (st := s1) ChkOk.nil
    (fun e => ∃ y2 y3 y4 y5 y6, e = [some (.ref 0), some (.ref 1), y2, y3, y4, y5, y6]) ⟨_, _, _, _, _, rfl⟩ (by
      rintro x hx e s ⟨y2, y3, y4, y5, y6, rfl⟩ hle
      obtain ⟨i, hi⟩ := List.getElem?_of_mem hx
      obtain ⟨_, rfl⟩ := intsD_get hi
      have ei : (0 : Int) + (i : Nat) * 1 = i := by omega
      rw [ei]
      obtain ⟨e', s', h1, h2, h3⟩ := turn_ok (i := i) (y3 := y3) (y4 := y4) (y5 := y5) (y6 := y6) e1' hle
      exact ⟨_, s, e', s', rfl, h1, h2, h3⟩)
  refine ⟨s', ?_⟩
  rw [← es0]
  have wl : (words.map VL.D.str) = [.str "sieve", .str "cols", .str "join", .str "left", .str "notin", .str "pour", .str "both", .str "either", .str "less", .str "once", .str "count", .str "sum", .str "least", .str "most", .str "first", .str "table"] := rfl
  rw [wl] at e1
  have l0 : s0.length = 1 := by rw [es0]; rfl
  simp -implicitDefEqProofs only [varF_ap, cF_ap, opF_ap, opK_ap, bF_ap, boolK_ap, andT_ap, andK_ap, orT_ap, orK_ap, notT_ap, notK_ap, yesT_ap, andV_ap, andVK_ap, orV_ap, orVK_ap, notV_ap, notVK_ap, ifF_ap, ifFK_ap, nilA_ap, consA_ap, consK_ap, consJ_ap, tupA_ap, tupK_ap, lstA_ap, lstK_ap, newO_ap, dicF_ap, callF_ap, un1_ap, methF_ap, methK_ap, nonO_ap, someO_ap, someK_ap, slF_ap, slK_ap, slJ_ap, itF_ap, itA_ap, nilS_ap, bkS_ap, ctS_ap, seqS_ap, seqK_nx, seqK_rt, seqK_bk, seqK_ct, dropS_ap, dropK_ap, retS_ap, retK_ap, retN_ap, ifS_ap, ifK_ap, setS_ap, setK_ap, asgS_ap, asgK_ap, asgJ_ap, nameG_ap, nilG_ap, consG_ap, consGK_ap, tupG_ap, fnF_ap, fnK_nx, fnK_rt, forS_ap, forK_ap, intD_ap, negD_ap, addI_ap, varK_ap, startE, yes2, isN, List.map_cons, List.map_nil, List.length_cons, List.length_nil, List.replicate, List.append_nil, List.cons_append, List.nil_append, List.getElem?_cons_zero, List.getElem?_cons_succ, List.set_cons_zero, List.set_cons_succ, R.bind_ok, R.bind_ex, R.bind_bad, R.noex_ok, if_true, if_false, Bool.false_eq_true, Bool.true_eq_false, ite_true, ite_false, reduceIte, Nat.reduceAdd, Nat.reduceSub, Nat.zero_add, Nat.sub_self, Nat.sub_zero, decide_true, decide_false, Bool.not_true, Bool.not_false, f_law, b_law, forS, z16, l0, ← e1, len, mn, mx, r1, hf]
end Law

namespace Law
open PySem PySem.Spec PyProof.Rows L2 VL RZ RT
def topS (i : Nat) : Stmt := PySem.Challenge.pw_viewkeep_k39_what_is_needed.main.body.getD i (.Pass ⟨0, 0, 0, 0⟩)
abbrev s_needs_of : Stmt := topS 1
theorem sc_needs_of : FnScope ["node", "word", "besides", "pair"] ["node"] (defScope s_needs_of) := ⟨rfl, rfl, rfl, by decide +kernel, rfl, by decide +kernel, by decide +kernel⟩
abbrev s__law_cell_at : Stmt := topS 3
theorem sc__law_cell_at : FnScope ["_law_script", "_law_k"] ["_law_script", "_law_k"] (defScope s__law_cell_at) := ⟨rfl, rfl, rfl, by decide +kernel, rfl, by decide +kernel, by decide +kernel⟩
abbrev s__law_whole : Stmt := topS 4
theorem sc__law_whole : FnScope ["_law_found"] ["_law_found"] (defScope s__law_whole) := ⟨rfl, rfl, rfl, by decide +kernel, rfl, by decide +kernel, by decide +kernel⟩
abbrev s__law_mixed : Stmt := topS 5
theorem sc__law_mixed : FnScope ["_law_cell"] ["_law_cell"] (defScope s__law_mixed) := ⟨rfl, rfl, rfl, by decide +kernel, rfl, by decide +kernel, by decide +kernel⟩
abbrev s__law_digits : Stmt := topS 6
theorem sc__law_digits : FnScope ["_law_number", "_law_many", "_law_top", "_law_found", "_law_k"] ["_law_number", "_law_many", "_law_top"] (defScope s__law_digits) := ⟨rfl, rfl, rfl, by decide +kernel, rfl, by decide +kernel, by decide +kernel⟩
abbrev s__law_node : Stmt := topS 8
theorem sc__law_node : FnScope ["_law_number", "_law_word", "_law_by", "_law_p", "_law_pairs", "_law_inputs", "_law_order", "_law_k", "_law_place", "_law_pair"] ["_law_number", "_law_word"] (defScope s__law_node) := ⟨rfl, rfl, rfl, by decide +kernel, rfl, by decide +kernel, by decide +kernel⟩
abbrev s__law_alike : Stmt := topS 7
theorem sc__law_alike : FnScope ["_law_found", "_law_due", "_law_one", "_law_other"] ["_law_found", "_law_due"] (defScope s__law_alike) := ⟨rfl, rfl, rfl, by decide +kernel, rfl, by decide +kernel, by decide +kernel⟩
abbrev s_law : Stmt := topS 9
theorem sc_law : FnScope ["_law_script", "_law_words", "_law_k", "_law_cell", "_law_found", "_law_node_here", "_law_due"] ["_law_script"] (defScope s_law) := ⟨rfl, rfl, rfl, by decide +kernel, rfl, by decide +kernel, by decide +kernel⟩
/-! ### the defs as they stand -/
structure Tx (K : PySem.W.Frag) (mg : Str → Option Value) where
  a_needs_of : Addr
  d_needs_of : FuncData
  F_needs_of : Fun K "needs_of" "needs_of" s_needs_of a_needs_of d_needs_of
  g_needs_of : mg "needs_of" = some (.ref a_needs_of)
  b_needs_of : Binds K d_needs_of ["node"] []
  a__law_cell_at : Addr
  d__law_cell_at : FuncData
  F__law_cell_at : Fun K "_law_cell_at" "_law_cell_at" s__law_cell_at a__law_cell_at d__law_cell_at
  g__law_cell_at : mg "_law_cell_at" = some (.ref a__law_cell_at)
  b__law_cell_at : Binds K d__law_cell_at ["_law_script", "_law_k"] []
  a__law_whole : Addr
  d__law_whole : FuncData
  F__law_whole : Fun K "_law_whole" "_law_whole" s__law_whole a__law_whole d__law_whole
  g__law_whole : mg "_law_whole" = some (.ref a__law_whole)
  b__law_whole : Binds K d__law_whole ["_law_found"] []
  a__law_mixed : Addr
  d__law_mixed : FuncData
  F__law_mixed : Fun K "_law_mixed" "_law_mixed" s__law_mixed a__law_mixed d__law_mixed
  g__law_mixed : mg "_law_mixed" = some (.ref a__law_mixed)
  b__law_mixed : Binds K d__law_mixed ["_law_cell"] []
  a__law_digits : Addr
  d__law_digits : FuncData
  F__law_digits : Fun K "_law_digits" "_law_digits" s__law_digits a__law_digits d__law_digits
  g__law_digits : mg "_law_digits" = some (.ref a__law_digits)
  b__law_digits : Binds K d__law_digits ["_law_number", "_law_many", "_law_top"] []
  a__law_node : Addr
  d__law_node : FuncData
  F__law_node : Fun K "_law_node" "_law_node" s__law_node a__law_node d__law_node
  g__law_node : mg "_law_node" = some (.ref a__law_node)
  b__law_node : Binds K d__law_node ["_law_number", "_law_word"] []
  a__law_alike : Addr
  d__law_alike : FuncData
  F__law_alike : Fun K "_law_alike" "_law_alike" s__law_alike a__law_alike d__law_alike
  g__law_alike : mg "_law_alike" = some (.ref a__law_alike)
  b__law_alike : Binds K d__law_alike ["_law_found", "_law_due"] []
  a_law : Addr
  d_law : FuncData
  F_law : Fun K "law" "law" s_law a_law d_law
  g_law : mg "law" = some (.ref a_law)
  b_law : Binds K d_law ["_law_script"] []
  z_all : mg "all" = none
  z_bool : mg "bool" = none
  z_enumerate : mg "enumerate" = none
  z_int : mg "int" = none
  z_isinstance : mg "isinstance" = none
  z_len : mg "len" = none
  z_list : mg "list" = none
  z_max : mg "max" = none
  z_min : mg "min" = none
  z_range : mg "range" = none
  z_str : mg "str" = none
  z_tuple : mg "tuple" = none
  z_zip : mg "zip" = none
section
variable {P : Program} {w : World} {K : PySem.W.Frag} {mg : Str → Option Value} {base : Heap}
theorem ok_needs_of (T : Tx K mg) : FnOk P w K mg base CX0 (1) T.a_needs_of T.d_needs_of ["node"] (Sp0 ⟨P, w, K, mg⟩ 1 f_needs_of) := by
  refine fn0 T.F_needs_of sc_needs_of rfl rfl fun cdv A outer s H E hr => ?_
  exact (lss_cons (ls_set (i := 1) sc_needs_of.nd (le_ix ix_D (le_var (pv 0)) le_int (fun _ _ => rfl)))
    (lss_cons (ls_set (i := 2) sc_needs_of.nd (le_ix ix_D (le_var (pv 0)) le_int (fun _ _ => rfl)))
    (lss_cons (ls_if (lt_cmp op_inD (le_var (pv 1)) (le_tup (la_cons le_str (la_cons le_str (la_cons le_str (la_cons le_str (la_cons le_str la_nil)))))) (by rfl)) (lss_one (ls_ret (le_lst (la_cons (le_tup (la_cons le_str (la_cons le_int la_nil))) (la_cons (le_tup (la_cons le_str (la_cons le_int la_nil))) la_nil))))) lss_nil)
    (lss_cons (ls_if (lt_cmp (op_eqDD hr.units) (le_var (pv 1)) le_str (nomark _)) (lss_one (ls_ret (le_lst (la_cons (le_tup (la_cons le_str (la_cons le_int la_nil))) (la_cons (le_tup (la_cons le_str (la_cons le_int (la_cons (le_callTy call_tupleD (by rfl) T.z_tuple (by decide +kernel) (la_cons (le_lc (own := [("pair", 3)]) rfl sc_needs_of.nd (li_seq (le_ix ix_D (le_var (pv 2)) le_int (fun _ _ => rfl))) (blkOk_by (own := [("pair", 3)]) (N := ["node", "word", "besides", "pair"]) (sc := defScope s_needs_of) (by decide +kernel)) (fun _ _ _ _ _ => (lgw_name (pg_name (i := 3) sc_needs_of.nd rfl (by first | exact Or.inl rfl | exact Or.inr rfl)) (by decide))) (fun _ _ _ _ _ => lts_nil) (fun _ _ _ _ _ => (le_ix ix_D (le_var (pv 3)) le_int (fun _ _ => rfl)))) la_nil)) la_nil)))) la_nil))))) lss_nil)
    (lss_cons (ls_if (lt_cmp (op_eqDD hr.units) (le_var (pv 1)) le_str (nomark _)) (lss_one (ls_ret (le_lst (la_cons (le_tup (la_cons le_str (la_cons le_int (la_cons (le_ix ix_D (le_var (pv 2)) le_int (fun _ _ => rfl)) la_nil)))) la_nil)))) lss_nil)
    (lss_cons (ls_if (lt_cmp (op_eqDD hr.units) (le_var (pv 1)) le_str (nomark _)) (lss_one (ls_ret (le_lst (la_cons (le_tup (la_cons le_str (la_cons le_int (la_cons (le_ix ix_D (le_var (pv 2)) le_int (fun _ _ => rfl)) la_nil)))) (la_cons (le_tup (la_cons le_str (la_cons le_int (la_cons (le_ix ix_D (le_var (pv 2)) le_int (fun _ _ => rfl)) (la_cons (le_ix ix_D (le_var (pv 2)) le_int (fun _ _ => rfl)) la_nil))))) la_nil))))) lss_nil)
    (lss_cons (ls_if (lt_cmp op_inD (le_var (pv 1)) (le_tup (la_cons le_str (la_cons le_str la_nil))) (by rfl)) (lss_one (ls_ret (le_lst (la_cons (le_tup (la_cons le_str (la_cons le_int (la_cons (le_op op_addD (le_ix ix_D (le_var (pv 2)) le_int (fun _ _ => rfl)) (le_tup (la_cons (le_ix ix_D (le_var (pv 2)) le_int (fun _ _ => rfl)) la_nil))) la_nil)))) la_nil)))) lss_nil)
    (lss_cons (ls_if (lt_cmp op_inD (le_var (pv 1)) (le_tup (la_cons le_str (la_cons le_str la_nil))) (by rfl)) (lss_one (ls_ret (le_lst (la_cons (le_tup (la_cons le_str (la_cons le_int la_nil))) la_nil)))) lss_nil)
    (lss_one (ls_ret (le_lst la_nil)))))))))))
theorem ok__law_cell_at (T : Tx K mg) : FnOk P w K mg base CX0 (1) T.a__law_cell_at T.d__law_cell_at ["_law_script", "_law_k"] (Sp0 ⟨P, w, K, mg⟩ 2 f__law_cell_at) := by
  refine fn0 T.F__law_cell_at sc__law_cell_at rfl rfl fun cdv A outer s H E hr => ?_
  exact (lss_cons (ls_if (lt_cmp op_ltD (le_var (pv 1)) (le_callB call_lenD (by rfl) T.z_len (by decide +kernel) (la_cons (le_var (pv 0)) la_nil)) (nomark _)) (lss_one (ls_ret (le_ix ix_D (le_var (pv 0)) (le_var (pv 1)) (fun _ _ => rfl)))) lss_nil)
    (lss_one (ls_ret le_int)))
theorem ok__law_whole (T : Tx K mg) : FnOk P w K mg base CX0 (1) T.a__law_whole T.d__law_whole ["_law_found"] (Sp0 ⟨P, w, K, mg⟩ 1 f__law_whole) := by
  refine fn0 T.F__law_whole sc__law_whole rfl rfl fun cdv A outer s H E hr => ?_
  exact (lss_one (ls_ret (le_and (le_callB call_isiD (by rfl) T.z_isinstance (by decide +kernel) (la_cons (le_var (pv 0)) (la_cons (le_ty (by rfl) T.z_int (by decide +kernel)) la_nil))) (le_and1 (le_not (le_callB call_isiD (by rfl) T.z_isinstance (by decide +kernel) (la_cons (le_var (pv 0)) (la_cons (le_ty (by rfl) T.z_bool (by decide +kernel)) la_nil))))))))
theorem ok__law_mixed (T : Tx K mg) : FnOk P w K mg base CX0 (1) T.a__law_mixed T.d__law_mixed ["_law_cell"] (Sp0 ⟨P, w, K, mg⟩ 1 f__law_mixed) := by
  refine fn0 T.F__law_mixed sc__law_mixed rfl rfl fun cdv A outer s H E hr => ?_
  exact (lss_one (ls_ret (le_op op_addD (le_op op_modD (le_op op_mulD (le_var (pv 0)) le_int) le_int) (le_op op_mulD le_int (le_op op_modD (le_var (pv 0)) (le_op op_powD le_int le_int))))))
theorem ok__law_digits (T : Tx K mg) : FnOk P w K mg base CX0 (1) T.a__law_digits T.d__law_digits ["_law_number", "_law_many", "_law_top"] (Sp0 ⟨P, w, K, mg⟩ 3 f__law_digits) := by
  refine fn0 T.F__law_digits sc__law_digits rfl rfl fun cdv A outer s H E hr => ?_
  exact (lss_cons (ls_set (i := 3) sc__law_digits.nd (le_lst la_nil))
    (lss_cons (ls_for PassesOwn.never rfl (li_rng1 (by rfl) T.z_range (la_cons (le_var (pv 1)) la_nil)) (lg_name (pg_name (i := 4) sc__law_digits.nd rfl (by first | exact Or.inl rfl | exact Or.inr rfl))) (lss_cons (ls_expr (le_bm PySem.F.plainAttrs_list PySem.F.slot_list_append PySem.F.type_list_append mt_appD (le_var (pv 3)) (la_cons (le_op op_modD (le_var (pv 0)) (le_var (pv 2))) la_nil)))
    (lss_one (ls_set (i := 0) sc__law_digits.nd (le_op op_divD (le_var (pv 0)) (le_var (pv 2)))))))
    (lss_one (ls_ret (le_var (pv 3))))))
theorem ok__law_node (T : Tx K mg) : FnOk P w K mg base CX0 (2) T.a__law_node T.d__law_node ["_law_number", "_law_word"] (Sp0 ⟨P, w, K, mg⟩ 2 f__law_node) := by
  refine fn0 T.F__law_node sc__law_node rfl rfl fun cdv A outer s H E hr => ?_
  exact (lss_cons (ls_set (i := 2) sc__law_node.nd (le_callTy call_tupleD (by rfl) T.z_tuple (by decide +kernel) (la_cons (le_call0 (ok__law_digits T) (hr.mono (by omega)) T.g__law_digits T.F__law_digits.kp T.b__law_digits (la_cons (le_op op_divD (le_var (pv 0)) le_int) (la_cons (le_op op_modD (le_var (pv 0)) le_int) (la_cons le_int la_nil))) (len_cons (len_cons (len_cons (fun _ _ _ _ h => len_nil h))))) la_nil)))
    (lss_cons (ls_set (i := 3) sc__law_node.nd (le_op op_modD (le_op op_divD (le_var (pv 0)) le_int) le_int))
    (lss_cons (ls_set (i := 4) sc__law_node.nd (le_callTy call_tupleD (by rfl) T.z_tuple (by decide +kernel) (la_cons (le_lc (own := [("_law_k", 7), ("_law_place", 8)]) rfl sc__law_node.nd (li_enum (pi_enumA (by rfl) T.z_enumerate (la_cons (le_var (pv 2)) la_nil))) (blkOk_by (own := [("_law_k", 7), ("_law_place", 8)]) (N := ["_law_number", "_law_word", "_law_by", "_law_p", "_law_pairs", "_law_inputs", "_law_order", "_law_k", "_law_place", "_law_pair"]) (sc := defScope s__law_node) (by decide +kernel)) (fun _ _ _ _ _ => (lgw_tup rfl (lgws_cons (lgw_name (pg_name (i := 7) sc__law_node.nd rfl (by first | exact Or.inl rfl | exact Or.inr rfl)) (by decide)) (lgws_cons (lgw_name (pg_name (i := 8) sc__law_node.nd rfl (by first | exact Or.inl rfl | exact Or.inr rfl)) (by decide)) lgws_nil)))) (fun _ _ _ _ _ => lts_nil) (fun _ _ _ _ _ => (le_tup (la_cons (le_var (pv 8)) (la_cons (le_op op_modD (le_op op_addD (le_op op_mulD (le_var (pv 8)) le_int) (le_var (pv 7))) le_int) la_nil))))) la_nil)))
    (lss_cons (ls_set (i := 5) sc__law_node.nd (le_tup (la_cons (le_op op_modD (le_op op_divD (le_var (pv 0)) le_int) le_int) la_nil)))
    (lss_cons (ls_if (lt_cmp op_inD (le_var (pv 1)) (le_tup (la_cons le_str (la_cons le_str (la_cons le_str (la_cons le_str (la_cons le_str (la_cons le_str (la_cons le_str la_nil)))))))) (by rfl)) (lss_one (ls_set (i := 5) sc__law_node.nd (le_tup (la_cons (le_op op_modD (le_op op_divD (le_var (pv 0)) le_int) le_int) (la_cons (le_op op_modD (le_op op_divD (le_var (pv 0)) le_int) le_int) la_nil))))) lss_nil)
    (lss_cons (ls_if (lt_cmp (op_eqDD hr.units) (le_var (pv 1)) le_str (nomark _)) (lss_one (ls_ret (le_tup (la_cons (le_tup (la_cons (le_var (pv 1)) (la_cons (le_tup (la_cons le_str (la_cons (le_op op_addD le_int (le_var (pv 3))) la_nil))) (la_cons (le_tup la_nil) la_nil)))) (la_cons (le_lst la_nil) la_nil))))) lss_nil)
    (lss_cons (ls_if (lt_cmp (op_eqDD hr.units) (le_var (pv 1)) le_str (nomark _)) (lss_one (ls_ret (le_tup (la_cons (le_tup (la_cons (le_var (pv 1)) (la_cons (le_tup (la_cons (le_tup (la_cons le_str (la_cons (le_tup (la_cons le_str (la_cons (le_var (pv 3)) la_nil))) (la_cons (le_tup (la_cons le_str (la_cons (le_op op_modD (le_var (pv 0)) (le_op op_powD le_int le_int)) la_nil))) la_nil)))) la_nil)) (la_cons (le_var (pv 5)) la_nil)))) (la_cons (le_lst la_nil) la_nil))))) lss_nil)
    (lss_cons (ls_if (lt_cmp (op_eqDD hr.units) (le_var (pv 1)) le_str (nomark _)) (lss_one (ls_ret (le_tup (la_cons (le_tup (la_cons (le_var (pv 1)) (la_cons (le_tup (la_cons (le_tup (la_cons (le_tup (la_cons le_str (la_cons (le_var (pv 3)) la_nil))) (la_cons (le_tup (la_cons le_str la_nil)) la_nil))) la_nil)) (la_cons (le_var (pv 5)) la_nil)))) (la_cons (le_lst la_nil) la_nil))))) lss_nil)
    (lss_cons (ls_if (lt_cmp (op_eqDD hr.units) (le_var (pv 1)) le_str (nomark _)) (lss_one (ls_ret (le_tup (la_cons (le_tup (la_cons (le_var (pv 1)) (la_cons (le_tup la_nil) (la_cons (le_var (pv 5)) la_nil)))) (la_cons (le_lst la_nil) la_nil))))) lss_nil)
    (lss_cons (ls_if (lt_cmp (op_eqDD hr.units) (le_var (pv 1)) le_str (nomark _)) (lss_one (ls_ret (le_tup (la_cons (le_tup (la_cons (le_var (pv 1)) (la_cons (le_tup (la_cons (le_var (pv 4)) la_nil)) (la_cons (le_var (pv 5)) la_nil)))) (la_cons (le_lst (la_cons (le_tup (la_cons le_str (la_cons le_int la_nil))) (la_cons (le_tup (la_cons le_str (la_cons le_int la_nil))) la_nil))) la_nil))))) lss_nil)
    (lss_cons (ls_if (lt_cmp (op_eqDD hr.units) (le_var (pv 1)) le_str (nomark _)) (lss_one (ls_ret (le_tup (la_cons (le_tup (la_cons (le_var (pv 1)) (la_cons (le_tup (la_cons (le_var (pv 4)) (la_cons le_int la_nil))) (la_cons (le_var (pv 5)) la_nil)))) (la_cons (le_lst (la_cons (le_tup (la_cons le_str (la_cons le_int la_nil))) (la_cons (le_tup (la_cons le_str (la_cons le_int la_nil))) la_nil))) la_nil))))) lss_nil)
    (lss_cons (ls_if (lt_cmp (op_eqDD hr.units) (le_var (pv 1)) le_str (nomark _)) (lss_one (ls_ret (le_tup (la_cons (le_tup (la_cons (le_var (pv 1)) (la_cons (le_tup (la_cons (le_var (pv 4)) la_nil)) (la_cons (le_var (pv 5)) la_nil)))) (la_cons (le_lst (la_cons (le_tup (la_cons le_str (la_cons le_int la_nil))) (la_cons (le_tup (la_cons le_str (la_cons le_int (la_cons (le_callTy call_tupleD (by rfl) T.z_tuple (by decide +kernel) (la_cons (le_lc (own := [("_law_pair", 9)]) rfl sc__law_node.nd (li_seq (le_var (pv 4))) (blkOk_by (own := [("_law_pair", 9)]) (N := ["_law_number", "_law_word", "_law_by", "_law_p", "_law_pairs", "_law_inputs", "_law_order", "_law_k", "_law_place", "_law_pair"]) (sc := defScope s__law_node) (by decide +kernel)) (fun _ _ _ _ _ => (lgw_name (pg_name (i := 9) sc__law_node.nd rfl (by first | exact Or.inl rfl | exact Or.inr rfl)) (by decide))) (fun _ _ _ _ _ => lts_nil) (fun _ _ _ _ _ => (le_ix ix_D (le_var (pv 9)) le_int (fun _ _ => rfl)))) la_nil)) la_nil)))) la_nil))) la_nil))))) lss_nil)
    (lss_cons (ls_if (lt_cmp (op_eqDD hr.units) (le_var (pv 1)) le_str (nomark _)) (lss_one (ls_ret (le_tup (la_cons (le_tup (la_cons (le_var (pv 1)) (la_cons (le_tup la_nil) (la_cons (le_var (pv 5)) la_nil)))) (la_cons (le_lst (la_cons (le_tup (la_cons le_str (la_cons le_int la_nil))) la_nil)) la_nil))))) lss_nil)
    (lss_cons (ls_if (lt_cmp (op_eqDD hr.units) (le_var (pv 1)) le_str (nomark _)) (lss_cons (ls_set (i := 6) sc__law_node.nd (le_callTy call_tupleD (by rfl) T.z_tuple (by decide +kernel) (la_cons (le_lc (own := [("_law_k", 7), ("_law_place", 8)]) rfl sc__law_node.nd (li_enum (pi_enumA (by rfl) T.z_enumerate (la_cons (le_back (le_var (pv 2))) la_nil))) (blkOk_by (own := [("_law_k", 7), ("_law_place", 8)]) (N := ["_law_number", "_law_word", "_law_by", "_law_p", "_law_pairs", "_law_inputs", "_law_order", "_law_k", "_law_place", "_law_pair"]) (sc := defScope s__law_node) (by decide +kernel)) (fun _ _ _ _ _ => (lgw_tup rfl (lgws_cons (lgw_name (pg_name (i := 7) sc__law_node.nd rfl (by first | exact Or.inl rfl | exact Or.inr rfl)) (by decide)) (lgws_cons (lgw_name (pg_name (i := 8) sc__law_node.nd rfl (by first | exact Or.inl rfl | exact Or.inr rfl)) (by decide)) lgws_nil)))) (fun _ _ _ _ _ => lts_nil) (fun _ _ _ _ _ => (le_tup (la_cons (le_var (pv 8)) (la_cons (le_cmp (op_eqDD hr.units) (le_op op_modD (le_op op_divD (le_var (pv 0)) (le_op op_addD (le_var (pv 7)) le_int)) le_int) le_int (nomark _)) la_nil))))) la_nil)))
    (lss_one (ls_ret (le_tup (la_cons (le_tup (la_cons (le_var (pv 1)) (la_cons (le_tup (la_cons (le_op op_modD (le_var (pv 0)) le_int) (la_cons (le_var (pv 2)) (la_cons (le_var (pv 6)) la_nil)))) (la_cons (le_var (pv 5)) la_nil)))) (la_cons (le_lst (la_cons (le_tup (la_cons le_str (la_cons le_int la_nil))) la_nil)) la_nil)))))) lss_nil)
    (lss_cons (ls_if (lt_cmp (op_eqDD hr.units) (le_var (pv 1)) le_str (nomark _)) (lss_one (ls_ret (le_tup (la_cons (le_tup (la_cons (le_var (pv 1)) (la_cons (le_tup (la_cons (le_var (pv 2)) la_nil)) (la_cons (le_var (pv 5)) la_nil)))) (la_cons (le_lst (la_cons (le_tup (la_cons le_str (la_cons le_int (la_cons (le_var (pv 2)) la_nil)))) la_nil)) la_nil))))) lss_nil)
    (lss_cons (ls_if (lt_cmp (op_eqDD hr.units) (le_var (pv 1)) le_str (nomark _)) (lss_one (ls_ret (le_tup (la_cons (le_tup (la_cons (le_var (pv 1)) (la_cons (le_tup (la_cons (le_var (pv 3)) (la_cons (le_var (pv 2)) la_nil))) (la_cons (le_var (pv 5)) la_nil)))) (la_cons (le_lst (la_cons (le_tup (la_cons le_str (la_cons le_int (la_cons (le_var (pv 2)) la_nil)))) (la_cons (le_tup (la_cons le_str (la_cons le_int (la_cons (le_var (pv 2)) (la_cons (le_var (pv 3)) la_nil))))) la_nil))) la_nil))))) lss_nil)
    (lss_cons (ls_if (PW.pt (lw_or (lt_cmp (op_eqDD hr.units) (le_var (pv 1)) le_str (nomark _)) (lw_or1 (lt_cmp (op_eqDD hr.units) (le_var (pv 1)) le_str (nomark _))))) (lss_one (ls_ret (le_tup (la_cons (le_tup (la_cons (le_var (pv 1)) (la_cons (le_tup (la_cons (le_var (pv 3)) (la_cons (le_var (pv 2)) la_nil))) (la_cons (le_var (pv 5)) la_nil)))) (la_cons (le_lst (la_cons (le_tup (la_cons le_str (la_cons le_int (la_cons (le_op op_addD (le_var (pv 2)) (le_tup (la_cons (le_var (pv 3)) la_nil))) la_nil)))) la_nil)) la_nil))))) lss_nil)
    (lss_one (ls_ret (le_tup (la_cons (le_tup (la_cons (le_var (pv 1)) (la_cons (le_tup la_nil) (la_cons (le_var (pv 5)) la_nil)))) (la_cons (le_lst (la_cons (le_tup (la_cons le_str (la_cons le_int la_nil))) (la_cons (le_tup (la_cons le_str (la_cons le_int la_nil))) la_nil))) la_nil))))))))))))))))))))))
theorem okb__law_alike (T : Tx K mg) (d : Nat) (r__law_alike : Fn) (ih__law_alike : FnOk P w K mg base CX0 (1 + d) T.a__law_alike T.d__law_alike ["_law_found", "_law_due"] (Sp0 ⟨P, w, K, mg⟩ 2 r__law_alike)) : FnOk P w K mg base CX0 (1 + d + 1) T.a__law_alike T.d__law_alike ["_law_found", "_law_due"] (Sp0 ⟨P, w, K, mg⟩ 2 (fnF 4 (b__law_alike r__law_alike))) := by
  refine fn0 T.F__law_alike sc__law_alike rfl rfl fun cdv A outer s H E hr => ?_
  exact (lss_cons (ls_if (PW.pt (lw_or (lt_val (le_callB call_isiD (by rfl) T.z_isinstance (by decide +kernel) (la_cons (le_var (pv 1)) (la_cons (le_ty (by rfl) T.z_tuple (by decide +kernel)) la_nil)))) (lw_or1 (lt_val (le_callB call_isiD (by rfl) T.z_isinstance (by decide +kernel) (la_cons (le_var (pv 1)) (la_cons (le_ty (by rfl) T.z_list (by decide +kernel)) la_nil))))))) (lss_cons (ls_if (PW.pt (lw_and (lt_val (le_callB call_isiD (by rfl) T.z_isinstance (by decide +kernel) (la_cons (le_var (pv 1)) (la_cons (le_ty (by rfl) T.z_tuple (by decide +kernel)) la_nil)))) (lw_and1 (lt_not (lt_val (le_callB call_isiD (by rfl) T.z_isinstance (by decide +kernel) (la_cons (le_var (pv 0)) (la_cons (le_ty (by rfl) T.z_tuple (by decide +kernel)) la_nil)))))))) (lss_one (ls_ret le_bl)) lss_nil)
    (lss_cons (ls_if (PW.pt (lw_and (lt_val (le_callB call_isiD (by rfl) T.z_isinstance (by decide +kernel) (la_cons (le_var (pv 1)) (la_cons (le_ty (by rfl) T.z_list (by decide +kernel)) la_nil)))) (lw_and1 (lt_not (lt_val (le_callB call_isiD (by rfl) T.z_isinstance (by decide +kernel) (la_cons (le_var (pv 0)) (la_cons (le_ty (by rfl) T.z_list (by decide +kernel)) la_nil)))))))) (lss_one (ls_ret le_bl)) lss_nil)
    (lss_cons (ls_if (lt_cmp (op_neDD hr.units) (le_callB call_lenD (by rfl) T.z_len (by decide +kernel) (la_cons (le_var (pv 0)) la_nil)) (le_callB call_lenD (by rfl) T.z_len (by decide +kernel) (la_cons (le_var (pv 1)) la_nil)) (nomark _)) (lss_one (ls_ret le_bl)) lss_nil)
    (lss_one (ls_ret (le_callB (call_allD rfl) (by rfl) T.z_all (by decide +kernel) (la_cons (le_lc (own := [("_law_one", 2), ("_law_other", 3)]) rfl sc__law_alike.nd (li_zip (pi_zipA (by rfl) T.z_zip (la_cons (le_var (pv 0)) (la_cons (le_var (pv 1)) la_nil)))) (blkOk_by (own := [("_law_one", 2), ("_law_other", 3)]) (N := ["_law_found", "_law_due", "_law_one", "_law_other"]) (sc := defScope s__law_alike) (by decide +kernel)) (fun _ _ _ _ _ => (lgw_tup rfl (lgws_cons (lgw_name (pg_name (i := 2) sc__law_alike.nd rfl (by first | exact Or.inl rfl | exact Or.inr rfl)) (by decide)) (lgws_cons (lgw_name (pg_name (i := 3) sc__law_alike.nd rfl (by first | exact Or.inl rfl | exact Or.inr rfl)) (by decide)) lgws_nil)))) (fun _ _ _ _ _ => lts_nil) (fun _ _ _ _ _ => (le_call0 ih__law_alike (hr.mono (by omega)) T.g__law_alike T.F__law_alike.kp T.b__law_alike (la_cons (le_var (pv 2)) (la_cons (le_var (pv 3)) la_nil)) (len_cons (len_cons (fun _ _ _ _ h => len_nil h)))))) la_nil))))))) lss_nil)
    (lss_cons (ls_if (lt_val (le_callB call_isiD (by rfl) T.z_isinstance (by decide +kernel) (la_cons (le_var (pv 1)) (la_cons (le_ty (by rfl) T.z_bool (by decide +kernel)) la_nil)))) (lss_one (ls_ret (le_and (le_callB call_isiD (by rfl) T.z_isinstance (by decide +kernel) (la_cons (le_var (pv 0)) (la_cons (le_ty (by rfl) T.z_bool (by decide +kernel)) la_nil))) (le_and1 (le_cmp (op_eqDD hr.units) (le_var (pv 0)) (le_var (pv 1)) (nomark _)))))) lss_nil)
    (lss_cons (ls_if (lt_val (le_callB call_isiD (by rfl) T.z_isinstance (by decide +kernel) (la_cons (le_var (pv 1)) (la_cons (le_ty (by rfl) T.z_str (by decide +kernel)) la_nil)))) (lss_one (ls_ret (le_and (le_callB call_isiD (by rfl) T.z_isinstance (by decide +kernel) (la_cons (le_var (pv 0)) (la_cons (le_ty (by rfl) T.z_str (by decide +kernel)) la_nil))) (le_and1 (le_cmp (op_eqDD hr.units) (le_var (pv 0)) (le_var (pv 1)) (nomark _)))))) lss_nil)
    (lss_one (ls_ret (le_and (le_call0 (ok__law_whole T) (hr.mono (by omega)) T.g__law_whole T.F__law_whole.kp T.b__law_whole (la_cons (le_var (pv 0)) la_nil) (len_cons (fun _ _ _ _ h => len_nil h))) (le_and1 (le_cmp (op_eqDD hr.units) (le_var (pv 0)) (le_var (pv 1)) (nomark _)))))))))
theorem okA__law_alike (T : Tx K mg) : ∀ d : Nat, (FnOk P w K mg base CX0 (1 + d) T.a__law_alike T.d__law_alike ["_law_found", "_law_due"] (Sp0 ⟨P, w, K, mg⟩ 2 (f__law_alike d)))
  | 0 => fn_bad rfl
  | d + 1 => by
    obtain h__law_alike := okA__law_alike T d
    exact okb__law_alike T d _ h__law_alike
theorem ok__law_alike (T : Tx K mg) (d : Nat) : FnOk P w K mg base CX0 (1 + d) T.a__law_alike T.d__law_alike ["_law_found", "_law_due"] (Sp0 ⟨P, w, K, mg⟩ 2 (f__law_alike d)) := (okA__law_alike T d)
theorem ok_law (T : Tx K mg) : FnOk P w K mg base CX0 (10) T.a_law T.d_law ["_law_script"] (Sp0 ⟨P, w, K, mg⟩ 1 f_law) := by
  refine fn0 T.F_law sc_law rfl rfl fun cdv A outer s H E hr => ?_
  exact (lss_cons (ls_set (i := 1) sc_law.nd (le_lst (la_cons le_str (la_cons le_str (la_cons le_str (la_cons le_str (la_cons le_str (la_cons le_str (la_cons le_str (la_cons le_str (la_cons le_str (la_cons le_str (la_cons le_str (la_cons le_str (la_cons le_str (la_cons le_str (la_cons le_str (la_cons le_str la_nil))))))))))))))))))
    (lss_cons (ls_for PassesOwn.never rfl (li_rng1 (by rfl) T.z_range (la_cons (le_callB (call_maxD rfl) (by rfl) T.z_max (by decide +kernel) (la_cons le_int (la_cons (le_callB (call_minD rfl) (by rfl) T.z_min (by decide +kernel) (la_cons (le_callB call_lenD (by rfl) T.z_len (by decide +kernel) (la_cons (le_var (pv 0)) la_nil)) (la_cons le_int la_nil))) la_nil))) la_nil)) (lg_name (pg_name (i := 2) sc_law.nd rfl (by first | exact Or.inl rfl | exact Or.inr rfl))) (lss_cons (ls_set (i := 3) sc_law.nd (le_call0 (ok__law_cell_at T) (hr.mono (by omega)) T.g__law_cell_at T.F__law_cell_at.kp T.b__law_cell_at (la_cons (le_var (pv 0)) (la_cons (le_var (pv 2)) la_nil)) (len_cons (len_cons (fun _ _ _ _ h => len_nil h)))))
    (lss_cons (ls_asg (le_call0 (ok__law_node T) (hr.mono (by omega)) T.g__law_node T.F__law_node.kp T.b__law_node (la_cons (le_call0 (ok__law_mixed T) (hr.mono (by omega)) T.g__law_mixed T.F__law_mixed.kp T.b__law_mixed (la_cons (le_op op_addD (le_op op_mulD le_int (le_var (pv 3))) (le_var (pv 2))) la_nil) (len_cons (fun _ _ _ _ h => len_nil h))) (la_cons (le_ix ix_D (le_var (pv 1)) (le_op op_modD (le_var (pv 3)) le_int) (fun _ _ => rfl)) la_nil)) (len_cons (len_cons (fun _ _ _ _ h => len_nil h)))) (lg_tup rfl (lgs_cons (lg_name (pg_name (i := 5) sc_law.nd rfl (by first | exact Or.inl rfl | exact Or.inr rfl))) (lgs_cons (lg_name (pg_name (i := 6) sc_law.nd rfl (by first | exact Or.inl rfl | exact Or.inr rfl))) lgs_nil))))
    (lss_cons (ls_set (i := 4) sc_law.nd (le_call0 (ok_needs_of T) (hr.mono (by omega)) T.g_needs_of T.F_needs_of.kp T.b_needs_of (la_cons (le_var (pv 5)) la_nil) (len_cons (fun _ _ _ _ h => len_nil h))))
    (lss_cons (ls_if (lt_not (lt_val (le_call0 (ok__law_alike T 8) (hr.mono (by omega)) T.g__law_alike T.F__law_alike.kp T.b__law_alike (la_cons (le_var (pv 4)) (la_cons (le_var (pv 6)) la_nil)) (len_cons (len_cons (fun _ _ _ _ h => len_nil h)))))) (lss_one (ls_ret le_bl)) lss_nil)
    (lss_cons (ls_expr (le_bm PySem.F.plainAttrs_list PySem.F.slot_list_append PySem.F.type_list_append mt_appD (le_var (pv 4)) (la_cons (le_tup (la_cons le_str (la_cons le_int la_nil))) la_nil)))
    (lss_one (ls_if (lt_not (lt_val (le_call0 (ok__law_alike T 8) (hr.mono (by omega)) T.g__law_alike T.F__law_alike.kp T.b__law_alike (la_cons (le_call0 (ok_needs_of T) (hr.mono (by omega)) T.g_needs_of T.F_needs_of.kp T.b_needs_of (la_cons (le_var (pv 5)) la_nil) (len_cons (fun _ _ _ _ h => len_nil h))) (la_cons (le_var (pv 6)) la_nil)) (len_cons (len_cons (fun _ _ _ _ h => len_nil h)))))) (lss_one (ls_ret le_bl)) lss_nil))))))))
    (lss_one (ls_ret le_bl))))
end
/-! ### what the top has written -/
theorem all_mk {l : PySem.W.OpenLaw} {w : World} {K : PySem.W.Frag} {h : Heap} {mg : Str → Option Value} {fa f0 f1 f2 f3 f4 f5 f6 f7 : Addr} (X : K.In h) (G : h.Ns mainGlobals mg) (hfa : mg "law" = some (.ref fa))
    {od0 an0 od1 an1 od2 an2 od3 an3 od4 an4 od5 an5 od6 an6 od7 an7 : Option Addr} {sl0 sl1 sl2 sl3 sl4 sl5 sl6 sl7 : Array (Option Value)} {oc0 kV0 dc0 pm0 cd0 ct0 oc1 kV1 dc1 pm1 cd1 ct1 oc2 kV2 dc2 pm2 cd2 ct2 oc3 kV3 dc3 pm3 cd3 ct3 oc4 kV4 dc4 pm4 cd4 ct4 oc5 kV5 dc5 pm5 cd5 ct5 oc6 kV6 dc6 pm6 cd6 ct6 oc7 kV7 dc7 pm7 cd7 ct7 : Value}
    (a0 : PySem.W.nsIn K mainGlobals "needs_of" = some (some (.ref f0))) (l0 : K.lookup f0 = some ⟨oc0, od0, .func (PySem.W.fnOf "needs_of" "needs_of" (defArgs s_needs_of) (defBody s_needs_of) (defScope s_needs_of) .none kV0 dc0 pm0 an0 cd0 ct0), sl0⟩) (c0 : PySem.W.codeIn K cd0 "needs_of" = true) (k0 : PySem.W.keepIn K (.ref f0) = true)
    (a1 : PySem.W.nsIn K mainGlobals "_law_cell_at" = some (some (.ref f1))) (l1 : K.lookup f1 = some ⟨oc1, od1, .func (PySem.W.fnOf "_law_cell_at" "_law_cell_at" (defArgs s__law_cell_at) (defBody s__law_cell_at) (defScope s__law_cell_at) .none kV1 dc1 pm1 an1 cd1 ct1), sl1⟩) (c1 : PySem.W.codeIn K cd1 "_law_cell_at" = true) (k1 : PySem.W.keepIn K (.ref f1) = true)
    (a2 : PySem.W.nsIn K mainGlobals "_law_whole" = some (some (.ref f2))) (l2 : K.lookup f2 = some ⟨oc2, od2, .func (PySem.W.fnOf "_law_whole" "_law_whole" (defArgs s__law_whole) (defBody s__law_whole) (defScope s__law_whole) .none kV2 dc2 pm2 an2 cd2 ct2), sl2⟩) (c2 : PySem.W.codeIn K cd2 "_law_whole" = true) (k2 : PySem.W.keepIn K (.ref f2) = true)
    (a3 : PySem.W.nsIn K mainGlobals "_law_mixed" = some (some (.ref f3))) (l3 : K.lookup f3 = some ⟨oc3, od3, .func (PySem.W.fnOf "_law_mixed" "_law_mixed" (defArgs s__law_mixed) (defBody s__law_mixed) (defScope s__law_mixed) .none kV3 dc3 pm3 an3 cd3 ct3), sl3⟩) (c3 : PySem.W.codeIn K cd3 "_law_mixed" = true) (k3 : PySem.W.keepIn K (.ref f3) = true)
    (a4 : PySem.W.nsIn K mainGlobals "_law_digits" = some (some (.ref f4))) (l4 : K.lookup f4 = some ⟨oc4, od4, .func (PySem.W.fnOf "_law_digits" "_law_digits" (defArgs s__law_digits) (defBody s__law_digits) (defScope s__law_digits) .none kV4 dc4 pm4 an4 cd4 ct4), sl4⟩) (c4 : PySem.W.codeIn K cd4 "_law_digits" = true) (k4 : PySem.W.keepIn K (.ref f4) = true)
    (a5 : PySem.W.nsIn K mainGlobals "_law_node" = some (some (.ref f5))) (l5 : K.lookup f5 = some ⟨oc5, od5, .func (PySem.W.fnOf "_law_node" "_law_node" (defArgs s__law_node) (defBody s__law_node) (defScope s__law_node) .none kV5 dc5 pm5 an5 cd5 ct5), sl5⟩) (c5 : PySem.W.codeIn K cd5 "_law_node" = true) (k5 : PySem.W.keepIn K (.ref f5) = true)
    (a6 : PySem.W.nsIn K mainGlobals "_law_alike" = some (some (.ref f6))) (l6 : K.lookup f6 = some ⟨oc6, od6, .func (PySem.W.fnOf "_law_alike" "_law_alike" (defArgs s__law_alike) (defBody s__law_alike) (defScope s__law_alike) .none kV6 dc6 pm6 an6 cd6 ct6), sl6⟩) (c6 : PySem.W.codeIn K cd6 "_law_alike" = true) (k6 : PySem.W.keepIn K (.ref f6) = true)
    (a7 : PySem.W.nsIn K mainGlobals "law" = some (some (.ref f7))) (l7 : K.lookup f7 = some ⟨oc7, od7, .func (PySem.W.fnOf "law" "law" (defArgs s_law) (defBody s_law) (defScope s_law) .none kV7 dc7 pm7 an7 cd7 ct7), sl7⟩) (c7 : PySem.W.codeIn K cd7 "law" = true) (k7 : PySem.W.keepIn K (.ref f7) = true)
    (z_all : PySem.W.nsIn K mainGlobals "all" = some none)
    (z_bool : PySem.W.nsIn K mainGlobals "bool" = some none)
    (z_enumerate : PySem.W.nsIn K mainGlobals "enumerate" = some none)
    (z_int : PySem.W.nsIn K mainGlobals "int" = some none)
    (z_isinstance : PySem.W.nsIn K mainGlobals "isinstance" = some none)
    (z_len : PySem.W.nsIn K mainGlobals "len" = some none)
    (z_list : PySem.W.nsIn K mainGlobals "list" = some none)
    (z_max : PySem.W.nsIn K mainGlobals "max" = some none)
    (z_min : PySem.W.nsIn K mainGlobals "min" = some none)
    (z_range : PySem.W.nsIn K mainGlobals "range" = some none)
    (z_str : PySem.W.nsIn K mainGlobals "str" = some none)
    (z_tuple : PySem.W.nsIn K mainGlobals "tuple" = some none)
    (z_zip : PySem.W.nsIn K mainGlobals "zip" = some none)
    (true_law : ∀ ns : List Int, ns.length ≤ 63 → ∃ st, f_law [.ref 0] [.rl (ns.map D.int)] = .ok (.bl true) st) :
    ∃ fd : FuncData, (∀ (s : Shared) (v : Value), BindsTo s fd ⟨[v], []⟩ [("_law_script", v)]) ∧ ∀ base : Heap, K.In base → base.Ns mainGlobals mg → FnOk l.prog w K mg base CX0 10 fa fd ["_law_script"] (spLaw K) := by
  have e := hfa.symm.trans (PySem.W.mg_of X G a7)
  cases e
  have F0 := fun_mk (st := s_needs_of) l0 c0 k0
  have b0 := F0.binds (ps := ["node"]) fun _ _ _ _ _ _ us hl => match us, hl with | [_], _ => rfl
  have F1 := fun_mk (st := s__law_cell_at) l1 c1 k1
  have b1 := F1.binds (ps := ["_law_script", "_law_k"]) fun _ _ _ _ _ _ us hl => match us, hl with | [_, _], _ => rfl
  have F2 := fun_mk (st := s__law_whole) l2 c2 k2
  have b2 := F2.binds (ps := ["_law_found"]) fun _ _ _ _ _ _ us hl => match us, hl with | [_], _ => rfl
  have F3 := fun_mk (st := s__law_mixed) l3 c3 k3
  have b3 := F3.binds (ps := ["_law_cell"]) fun _ _ _ _ _ _ us hl => match us, hl with | [_], _ => rfl
  have F4 := fun_mk (st := s__law_digits) l4 c4 k4
  have b4 := F4.binds (ps := ["_law_number", "_law_many", "_law_top"]) fun _ _ _ _ _ _ us hl => match us, hl with | [_, _, _], _ => rfl
  have F5 := fun_mk (st := s__law_node) l5 c5 k5
  have b5 := F5.binds (ps := ["_law_number", "_law_word"]) fun _ _ _ _ _ _ us hl => match us, hl with | [_, _], _ => rfl
  have F6 := fun_mk (st := s__law_alike) l6 c6 k6
  have b6 := F6.binds (ps := ["_law_found", "_law_due"]) fun _ _ _ _ _ _ us hl => match us, hl with | [_, _], _ => rfl
  have F7 := fun_mk (st := s_law) l7 c7 k7
  have b7 := F7.binds (ps := ["_law_script"]) fun _ _ _ _ _ _ us hl => match us, hl with | [_], _ => rfl
  have T : Tx K mg := ⟨_, _, F0, PySem.W.mg_of X G a0, b0, _, _, F1, PySem.W.mg_of X G a1, b1, _, _, F2, PySem.W.mg_of X G a2, b2, _, _, F3, PySem.W.mg_of X G a3, b3, _, _, F4, PySem.W.mg_of X G a4, b4, _, _, F5, PySem.W.mg_of X G a5, b5, _, _, F6, PySem.W.mg_of X G a6, b6, _, _, F7, PySem.W.mg_of X G a7, b7, PySem.W.mg_none_of X G z_all, PySem.W.mg_none_of X G z_bool, PySem.W.mg_none_of X G z_enumerate, PySem.W.mg_none_of X G z_int, PySem.W.mg_none_of X G z_isinstance, PySem.W.mg_none_of X G z_len, PySem.W.mg_none_of X G z_list, PySem.W.mg_none_of X G z_max, PySem.W.mg_none_of X G z_min, PySem.W.mg_none_of X G z_range, PySem.W.mg_none_of X G z_str, PySem.W.mg_none_of X G z_tuple, PySem.W.mg_none_of X G z_zip⟩
  exact ⟨_, fun s v => .of_eq rfl, fun base _ _ => by
    have T : Tx K mg := ⟨_, _, F0, PySem.W.mg_of X G a0, b0, _, _, F1, PySem.W.mg_of X G a1, b1, _, _, F2, PySem.W.mg_of X G a2, b2, _, _, F3, PySem.W.mg_of X G a3, b3, _, _, F4, PySem.W.mg_of X G a4, b4, _, _, F5, PySem.W.mg_of X G a5, b5, _, _, F6, PySem.W.mg_of X G a6, b6, _, _, F7, PySem.W.mg_of X G a7, b7, PySem.W.mg_none_of X G z_all, PySem.W.mg_none_of X G z_bool, PySem.W.mg_none_of X G z_enumerate, PySem.W.mg_none_of X G z_int, PySem.W.mg_none_of X G z_isinstance, PySem.W.mg_none_of X G z_len, PySem.W.mg_none_of X G z_list, PySem.W.mg_none_of X G z_max, PySem.W.mg_none_of X G z_min, PySem.W.mg_none_of X G z_range, PySem.W.mg_none_of X G z_str, PySem.W.mg_none_of X G z_tuple, PySem.W.mg_none_of X G z_zip⟩
    exact (ok_law (P := l.prog) (w := w) (base := base) ⟨_, _, F0, PySem.W.mg_of X G a0, b0, _, _, F1, PySem.W.mg_of X G a1, b1, _, _, F2, PySem.W.mg_of X G a2, b2, _, _, F3, PySem.W.mg_of X G a3, b3, _, _, F4, PySem.W.mg_of X G a4, b4, _, _, F5, PySem.W.mg_of X G a5, b5, _, _, F6, PySem.W.mg_of X G a6, b6, _, _, F7, PySem.W.mg_of X G a7, b7, PySem.W.mg_none_of X G z_all, PySem.W.mg_none_of X G z_bool, PySem.W.mg_none_of X G z_enumerate, PySem.W.mg_none_of X G z_int, PySem.W.mg_none_of X G z_isinstance, PySem.W.mg_none_of X G z_len, PySem.W.mg_none_of X G z_list, PySem.W.mg_none_of X G z_max, PySem.W.mg_none_of X G z_min, PySem.W.mg_none_of X G z_range, PySem.W.mg_none_of X G z_str, PySem.W.mg_none_of X G z_tuple, PySem.W.mg_none_of X G z_zip⟩).imp (law_end (g := ⟨l.prog, w, K, mg⟩) true_law)⟩
end Law
open PySem PySem.W PyProof.Rows in
set_option maxRecDepth 100000 in
set_option maxHeartbeats 0 in
theorem PySem.Challenge.cw_viewkeep_k39_what_is_needed_holds : PySem.Challenge.rw_viewkeep_k39_what_is_needed.Holds := by
  w_on; o_law; k_head; (case hw => w_witness2)
  k_fill
  refine L2.walk_of (l := PySem.Challenge.rw_viewkeep_k39_what_is_needed) (n := 63) (k := 10) (x := "_law_script") (CX := fun _ => L2.CX0) (sp := fun w => VL.spLaw _) rfl (by decide) rfl ⟨rfl, by decide, by decide⟩ (fun w h Y => PySem.W.kIn_of Y) ?F (fun _ _ a ns hl hO hS => ⟨a, ns, rfl, hS, hl, hO, fun _ => rfl⟩) (fun _ _ _ _ _ h => h)
  case F =>
    intro w mg fa h KX G hmg
    refine' Law.all_mk KX G hmg ?a0 ?l0 ?c0 ?k0 ?a1 ?l1 ?c1 ?k1 ?a2 ?l2 ?c2 ?k2 ?a3 ?l3 ?c3 ?k3 ?a4 ?l4 ?c4 ?k4 ?a5 ?l5 ?c5 ?k5 ?a6 ?l6 ?c6 ?k6 ?a7 ?l7 ?c7 ?k7 ?z0 ?z1 ?z2 ?z3 ?z4 ?z5 ?z6 ?z7 ?z8 ?z9 ?z10 ?z11 ?z12 Law.true_law
    (case a0 => k_is)
    (case l0 => k_is)
    (case c0 => k_is)
    (case k0 => k_is)
    (case a1 => k_is)
    (case l1 => k_is)
    (case c1 => k_is)
    (case k1 => k_is)
    (case a2 => k_is)
    (case l2 => k_is)
    (case c2 => k_is)
    (case k2 => k_is)
    (case a3 => k_is)
    (case l3 => k_is)
    (case c3 => k_is)
    (case k3 => k_is)
    (case a4 => k_is)
    (case l4 => k_is)
    (case c4 => k_is)
    (case k4 => k_is)
    (case a5 => k_is)
    (case l5 => k_is)
    (case c5 => k_is)
    (case k5 => k_is)
    (case a6 => k_is)
    (case l6 => k_is)
    (case c6 => k_is)
    (case k6 => k_is)
    (case a7 => k_is)
    (case l7 => k_is)
    (case c7 => k_is)
    (case k7 => k_is)
    (case z0 => k_is)
    (case z1 => k_is)
    (case z2 => k_is)
    (case z3 => k_is)
    (case z4 => k_is)
    (case z5 => k_is)
    (case z6 => k_is)
    (case z7 => k_is)
    (case z8 => k_is)
    (case z9 => k_is)
    (case z10 => k_is)
    (case z11 => k_is)
    (case z12 => k_is)

